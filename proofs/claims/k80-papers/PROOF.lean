import PyProof.Rows.All
import Wide.All
import OpenK.AllK
import Wide.FinOn
import HandS.ForMost
import HandS.IsInst
import HandS.Style
import HandS.StrMore
import HandS.Replace
import HandS.ReplaceLit
import HandS.ReplaceDef
import HandS.ReplaceList
import HandS.TupAny
import HandS.Walk
import PyProof.NeKinds
import PyProof.ReprRoads
import KE.GoesZip
import KE.GoesMore
import KE.KDictZip
import PyProof.ListNew
import KE.IntTextLaws
import PyProof.ReprReads
import HandS.AnyAll
import PyProof.Rows.StrCountLaw
import HandS.Codes
import HandS.ForExc
import HandS.ExcField
import HandS.Lambda
import HandS.EndTab
import KE.KExcIs
import HandS.Defaults
import HandS.EndBits
import HandS.ExcIs
import PySem.Challenge.RW_plugcaller_k80_papers_and_their_texts
set_option Elab.async false
set_option linter.all false
set_option maxRecDepth 100000
set_option maxHeartbeats 4000000
namespace Pk
open PySem PySem.Spec PyProof.Rows L2 AutoSeq1 MeetsSeq MeetsSeq2 MeetsSeq3 SeqRoads2
/-! ### a list or tuple beside an empty one: == and != -/
/-- both are lists, or both tuples; one of them is empty -/
def EmpPair (K : PySem.W.Frag) (H : Hp) (a b : Addr) (e : Bool) : Prop :=
  (∃ xs ys, SqL K H a xs ∧ SqL K H b ys ∧ (xs = [] ∨ ys = []) ∧ e = decide (xs.length = ys.length)) ∨
  (∃ xs ys, SqT K H a xs ∧ SqT K H b ys ∧ (xs = [] ∨ ys = []) ∧ e = decide (xs.length = ys.length))
def rEqE (K : PySem.W.Frag) : R2 := fun x y H Q => ∃ a b e, x = .ref a ∧ y = .ref b ∧ EmpPair K H a b e ∧ Q (.bl e) H
def rNeE (K : PySem.W.Frag) : R2 := fun x y H Q => ∃ a b e, x = .ref a ∧ y = .ref b ∧ EmpPair K H a b e ∧ Q (.bl (!e)) H
section
variable {X : Cx}
theorem op_neE (hu : X.A.units < cLine) : OpR X (compareOp .NotEq) (rNeE X.K) := by
  intro pins s σ H x y v u Q I rx ry h
  obtain ⟨a, b, e, rfl, rfl, hp, q⟩ := h
  cases rx
  cases ry
  rcases hp with ⟨xs, ys, h1, h2, h0, rfl⟩ | ⟨xs, ys, h1, h2, h0, rfl⟩
  · obtain ⟨i1, r1, p1, z1⟩ := I.list h1
    obtain ⟨i2, r2, p2, z2⟩ := I.list h2
    have l1 := r1.length
    have l2 := r2.length
    have l0 : xs.length = 0 ∨ ys.length = 0 := h0.imp (fun e => by rw [e]; rfl) (fun e => by rw [e]; rfl)
    by_cases e : xs.length = ys.length
    · have s1 : i1.toArray.size = i2.toArray.size := by rw [List.size_toArray, List.size_toArray]; omega
      have z : i1.toArray.size = 0 := by rw [List.size_toArray]; omega
      refine SeqAt.RcNeAt.lists (e := fun _ => true) p1.isList p2.isList s1 hu (fun j h1 h2 => by omega) X.prog X.w X.xe _ ⟨.bl _, H, I, rfl, ?_⟩
      rw [z]
      rw [decide_eq_true e] at q
      exact q
    · refine SeqAt.RcNeAt.lists_lengths p1.isList p2.isList (by rw [List.size_toArray, List.size_toArray]; exact bne_iff_ne.mpr (by omega)) hu X.prog X.w X.xe _ ⟨.bl _, H, I, rfl, ?_⟩
      rw [decide_eq_false e] at q
      exact q
  · obtain ⟨i1, r1, p1, z1⟩ := I.tuple h1
    obtain ⟨i2, r2, p2, z2⟩ := I.tuple h2
    have l1 := r1.length
    have l2 := r2.length
    have l0 : xs.length = 0 ∨ ys.length = 0 := h0.imp (fun e => by rw [e]; rfl) (fun e => by rw [e]; rfl)
    have z : min i1.toArray.size i2.toArray.size = 0 := by rw [List.size_toArray, List.size_toArray]; omega
    refine SeqAt.RcNeAt.tuples (e := fun _ => true) p1 p2 hu (fun j h1 h2 => by omega) X.prog X.w X.xe _ ⟨.bl _, H, I, rfl, ?_⟩
    rw [z]
    have e : ((List.range 0).all (fun _ => true) && i1.toArray.size == i2.toArray.size) = decide (xs.length = ys.length) := by
      simp only [List.range_zero, List.all_nil, Bool.true_and, List.size_toArray]
      rw [← l1, ← l2, Bool.beq_eq_decide_eq]
    rw [e]
    exact q
theorem op_eqE (hu : X.A.units < cLine) : OpR X (compareOp .Eq) (rEqE X.K) := by
  intro pins s σ H x y v u Q I rx ry h
  obtain ⟨a, b, e, rfl, rfl, hp, q⟩ := h
  cases rx
  cases ry
  rcases hp with ⟨xs, ys, h1, h2, h0, rfl⟩ | ⟨xs, ys, h1, h2, h0, rfl⟩
  · obtain ⟨i1, r1, p1, z1⟩ := I.list h1
    obtain ⟨i2, r2, p2, z2⟩ := I.list h2
    have l1 := r1.length
    have l2 := r2.length
    have l0 : xs.length = 0 ∨ ys.length = 0 := h0.imp (fun e => by rw [e]; rfl) (fun e => by rw [e]; rfl)
    by_cases e : xs.length = ys.length
    · have s1 : i1.toArray.size = i2.toArray.size := by rw [List.size_toArray, List.size_toArray]; omega
      have z : i1.toArray.size = 0 := by rw [List.size_toArray]; omega
      refine SeqAt.RcAt.lists (e := fun _ => true) p1.isList p2.isList s1 hu (fun j h1 h2 => by omega) X.prog X.w X.xe _ ⟨.bl _, H, I, rfl, ?_⟩
      rw [z]
      rw [decide_eq_true e] at q
      exact q
    · refine SeqAt.RcAt.lists_lengths p1.isList p2.isList (by rw [List.size_toArray, List.size_toArray]; exact bne_iff_ne.mpr (by omega)) hu X.prog X.w X.xe _ ⟨.bl _, H, I, rfl, ?_⟩
      rw [decide_eq_false e] at q
      exact q
  · obtain ⟨i1, r1, p1, z1⟩ := I.tuple h1
    obtain ⟨i2, r2, p2, z2⟩ := I.tuple h2
    have l1 := r1.length
    have l2 := r2.length
    have l0 : xs.length = 0 ∨ ys.length = 0 := h0.imp (fun e => by rw [e]; rfl) (fun e => by rw [e]; rfl)
    have z : min i1.toArray.size i2.toArray.size = 0 := by rw [List.size_toArray, List.size_toArray]; omega
    refine SeqAt.RcAt.tuples (e := fun _ => true) p1 p2 hu (fun j h1 h2 => by omega) X.prog X.w X.xe _ ⟨.bl _, H, I, rfl, ?_⟩
    rw [z]
    have e : ((List.range 0).all (fun _ => true) && i1.toArray.size == i2.toArray.size) = decide (xs.length = ys.length) := by
      simp only [List.range_zero, List.all_nil, Bool.true_and, List.size_toArray]
      rw [← l1, ← l2, Bool.beq_eq_decide_eq]
    rw [e]
    exact q
/-! ### x is False -/
def rIsF : R2 := fun x y H Q => ∃ b : Bool, y = .bl b ∧ Q (.bl (decide (x = .bl b))) H
theorem op_isB : OpR X (compareOp .Is) rIsF := by
  intro pins s σ H x y v u Q I rx ry h
  obtain ⟨b, rfl, q⟩ := h
  cases (show u = Value.bool b from ry)
  have hp : plainIs v (.bool b) = true := by
    cases x with
    | non => cases (show v = Value.none from rx); rfl
    | bl _ => cases (show v = Value.bool _ from rx); rfl
    | int _ => obtain ⟨t, rfl⟩ := (show ∃ t, v = Value.int _ t from rx); rfl
    | str _ => obtain ⟨t, rfl⟩ := (show ∃ t, v = Value.str _ t from rx); rfl
    | byt _ => obtain ⟨t, rfl⟩ := (show ∃ t, v = Value.bytes _ t from rx); rfl
    | flt _ => obtain ⟨t, rfl⟩ := (show ∃ t, v = Value.float _ t from rx); rfl
    | ref _ => cases (show v = Value.ref _ from rx); rfl
    | ty _ => cases (show v = Value.type _ from rx); rfl
  refine wpAny_is_plain hp ⟨.bl (decide (x = .bl b)), H, I, ?_, q⟩
  show Value.bool (v == Value.bool b) = Value.bool (decide (x = .bl b))
  congr 1
  cases x with
  | bl c =>
    cases (show v = Value.bool c from rx)
    by_cases e : c = b
    · subst e; simp
    · simp [e]
  | non => cases (show v = Value.none from rx); simp
  | int _ => obtain ⟨t, rfl⟩ := (show ∃ t, v = Value.int _ t from rx); simp
  | str _ => obtain ⟨t, rfl⟩ := (show ∃ t, v = Value.str _ t from rx); simp
  | byt _ => obtain ⟨t, rfl⟩ := (show ∃ t, v = Value.bytes _ t from rx); simp
  | flt _ => obtain ⟨t, rfl⟩ := (show ∃ t, v = Value.float _ t from rx); simp
  | ref _ => cases (show v = Value.ref _ from rx); simp
  | ty _ => cases (show v = Value.type _ from rx); simp
/-! ### text * int -/
def rMulS : R2 := fun x y H Q => ∃ z n, x = .str z ∧ y = .int n ∧ MulOk z n ∧ Q (.str (Txt.mul z n)) H
theorem op_mulS : OpR X (binaryOp .Mult) rMulS := by
  intro pins s σ H x y v u Q I rx ry h
  obtain ⟨z, n, rfl, rfl, hm, q⟩ := h
  obtain ⟨t, rfl⟩ := rx
  obtain ⟨t', rfl⟩ := ry
  exact SB.mul hm fun t' k => ⟨.str _, H, I.tok k, ⟨t', rfl⟩, q⟩
end
/-! ### list.extend(tuple) -/
theorem list_extend_tup (l : Addr) (items : Array Value) (n : Nat) (b : Addr) (items2 : Array Value) (n2 : Nat) (dd : Option Addr) (sl : Array (Option Value)) (hs0 : ¬(!items.isEmpty && Builtin.List.listTooLong (items.size + items2.size)) = true) (hs1 : items.size ≤ sizeLine) (hs2 : items.size + items2.size ≤ sizeLine + 1) :
    Meets (Builtin.«list.extend» ⟨[.ref l, .ref b], []⟩) (fun _ R s => s.heap.get? l = some { cls := .type "list", dict := none, data := .seq items n, slots := #[] } ∧ s.heap.get? b = some { cls := .type "tuple", dict := dd, data := .seq items2 n2, slots := sl } ∧ R (.ok (.ret Value.none)) { s with heap := s.heap.update l (Obj.mapSeq fun x => x ++ items2), toks := s.toks }) :=
  .of_wp fun prog w A R s h => by
    obtain ⟨hp, g, d, tk, os⟩ := s; obtain ⟨hl, hb, h⟩ := h
    have f2 := AutoSeq1.sub_tuple_tuple; have f3 := AutoSeq1.sub_list_list; have f4 := AutoSeq1.sub_tuple_list; have f5 := AutoSeq1.sub_list_tuple
    have hz' : (items ++ items2).size ≤ sizeLine + 1 := by rw [Array.size_append]; exact hs2
    wp_walk using (wpAny_updateSeq hl rfl (hz := hs1) (_hz' := hz')), AutoSeq1.wpAny_loadPart' hl, AutoSeq1.wpAny_loadPart' hb; exact ⟨_, rfl, h⟩
/-- list.extend of a list that stands, or a tuple -/
def rExtA (K : PySem.W.Frag) : V → List V → Hp → VK → Prop := fun x vs H Q => ∃ l b xs zs, x = .ref l ∧ vs = [.ref b] ∧ H l = some (.lst xs) ∧ (H b = some (.lst zs) ∨ SqT K H b zs) ∧ xs.length + zs.length ≤ sizeLine ∧ Q .non (upd H l (.lst (xs ++ zs)))
section
variable {X : Cx}
theorem mt_extA : MtM X "list.extend" (rExtA X.K) := by
  intro pins s σ H x vs v us Q I rx rv h
  obtain ⟨l, b, xs, zs, ex, ev, hH, hB, hz, q⟩ := h
  rcases hB with hB | hB
  · exact mt_extend pins s σ H x vs v us Q I rx rv ⟨l, b, xs, zs, ex, ev, hH, hB, hz, q⟩
  subst ex ev
  cases rx
  obtain ⟨w, rfl, rw'⟩ := rv.one
  cases rw'
  obtain ⟨z, its, n, r, hl, e⟩ := I.lstM hH
  obtain ⟨its2, r2, ⟨⟨cls, dd, data, sl⟩, e2, hc, n2, hd⟩, hz2⟩ := I.tuple hB
  simp only at hc hd
  subst hc hd
  have l2 := r2.length
  have size : its.toArray.size + its2.toArray.size ≤ sizeLine := by rw [List.size_toArray, List.size_toArray]; omega
  have long : ¬ (!its.toArray.isEmpty && Builtin.List.listTooLong (its.toArray.size + its2.toArray.size)) = true := by
    rw [notLongL size, Bool.and_false]; exact Bool.false_ne_true
  refine call_meets PySem.F.slot_list_extend ⟨_, e, rfl⟩ PySem.F.entry_list_extend (PySem.F.args_list_extend_2 _ _)
    (list_extend_tup l its.toArray n b its2.toArray n2 dd sl long (by rw [List.size_toArray]; omega) (by omega)) ⟨e, e2, ?_⟩
  exact ⟨.non, _, I.lset (its' := its ++ its2) hH e (by simp) (r.append r2) (by rw [List.length_append]; omega), rfl, q⟩
end
/-! ### data over the abstract heap -/
mutual
inductive Rp (H : Hp) : V → PyData → Prop
  | non : Rp H .non .none
  | bl (b : Bool) : Rp H (.bl b) (.bool b)
  | int (i : Int) : Rp H (.int i) (.int i)
  | str (x : Str) : Rp H (.str x) (.str x)
  | lst {a : Addr} {xs : List V} {ds : List PyData} : H a = some (.lst xs) → RpA H xs ds → Rp H (.ref a) (.list ds)
  | tup {a : Addr} {xs : List V} {ds : List PyData} : H a = some (.tup xs) → RpA H xs ds → Rp H (.ref a) (.tuple ds)
  | dct {a : Addr} : H a = some (.dK []) → Rp H (.ref a) (.dict [])
inductive RpA (H : Hp) : List V → List PyData → Prop
  | nil : RpA H [] []
  | cons {v : V} {vs : List V} {d : PyData} {ds : List PyData} : Rp H v d → RpA H vs ds → RpA H (v :: vs) (d :: ds)
end
mutual
theorem Rp.mono {H H' : Hp} (e : Same H H') : ∀ {v : V} {d : PyData}, Rp H v d → Rp H' v d
  | _, _, .non => .non
  | _, _, .bl b => .bl b
  | _, _, .int i => .int i
  | _, _, .str x => .str x
  | _, _, .lst h r => .lst (e _ _ h) (RpA.mono e r)
  | _, _, .tup h r => .tup (e _ _ h) (RpA.mono e r)
  | _, _, .dct h => .dct (e _ _ h)
theorem RpA.mono {H H' : Hp} (e : Same H H') : ∀ {vs : List V} {ds : List PyData}, RpA H vs ds → RpA H' vs ds
  | _, _, .nil => .nil
  | _, _, .cons r t => .cons (Rp.mono e r) (RpA.mono e t)
end
theorem RpA.length {H : Hp} : ∀ {vs : List V} {ds : List PyData}, RpA H vs ds → vs.length = ds.length
  | _, _, .nil => rfl
  | _, _, .cons _ t => congrArg (· + 1) (RpA.length t)
theorem RpA.get {H : Hp} : ∀ {vs : List V} {ds : List PyData} {i : Nat} {v : V}, RpA H vs ds → vs[i]? = some v → ∃ d, ds[i]? = some d ∧ Rp H v d
  | _, _, _, _, .nil, e => by simp at e
  | _, _, 0, _, .cons r _, e => by simp at e; subst e; exact ⟨_, rfl, r⟩
  | _, _, i + 1, _, .cons _ t, e => by
    obtain ⟨d, h1, h2⟩ := RpA.get (i := i) t (by simpa using e)
    exact ⟨d, by simpa using h1, h2⟩
theorem RpA.append {H : Hp} : ∀ {vs ws : List V} {ds es : List PyData}, RpA H vs ds → RpA H ws es → RpA H (vs ++ ws) (ds ++ es)
  | _, _, _, _, .nil, s => s
  | _, _, _, _, .cons r t, s => .cons r (RpA.append t s)
theorem RpA.rev {H : Hp} : ∀ {vs : List V} {ds : List PyData}, RpA H vs ds → RpA H vs.reverse ds.reverse
  | _, _, .nil => .nil
  | _, _, .cons r t => by rw [List.reverse_cons, List.reverse_cons]; exact RpA.append (RpA.rev t) (.cons r .nil)
theorem RpA.split {H : Hp} {v : V} : ∀ {vs : List V} {ds : List PyData}, RpA H (vs ++ [v]) ds → ∃ es d, ds = es ++ [d] ∧ RpA H vs es ∧ Rp H v d
  | [], _, .cons r .nil => ⟨[], _, rfl, .nil, r⟩
  | _ :: vs, _, .cons r t => by
    obtain ⟨es, d, e, h1, h2⟩ := RpA.split t
    exact ⟨_ :: es, d, by rw [e]; rfl, .cons r h1, h2⟩
mutual
/-- no list within -/
def noList : PyData → Bool
  | .list _ => false
  | .tuple ds => noListA ds
  | .dict kvs => kvs.isEmpty
  | _ => true
def noListA : List PyData → Bool
  | [] => true
  | d :: ds => noList d && noListA ds
end
mutual
theorem Rp.reads {X : Cx} {pins : List (Addr × Obj)} {σ : L2.St} {H : Hp} {s : Shared} (I : Inv X pins σ H s) : ∀ (d : PyData) (v : V) (u : Value), Rp H v d → RelV v u → ∃ as, Reads s.heap u d as ∧ (noList d = true → sysModules ∉ as)
  | .none, _, _, h, r => by
    cases h; cases r
    exact ⟨_, Reads.none, fun _ => by simp⟩
  | .bool b, _, _, h, r => by
    cases h; cases r
    exact ⟨_, Reads.bool b, fun _ => by simp⟩
  | .int i, _, _, h, r => by
    cases h
    obtain ⟨t, rfl⟩ := r
    exact ⟨_, Reads.int i t, fun _ => by simp⟩
  | .str x, _, _, h, r => by
    cases h
    obtain ⟨t, rfl⟩ := r
    exact ⟨_, Reads.str x t, fun _ => by simp⟩
  | .list ds, _, _, h, r => by
    cases h with
    | lst hs ha =>
      cases r
      obtain ⟨its, rv, ⟨o, n, ho, hc, _, hd⟩, _⟩ := I.list (SqL.of hs)
      obtain ⟨as, hr, _⟩ := RpA.reads I ds _ its ha rv
      exact ⟨_, Reads.list ho hc hd hr, fun q => by simp [noList] at q⟩
  | .tuple ds, _, _, h, r => by
    cases h with
    | tup hs ha =>
      cases r
      obtain ⟨its, rv, ⟨o, ho, hc, n, hd⟩, _⟩ := I.tuple (SqT.of hs)
      obtain ⟨as, hr, hn⟩ := RpA.reads I ds _ its ha rv
      exact ⟨_, Reads.tuple ho hc hd hr, fun q => hn (by simpa [noList] using q)⟩
  | .dict _, _, _, h, r => by
    cases h with
    | @dct a ho =>
      cases r
      obtain ⟨_, hsys, vs, kv, o, es, ep, e1, e2, e3, _, hp, _⟩ := I.hok a _ ho
      cases kv
      have hes : es.toList = [] := by
        cases hl : es.toList with
        | nil => rfl
        | cons x l => rw [hl] at hp; cases hp
      refine ⟨_, Reads.dict (as := []) (bs := []) e1 e2.1 e3 (by rw [hes]; exact ReadsAll.nil) (by rw [hes]; exact ReadsAll.nil), fun _ z => ?_⟩
      have z' : sysModules = a := by simpa using z
      rw [z'] at hsys
      simp at hsys
theorem RpA.reads {X : Cx} {pins : List (Addr × Obj)} {σ : L2.St} {H : Hp} {s : Shared} (I : Inv X pins σ H s) : ∀ (ds : List PyData) (vs : List V) (us : List Value), RpA H vs ds → Vals vs us → ∃ as, ReadsAll s.heap us ds as ∧ (noListA ds = true → sysModules ∉ as)
  | [], _, _, h, r => by
    cases h; cases r
    exact ⟨_, ReadsAll.nil, fun _ => by simp⟩
  | d :: ds, _, _, h, r => by
    cases h with
    | cons h1 h2 =>
      cases r with
      | cons r1 r2 =>
        obtain ⟨as, q1, n1⟩ := Rp.reads I d _ _ h1 r1
        obtain ⟨bs, q2, n2⟩ := RpA.reads I ds _ _ h2 r2
        refine ⟨_, ReadsAll.cons q1 q2, fun q z => ?_⟩
        have q' : noList d = true ∧ noListA ds = true := by simpa [noListA] using q
        rcases List.mem_append.mp z with z | z
        · exact n1 q'.1 z
        · exact n2 q'.2 z
end
/-! ### repr -/
def rRepr : List V → Hp → VK → Prop := fun xs H Q => ∃ x d, xs = [x] ∧ Rp H x d ∧ d.showable = true ∧ (d.hasDict = true → noList d = true) ∧ d.depth ≤ 100 ∧ d.shown.length ≤ sizeLine ∧ Q (.str d.shown) H
theorem call_repr {X : Cx} (hg : X.A.guards = some []) (hu : X.A.units + 200 < cLine) : CallR X (.builtin "repr") rRepr := by
  intro pins s σ H xs us Q I r h
  obtain ⟨x, d, rfl, hr, hs, hn, hd, hz, q⟩ := h
  obtain ⟨u, rfl, rx⟩ := vals1 r
  obtain ⟨as, hrd, hsm⟩ := Rp.reads I d x u hr rx
  have fin : ∀ h' w tk, (∀ b o, s.heap.get? b = some o → h'.get? b = some o) → EP X pins σ Q (.str d.shown w) { s with heap := h', toks := tk } := fun h' w tk k => ⟨.str d.shown, H, I.kept k, ⟨w, rfl⟩, q⟩
  cases hrd with
  | none => exact PySem.P.repr_of_none (by have q := fin s.heap s.toks (s.toks + 1) (fun _ _ e => e); simpa only [PyData.shown] using q)
  | bool b => exact PySem.P.repr_of_bool (by have q := fin s.heap s.toks (s.toks + 1) (fun _ _ e => e); simpa only [PyData.shown] using q)
  | int i t => exact PySem.P.repr_of_int (by simpa [PyData.showable] using hs) (by have q := fin s.heap s.toks (s.toks + 1) (fun _ _ e => e); simpa only [PyData.shown] using q)
  | str y t => exact PySem.P.repr_of_str (by have q := fin s.heap s.toks (s.toks + 1) (fun _ _ e => e); simpa only [PyData.shown] using q) (by simpa only [PyData.shown] using hz)
  | list a1 a2 a3 a4 => exact repr_of_reads' (Reads.list a1 a2 a3 a4) hs (fun z => hsm (hn z)) hg (by omega) (fun _ _ e => e) fin hz
  | tuple a1 a2 a3 a4 => exact repr_of_reads' (Reads.tuple a1 a2 a3 a4) hs (fun z => hsm (hn z)) hg (by omega) (fun _ _ e => e) fin hz
  | dict a1 a2 a3 a4 a5 => exact repr_of_reads' (Reads.dict a1 a2 a3 a4 a5) hs (fun z => hsm (hn z)) hg (by omega) (fun _ _ e => e) fin hz
end Pk

set_option Elab.async false
set_option linter.all false
set_option maxRecDepth 100000
set_option maxHeartbeats 4000000
/-! list(zip(v1, v2)): the pairs that zip hands out are held by the new list. -/
namespace Zl
open PySem
open PySem.Sem (wp)
theorem zip_len : typeLookup (.type "zip") "__len__" = pure none := am_miss_of_fast (by decide +kernel)
theorem zip_hint : typeLookup (.type "zip") (Str.ofString "__length_hint__") = pure none := am_miss_of_fast (by decide +kernel)
section
variable {prog : Program} {w : World} {A : Around} {E : Value → Shared → Prop} {s : Shared} {z TI TO i1 i2 : Addr} {fp1 fp2 : List Addr} {n i : Nat} {P1 P2 : Nat → Value → Prop} {St1 St2 : Nat → Heap → Prop}
theorem held_item {T : Addr} {f : Bool} {oT : Obj} {Q : Option Value → Shared → Prop} (S : ZipSep2 z TI TO i1 i2 fp1 fp2) (D1 : Draws prog w A.in1 i1 fp1 n P1 St1) (D2 : Draws prog w A.in1 i2 fp2 n P2 St2)
    (hz : IsZipHeld s.heap z TI TO T f) (hT : s.heap.get? T = some oT) (hTI : IsTupOf2 s.heap TI (.ref i1) (.ref i2)) (st1 : St1 i s.heap) (st2 : St2 i s.heap) (hlt : i < n)
    (hQ : ∀ x1 x2 h' tk, P1 i x1 → P2 i x2 → IsZipHeld h' z TI TO T true → St1 (i + 1) h' → St2 (i + 1) h' → IsTupOf2 h' s.heap.objs.size x1 x2 → h'.objs.size = s.heap.objs.size + 1 →
      (∀ c o, c ≠ z → c ≠ i1 → c ≠ i2 → s.heap.get? c = some o → h'.get? c = some o) → Q (some (.ref s.heap.objs.size)) { s with heap := h', toks := tk }) :
    wpAny (model prog w) A (pyNext (.ref z)) Q E s := by
  have hTy : s.TypeIs (.ref z) "zip" := ⟨_, hz, rfl⟩
  unfold pyNext
  refine wpAny_bind (wpAny_attempt (wpAny_callSpecial?_slot (name := Str.ofString "__next__") hTy F.slot_zip_next
    (wpAny_call_entry F.slot_zip_next hTy F.entry_zip_next ?_ (F.args_zip_next_1 _))))
  obtain ⟨hp, g, d, tk0, os⟩ := s
  show wpAny _ _ (field (.ref z) 2 >>= _) _ _ _
  refine wpAny_bind (wpAny_field hz rfl (x := .bool false) rfl ?_)
  show wpAny _ _ (field (.ref z) 3 >>= _) _ _ _
  refine wpAny_bind (wpAny_field hz rfl (x := .ref TI) rfl ?_)
  refine wpAny_bind (wpAny_seqItems hTI rfl ?_)
  show wpAny _ _ (Builtin.SmallTypes.ownedTupleIsFree (.ref z) >>= _) _ _ _
  refine wpAny_bind (wpAny_tupleHeld_zip hz hT fun g1 z1 s1 => ?_)
  replace s1 : Heap.SameBut z hp g1 := s1
  simp only [Bool.false_eq_true, if_false]
  refine wpAny_bind ?_
  rw [← Array.forIn_toList]
  simp only [List.forIn_cons, List.forIn_nil]
  refine wpAny_bind (wpAny_bind (wpAny_holding ?_))
  show wpAny _ _ (Builtin.SmallTypes.nextOf (.ref i1) >>= _) _ _ ⟨g1, g, d, tk0, os⟩
  refine wpAny_bind (D1.item i _ _ _ hlt (D1.over st1 s1 S.zf1) fun x1 p1 tk1 hx1 sn1 hp1 => wpAny_pure ?_)
  replace hp1 : Heap.SameBut i1 g1 p1 := hp1
  refine wpAny_pure ?_
  refine wpAny_bind (wpAny_bind (wpAny_holding ?_))
  show wpAny _ _ (Builtin.SmallTypes.nextOf (.ref i2) >>= _) _ _ ⟨p1, g, d, tk1, os⟩
  refine wpAny_bind (D2.item i _ _ _ hlt (D2.over (D2.over st2 s1 S.zf2) hp1 S.sep1_2) fun x2 p2 tk2 hx2 sn2 hp2 => wpAny_pure ?_)
  replace hp2 : Heap.SameBut i2 p1 p2 := hp2
  refine wpAny_pure (wpAny_pure ?_)
  show wpAny _ _ (newTuple [x1, x2] >>= _) _ _ ⟨p2, g, d, tk2, os⟩
  refine wpAny_bind (wpAny_newTuple ?_)
  have hsz : p2.objs.size = hp.objs.size := by rw [hp2.1, hp1.1, s1.1]
  have hz2 : IsZipHeld p2 z TI TO T true := hp2.extBut _ _ S.zi2 (hp1.extBut _ _ S.zi1 z1)
  have kp : ∀ c o, c ≠ z → c ≠ i1 → c ≠ i2 → hp.get? c = some o → p2.get? c = some o := fun c o c1 c2 c3 e => hp2.extBut _ _ c3 (hp1.extBut _ _ c2 (s1.extBut _ _ c1 e))
  refine wpAny_pure ⟨_, rfl, ?_⟩
  refine wpAny_pure ?_
  show Q (some (.ref p2.objs.size)) _
  have pair : IsTupOf2 (p2.push { cls := .type "tuple", data := .seq #[x1, x2] }) p2.objs.size x1 x2 := Heap.get?_push_size _ rfl
  have size : (p2.push { cls := .type "tuple", data := .seq #[x1, x2] }).objs.size = p2.objs.size + 1 := Heap.size_push ..
  rw [hsz] at pair size ⊢
  exact hQ x1 x2 _ tk2 hx1 hx2 (Heap.get?_push_of_some _ hz2) (D1.frame _ _ _ (D1.over sn1 hp2 S.sep2_1) fun b _ o e => Heap.get?_push_of_some _ e) (D2.frame _ _ _ sn2 fun b _ o e => Heap.get?_push_of_some _ e) pair size
    fun c o c1 c2 c3 e => Heap.get?_push_of_some _ (kp c o c1 c2 c3 e)
theorem held_end {T : Addr} {f : Bool} {oT : Obj} {Q : Option Value → Shared → Prop} (S : ZipSep2 z TI TO i1 i2 fp1 fp2) (D1 : Draws prog w A.in1 i1 fp1 n P1 St1)
    (hz : IsZipHeld s.heap z TI TO T f) (hT : s.heap.get? T = some oT) (hTI : IsTupOf2 s.heap TI (.ref i1) (.ref i2)) (st1 : St1 n s.heap)
    (hQ : ∀ h', (∀ c o, c ≠ z → c ≠ i1 → s.heap.get? c = some o → h'.get? c = some o) → Q none { s with heap := h' }) : wpAny (model prog w) A (pyNext (.ref z)) Q E s := by
  have hTy : s.TypeIs (.ref z) "zip" := ⟨_, hz, rfl⟩
  unfold pyNext
  refine wpAny_bind (wpAny_attempt (wpAny_callSpecial?_slot (name := Str.ofString "__next__") hTy F.slot_zip_next
    (wpAny_call_entry F.slot_zip_next hTy F.entry_zip_next ?_ (F.args_zip_next_1 _))))
  obtain ⟨hp, g, d, tk0, os⟩ := s
  show wpAny _ _ (field (.ref z) 2 >>= _) _ _ _
  refine wpAny_bind (wpAny_field hz rfl (x := .bool false) rfl ?_)
  show wpAny _ _ (field (.ref z) 3 >>= _) _ _ _
  refine wpAny_bind (wpAny_field hz rfl (x := .ref TI) rfl ?_)
  refine wpAny_bind (wpAny_seqItems hTI rfl ?_)
  show wpAny _ _ (Builtin.SmallTypes.ownedTupleIsFree (.ref z) >>= _) _ _ _
  refine wpAny_bind (wpAny_tupleHeld_zip hz hT fun g1 z1 s1 => ?_)
  replace s1 : Heap.SameBut z hp g1 := s1
  simp only [Bool.false_eq_true, if_false]
  refine wpAny_bind ?_
  rw [← Array.forIn_toList]
  simp only [List.forIn_cons, List.forIn_nil]
  refine wpAny_bind (wpAny_bind (wpAny_holding ?_))
  show wpAny _ _ (Builtin.SmallTypes.nextOf (.ref i1) >>= _) _ _ ⟨g1, g, d, tk0, os⟩
  refine wpAny_bind (D1.done ⟨g1, g, d, tk0, os⟩ _ _ (D1.over st1 s1 S.zf1) fun h' e hk he => ?_)
  obtain ⟨o, ho, hc⟩ := he
  refine wpAny_bind (wpAny_isInstance (T := "StopIteration") (b := true) ⟨o, ho, hc⟩ isSubtype_stop ?_)
  exact wpAny_pure (hQ _ fun c o c1 c2 q => hk c o c2 (s1.extBut _ _ c1 q))
end
/-- a zip behind i turns, what it gave out still there -/
def ZSt (z TI TO i1 i2 : Addr) (St1 St2 : Nat → Heap → Prop) (i : Nat) (h : Heap) : Prop :=
  IsTupOf2 h TI (.ref i1) (.ref i2) ∧ St1 i h ∧ St2 i h ∧ ((IsZip h z TI TO .none ∧ ∃ a1 a2, IsTupOf2 h TO a1 a2) ∨ ∃ T f oT, IsZipHeld h z TI TO T f ∧ h.get? T = some oT ∧ T ≠ z ∧ T ≠ i1 ∧ T ≠ i2)
section
variable {prog : Program} {w : World} {A : Around} {E : Value → Shared → Prop} {s : Shared} {z TI TO i1 i2 : Addr} {fp1 fp2 : List Addr} {n i : Nat} {P1 P2 : Nat → Value → Prop} {St1 St2 : Nat → Heap → Prop}
theorem z_item {Q : Option Value → Shared → Prop} (S : ZipSep2 z TI TO i1 i2 fp1 fp2) (D1 : Draws prog w A.in1 i1 fp1 n P1 St1) (D2 : Draws prog w A.in1 i2 fp2 n P2 St2)
    (st : ZSt z TI TO i1 i2 St1 St2 i s.heap) (hlt : i < n)
    (hQ : ∀ x1 x2 h' tk, P1 i x1 → P2 i x2 → ZSt z TI TO i1 i2 St1 St2 (i + 1) h' → IsTupOf2 h' s.heap.objs.size x1 x2 → h'.objs.size = s.heap.objs.size + 1 →
      (∀ c o, c ≠ z → c ≠ TO → c ≠ i1 → c ≠ i2 → s.heap.get? c = some o → h'.get? c = some o) → Q (some (.ref s.heap.objs.size)) { s with heap := h', toks := tk }) :
    wpAny (model prog w) A (pyNext (.ref z)) Q E s := by
  obtain ⟨hTI, st1, st2, hc⟩ := st
  rcases hc with ⟨hz, a1, a2, hTO⟩ | ⟨T, f, oT, hz, hT, n1, n2, n3⟩
  · have hzl : z < s.heap.objs.size := Heap.lt_size hz
    obtain ⟨o1, e1⟩ := D1.live _ _ st1
    obtain ⟨o2, e2⟩ := D2.live _ _ st2
    refine wpAny_pyNext_zipD2_item S D1 D2 hz hTI hTO st1 st2 hlt hlt fun x1 x2 h' tk p1 p2 b1 b2 d1 d2 b5 b6 b7 => ?_
    refine hQ x1 x2 h' tk p1 p2 ⟨b7 TI _ S.TIz S.TITO S.TIi1 S.TIi2 hTI, d1, d2, .inr ⟨_, false, _, b1, b5, Nat.ne_of_gt hzl, Nat.ne_of_gt (Heap.lt_size e1), Nat.ne_of_gt (Heap.lt_size e2)⟩⟩ b5 b6 b7
  · have hTl : T < s.heap.objs.size := Heap.lt_size hT
    refine held_item S D1 D2 hz hT hTI st1 st2 hlt fun x1 x2 h' tk p1 p2 b1 d1 d2 b5 b6 b7 => ?_
    exact hQ x1 x2 h' tk p1 p2 ⟨b7 TI _ S.TIz S.TIi1 S.TIi2 hTI, d1, d2, .inr ⟨T, true, oT, b1, b7 T oT n1 n2 n3 hT, n1, n2, n3⟩⟩ b5 b6 fun c o c1 _ c3 c4 e => b7 c o c1 c3 c4 e
theorem z_end {Q : Option Value → Shared → Prop} (S : ZipSep2 z TI TO i1 i2 fp1 fp2) (D1 : Draws prog w A.in1 i1 fp1 n P1 St1) (D2 : Draws prog w A.in1 i2 fp2 n P2 St2)
    (st : ZSt z TI TO i1 i2 St1 St2 n s.heap)
    (hQ : ∀ h' tk, (∀ c o, c ≠ z → c ≠ TO → c ≠ i1 → c ≠ i2 → s.heap.get? c = some o → h'.get? c = some o) → Q none { s with heap := h', toks := tk }) : wpAny (model prog w) A (pyNext (.ref z)) Q E s := by
  obtain ⟨hTI, st1, st2, hc⟩ := st
  rcases hc with ⟨hz, a1, a2, hTO⟩ | ⟨T, f, oT, hz, hT, n1, n2, n3⟩
  · exact wpAny_pyNext_zipD2_end S D1 D2 hz hTI hTO st1 st2 (Nat.le_refl _) (Nat.le_refl _) (.inl rfl) hQ
  · exact held_end S D1 hz hT hTI st1 fun h' hk => hQ h' s.toks fun c o c1 _ c3 _ e => hk c o c1 c3 e
theorem ZSt.keep (S : ZipSep2 z TI TO i1 i2 fp1 fp2) (D1 : Draws prog w A i1 fp1 n P1 St1) (D2 : Draws prog w A i2 fp2 n P2 St2) {h h' : Heap} {L : Addr} (st : ZSt z TI TO i1 i2 St1 St2 i h)
    (k : ∀ b o, b ≠ L → h.get? b = some o → h'.get? b = some o) (kL : L ≠ z ∧ L ≠ TI ∧ L ≠ TO ∧ L ∉ fp1 ∧ L ∉ fp2) (kT : ∀ T f oT, IsZipHeld h z TI TO T f → h.get? T = some oT → T = L → ∃ o, h'.get? L = some o) : ZSt z TI TO i1 i2 St1 St2 i h' := by
  obtain ⟨hTI, st1, st2, hc⟩ := st
  obtain ⟨k1, k2, k3, k4, k5⟩ := kL
  refine ⟨k _ _ (Ne.symm k2) hTI, D1.frame _ _ _ st1 fun b hb o e => k b o (fun q => k4 (q ▸ hb)) e, D2.frame _ _ _ st2 fun b hb o e => k b o (fun q => k5 (q ▸ hb)) e, ?_⟩
  rcases hc with ⟨hz, a1, a2, hTO⟩ | ⟨T, f, oT, hz, hT, n1, n2, n3⟩
  · exact .inl ⟨k _ _ (Ne.symm k1) hz, a1, a2, k _ _ (Ne.symm k3) hTO⟩
  · by_cases e : T = L
    · obtain ⟨o, ho⟩ := kT T f oT hz hT e
      exact .inr ⟨T, f, o, k _ _ (Ne.symm k1) hz, by rw [e]; exact ho, n1, n2, n3⟩
    · exact .inr ⟨T, f, oT, k _ _ (Ne.symm k1) hz, k _ _ e hT, n1, n2, n3⟩
theorem hint_zip {Q : Bool → Shared → Prop} (hT : s.TypeIs (.ref z) "zip") (h : Q true s) : wpAny (model prog w) A (Builtin.List.listLengthHint (.ref z)) Q E s := by
  unfold Builtin.List.listLengthHint
  refine wpAny_bind (wpAny_specialOf hT zip_len ?_)
  show wpAny _ _ (specialOf (Value.ref z) (Str.ofString "__length_hint__") >>= _) _ _ _
  refine wpAny_bind (wpAny_specialOf hT zip_hint ?_)
  exact wpAny_pure h
/-- the new list's items: each a pair of the two i-th items -/
def Prs (P1 P2 : Nat → Value → Prop) (h : Heap) (as : List Addr) : Prop :=
  ∀ (j : Nat) (a : Addr), as[j]? = some a → ∃ x1 x2, P1 j x1 ∧ P2 j x2 ∧ IsTupOf2 h a x1 x2
theorem z_loop {R : Result → Shared → Prop} (hh : A.handled = none) (S : ZipSep2 z TI TO i1 i2 fp1 fp2) (D1 : Draws prog w A.in1.in1 i1 fp1 n P1 St1) (D2 : Draws prog w A.in1.in1 i2 fp2 n P2 St2) (hn : n ≤ sizeLine) (res : Value) {L lo : Addr} {h₁ : Heap}
    (kL : L ≠ z ∧ L ≠ TI ∧ L ≠ TO ∧ L ∉ fp1 ∧ L ∉ fp2) (low : z < lo ∧ TO < lo ∧ i1 < lo ∧ i2 < lo ∧ L < lo)
    (hR : ∀ h' tk acc c as, (∀ b o, b ≠ L → b ≠ z → b ≠ TO → b ≠ i1 → b ≠ i2 → h₁.get? b = some o → h'.get? b = some o) → h'.get? L = some { cls := .type "list", dict := none, data := .seq acc c, slots := #[] } → as.length = n → Prs P1 P2 h' as →
      (∀ a ∈ as, lo ≤ a) → acc.toList = as.map Value.ref → R (.ok (.ret res)) { s with heap := h', toks := tk }) :
    ∀ (k i : Nat) (h : Heap) (tk c : Nat) (acc : Array Value) (as : List Addr), n - i = k → i ≤ n → ZSt z TI TO i1 i2 St1 St2 i h → (∀ b o, b ≠ L → b ≠ z → b ≠ TO → b ≠ i1 → b ≠ i2 → h₁.get? b = some o → h.get? b = some o) →
      h.get? L = some { cls := .type "list", dict := none, data := .seq acc c, slots := #[] } → acc.toList = as.map Value.ref → as.length = i → Prs P1 P2 h as → (∀ a ∈ as, lo ≤ a) → lo ≤ h.objs.size →
      codeAny (model prog w) A (.builtin "list.extend.loop" ⟨[.ref L, .ref z, res], []⟩) R { s with heap := h, toks := tk } := by
  have hLz : L ≠ z := kL.1
  have hL1 : L ≠ i1 := fun q => kL.2.2.2.1 (by rw [q]; exact S.mem1)
  have hL2 : L ≠ i2 := fun q => kL.2.2.2.2 (by rw [q]; exact S.mem2)
  have hLO : L ≠ TO := kL.2.2.1
  have far : ∀ {a : Addr}, lo ≤ a → a ≠ z ∧ a ≠ TO ∧ a ≠ i1 ∧ a ≠ i2 ∧ a ≠ L := fun {a} q => by
    obtain ⟨q1, q2, q3, q4, q5⟩ := low
    exact ⟨Nat.ne_of_gt (Nat.lt_of_lt_of_le q1 q), Nat.ne_of_gt (Nat.lt_of_lt_of_le q2 q), Nat.ne_of_gt (Nat.lt_of_lt_of_le q3 q), Nat.ne_of_gt (Nat.lt_of_lt_of_le q4 q), Nat.ne_of_gt (Nat.lt_of_lt_of_le q5 q)⟩
  intro k
  induction k with
  | zero =>
    intro i h tk c acc as hk hi hst keep hL hacc hal hG hlo hsz
    have hin : i = n := by omega
    subst hin
    refine codeAny_builtin PySem.F.entry_extend_loop ?_
    rw [Around.under_plainId PySem.F.plain_extend_loop _]
    show wpAny _ A.in1 (pyNext (.ref z) >>= _) _ _ _
    refine wpAny_bind (z_end (s := { s with heap := h, toks := tk }) (A := A.in1) S D1 D2 hst fun h' tk' he => ?_)
    refine wpAny_pure (hR h' tk' acc c as (fun b o b1 b2 b3 b4 b5 e => he b o b2 b3 b4 b5 (keep b o b1 b2 b3 b4 b5 e)) (he L _ hLz hLO hL1 hL2 hL) hal (fun j a hj => ?_) hlo hacc)
    obtain ⟨x1, x2, p1, p2, t⟩ := hG j a hj
    obtain ⟨f1, f2, f3, f4, _⟩ := far (hlo a (List.mem_of_getElem? hj))
    exact ⟨x1, x2, p1, p2, he a _ f1 f2 f3 f4 t⟩
  | succ k ih =>
    intro i h tk c acc as hk hi hst keep hL hacc hal hG hlo hsz
    have hlt : i < n := by omega
    have size : acc.size = i := by rw [← Array.length_toList, hacc, List.length_map, hal]
    refine codeAny_builtin PySem.F.entry_extend_loop ?_
    rw [Around.under_plainId PySem.F.plain_extend_loop _]
    show wpAny _ A.in1 (pyNext (.ref z) >>= _) _ _ _
    refine wpAny_bind (z_item (s := { s with heap := h, toks := tk }) (A := A.in1) S D1 D2 hst hlt fun x1 x2 h' tk' p1 p2 st' ht hz hkp => ?_)
    dsimp only at ht hz hkp ⊢
    have hL' := hkp L _ hLz hLO hL1 hL2 hL
    have up : ∀ b o, b ≠ L → h'.get? b = some o → (h'.update L (Obj.mapSeq (·.push (Value.ref h.objs.size)))).get? b = some o := fun b o hb e => (Heap.get?_update_other _ _ (Ne.symm hb)).trans e
    have new := Heap.get?_update_self (Obj.mapSeq (·.push (Value.ref h.objs.size))) hL' rfl
    obtain ⟨g1, g2, g3, g4, g5⟩ := far hsz
    show wpAny _ A.in1 (updateSeq L (·.push (Value.ref h.objs.size)) >>= _) _ _ _
    refine wpAny_bind (wpAny_updateSeq hL' rfl (wpAny_pure ⟨plainId_quiet PySem.F.plain_extend_loop _, ?_⟩) (by rw [size]; omega) (by show (acc.push (Value.ref h.objs.size)).size ≤ sizeLine + 1; rw [Array.size_push, size]; omega))
    have hup : (h'.update L (Obj.mapSeq (·.push (Value.ref h.objs.size)))).objs.size = h'.objs.size := (Heap.SameBut.update ..).1
    refine ih (i + 1) _ tk' _ (acc.push (Value.ref h.objs.size)) (as ++ [h.objs.size]) (by omega) hlt (st'.keep S D1 D2 up kL fun T f oT _ _ _ => ⟨_, new⟩) (fun b o b1 b2 b3 b4 b5 e => up b o b1 (hkp b o b2 b3 b4 b5 (keep b o b1 b2 b3 b4 b5 e)))
      new (by rw [Array.toList_push, hacc, List.map_append]; rfl) (by rw [List.length_append, hal]; rfl) (fun j a hj => ?_) (fun a ha => ?_) (by rw [hup, hz]; exact Nat.le_succ_of_le hsz)
    · rcases Nat.lt_trichotomy j as.length with q | q | q
      · rw [List.getElem?_append_left q] at hj
        obtain ⟨y1, y2, r1, r2, t⟩ := hG j a hj
        obtain ⟨f1, f2, f3, f4, f5⟩ := far (hlo a (List.mem_of_getElem? hj))
        exact ⟨y1, y2, r1, r2, up a _ f5 (hkp a _ f1 f2 f3 f4 t)⟩
      · subst q
        have e : h.objs.size = a := by simpa using hj
        subst e
        subst hal
        exact ⟨x1, x2, p1, p2, up _ _ g5 ht⟩
      · have none' : (as ++ [h.objs.size])[j]? = none := List.getElem?_eq_none (by rw [List.length_append, List.length_singleton]; omega)
        rw [none'] at hj; cases hj
    · rcases List.mem_append.mp ha with ha | ha
      · exact hlo a ha
      · rw [List.mem_singleton.mp ha]; exact hsz
theorem z_extend {R : Result → Shared → Prop} (hh : A.handled = none) (S : ZipSep2 z TI TO i1 i2 fp1 fp2) (D1 : Draws prog w A.in1.in1 i1 fp1 n P1 St1) (D2 : Draws prog w A.in1.in1 i2 fp2 n P2 St2) (hn : n ≤ sizeLine) (res : Value) {L : Addr} {c0 : Nat}
    (kL : L ≠ z ∧ L ≠ TI ∧ L ≠ TO ∧ L ∉ fp1 ∧ L ∉ fp2) (st : ZSt z TI TO i1 i2 St1 St2 0 s.heap) (hz : IsZip s.heap z TI TO .none) (low : z < s.heap.objs.size ∧ TO < s.heap.objs.size ∧ i1 < s.heap.objs.size ∧ i2 < s.heap.objs.size ∧ L < s.heap.objs.size)
    (hL : s.heap.get? L = some { cls := .type "list", data := .seq #[] c0 })
    (hR : ∀ h' tk acc c as, (∀ b o, b ≠ L → b ≠ z → b ≠ TO → b ≠ i1 → b ≠ i2 → s.heap.get? b = some o → h'.get? b = some o) → h'.get? L = some { cls := .type "list", dict := none, data := .seq acc c, slots := #[] } → as.length = n → Prs P1 P2 h' as →
      (∀ a ∈ as, s.heap.objs.size ≤ a) → acc.toList = as.map Value.ref → R (.ok (.ret res)) { s with heap := h', toks := tk }) :
    wpAny (model prog w) A.in1 (Builtin.List.listExtendWith (.ref L) (.ref z) res)
      (fun fin s' => match fin with | .done f => R (.ok f) s' | .again c' => c'.quiet = true ∧ codeAny (model prog w) A c' R s') (fun e s' => R (.error e) s') s := by
  have hTy : s.TypeIs (.ref z) "zip" := ⟨_, hz, rfl⟩
  have key : ∀ (h : Heap) (c₁ tk : Nat), (∀ b o, b ≠ L → s.heap.get? b = some o → h.get? b = some o) → h.objs.size = s.heap.objs.size → h.get? L = some { cls := .type "list", data := .seq #[] c₁ } →
      codeAny (model prog w) A (.builtin "list.extend.loop" ⟨[.ref L, .ref z, res], []⟩) R { s with heap := h, toks := tk } := by
    intro h c₁ tk hk hs hL1
    exact z_loop (s := s) (h₁ := s.heap) hh S D1 D2 hn res kL low hR n 0 h tk c₁ #[] [] (Nat.sub_zero _) (Nat.zero_le _) (st.keep S D1 D2 hk kL fun _ _ _ _ _ _ => ⟨_, hL1⟩) (fun b o b1 _ _ _ _ e => hk b o b1 e) hL1 rfl rfl
      (fun j a hj => by simp at hj) (fun a ha => by simp at ha) (Nat.le_of_eq hs.symm)
  unfold Builtin.List.listExtendWith
  refine wpAny_bind (wpAny_typeOf (T := "zip") hTy ?_)
  have h1 : Builtin.List.listSameRef (.ref L) (.ref z) = false := by simp [Builtin.List.listSameRef, kL.1]
  have h2 : (Value.type "zip" == Value.type "list") = false := by decide
  have h3 : (Value.type "zip" == Value.type "tuple") = false := by decide
  simp only [h1, h2, h3, Bool.or_false, Bool.false_eq_true, if_false]
  refine wpAny_bind (wpAny_pyIter_zip hz ?_)
  refine wpAny_bind (wpAny_holding (hint_zip hTy ?_))
  refine wpAny_ite_split (fun _ => ?_) (fun q => absurd (Bool.true_or _) q)
  refine wpAny_bind (wpAny_rule ?_)
  refine wpAny_bind ?_
  show wpAny _ _ (updateSeq L (·.push .none) >>= fun _ => updateSeq L (·.pop)) _ _ _
  refine wpAny_bind (wpAny_updateSeq hL rfl ?_)
  have hL2 := Heap.get?_update_self (Obj.mapSeq (·.push Value.none)) hL rfl
  refine wpAny_updateSeq (hz := by seq_fits) hL2 rfl ?_
  have hL3 := Heap.get?_update_self (Obj.mapSeq (·.pop)) hL2 rfl
  refine wpAny_pure ⟨plainId_quiet PySem.F.plain_extend_loop _, key _ _ _ (fun b o hb e => ?_) ?_ hL3⟩
  · exact (Heap.get?_update_other _ _ (Ne.symm hb)).trans ((Heap.get?_update_other _ _ (Ne.symm hb)).trans e)
  · rw [(Heap.SameBut.update ..).1, (Heap.SameBut.update ..).1]
theorem z_call {Q : Value → Shared → Prop} (hh : A.handled = none) (S : ZipSep2 z TI TO i1 i2 fp1 fp2) (D1 : Draws prog w A.in1.in1.in1 i1 fp1 n P1 St1) (D2 : Draws prog w A.in1.in1.in1 i2 fp2 n P2 St2) (hn : n ≤ sizeLine)
    (st : ZSt z TI TO i1 i2 St1 St2 0 s.heap) (hz : IsZip s.heap z TI TO .none) (low : z < s.heap.objs.size ∧ TI < s.heap.objs.size ∧ TO < s.heap.objs.size ∧ (∀ b ∈ fp1, b < s.heap.objs.size) ∧ (∀ b ∈ fp2, b < s.heap.objs.size))
    (hQ : ∀ h' tk acc c as, (∀ b o, b ≠ z → b ≠ TO → b ≠ i1 → b ≠ i2 → s.heap.get? b = some o → h'.get? b = some o) → h'.get? s.heap.objs.size = some { cls := .type "list", dict := none, data := .seq acc c, slots := #[] } → as.length = n → Prs P1 P2 h' as →
      (∀ a ∈ as, s.heap.objs.size < a) → acc.toList = as.map Value.ref → Q (.ref s.heap.objs.size) { s with heap := h', toks := tk }) :
    wpAny (model prog w) A (call (.type "list") [.ref z]) Q E s := by
  obtain ⟨l1, l2, l3, l4, l5⟩ := low
  refine callType_codes (Q₁ := fun obj s₁ => obj = .ref s.heap.objs.size ∧ s₁ = { s with heap := s.heap.push { cls := .type "list", data := .seq #[] } }) PySem.F.called_list (PySem.F.typeCall_list_1 _) PySem.F.entry_list_init
    (code_list_new _ ⟨rfl, rfl⟩) fun obj s₁ h₁ => ?_
  obtain ⟨rfl, rfl⟩ := h₁
  have hL : (s.heap.push { cls := .type "list", data := .seq #[] }).get? s.heap.objs.size = some { cls := .type "list", data := .seq #[] } := Heap.get?_push_size _ rfl
  refine ⟨⟨_, hL, rfl⟩, PySem.F.args_list_init_2 _ _, ?_⟩
  show wpAny _ _ (do let old ← Builtin.List.listItems (.ref s.heap.objs.size); Builtin.List.listUpdate (.ref s.heap.objs.size) (fun _ => #[]); letGo old.toList.reverse; Builtin.List.listExtendWith (.ref s.heap.objs.size) (.ref z) .none) _ _ _
  refine wpAny_bind ?_
  unfold Builtin.List.listItems
  refine wpAny_bind (wpAny_seqItems hL rfl (wpAny_pure ?_))
  show wpAny _ _ (updateSeq s.heap.objs.size (fun _ => #[]) >>= fun _ => letGo (#[] : Array Value).toList.reverse >>= fun _ => Builtin.List.listExtendWith (.ref s.heap.objs.size) (.ref z) .none) _ _ _
  refine wpAny_bind (wpAny_updateSeq hL rfl ?_)
  have hL2 := Heap.get?_update_self (Obj.mapSeq (fun _ => (#[] : Array Value))) hL rfl
  have oth : ∀ b o, b ≠ s.heap.objs.size → s.heap.get? b = some o → ((s.heap.push { cls := .type "list", data := .seq #[] }).update s.heap.objs.size (Obj.mapSeq (fun _ => (#[] : Array Value)))).get? b = some o :=
    fun b o hb e => (Heap.get?_update_other _ _ (Ne.symm hb)).trans (Heap.get?_push_of_some _ e)
  have size : ((s.heap.push { cls := .type "list", data := .seq #[] }).update s.heap.objs.size (Obj.mapSeq (fun _ => (#[] : Array Value)))).objs.size = s.heap.objs.size + 1 := by
    rw [(Heap.SameBut.update ..).1, Heap.size_push]
  refine wpAny_bind (wpAny_letGo ?_)
  have lt1 : ∀ {b : Addr}, b < s.heap.objs.size → b < s.heap.objs.size + 1 := fun q => Nat.lt_succ_of_lt q
  have i1l := l4 _ S.mem1
  have i2l := l5 _ S.mem2
  have kL : s.heap.objs.size ≠ z ∧ s.heap.objs.size ≠ TI ∧ s.heap.objs.size ≠ TO ∧ s.heap.objs.size ∉ fp1 ∧ s.heap.objs.size ∉ fp2 :=
    ⟨Nat.ne_of_gt l1, Nat.ne_of_gt l2, Nat.ne_of_gt l3, fun q => Nat.lt_irrefl _ (l4 _ q), fun q => Nat.lt_irrefl _ (l5 _ q)⟩
  refine z_extend (A := A.in1) hh S D1 D2 hn .none kL (st.keep S D1 D2 (fun b o hb e => oth b o hb e) kL fun T f oT _ hT e => ?_) (oth _ _ (Nat.ne_of_lt l1) hz) (by
    rw [size]; exact ⟨lt1 l1, lt1 l3, lt1 i1l, lt1 i2l, Nat.lt_succ_self _⟩) hL2 (fun h' tk acc c as hk hL' hl hG hlo hacc => ?_)
  · rw [e] at hT
    exact absurd (Heap.lt_size hT) (Nat.lt_irrefl _)
  · refine ⟨rfl, hQ h' tk acc c as (fun b o b1 b2 b3 b4 e => ?_) hL' hl hG (fun a ha => ?_) hacc⟩
    · have hb : b ≠ s.heap.objs.size := Nat.ne_of_lt (Heap.lt_size e)
      exact hk b o hb b1 b2 b3 b4 (oth b o hb e)
    · have q := hlo a ha
      rw [size] at q
      exact q
end
end Zl

set_option Elab.async false
set_option linter.all false
set_option maxRecDepth 100000
set_option maxHeartbeats 4000000
namespace Pk
open PySem PySem.Spec PyProof.Rows L2
/-- new things beside what is tracked -/
def grown (H N : Hp) : Hp := fun b => match N b with | some o => some o | none => H b
section
variable {X : Cx} {pins : List (Addr × Obj)} {σ : L2.St} {H : Hp} {s : Shared}
theorem grown_new {H N : Hp} {b : Addr} {o : HO} (h : N b = some o) : grown H N b = some o := by unfold grown; rw [h]
theorem grown_old {H N : Hp} {b : Addr} (h : N b = none) : grown H N b = H b := by unfold grown; rw [h]
theorem inv_grow {N : Hp} {h' : Heap} {tk : Nat} (I : Inv X pins σ H s) (k : ∀ b o, s.heap.get? b = some o → h'.get? b = some o) (low : ∀ b o, N b = some o → s.heap.objs.size ≤ b)
    (new : ∀ b o, N b = some o → ObjOk X.prog X.w (grown H N) h' b o) : Inv X pins σ (grown H N) { s with heap := h', toks := tk } ∧ Same H (grown H N) := by
  have off : ∀ b o, s.heap.get? b = some o → N b = none := fun b o e => by
    cases q : N b with
    | none => rfl
    | some u => exact absurd (Nat.lt_of_lt_of_le (Heap.lt_size e) (low b u q)) (Nat.lt_irrefl _)
  have offH : ∀ b u, H b = some u → N b = none := fun b u e => by
    cases q : N b with
    | none => rfl
    | some v => exact absurd (Nat.lt_of_lt_of_le (I.hok.lt e) (low b v q)) (Nat.lt_irrefl _)
  have same : Same H (grown H N) := fun b u e => by rw [grown_old (offH b u e)]; exact e
  refine ⟨I.un ⟨fun b o q _ _ _ => k b o q, fun b o q _ _ _ => ⟨o.slots, k b o q⟩, fun b o q n _ => by rw [grown_old (off b o q)]; exact n, fun b o q _ => ⟨o, k b o q⟩, fun b xs q => same b _ q, fun b o u q => same b _ q, fun b ps q => ⟨#[], by rw [same b _ q]; simp⟩⟩ (fun b u q => ?_), same⟩
  cases e : N b with
  | some v =>
    rw [grown_new e] at q
    cases q
    exact new b _ e
  | none =>
    rw [grown_old e] at q
    exact (I.hok b u q).stay (fun d v _ y => k d v y) (fun d y => same d _ y) fun d xs y => same d _ y
end
theorem vals_back : ∀ {xs : List V} {us : List Value} {i : Nat} {u : Value}, Vals xs us → us[i]? = some u → ∃ x, xs[i]? = some x ∧ RelV x u
  | _, _, _, _, .nil, e => by simp at e
  | _, _, 0, _, .cons r _, e => by simp at e; subst e; exact ⟨_, rfl, r⟩
  | _, _, i + 1, _, .cons _ t, e => by
    obtain ⟨x, h1, h2⟩ := vals_back (i := i) t (by simpa using e)
    exact ⟨x, by simpa using h1, h2⟩
theorem vals_refs' : ∀ as : List Addr, Vals (as.map V.ref) (as.map Value.ref)
  | [] => .nil
  | _ :: as => .cons rfl (vals_refs' as)
/-- the pairs at ps: the j-th holds the j-th of xs and of ys -/
def PairsAt (H : Hp) (ps : List Addr) (xs ys : List V) : Prop := ∀ (j : Nat) (q : Addr), ps[j]? = some q → ∃ x y, xs[j]? = some x ∧ ys[j]? = some y ∧ H q = some (.tup [x, y])
def tListZip (K : PySem.W.Frag) (t : TA) : TE := fun σ H Q => t σ H fun vs H2 => ∃ a b xs ys, vs = [.ref a, .ref b] ∧
  ((SqL K H2 a xs ∧ SqL K H2 b ys) ∨ (SqT K H2 a xs ∧ SqT K H2 b ys)) ∧ xs.length = ys.length ∧
  ∀ (H3 : Hp) (p : Addr) (ps : List Addr), Same H2 H3 → H2 p = none → H3 p = some (.lst (ps.map V.ref)) → ps.length = xs.length → PairsAt H3 ps xs ys → Q (.ref p) H3
section
variable {X : Cx} {e1 e2 : Expr} {t : TA} {p1 p2 pos pos2 : Pos}
/-- a sequence that zip walks: how it begins, how it is drawn -/
theorem seq_src {pins : List (Addr × Obj)} {σ : L2.St} {H : Hp} {s : Shared} (I : Inv X pins σ H s) (hc : X.A.handled = none) {a : Addr} {xs : List V} {b : Bool} (h : if b = true then SqL X.K H a xs else SqT X.K H a xs) :
    ∃ (its : List Value) (o : Obj) (Hs : Heap → Prop) (St : Addr → Nat → Heap → Prop), Vals xs its ∧ xs.length ≤ sizeLine ∧ a < s.heap.objs.size ∧ Begins (.ref a) o Hs ∧ Hs s.heap ∧
      (∀ it, a ≠ it → Draws X.prog X.w X.A.in1.in1.in1 it [it, a] xs.length (fun i v => its[i]? = some v) (St it)) ∧ (∀ it h', h'.get? it = some o → Hs h' → St it 0 h') := by
  cases b with
  | true =>
    obtain ⟨its, r, pl, z⟩ := I.list (a := a) (xs := xs) (by simpa using h)
    obtain ⟨oo, n, e, _, _, _⟩ := id pl
    have hl := r.length
    refine ⟨its, _, _, fun it i h' => h'.IsListIter it a i ∧ h'.IsList a its.toArray, r, z, Heap.lt_size e, begins_list a its.toArray, pl.isList, fun it hne => ?_, fun it h' e hs => ⟨⟨_, e, rfl, rfl⟩, hs⟩⟩
    have D := Draws.list (prog := X.prog) (w := X.w) (A := X.A.in1.in1.in1) hc it a hne its.toArray
    simpa [hl] using D
  | false =>
    obtain ⟨its, r, pl, z⟩ := I.tuple (a := a) (xs := xs) (by simpa using h)
    obtain ⟨oo, e, _, _⟩ := id pl
    have hl := r.length
    refine ⟨its, _, _, fun it i h' => h'.IsTupleIter it a i ∧ h'.IsTuple a its.toArray, r, z, Heap.lt_size e, begins_tuple a its.toArray, pl, fun it hne => ?_, fun it h' e hs => ⟨⟨_, e, rfl, rfl⟩, hs⟩⟩
    have D := Draws.tuple (prog := X.prog) (w := X.w) (A := X.A.in1.in1.in1) hc it a hne its.toArray
    simpa [hl] using D
theorem pe_listZip (hc : X.calm = true) (ha : PA X [e1, e2] t) (hgl : Gl X "list") (hml : X.mg "list" = none) (hgz : Gl X "zip") (hmz : X.mg "zip" = none)
    (hs : starEach [.Call (.Name "zip" p2) [e1, e2] [] pos2] X.env = (false, eval (.Call (.Name "zip" p2) [e1, e2] [] pos2) X.env) :: starEach [] X.env := by rfl)
    (hs2 : starEach [e1, e2] X.env = (false, eval e1 X.env) :: starEach [e2] X.env := by rfl) (hpl : (backTo pos2 (starEach [e2] X.env)).any (·.1) = false := by rfl) :
    PE X (.Call (.Name "list" p1) [.Call (.Name "zip" p2) [e1, e2] [] pos2] [] pos) (tListZip X.K t) := by
  refine ⟨fun pins s σ H Q I hq => ?_⟩
  refine wpAny_Call_Name_kw (ld_blt (u := .type "list") I hgl hml (by decide +kernel) ?_)
  refine PyProof.Rows.callWith_type1 ?_ hs rfl
  rw [hs]
  show wpAny _ _ (spliced ((false, eval (.Call (.Name "zip" p2) [e1, e2] [] pos2) X.env) :: backTo pos (starEach [] X.env))) _ _ s
  refine Calls.spliced_cons ?_
  refine Call_ (ld_blt I hgz hmz PyProof.Rows.boot_zip (PyProof.Rows.callWith_type1 (thn (ha.run pos2 pins s σ H _ I hq) fun us s1 ⟨vs, H1, I1, r1, q1⟩ => ?_) hs2 hpl))
  obtain ⟨a, b, xs, ys, rfl, hseq, hlen, q⟩ := q1
  obtain ⟨ua, ub, rfl, ra, rb⟩ := vals2 r1
  cases ra
  cases rb
  have hd : X.A.handled = none := I.ok.hd hc
  have key : ∃ (i1 i2 : List Value) (o1 o2 : Obj) (S1 S2 : Heap → Prop) (St1 St2 : Addr → Nat → Heap → Prop), Vals xs i1 ∧ Vals ys i2 ∧ xs.length ≤ sizeLine ∧ a < s1.heap.objs.size ∧ b < s1.heap.objs.size ∧
      Begins (.ref a) o1 S1 ∧ S1 s1.heap ∧ Begins (.ref b) o2 S2 ∧ S2 s1.heap ∧
      (∀ it, a ≠ it → Draws X.prog X.w X.A.in1.in1.in1 it [it, a] xs.length (fun i v => i1[i]? = some v) (St1 it)) ∧ (∀ it h', h'.get? it = some o1 → S1 h' → St1 it 0 h') ∧
      (∀ it, b ≠ it → Draws X.prog X.w X.A.in1.in1.in1 it [it, b] ys.length (fun i v => i2[i]? = some v) (St2 it)) ∧ (∀ it h', h'.get? it = some o2 → S2 h' → St2 it 0 h') := by
    rcases hseq with ⟨h1, h2⟩ | ⟨h1, h2⟩
    · obtain ⟨i1, o1, S1, St1, a1, a2, a3, a4, a5, a6, a7⟩ := seq_src (b := true) I1 hd (xs := xs) (a := a) (by simpa using h1)
      obtain ⟨i2, o2, S2, St2, b1, b2, b3, b4, b5, b6, b7⟩ := seq_src (b := true) I1 hd (xs := ys) (a := b) (by simpa using h2)
      exact ⟨i1, i2, o1, o2, S1, S2, St1, St2, a1, b1, a2, a3, b3, a4, a5, b4, b5, a6, a7, b6, b7⟩
    · obtain ⟨i1, o1, S1, St1, a1, a2, a3, a4, a5, a6, a7⟩ := seq_src (b := false) I1 hd (xs := xs) (a := a) (by simpa using h1)
      obtain ⟨i2, o2, S2, St2, b1, b2, b3, b4, b5, b6, b7⟩ := seq_src (b := false) I1 hd (xs := ys) (a := b) (by simpa using h2)
      exact ⟨i1, i2, o1, o2, S1, S2, St1, St2, a1, b1, a2, a3, b3, a4, a5, b4, b5, a6, a7, b6, b7⟩
  obtain ⟨i1, i2, o1, o2, S1, S2, St1, St2, v1, v2, hz, la, lb, B1, s1a, B2, s2a, D1, st1, D2, st2⟩ := key
  refine zip_begins2 B1 B2 s1a s2a fun h2 hz2 hTI hTO g1 g2 hsz hk => ?_
  refine Calls.spliced_nil ?_
  have la5 : ∀ j, a ≠ s1.heap.objs.size + j := fun j => Nat.ne_of_lt (Nat.lt_of_lt_of_le la (Nat.le_add_right _ _))
  have lb5 : ∀ j, b ≠ s1.heap.objs.size + j := fun j => Nat.ne_of_lt (Nat.lt_of_lt_of_le lb (Nat.le_add_right _ _))
  have ap : ∀ {i j : Nat}, i ≠ j → s1.heap.objs.size + i ≠ s1.heap.objs.size + j := fun h q => h (Nat.add_left_cancel q)
  have D1' := D1 s1.heap.objs.size (la5 0)
  have D2' := D2 (s1.heap.objs.size + 1) (lb5 1)
  rw [← hlen] at D2'
  have Sp : ZipSep2 (s1.heap.objs.size + 4) (s1.heap.objs.size + 2) (s1.heap.objs.size + 3) s1.heap.objs.size (s1.heap.objs.size + 1) [s1.heap.objs.size, a] [s1.heap.objs.size + 1, b] :=
    { TIz := ap (by decide), TOz := ap (by decide), TITO := ap (by decide), TIi1 := ap (i := 2) (j := 0) (by decide), mem1 := by simp, TIi2 := ap (by decide), mem2 := by simp,
      zf1 := fun z => by
        rcases List.mem_cons.mp z with z | z
        · exact ap (i := 4) (j := 0) (by decide) z
        · exact la5 4 (List.mem_singleton.mp z).symm
      Tf1 := fun z => by
        rcases List.mem_cons.mp z with z | z
        · exact ap (i := 3) (j := 0) (by decide) z
        · exact la5 3 (List.mem_singleton.mp z).symm
      zf2 := fun z => by
        rcases List.mem_cons.mp z with z | z
        · exact ap (i := 4) (j := 1) (by decide) z
        · exact lb5 4 (List.mem_singleton.mp z).symm
      Tf2 := fun z => by
        rcases List.mem_cons.mp z with z | z
        · exact ap (i := 3) (j := 1) (by decide) z
        · exact lb5 3 (List.mem_singleton.mp z).symm
      sep1_2 := fun z => by
        rcases List.mem_cons.mp z with z | z
        · exact ap (i := 0) (j := 1) (by decide) z
        · exact lb5 0 (List.mem_singleton.mp z).symm
      sep2_1 := fun z => by
        rcases List.mem_cons.mp z with z | z
        · exact ap (i := 1) (j := 0) (by decide) z
        · exact la5 1 (List.mem_singleton.mp z).symm }
  have lt5 : ∀ j, j < 5 → s1.heap.objs.size + j < h2.objs.size := fun j hj => by rw [hsz]; exact Nat.add_lt_add_left hj _
  have ltb : ∀ {c : Addr}, c < s1.heap.objs.size → c < h2.objs.size := fun {c} h => by rw [hsz]; exact Nat.lt_of_lt_of_le h (Nat.le_add_right _ _)
  refine Zl.z_call (s := { s1 with heap := h2 }) hd Sp D1' D2' hz ⟨hTI, st1 _ _ g1 (B1.keeps _ _ s1a hk), st2 _ _ g2 (B2.keeps _ _ s2a hk), .inl ⟨hz2, _, _, hTO⟩⟩ hz2
    ⟨lt5 4 (by decide), lt5 2 (by decide), lt5 3 (by decide), fun c hcm => ?_, fun c hcm => ?_⟩ fun h' tk acc c_1 as hkeep hL hal hP hlo hacc => ?_
  · rcases List.mem_cons.mp hcm with z | z
    · rw [z]; exact lt5 0 (by decide)
    · rw [List.mem_singleton.mp z]; exact ltb la
  · rcases List.mem_cons.mp hcm with z | z
    · rw [z]; exact lt5 1 (by decide)
    · rw [List.mem_singleton.mp z]; exact ltb lb
  · classical
    have at_ : ∀ (j : Nat) (c : Addr), as[j]? = some c → ∃ x y u w, xs[j]? = some x ∧ ys[j]? = some y ∧ RelV x u ∧ RelV y w ∧ h'.get? c = some { cls := .type "tuple", data := .seq #[u, w] } := fun j c hj => by
      obtain ⟨u, w, p1, p2, t⟩ := hP j c hj
      obtain ⟨x, hx, rx⟩ := vals_back v1 p1
      obtain ⟨y, hy, ry⟩ := vals_back v2 p2
      exact ⟨x, y, u, w, hx, hy, rx, ry, t⟩
    let N : Hp := fun c => if c = h2.objs.size then some (.lst (as.map V.ref)) else if h : ∃ j : Nat, as[j]? = some c then some (.tup [xs.getD h.choose .non, ys.getD h.choose .non]) else none
    have pN : h2.objs.size ∉ as := fun z => Nat.lt_irrefl _ (hlo _ z)
    have Np : N h2.objs.size = some (.lst (as.map V.ref)) := if_pos rfl
    have Na : ∀ (j : Nat) (c : Addr), as[j]? = some c → ∃ x y u w, xs[j]? = some x ∧ ys[j]? = some y ∧ RelV x u ∧ RelV y w ∧ h'.get? c = some { cls := .type "tuple", data := .seq #[u, w] } ∧ N c = some (.tup [x, y]) := fun j c hj => by
      obtain ⟨x, y, u, w, hx, hy, rx, ry, t⟩ := at_ j c hj
      have hc1 : c ≠ h2.objs.size := fun e => pN (e ▸ List.mem_of_getElem? hj)
      have ex : ∃ j : Nat, as[j]? = some c := ⟨j, hj⟩
      obtain ⟨x', y', u', w', hx', hy', rx', ry', t'⟩ := at_ ex.choose c ex.choose_spec
      rw [t] at t'
      have eu : u = u' ∧ w = w' := by
        have z := congrArg Obj.data (Option.some.inj t')
        have z2 : (#[u, w] : Array Value) = #[u', w'] := by injection z
        have z3 : [u, w] = [u', w'] := congrArg Array.toList z2
        injection z3 with a1 a2
        injection a2 with a2 _
        exact ⟨a1, a2⟩
      obtain ⟨rfl, rfl⟩ := eu
      have e1 : x = x' := rx.inj rx'
      have e2 : y = y' := ry.inj ry'
      subst e1 e2
      refine ⟨x, y, u, w, hx, hy, rx, ry, t, ?_⟩
      show (if c = h2.objs.size then _ else if h : ∃ j : Nat, as[j]? = some c then some (HO.tup [xs.getD h.choose .non, ys.getD h.choose .non]) else none) = _
      rw [if_neg hc1, dif_pos ex, List.getD_eq_getElem?_getD, List.getD_eq_getElem?_getD, hx', hy'] <;> rfl
    have Nn : ∀ c, c ≠ h2.objs.size → c ∉ as → N c = none := fun c h1 h3 => by
      show (if c = h2.objs.size then _ else if h : ∃ j : Nat, as[j]? = some c then some (HO.tup [xs.getD h.choose .non, ys.getD h.choose .non]) else none) = _
      rw [if_neg h1, dif_neg (fun ⟨j, e⟩ => h3 (List.mem_of_getElem? e))]
    have le2 : s1.heap.objs.size ≤ h2.objs.size := by rw [hsz]; exact Nat.le_add_right _ _
    have cases_ : ∀ c o, N c = some o → c = h2.objs.size ∨ c ∈ as := fun c o e => by
      by_cases h1 : c = h2.objs.size
      · exact .inl h1
      · by_cases h3 : c ∈ as
        · exact .inr h3
        · rw [Nn c h1 h3] at e; cases e
    have kk : ∀ c o, s1.heap.get? c = some o → h'.get? c = some o := fun c o e => by
      have l := Heap.lt_size e
      exact hkeep c o (Nat.ne_of_lt (Nat.lt_of_lt_of_le l (Nat.le_add_right _ 4))) (Nat.ne_of_lt (Nat.lt_of_lt_of_le l (Nat.le_add_right _ 3))) (Nat.ne_of_lt l) (Nat.ne_of_lt (Nat.lt_of_lt_of_le l (Nat.le_add_right _ 1))) (hk c o e)
    have hal' : as.length = xs.length := hal
    obtain ⟨J, same⟩ := inv_grow (N := N) (h' := h') (tk := tk) I1 kk (fun c o e => by
      rcases cases_ c o e with z | z
      · rw [z]; exact le2
      · exact Nat.le_trans le2 (Nat.le_of_lt (hlo c z))) (fun c o e => by
      rcases cases_ c o e with z | z
      · subst z
        rw [Np] at e
        cases e
        exact ⟨by rw [List.length_map, hal']; exact hz, acc.toList, c_1, by rw [hacc]; exact vals_refs' as, by rw [Array.toArray_toList]; exact hL⟩
      · obtain ⟨j, hj⟩ := List.mem_iff_getElem?.mp z
        obtain ⟨x, y, u, w, hx, hy, rx, ry, t, en⟩ := Na j c hj
        rw [en] at e
        cases e
        exact ⟨by show 2 ≤ sizeLine; decide, [u, w], .cons rx (.cons ry .nil), ⟨_, t, rfl, _, rfl⟩⟩)
    refine ⟨.ref h2.objs.size, _, J, rfl, q _ _ as same (I1.hok.fresh le2) (grown_new Np) hal' fun j c hj => ?_⟩
    obtain ⟨x, y, u, w, hx, hy, _, _, _, en⟩ := Na j c hj
    exact ⟨x, y, hx, hy, grown_new en⟩
end
end Pk

set_option Elab.async false
set_option linter.all false
set_option maxRecDepth 100000
set_option maxHeartbeats 4000000
namespace Pk
open PySem PySem.Spec PyProof.Rows L2
/-! ### isinstance of data -/
def kd : PyData → String
  | .none => "NoneType"
  | .bool _ => "bool"
  | .int _ => "int"
  | .str _ => "str"
  | .list _ => "list"
  | .tuple _ => "tuple"
  | .dict _ => "dict"
def isD (T : String) (d : PyData) : Bool := decide (kd d = T) || (decide (kd d = "bool") && decide (T = "int"))
def fiveT (T : String) : Prop := T = "tuple" ∨ T = "list" ∨ T = "str" ∨ T = "int" ∨ T = "bool"
theorem Rp.ty {K : PySem.W.Frag} {H : Hp} {x : V} {d : PyData} (h : Rp H x d) : TyX K H x (.type (kd d)) := by
  cases h with
  | non => exact .base .non
  | bl b => exact .base (.bl b)
  | int i => exact .base (.int i)
  | str z => exact .base (.str z)
  | lst h _ => exact .base (.lst h)
  | tup h _ => exact .base (.tup h)
  | dct h => exact .base (.dK h)
theorem kit_all : ∀ k ∈ ["NoneType", "bool", "int", "str", "list", "tuple", "dict"], ∀ T ∈ ["tuple", "list", "str", "int", "bool"], kitB k T = some (decide (k = T) || (decide (k = "bool") && decide (T = "int"))) := by decide +kernel
theorem kit_d {K : PySem.W.Frag} {T : String} (hT : fiveT T) (d : PyData) : PySem.W.kitOne K (.type (kd d)) (.type T) = some (isD T d) :=
  kit_ty (kit_all _ (by cases d <;> simp [kd]) _ (by rcases hT with rfl | rfl | rfl | rfl | rfl <;> simp))
section
variable {X : Cx}
def rIsD (T : String) : List V → Hp → VK → Prop := fun vs H Q => ∃ x d, vs = [x, .ty T] ∧ Rp H x d ∧ Q (.bl (isD T d)) H
theorem call_isD {T : String} (hT : fiveT T) : CallR X (.builtin "isinstance") (rIsD T) := by
  intro pins s σ H xs us Q I r h
  obtain ⟨x, d, rfl, hd, q⟩ := h
  exact call_isi pins s σ H _ us Q I r ⟨x, .ty T, .type (kd d), .type T, isD T d, rfl, .ty T, hd.ty, kit_d hT d, q⟩
theorem pe_isD {a : Expr} {ta : TE} {T : String} {Ts : Str} {p p2 pos : Pos} (hm : X.mg "isinstance" = none) (hmT : X.mg Ts = none) (hT : fiveT T) (hv : bootBuiltins Ts = some (.type T)) (ha : PE X a ta) (hg : Gl X "isinstance" := by rfl) (hgT : Gl X Ts := by rfl)
    (hn : Ts ≠ "__name__" := by decide) (hd : (Ts == ("__debug__" : Str)) = false := by decide)
    (he : starEach (a :: [.Name Ts p2]) X.env = (false, eval a X.env) :: starEach [.Name Ts p2] X.env := by rfl) (hpl : (backTo pos (starEach [.Name Ts p2] X.env)).any (·.1) = false := by rfl)
    (he2 : starEach (.Name Ts p2 :: []) X.env = (false, eval (.Name Ts p2) X.env) :: starEach [] X.env := by rfl) :
    PE X (.Call (.Name "isinstance" p) [a, .Name Ts p2] [] pos) (tCB (rIsD T) (tCons ta (tCons (tC (.ty T)) tNil))) :=
  pe_callB (call_isD hT) hg hm (by decide +kernel) (pa_cons ha (pa_cons (pe_bltn (v := .ty T) hgT hmT hv rfl hn hd) pa_nil he2) he) (he := he) (hpl := hpl)
end
theorem isT (T : String) : ∀ d, kd d = T → isD T d = true := fun d h => by simp [isD, h]
/-! ### while, with a number that falls -/
theorem while_n {c : TT} {tb : TS} {D : Ends} {σ : L2.St} {H : Hp} (Pv : Nat → L2.St → Hp → Prop) (m : Nat) (h0 : Pv m σ H)
    (hs : ∀ m σ H, Pv m σ H → c σ H fun b H1 => if b = true then tb { D with nx := fun σ' H' => ∃ m', m' < m ∧ Pv m' σ' H', ct := fun σ' H' => ∃ m', m' < m ∧ Pv m' σ' H', bk := D.nx } σ H1 else D.nx σ H1)
    (mono : ∀ σ H Q Q', (∀ b H1, Q b H1 → Q' b H1) → c σ H Q → c σ H Q') : tWhile c tb D σ H :=
  ⟨Pv, ⟨m, h0⟩, fun m σ H h => mono σ H _ _ (fun b H1 q => by
    by_cases hb : b = true
    · rw [if_pos hb] at q ⊢
      exact ⟨_, fun _ _ z => z, q⟩
    · rw [if_neg hb] at q ⊢
      exact q) (hs m σ H h)⟩
/-! ### leaves -/
def isN : PyData → Bool
  | .none => true
  | _ => false
def isB (b : Bool) : PyData → Bool
  | .bool c => decide (c = b)
  | _ => false
theorem Rp.non_iff {H : Hp} {x : V} {d : PyData} (h : Rp H x d) : decide (x = .non) = isN d := by
  cases h <;> simp [isN]
theorem Rp.bl_iff {H : Hp} {x : V} {d : PyData} (b : Bool) (h : Rp H x d) : decide (x = .bl b) = isB b d := by
  cases h <;> simp [isB]
end Pk

set_option Elab.async false
set_option linter.all false
set_option maxRecDepth 100000
set_option maxHeartbeats 4000000
namespace Mt
open PySem TL
open PySem.StrLaws (replL replL_hit replL_miss replL_nil)
/-! ### numbers as signs -/
def intL (n : Int) : List Nat := if n < 0 then 45 :: numL n.natAbs else numL n.natAbs
theorem tl_int (n : Int) : tl (Str.ofString (toString n)) = intL n := by
  cases n with
  | ofNat m =>
    have h := tl_num m
    have e : intL (Int.ofNat m) = numL m := by
      unfold intL
      rw [if_neg (show ¬ Int.ofNat m < 0 from Int.not_lt.mpr (Int.natCast_nonneg m))]
      rfl
    rw [e]
    exact h
  | negSucc m =>
    have e : intL (Int.negSucc m) = 45 :: numL (m + 1) := by
      unfold intL
      rw [if_pos (by omega)]
      rfl
    have z : (toString (Int.negSucc m) : String) = "-" ++ toString (m + 1) := rfl
    have h := tl_num (m + 1)
    rw [tl_ofString] at h ⊢
    rw [e, z, String.toList_append, List.map_append]
    have h2 : (toString ((m + 1 : Nat) : Int) : String) = toString (m + 1) := rfl
    rw [h2] at h
    rw [h]
    rfl
theorem intL_ne (n : Int) : intL n ≠ [] := by
  unfold intL
  split
  · simp
  · exact numL_ne _
theorem intL_free {n : Int} {s : Nat} (h : s < 45 ∨ 57 < s) : s ∉ intL n := by
  unfold intL
  split
  · intro z
    rcases List.mem_cons.mp z with z | z
    · omega
    · exact numL_free (by omega) z
  · exact numL_free (by omega)
/-! ### papers, their words and texts -/
def plain (l : List Nat) : Bool := l.all fun c => c != 32 && c != 40 && c != 41 && c != 10
def noneL : List Nat := [110, 111, 110, 101]
mutual
def isP : PyData → Bool
  | .none => true
  | .int _ => true
  | .str x => plain (tl x)
  | .tuple ds => isPA ds
  | _ => false
def isPA : List PyData → Bool
  | [] => true
  | d :: ds => isP d && isPA ds
end
mutual
/-- tuples, texts, None and ints of at most forty figures -/
def okI : PyData → Bool
  | .none => true
  | .int n => decide (n.natAbs < 10 ^ 40)
  | .str _ => true
  | .tuple ds => okIA ds
  | _ => false
def okIA : List PyData → Bool
  | [] => true
  | d :: ds => okI d && okIA ds
end
mutual
def txt : PyData → List Nat
  | .tuple ds => 40 :: (joinL [32] (txts ds) ++ [41])
  | .str x => 39 :: tl x
  | .int n => intL n
  | _ => noneL
def txts : List PyData → List (List Nat)
  | [] => []
  | d :: ds => txt d :: txts ds
end
mutual
def toks : PyData → List (List Nat)
  | .tuple ds => [40] :: (toksA ds ++ [[41]])
  | .str x => [39 :: tl x]
  | .int n => [intL n]
  | _ => [noneL]
def toksA : List PyData → List (List Nat)
  | [] => []
  | d :: ds => toks d ++ toksA ds
end
mutual
/-- a weight: what the words and their blanks take -/
def tw : PyData → Nat
  | .none => 5
  | .bool _ => 1
  | .int n => (intL n).length + 1
  | .str x => (tl x).length + 2
  | .list ds => 4 + twA ds
  | .tuple ds => 4 + twA ds
  | .dict _ => 1
def twA : List PyData → Nat
  | [] => 0
  | d :: ds => tw d + twA ds
end
def Wd (t : List Nat) : Prop := t ≠ [] ∧ 32 ∉ t ∧ 40 ∉ t ∧ 41 ∉ t
def Tk (t : List Nat) : Prop := t = [40] ∨ t = [41] ∨ Wd t
theorem Tk.ne {t : List Nat} (h : Tk t) : t ≠ [] := by
  rcases h with h | h | h
  · rw [h]; simp
  · rw [h]; simp
  · exact h.1
theorem Tk.b {t : List Nat} (h : Tk t) : 32 ∉ t := by
  rcases h with h | h | h
  · rw [h]; simp
  · rw [h]; simp
  · exact h.2.1
theorem plain_mem {l : List Nat} (h : plain l = true) : ∀ c ∈ l, c ≠ 32 ∧ c ≠ 40 ∧ c ≠ 41 ∧ c ≠ 10 := fun c hc => by
  have z := List.all_eq_true.mp h c hc
  simpa [and_assoc] using z
theorem wd_str {x : Str} (h : plain (tl x) = true) : Wd (39 :: tl x) := by
  have p := plain_mem h
  refine ⟨by simp, fun z => ?_, fun z => ?_, fun z => ?_⟩ <;> rcases List.mem_cons.mp z with z | z
  · omega
  · exact (p _ z).1 rfl
  · omega
  · exact (p _ z).2.1 rfl
  · omega
  · exact (p _ z).2.2.1 rfl
theorem wd_int (n : Int) : Wd (intL n) := ⟨intL_ne n, intL_free (by omega), intL_free (by omega), intL_free (by omega)⟩
theorem wd_none : Wd noneL := by unfold Wd noneL; decide
/-! ### joined with blanks, then without those at the brackets -/
def r1 (l : List Nat) : List Nat := replL [40, 32] [40] l
def r2 (l : List Nat) : List Nat := replL [32, 41] [41] l
theorem r1_nil : r1 [] = [] := replL_nil
theorem r2_nil : r2 [] = [] := replL_nil
theorem r1_hit (z : List Nat) : r1 (40 :: 32 :: z) = 40 :: r1 z := by
  unfold r1
  rw [replL_hit (by simp) (by simp)]
  simp
theorem r1_c {c : Nat} (z : List Nat) (h : c ≠ 40) : r1 (c :: z) = c :: r1 z := by
  unfold r1
  rw [replL_miss (by simp [h])]
theorem r1_one : r1 [40] = [40] := by
  unfold r1
  rw [replL_miss (by simp), replL_nil]
theorem r2_hit (z : List Nat) : r2 (32 :: 41 :: z) = 41 :: r2 z := by
  unfold r2
  rw [replL_hit (by simp) (by simp)]
  simp
theorem r2_c {c : Nat} (z : List Nat) (h : c ≠ 32) : r2 (c :: z) = c :: r2 z := by
  unfold r2
  rw [replL_miss (by simp [h])]
theorem r2_b {c : Nat} (z : List Nat) (h : c ≠ 41) : r2 (32 :: c :: z) = 32 :: r2 (c :: z) := by
  unfold r2
  rw [replL_miss (by simp [h])]
theorem r1_app : ∀ {w : List Nat} (z : List Nat), 40 ∉ w → r1 (w ++ z) = w ++ r1 z
  | [], _, _ => rfl
  | c :: w, z, h => by
    rw [List.cons_append, r1_c _ (fun e => h (by rw [e]; exact List.mem_cons_self)), r1_app z (fun e => h (List.mem_cons_of_mem _ e)), List.cons_append]
theorem r2_app : ∀ {w : List Nat} (z : List Nat), 32 ∉ w → r2 (w ++ z) = w ++ r2 z
  | [], _, _ => rfl
  | c :: w, z, h => by
    rw [List.cons_append, r2_c _ (fun e => h (by rw [e]; exact List.mem_cons_self)), r2_app z (fun e => h (List.mem_cons_of_mem _ e)), List.cons_append]
def j1 : List (List Nat) → List Nat
  | [] => []
  | [t] => t
  | t :: u :: r => t ++ (if t = [40] then j1 (u :: r) else 32 :: j1 (u :: r))
def j2 : List (List Nat) → List Nat
  | [] => []
  | [t] => t
  | t :: u :: r => t ++ (if t = [40] ∨ u = [41] then j2 (u :: r) else 32 :: j2 (u :: r))
theorem r1_join : ∀ ts : List (List Nat), (∀ t ∈ ts, Tk t) → r1 (joinL [32] ts) = j1 ts
  | [], _ => r1_nil
  | [t], h => by
    show r1 t = t
    rcases h t List.mem_cons_self with h | h | h
    · rw [h]; exact r1_one
    · rw [h, r1_c _ (by decide), r1_nil]
    · have z := r1_app (w := t) [] h.2.2.1
      rw [List.append_nil, r1_nil, List.append_nil] at z
      exact z
  | t :: u :: r, h => by
    have ih := r1_join (u :: r) fun x hx => h x (List.mem_cons_of_mem _ hx)
    show r1 (t ++ (32 :: joinL [32] (u :: r))) = t ++ (if t = [40] then j1 (u :: r) else 32 :: j1 (u :: r))
    rcases h t List.mem_cons_self with h | h | h
    · subst h
      rw [if_pos rfl, List.cons_append, List.nil_append, r1_hit, ih]
      rfl
    · subst h
      rw [if_neg (by decide), List.cons_append, List.nil_append, r1_c _ (by decide), r1_c _ (by decide), ih]
      rfl
    · rw [if_neg (fun e => h.2.2.1 (by rw [e]; exact List.mem_cons_self)), r1_app _ h.2.2.1, r1_c _ (by decide), ih]
theorem j1_head {u : List Nat} {r : List (List Nat)} (h : Tk u) : ∃ c w, u = c :: w ∧ ∃ z, j1 (u :: r) = c :: z := by
  cases u with
  | nil => exact absurd rfl h.ne
  | cons c w =>
    refine ⟨c, w, rfl, ?_⟩
    cases r with
    | nil => exact ⟨w, rfl⟩
    | cons v r => exact ⟨_, rfl⟩
theorem r2_j1 : ∀ ts : List (List Nat), (∀ t ∈ ts, Tk t) → r2 (j1 ts) = j2 ts
  | [], _ => r2_nil
  | [t], h => by
    have z := r2_app (w := t) [] (h t List.mem_cons_self).b
    rw [List.append_nil, r2_nil, List.append_nil] at z
    exact z
  | t :: u :: r, h => by
    have ht := h t List.mem_cons_self
    have hu := h u (List.mem_cons_of_mem _ List.mem_cons_self)
    have ih := r2_j1 (u :: r) fun x hx => h x (List.mem_cons_of_mem _ hx)
    show r2 (t ++ (if t = [40] then j1 (u :: r) else 32 :: j1 (u :: r))) = t ++ (if t = [40] ∨ u = [41] then j2 (u :: r) else 32 :: j2 (u :: r))
    rw [r2_app _ ht.b]
    by_cases e : t = [40]
    · rw [if_pos e, if_pos (.inl e), ih]
    · rw [if_neg e]
      obtain ⟨c, w, hc, z, hz⟩ := j1_head (r := r) hu
      by_cases e2 : u = [41]
      · rw [if_pos (.inr e2)]
        have hc41 : c = 41 := by rw [e2] at hc; injection hc with a b; exact a.symm
        rw [← ih, hz, hc41, r2_hit, r2_c _ (by decide)]
      · rw [if_neg (by rintro (q | q); exact e q; exact e2 q)]
        have hc41 : c ≠ 41 := fun q => by
          rcases hu with hu | hu | hu
          · rw [hu] at hc; injection hc with a b; omega
          · exact e2 hu
          · exact hu.2.2.2 (by rw [hc, q]; exact List.mem_cons_self)
        rw [← ih, hz, r2_b _ hc41]
/-! ### the joined words of a paper -/
structure Gd (A : List (List Nat)) : Prop where
  ne : A ≠ []
  hd : ∀ t, A.head? = some t → t ≠ [41]
  la : ∀ t, A.getLast? = some t → t ≠ [40]
theorem j2_open {A : List (List Nat)} (h : A ≠ []) : j2 ([40] :: A) = 40 :: j2 A := by
  cases A with
  | nil => exact absurd rfl h
  | cons u r =>
    show [40] ++ (if [40] = [40] ∨ u = [41] then j2 (u :: r) else 32 :: j2 (u :: r)) = _
    rw [if_pos (.inl rfl)]
    rfl
theorem j2_close : ∀ {A : List (List Nat)}, A ≠ [] → j2 (A ++ [[41]]) = j2 A ++ [41]
  | [], h => absurd rfl h
  | [t], _ => by
    show t ++ (if t = [40] ∨ [41] = [41] then j2 [[41]] else 32 :: j2 [[41]]) = t ++ [41]
    rw [if_pos (.inr rfl)]
    rfl
  | t :: u :: r, _ => by
    have ih := j2_close (A := u :: r) (by simp)
    show t ++ (if t = [40] ∨ u = [41] then j2 ((u :: r) ++ [[41]]) else 32 :: j2 ((u :: r) ++ [[41]])) = (t ++ (if t = [40] ∨ u = [41] then j2 (u :: r) else 32 :: j2 (u :: r))) ++ [41]
    rw [ih]
    split
    · rw [List.append_assoc]
    · rw [List.append_assoc]; rfl
theorem j2_app : ∀ {A B : List (List Nat)}, A ≠ [] → (∀ t, A.getLast? = some t → t ≠ [40]) → B ≠ [] → (∀ t, B.head? = some t → t ≠ [41]) → j2 (A ++ B) = j2 A ++ 32 :: j2 B
  | [], _, h, _, _, _ => absurd rfl h
  | [t], [], _, _, h, _ => absurd rfl h
  | [t], b :: B, _, h1, _, h2 => by
    show t ++ (if t = [40] ∨ b = [41] then j2 (b :: B) else 32 :: j2 (b :: B)) = t ++ 32 :: j2 (b :: B)
    rw [if_neg]
    rintro (q | q)
    · exact h1 t rfl q
    · exact h2 b rfl q
  | t :: u :: r, B, _, h1, hB, h2 => by
    have ih := j2_app (A := u :: r) (B := B) (by simp) (fun x hx => h1 x (by rw [List.getLast?_cons_cons]; exact hx)) hB h2
    show t ++ (if t = [40] ∨ u = [41] then j2 ((u :: r) ++ B) else 32 :: j2 ((u :: r) ++ B)) = (t ++ (if t = [40] ∨ u = [41] then j2 (u :: r) else 32 :: j2 (u :: r))) ++ 32 :: j2 B
    rw [ih]
    split
    · rw [List.append_assoc]
    · rw [List.append_assoc]; rfl
theorem gd_wd {t : List Nat} (h : Wd t) : Gd [t] := ⟨by simp, fun x hx e => by
  have : t = x := by simpa using hx
  rw [← this] at e; exact h.2.2.2 (by rw [e]; exact List.mem_cons_self), fun x hx e => by
  have : t = x := by simpa using hx
  rw [← this] at e; exact h.2.2.1 (by rw [e]; exact List.mem_cons_self)⟩
theorem gd_tup (A : List (List Nat)) : Gd ([40] :: (A ++ [[41]])) := ⟨by simp, fun x hx e => by
  have : [40] = x := by simpa using hx
  rw [← this] at e; simp at e, fun x hx e => by
  have q : ([40] :: (A ++ [[41]])).getLast? = some [41] := by
    rw [← List.cons_append, List.getLast?_append]
    rfl
  rw [q] at hx
  have : [41] = x := by simpa using hx
  rw [← this] at e; simp at e⟩
theorem toks_gd : ∀ d, isP d = true → Gd (toks d)
  | .none, _ => gd_wd wd_none
  | .int n, _ => gd_wd (wd_int n)
  | .str x, h => gd_wd (wd_str (by simpa [isP] using h))
  | .tuple ds, _ => gd_tup _
  | .bool _, h => by simp [isP] at h
  | .list _, h => by simp [isP] at h
  | .dict _, h => by simp [isP] at h
theorem toksA_gd : ∀ ds, ds ≠ [] → isPA ds = true → Gd (toksA ds)
  | [], h, _ => absurd rfl h
  | [d], _, h => by
    have h : isP d = true := by simpa [isPA] using h
    have e : toksA [d] = toks d := by simp [toksA]
    rw [e]; exact toks_gd d h
  | d :: e :: ds, _, h => by
    have h' : isP d = true ∧ isPA (e :: ds) = true := by simpa [isPA] using h
    have g1 := toks_gd d h'.1
    have g2 := toksA_gd (e :: ds) (by simp) h'.2
    have q : toksA (d :: e :: ds) = toks d ++ toksA (e :: ds) := by rw [toksA]
    rw [q]
    refine ⟨by simp [g1.ne], fun t ht => g1.hd t ?_, fun t ht => g2.la t ?_⟩
    · rw [List.head?_append] at ht
      cases hh : (toks d).head? with
      | none => exact absurd (List.head?_eq_none_iff.mp hh) g1.ne
      | some y => rw [hh] at ht; exact ht
    · rw [List.getLast?_append] at ht
      cases hh : (toksA (e :: ds)).getLast? with
      | none => exact absurd (List.getLast?_eq_none_iff.mp hh) g2.ne
      | some y => rw [hh] at ht; exact ht
mutual
theorem j2_toks : ∀ d, isP d = true → j2 (toks d) = txt d
  | .none, _ => by simp [toks, txt, j2]
  | .int n, _ => by simp [toks, txt, j2]
  | .str x, _ => by simp [toks, txt, j2]
  | .tuple ds, h => by
    have h' : isPA ds = true := by simpa [isP] using h
    rw [toks, txt, j2_open (by simp)]
    cases ds with
    | nil => rfl
    | cons d ds => rw [j2_close (toksA_gd _ (by simp) h').ne, j2_toksA _ (by simp) h']
  | .bool _, h => by simp [isP] at h
  | .list _, h => by simp [isP] at h
  | .dict _, h => by simp [isP] at h
theorem j2_toksA : ∀ ds, ds ≠ [] → isPA ds = true → j2 (toksA ds) = joinL [32] (txts ds)
  | [], h, _ => absurd rfl h
  | [d], _, h => by
    have h : isP d = true := by simpa [isPA] using h
    have e : toksA [d] = toks d := by simp [toksA]
    rw [e, j2_toks d h]
    simp [txts, joinL]
  | d :: e :: ds, _, h => by
    have h' : isP d = true ∧ isPA (e :: ds) = true := by simpa [isPA] using h
    have g1 := toks_gd d h'.1
    have g2 := toksA_gd (e :: ds) (by simp) h'.2
    have q : toksA (d :: e :: ds) = toks d ++ toksA (e :: ds) := by rw [toksA]
    rw [q, j2_app g1.ne g1.la g2.ne g2.hd, j2_toks d h'.1, j2_toksA (e :: ds) (by simp) h'.2]
    simp [txts, joinL]
end
mutual
theorem toks_tk : ∀ d, isP d = true → ∀ t ∈ toks d, Tk t
  | .none, _, t, ht => by
    have : t = noneL := by simpa [toks] using ht
    rw [this]; exact .inr (.inr wd_none)
  | .int n, _, t, ht => by
    have : t = intL n := by simpa [toks] using ht
    rw [this]; exact .inr (.inr (wd_int n))
  | .str x, h, t, ht => by
    have : t = 39 :: tl x := by simpa [toks] using ht
    rw [this]; exact .inr (.inr (wd_str (by simpa [isP] using h)))
  | .tuple ds, h, t, ht => by
    have ht : t = [40] ∨ t ∈ toksA ds ∨ t = [41] := by simpa [toks] using ht
    rcases ht with z | z | z
    · exact .inl z
    · exact toksA_tk ds (by simpa [isP] using h) t z
    · exact .inr (.inl z)
  | .bool _, h, _, _ => by simp [isP] at h
  | .list _, h, _, _ => by simp [isP] at h
  | .dict _, h, _, _ => by simp [isP] at h
theorem toksA_tk : ∀ ds, isPA ds = true → ∀ t ∈ toksA ds, Tk t
  | [], _, t, ht => by simp [toksA] at ht
  | d :: ds, h, t, ht => by
    have h' : isP d = true ∧ isPA ds = true := by simpa [isPA] using h
    have ht : t ∈ toks d ∨ t ∈ toksA ds := by simpa [toksA] using ht
    rcases ht with z | z
    · exact toks_tk d h'.1 t z
    · exact toksA_tk ds h'.2 t z
end
/-- THE TEXT OF A PAPER: joined, then the two blanks gone -/
theorem text_law (d : PyData) (h : isP d = true) : r2 (r1 (joinL [32] (toks d))) = txt d := by
  rw [r1_join _ (toks_tk d h), r2_j1 _ (toks_tk d h), j2_toks d h]
end Mt

set_option Elab.async false
set_option linter.all false
set_option maxRecDepth 100000
set_option maxHeartbeats 4000000
namespace Mt
open PySem TL
open PySem.StrLaws (replL replL_hit replL_miss replL_nil)
/-! ### cutting into words -/
def wds (l : List Nat) : List (List Nat) := (spl [32] 0 [] l).filter (· ≠ [])
theorem spl_b (b : List Nat) : ∀ (a acc : List Nat), spl [32] 0 acc (a ++ 32 :: b) = spl [32] 0 acc a ++ spl [32] 0 [] b
  | [], acc => by
    rw [List.nil_append, spl_hit (by simp [pre]), spl_nil]
    rfl
  | c :: a, acc => by
    by_cases h : c = 32
    · subst h
      rw [List.cons_append, spl_hit (by simp [pre]), spl_hit (by simp [pre])]
      show acc :: spl [32] 0 [] (a ++ 32 :: b) = (acc :: spl [32] 0 [] a) ++ _
      rw [spl_b b a []]
      rfl
    · have e : ∀ r, pre [32] (c :: r) = false := fun r => pre_of_head _ _ h
      rw [List.cons_append, spl_miss (e _), spl_miss (e _), spl_b b a _]
theorem wds_b (a b : List Nat) : wds (a ++ 32 :: b) = wds a ++ wds b := by
  unfold wds
  rw [spl_b, List.filter_append]
theorem wds_nil : wds [] = [] := by simp [wds, spl_nil]
theorem wds_one {w : List Nat} (h : w ≠ []) (h2 : 32 ∉ w) : wds w = [w] := by
  unfold wds
  rw [spl_last1 h2]
  simp [h]
/-! ### the brackets set apart -/
def wide (Z W : List Nat) (l : List Nat) : List Nat := l.flatMap fun c => if c = 40 then Z else if c = 41 then W else [c]
theorem repl_flat (k : Nat) (Z : List Nat) : ∀ l : List Nat, replL [k] Z l = l.flatMap fun c => if c = k then Z else [c]
  | [] => replL_nil
  | c :: r => by
    by_cases h : c = k
    · subst h
      rw [replL_hit (by simp) (by simp), List.flatMap_cons, if_pos rfl]
      congr 1
      exact repl_flat c Z r
    · rw [replL_miss (by simp [h]), List.flatMap_cons, if_neg h, repl_flat k Z r]
      rfl
theorem wide_eq {Z W : List Nat} (hZ : 41 ∉ Z) (l : List Nat) : replL [41] W (replL [40] Z l) = wide Z W l := by
  rw [repl_flat, repl_flat, List.flatMap_assoc]
  unfold wide
  congr 1
  funext c
  by_cases h : c = 40
  · subst h
    simp only [if_pos]
    have : ∀ z : List Nat, 41 ∉ z → (z.flatMap fun c => if c = 41 then W else [c]) = z := by
      intro z
      induction z with
      | nil => intro _; rfl
      | cons c z ih =>
        intro h
        rw [List.flatMap_cons, if_neg (fun e => h (by rw [e]; exact List.mem_cons_self)), ih (fun e => h (List.mem_cons_of_mem _ e))]
        rfl
    exact this Z hZ
  · rw [if_neg h]
    simp [h]
theorem wide_app (Z W a b : List Nat) : wide Z W (a ++ b) = wide Z W a ++ wide Z W b := by
  unfold wide
  rw [List.flatMap_append]
theorem wide_free (Z W : List Nat) : ∀ {w : List Nat}, 40 ∉ w → 41 ∉ w → wide Z W w = w
  | [], _, _ => rfl
  | c :: w, h1, h2 => by
    have e : wide Z W (c :: w) = [c] ++ wide Z W w := by
      unfold wide
      rw [List.flatMap_cons, if_neg (fun e => h1 (by rw [e]; exact List.mem_cons_self)), if_neg (fun e => h2 (by rw [e]; exact List.mem_cons_self))]
    rw [e, wide_free Z W (fun e => h1 (List.mem_cons_of_mem _ e)) (fun e => h2 (List.mem_cons_of_mem _ e))]
    rfl
theorem wds_brk {Z W : List Nat} (J : List Nat) (h1 : ∀ x, wds (Z ++ x) = [40] :: wds x) (h2 : ∀ x, wds (x ++ W) = wds x ++ [[41]]) : wds (wide Z W (40 :: (J ++ [41]))) = [40] :: (wds (wide Z W J) ++ [[41]]) := by
  have e : wide Z W (40 :: (J ++ [41])) = Z ++ (wide Z W J ++ W) := by
    rw [← List.singleton_append, wide_app, wide_app]
    simp [wide]
  rw [e, h1, h2]
mutual
theorem wds_txt {Z W : List Nat} (h1 : ∀ x, wds (Z ++ x) = [40] :: wds x) (h2 : ∀ x, wds (x ++ W) = wds x ++ [[41]]) : ∀ d, isP d = true → wds (wide Z W (txt d)) = toks d
  | .none, _ => by
    have e : txt .none = noneL := by simp [txt]
    rw [e, wide_free _ _ (by decide) (by decide), wds_one (by decide) (by decide)]
    simp [toks]
  | .int n, _ => by
    have w := wd_int n
    rw [txt, wide_free _ _ w.2.2.1 w.2.2.2, wds_one w.1 w.2.1, toks]
  | .str x, h => by
    have w := wd_str (x := x) (by simpa [isP] using h)
    rw [txt, wide_free _ _ w.2.2.1 w.2.2.2, wds_one w.1 w.2.1, toks]
  | .tuple ds, h => by
    rw [txt, toks, wds_brk _ h1 h2, wds_txts h1 h2 ds (by simpa [isP] using h)]
  | .bool _, h => by simp [isP] at h
  | .list _, h => by simp [isP] at h
  | .dict _, h => by simp [isP] at h
theorem wds_txts {Z W : List Nat} (h1 : ∀ x, wds (Z ++ x) = [40] :: wds x) (h2 : ∀ x, wds (x ++ W) = wds x ++ [[41]]) : ∀ ds, isPA ds = true → wds (wide Z W (joinL [32] (txts ds))) = toksA ds
  | [], _ => by
    simp [txts, joinL, toksA, wide, wds_nil]
  | [d], h => by
    have h : isP d = true := by simpa [isPA] using h
    have e : toksA [d] = toks d := by simp [toksA]
    have e2 : joinL [32] (txts [d]) = txt d := by simp [txts, joinL]
    rw [e, e2, wds_txt h1 h2 d h]
  | d :: e :: ds, h => by
    have h' : isP d = true ∧ isPA (e :: ds) = true := by simpa [isPA] using h
    have q : toksA (d :: e :: ds) = toks d ++ toksA (e :: ds) := by rw [toksA]
    have e2 : joinL [32] (txts (d :: e :: ds)) = txt d ++ ([32] ++ joinL [32] (txts (e :: ds))) := by simp [txts, joinL]
    rw [q, e2, wide_app, wide_app]
    have e3 : wide Z W [32] = [32] := wide_free _ _ (by decide) (by decide)
    rw [e3, List.singleton_append, wds_b, wds_txt h1 h2 d h'.1, wds_txts h1 h2 (e :: ds) h'.2]
end
def lexP (l : List Nat) : List (List Nat) := spl [32] 0 [] (replL [41] [32, 41, 32] (replL [40] [32, 40, 32] l))
def lexL (l : List Nat) : List (List Nat) := spl [32] 0 [] (replL [41] [32, 41] (replL [40] [40, 32] l))
theorem lexP_txt (d : PyData) (h : isP d = true) : (lexP (txt d)).filter (· ≠ []) = toks d := by
  unfold lexP
  rw [wide_eq (by decide)]
  refine wds_txt (fun x => ?_) (fun x => ?_) d h
  · show wds ([] ++ 32 :: ([40] ++ 32 :: x)) = _
    rw [wds_b, wds_b, wds_nil, wds_one (w := [40]) (by decide) (by decide)]
    rfl
  · show wds (x ++ 32 :: ([41] ++ 32 :: [])) = _
    rw [wds_b, wds_b, wds_nil, wds_one (w := [41]) (by decide) (by decide)]
    rfl
theorem lexL_txt (d : PyData) (h : isP d = true) : (lexL (txt d)).filter (· ≠ []) = toks d := by
  unfold lexL
  rw [wide_eq (by decide)]
  refine wds_txt (fun x => ?_) (fun x => ?_) d h
  · show wds ([40] ++ 32 :: x) = _
    rw [wds_b, wds_one (w := [40]) (by decide) (by decide)]
    rfl
  · show wds (x ++ 32 :: [41]) = _
    rw [wds_b, wds_one (w := [41]) (by decide) (by decide)]
/-! ### words to papers: the open lists, the innermost first -/
abbrev Part := List Nat → Option PyData
def step (part : Part) (w : List Nat) (st : List (List PyData)) : Option (List (List PyData)) :=
  if w = [40] then some ([] :: st)
  else if w = [41] then (match st with
    | top :: nxt :: r => some ((nxt ++ [.tuple top]) :: r)
    | _ => none)
  else if w = [] then some st
  else match part w with
    | none => none
    | some x => (match st with
      | top :: r => some ((top ++ [x]) :: r)
      | [] => none)
def run (part : Part) : List (List Nat) → List (List PyData) → Option (List (List PyData))
  | [], st => some st
  | w :: ws, st => match step part w st with
    | none => none
    | some st' => run part ws st'
theorem run_app (part : Part) : ∀ (a b : List (List Nat)) (st : List (List PyData)), run part (a ++ b) st = match run part a st with | none => none | some s => run part b s
  | [], b, st => rfl
  | w :: a, b, st => by
    rw [List.cons_append]
    show (match step part w st with | none => none | some st' => run part (a ++ b) st') = (match (match step part w st with | none => none | some st' => run part a st') with | none => none | some s => run part b s)
    cases step part w st with
    | none => rfl
    | some s => exact run_app part a b s
theorem run_filter (part : Part) : ∀ (ws : List (List Nat)) (st : List (List PyData)), run part (ws.filter (· ≠ [])) st = run part ws st
  | [], _ => rfl
  | w :: ws, st => by
    by_cases h : w = []
    · subst h
      have e : step part [] st = some st := by unfold step; rw [if_neg (by decide), if_neg (by decide), if_pos rfl]
      rw [List.filter_cons_of_neg (by simp), run_filter part ws st]
      show _ = (match step part [] st with | none => none | some st' => run part ws st')
      rw [e]
    · rw [List.filter_cons_of_pos (by simp [h])]
      show (match step part w st with | none => none | some st' => run part (ws.filter (· ≠ [])) st') = (match step part w st with | none => none | some st' => run part ws st')
      cases step part w st with
      | none => rfl
      | some s => exact run_filter part ws s
theorem step_word {part : Part} {w : List Nat} {x : PyData} {top : List PyData} {r : List (List PyData)} (hw : Wd w) (hp : part w = some x) : step part w (top :: r) = some ((top ++ [x]) :: r) := by
  unfold step
  rw [if_neg (fun e => hw.2.2.1 (by rw [e]; exact List.mem_cons_self)), if_neg (fun e => hw.2.2.2 (by rw [e]; exact List.mem_cons_self)), if_neg hw.1, hp]
theorem run_one {part : Part} {w : List Nat} {st st' : List (List PyData)} (ws : List (List Nat)) (h : step part w st = some st') : run part (w :: ws) st = run part ws st' := by
  show (match step part w st with | none => none | some st' => run part ws st') = _
  rw [h]
/-- a part that reads each word back -/
def Back (part : Part) : Prop := (part noneL = some .none) ∧ (∀ x : Str, plain (tl x) = true → part (39 :: tl x) = some (.str x)) ∧ ∀ n : Int, n.natAbs < 10 ^ 40 → part (intL n) = some (.int n)
mutual
theorem run_toks {part : Part} (B : Back part) : ∀ (d : PyData), isP d = true → okI d = true → ∀ (ws : List (List Nat)) (top : List PyData) (r : List (List PyData)), run part (toks d ++ ws) (top :: r) = run part ws ((top ++ [d]) :: r)
  | .none, _, _, ws, top, r => by
    have e : toks .none = [noneL] := by simp [toks]
    rw [e, List.singleton_append, run_one ws (step_word wd_none B.1)]
  | .int n, _, h, ws, top, r => by
    rw [toks, List.singleton_append, run_one ws (step_word (wd_int n) (B.2.2 n (by simpa [okI] using h)))]
  | .str x, h, _, ws, top, r => by
    have h' : plain (tl x) = true := by simpa [isP] using h
    rw [toks, List.singleton_append, run_one ws (step_word (wd_str h') (B.2.1 x h'))]
  | .tuple ds, h, h2, ws, top, r => by
    have e : step part [40] (top :: r) = some ([] :: top :: r) := by unfold step; rw [if_pos rfl]
    have e2 : step part [41] (ds :: top :: r) = some ((top ++ [.tuple ds]) :: r) := by unfold step; rw [if_neg (by decide), if_pos rfl]
    rw [toks, List.cons_append, run_one _ e, List.append_assoc, run_toksA B ds (by simpa [isP] using h) (by simpa [okI] using h2), List.nil_append, List.singleton_append, run_one _ e2]
  | .bool _, h, _, _, _, _ => by simp [isP] at h
  | .list _, h, _, _, _, _ => by simp [isP] at h
  | .dict _, h, _, _, _, _ => by simp [isP] at h
theorem run_toksA {part : Part} (B : Back part) : ∀ (ds : List PyData), isPA ds = true → okIA ds = true → ∀ (ws : List (List Nat)) (top : List PyData) (r : List (List PyData)), run part (toksA ds ++ ws) (top :: r) = run part ws ((top ++ ds) :: r)
  | [], _, _, ws, top, r => by simp [toksA]
  | d :: ds, h, h2, ws, top, r => by
    have h' : isP d = true ∧ isPA ds = true := by simpa [isPA] using h
    have h2' : okI d = true ∧ okIA ds = true := by simpa [okIA] using h2
    rw [toksA, List.append_assoc, run_toks B d h'.1 h2'.1, run_toksA B ds h'.2 h2'.2, List.append_assoc]
    rfl
end
/-- THE TEXT OF A PAPER READ -/
theorem run_txt {part : Part} {ws : List (List Nat)} (B : Back part) (d : PyData) (h : isP d = true) (h2 : okI d = true) (hw : ws.filter (· ≠ []) = toks d) : run part ws [[]] = some [[d]] := by
  have e := run_toks B d h h2 [] [] []
  rw [List.append_nil, List.nil_append] at e
  rw [← run_filter, hw, e]
  rfl
/-! ### what a run leaves -/
/-- a part's results: small, no wider than the word, of depth 0 -/
def Tame (part : Part) : Prop := ∀ w x, part w = some x → okI x = true ∧ tw x ≤ w.length + 1 ∧ x.depth = 0
def twS : List (List PyData) → Nat
  | [] => 0
  | l :: r => twA l + 4 + twS r
def wsum : List (List Nat) → Nat
  | [] => 0
  | w :: r => w.length + 1 + wsum r
def cnt (k : Nat) : List (List Nat) → Nat
  | [] => 0
  | w :: r => (if w = [k] then 1 else 0) + cnt k r
theorem twA_app : ∀ a b : List PyData, twA (a ++ b) = twA a + twA b
  | [], b => by simp [twA]
  | d :: a, b => by rw [List.cons_append, twA, twA, twA_app a b]; omega
theorem okIA_app : ∀ a b : List PyData, okIA (a ++ b) = (okIA a && okIA b)
  | [], b => by simp [okIA]
  | d :: a, b => by rw [List.cons_append, okIA, okIA, okIA_app a b, Bool.and_assoc]
theorem depthAll_app : ∀ a b : List PyData, PyData.depthAll (a ++ b) = max (PyData.depthAll a) (PyData.depthAll b)
  | [], b => by simp [PyData.depthAll]
  | d :: a, b => by rw [List.cons_append, PyData.depthAll, PyData.depthAll, depthAll_app a b]; omega
structure Ok (c m k : Nat) (st : List (List PyData)) : Prop where
  ok : ∀ l ∈ st, okIA l = true ∧ PyData.depthAll l ≤ c
  w : twS st ≤ m + 4 + 2 * (st.length - 1)
  n : st.length + c = 1 + k
  pos : 1 ≤ st.length
theorem step_ok {part : Part} (T : Tame part) {w : List Nat} {st st' : List (List PyData)} {c m k : Nat} (h : step part w st = some st') (O : Ok c m k st) : ∃ c', Ok c' (m + (w.length + 1)) (k + if w = [40] then 1 else 0) st' := by
  unfold step at h
  by_cases h1 : w = [40]
  · rw [if_pos h1] at h
    cases h
    have hw : w.length = 1 := by rw [h1]; rfl
    refine ⟨c, ⟨fun l hl => ?_, ?_, ?_, ?_⟩⟩
    · rcases List.mem_cons.mp hl with e | e
      · rw [e]; exact ⟨by simp [okIA], by simp [PyData.depthAll]⟩
      · exact O.ok l e
    · have := O.w
      have hp := O.pos
      have e : twS ([] :: st) = 4 + twS st := by simp [twS, twA]
      rw [e, List.length_cons, hw]
      omega
    · have := O.n
      rw [if_pos h1, List.length_cons]
      omega
    · rw [List.length_cons]; omega
  rw [if_neg h1] at h
  by_cases h2 : w = [41]
  · rw [if_pos h2] at h
    have hw : w.length = 1 := by rw [h2]; rfl
    cases st with
    | nil => cases h
    | cons top st =>
      cases st with
      | nil => cases h
      | cons nxt r =>
        have h := Option.some.inj h
        subst h
        have o1 := O.ok top List.mem_cons_self
        have o2 := O.ok nxt (List.mem_cons_of_mem _ List.mem_cons_self)
        refine ⟨c + 1, ⟨fun l hl => ?_, ?_, ?_, ?_⟩⟩
        · rcases List.mem_cons.mp hl with e | e
          · rw [e, okIA_app, depthAll_app]
            simp only [okIA, okI, PyData.depthAll, PyData.depth, Bool.and_true, o1.1, o2.1]
            exact ⟨trivial, by have := o1.2; have := o2.2; omega⟩
          · have := O.ok l (List.mem_cons_of_mem _ (List.mem_cons_of_mem _ e))
            exact ⟨this.1, by omega⟩
        · have := O.w
          simp only [twS, twA_app, twA, tw, List.length_cons] at this ⊢
          omega
        · have := O.n
          simp only [List.length_cons] at this ⊢
          rw [if_neg h1]
          omega
        · simp only [List.length_cons]; omega
  rw [if_neg h2] at h
  by_cases h3 : w = []
  · rw [if_pos h3] at h
    cases h
    refine ⟨c, ⟨O.ok, ?_, ?_, O.pos⟩⟩
    · have := O.w; omega
    · have := O.n; rw [if_neg h1]; omega
  rw [if_neg h3] at h
  cases hp : part w with
  | none => rw [hp] at h; cases h
  | some x =>
    rw [hp] at h
    obtain ⟨t1, t2, t3⟩ := T w x hp
    cases st with
    | nil => cases h
    | cons top r =>
      have h := Option.some.inj h
      subst h
      have o1 := O.ok top List.mem_cons_self
      refine ⟨c, ⟨fun l hl => ?_, ?_, ?_, ?_⟩⟩
      · rcases List.mem_cons.mp hl with e | e
        · rw [e, okIA_app, depthAll_app]
          simp only [okIA, PyData.depthAll, Bool.and_true, o1.1, t1, t3]
          exact ⟨trivial, by have := o1.2; omega⟩
        · exact O.ok l (List.mem_cons_of_mem _ e)
      · have := O.w
        simp only [twS, twA_app, twA, List.length_cons] at this ⊢
        omega
      · have := O.n
        simp only [List.length_cons] at this ⊢
        rw [if_neg h1]
        omega
      · simp only [List.length_cons]; omega
theorem run_ok {part : Part} (T : Tame part) : ∀ (ws : List (List Nat)) {st st' : List (List PyData)} {c m k : Nat}, run part ws st = some st' → Ok c m k st → ∃ c', Ok c' (m + wsum ws) (k + cnt 40 ws) st'
  | [], st, st', c, m, k, h, O => by
    cases h
    exact ⟨c, by simpa [wsum, cnt] using O⟩
  | w :: ws, st, st', c, m, k, h, O => by
    have h : (match step part w st with | none => none | some s => run part ws s) = some st' := h
    cases hs : step part w st with
    | none => rw [hs] at h; cases h
    | some s =>
      rw [hs] at h
      obtain ⟨c1, O1⟩ := step_ok T hs O
      obtain ⟨c2, O2⟩ := run_ok T ws h O1
      refine ⟨c2, ?_⟩
      have e1 : m + wsum (w :: ws) = m + (w.length + 1) + wsum ws := by simp only [wsum]; omega
      have e2 : k + cnt 40 (w :: ws) = k + (if w = [40] then 1 else 0) + cnt 40 ws := by simp only [cnt]; omega
      rw [e1, e2]
      exact O2
theorem ok_start : Ok 0 0 0 [[]] := ⟨fun l hl => by
  have : l = [] := by simpa using hl
  rw [this]; simp [okIA, PyData.depthAll], by simp [twS, twA], by simp, by simp⟩
theorem run_res {part : Part} (T : Tame part) {ws : List (List Nat)} {d : PyData} (h : run part ws [[]] = some [[d]]) : okI d = true ∧ tw d ≤ wsum ws ∧ d.depth ≤ cnt 40 ws := by
  obtain ⟨c, O⟩ := run_ok T ws h ok_start
  have o := O.ok [d] List.mem_cons_self
  have w := O.w
  have n := O.n
  simp only [okIA, Bool.and_true, PyData.depthAll] at o
  simp only [twS, twA, List.length_cons, List.length_nil] at w n
  refine ⟨o.1, by omega, ?_⟩
  have := o.2
  omega
end Mt

set_option Elab.async false
set_option linter.all false
set_option maxRecDepth 100000
set_option maxHeartbeats 4000000
namespace Mt
open PySem TL
open PySem.NumText (digitsVal AllDigits)
/-! ### words that are numbers -/
def figs : List Nat → List Nat
  | 45 :: r => r
  | w => w
def digit (c : Nat) : Bool := decide (48 ≤ c) && decide (c ≤ 57)
def numOf (w : List Nat) : Int := if w.head? = some 45 then -((digitsVal (figs w) : Nat) : Int) else ((digitsVal (figs w) : Nat) : Int)
def badFigs (w : List Nat) : Bool := decide (figs w = []) || decide (40 < (figs w).length) || !(figs w).all digit
def intP (w : List Nat) : Option Int := if badFigs w = true then none else if (figs w).head? = some 48 ∧ w ≠ [48] then none else some (numOf w)
def partP (w : List Nat) : Option PyData := if w = noneL then some .none else if w.head? = some 39 then some (.str ⟨w.tail.toArray⟩) else (intP w).map .int
def partL (w : List Nat) : Option PyData :=
  if w.head? = some 39 then (if 40 ∈ w ∨ 41 ∈ w then none else some (.str ⟨w.tail.toArray⟩))
  else if w = noneL then some .none
  else if badFigs w = true then none
  else if intL (numOf w) = w then some (.int (numOf w)) else none
theorem figs_min (r : List Nat) : figs (45 :: r) = r := rfl
theorem figs_id {w : List Nat} (h : w.head? ≠ some 45) : figs w = w := by
  unfold figs
  split
  · exact absurd rfl h
  · rfl
theorem num_head : ∀ m : Nat, m ≠ 0 → (numL m).head? ≠ some 48 := fun m => by
  induction m using Nat.strongRecOn with
  | _ m ih =>
    intro h
    by_cases h10 : m < 10
    · rw [numL_lt h10]
      simp only [List.head?_cons, ne_eq, Option.some.injEq]
      omega
    · rw [numL_step (by omega), List.head?_append]
      have := ih (m / 10) (by omega) (by omega)
      cases hh : (numL (m / 10)).head? with
      | none => exact absurd (List.head?_eq_none_iff.mp hh) (numL_ne _)
      | some y => rw [hh] at this; simpa using this
theorem num_no45 (m : Nat) : (numL m).head? ≠ some 45 := fun h => by
  have : 45 ∈ numL m := List.mem_of_head? h
  exact numL_free (by omega) this
theorem digs_all {l : List Nat} (h : AllDigits l) : l.all digit = true := List.all_eq_true.mpr fun c hc => by
  have := h c hc
  simp [digit, this.1, this.2]
theorem all_digs {l : List Nat} (h : l.all digit = true) : AllDigits l := fun c hc => by
  have := List.all_eq_true.mp h c hc
  simpa [digit] using this
theorem figs_int (n : Int) : figs (intL n) = numL n.natAbs := by
  unfold intL
  split
  · rfl
  · exact figs_id (num_no45 _)
theorem numOf_int (n : Int) : numOf (intL n) = n := by
  unfold numOf
  rw [figs_int, numL_val]
  unfold intL
  split
  · rename_i h
    rw [if_pos (by simp [h])]
    omega
  · rename_i h
    rw [if_neg (num_no45 _)]
    omega
theorem bad_int {n : Int} (h : n.natAbs < 10 ^ 40) : badFigs (intL n) = false := by
  unfold badFigs
  rw [figs_int, digs_all (numL_digits _)]
  have := numL_len (n := n.natAbs) (k := 40) (by decide) h
  have ne := numL_ne n.natAbs
  simp [ne]
  omega
theorem int_no39 (n : Int) : (intL n).head? ≠ some 39 := fun h => intL_free (by omega) (List.mem_of_head? h)
theorem int_noNone (n : Int) : intL n ≠ noneL := fun h => intL_free (n := n) (s := 110) (by omega) (by rw [h]; decide)
theorem back_P : Back partP := by
  refine ⟨by unfold partP; rw [if_pos rfl], fun x _ => ?_, fun n hn => ?_⟩
  · unfold partP
    rw [if_neg (by unfold noneL; simp), if_pos (show (39 :: tl x).head? = some 39 from rfl)]
    rfl
  · unfold partP
    rw [if_neg (int_noNone n), if_neg (int_no39 n)]
    unfold intP
    rw [if_neg (by rw [bad_int hn]; exact Bool.false_ne_true), if_neg, numOf_int]
    · rfl
    · rw [figs_int]
      rintro ⟨h1, h2⟩
      by_cases h0 : n.natAbs = 0
      · have : n = 0 := by omega
        subst this
        exact h2 (by decide +kernel)
      · exact num_head _ h0 h1
theorem back_L : Back partL := by
  refine ⟨by unfold partL; rw [if_neg (by decide), if_pos rfl], fun x hx => ?_, fun n hn => ?_⟩
  · have p := plain_mem hx
    unfold partL
    rw [if_pos (show (39 :: tl x).head? = some 39 from rfl), if_neg]
    · rfl
    · rintro (h | h) <;> rcases List.mem_cons.mp h with z | z
      · omega
      · exact (p _ z).2.1 rfl
      · omega
      · exact (p _ z).2.2.1 rfl
  · unfold partL
    rw [if_neg (int_no39 n), if_neg (int_noNone n), if_neg (by rw [bad_int hn]; exact Bool.false_ne_true), numOf_int, if_pos rfl]
theorem val_lt : ∀ (l : List Nat) (a : Nat), AllDigits l → l.foldl (fun acc c => acc * 10 + (c - 48)) a < (a + 1) * 10 ^ l.length
  | [], a, _ => by simp
  | c :: l, a, h => by
    have hc := h c List.mem_cons_self
    have ih := val_lt l (a * 10 + (c - 48)) fun d hd => h d (List.mem_cons_of_mem _ hd)
    rw [List.foldl_cons, List.length_cons]
    refine Nat.lt_of_lt_of_le ih ?_
    rw [Nat.pow_succ, Nat.mul_comm (10 ^ l.length) 10, ← Nat.mul_assoc]
    exact Nat.mul_le_mul_right _ (by omega)
theorem digits_lt {l : List Nat} (h : AllDigits l) : digitsVal l < 10 ^ l.length := by
  have := val_lt l 0 h
  simpa [digitsVal] using this
theorem numL_short {l : List Nat} (h : AllDigits l) (h0 : l ≠ []) : (numL (digitsVal l)).length ≤ l.length :=
  numL_len (List.length_pos_iff.mpr h0) (digits_lt h)
theorem tame_num {w : List Nat} (h : badFigs w = false) : okI (.int (numOf w)) = true ∧ tw (.int (numOf w)) ≤ w.length + 1 := by
  have hb : (figs w ≠ [] ∧ (figs w).length ≤ 40) ∧ (figs w).all digit = true := by simpa [badFigs] using h
  obtain ⟨⟨h1, h2⟩, h3⟩ := hb
  have hd := all_digs h3
  have lt := digits_lt hd
  have sh := numL_short hd h1
  have lt40 : digitsVal (figs w) < 10 ^ 40 := Nat.lt_of_lt_of_le lt (Nat.pow_le_pow_right (by decide) h2)
  have pos : 0 < (figs w).length := List.length_pos_iff.mpr h1
  constructor
  · have : (numOf w).natAbs < 10 ^ 40 := by
      unfold numOf
      split <;> omega
    simp [okI, this]
  · have key : (intL (numOf w)).length ≤ w.length := by
      unfold numOf
      by_cases hm : w.head? = some 45
      · rw [if_pos hm]
        obtain ⟨r, hr⟩ : ∃ r, w = 45 :: r := by
          cases w with
          | nil => simp at hm
          | cons c r => exact ⟨r, by simp at hm; rw [hm]⟩
        subst hr
        rw [figs_min] at *
        unfold intL
        split
        · rw [List.length_cons, List.length_cons]
          have : (-((digitsVal r : Nat) : Int)).natAbs = digitsVal r := by omega
          rw [this]; omega
        · have : (-((digitsVal r : Nat) : Int)).natAbs = digitsVal r := by omega
          rw [this, List.length_cons]; omega
      · rw [if_neg hm]
        rw [figs_id hm] at *
        unfold intL
        rw [if_neg (by omega)]
        have : (((digitsVal w : Nat) : Int)).natAbs = digitsVal w := by omega
        rw [this]; exact sh
    simp only [tw]
    omega
theorem tame_str {w : List Nat} (h : w.head? = some 39) : tw (.str ⟨w.tail.toArray⟩) ≤ w.length + 1 := by
  cases w with
  | nil => simp at h
  | cons c r =>
    simp only [tw, List.tail_cons, List.length_cons]
    show r.length + 2 ≤ _
    omega
theorem tame_P : Tame partP := fun w x h => by
  unfold partP at h
  split at h
  · rename_i e
    cases h
    rw [e]
    exact ⟨by simp [okI], by simp [tw, noneL], by simp [PyData.depth]⟩
  split at h
  · rename_i e
    cases h
    exact ⟨by simp [okI], tame_str e, by simp [PyData.depth]⟩
  · unfold intP at h
    split at h
    · cases h
    rename_i hb
    split at h
    · cases h
    cases h
    have := tame_num (by simpa using hb)
    exact ⟨this.1, this.2, by simp [PyData.depth]⟩
theorem tame_L : Tame partL := fun w x h => by
  unfold partL at h
  split at h
  · rename_i e
    split at h
    · cases h
    cases h
    exact ⟨by simp [okI], tame_str e, by simp [PyData.depth]⟩
  split at h
  · rename_i e
    cases h
    rw [e]
    exact ⟨by simp [okI], by simp [tw, noneL], by simp [PyData.depth]⟩
  split at h
  · cases h
  rename_i hb
  split at h
  · cases h
    have := tame_num (by simpa using hb)
    exact ⟨this.1, this.2, by simp [PyData.depth]⟩
  · cases h
/-! ### how much there is in a text -/
theorem wsum_spl : ∀ (l acc : List Nat), wsum (spl [32] 0 acc l) = acc.length + l.length + 1
  | [], acc => by simp [spl_nil, wsum]
  | c :: r, acc => by
    by_cases h : c = 32
    · subst h
      rw [spl_hit (by simp [pre])]
      show acc.length + 1 + wsum (spl [32] 0 [] r) = _
      rw [wsum_spl r []]
      simp only [List.length_nil, List.length_cons]
      omega
    · rw [spl_miss (pre_of_head _ _ h), wsum_spl r _]
      simp only [List.length_append, List.length_cons, List.length_nil]
      omega
theorem cnt_spl : ∀ (l acc : List Nat), cnt 40 (spl [32] 0 acc l) ≤ acc.count 40 + l.count 40
  | [], acc => by
    rw [spl_nil]
    simp only [cnt]
    split
    · rename_i h; rw [h]; simp
    · omega
  | c :: r, acc => by
    by_cases h : c = 32
    · subst h
      rw [spl_hit (by simp [pre])]
      show (if acc = [40] then 1 else 0) + cnt 40 (spl [32] 0 [] r) ≤ _
      have ih := cnt_spl r []
      have e : (32 :: r).count 40 = r.count 40 := by simp [List.count_cons]
      rw [e]
      rw [List.count_nil] at ih
      split
      · rename_i h; rw [h]; simp; omega
      · omega
    · rw [spl_miss (pre_of_head _ _ h)]
      have ih := cnt_spl r (acc ++ [c])
      rw [List.count_append] at ih
      have e : (c :: r).count 40 = [c].count 40 + r.count 40 := by rw [← List.count_append]; rfl
      rw [e]
      omega
theorem wide_len {Z W : List Nat} (hZ : Z.length ≤ 3) (hW : W.length ≤ 3) : ∀ l : List Nat, (wide Z W l).length ≤ 3 * l.length
  | [] => by simp [wide]
  | c :: r => by
    have ih := wide_len hZ hW r
    have e : wide Z W (c :: r) = (if c = 40 then Z else if c = 41 then W else [c]) ++ wide Z W r := by simp [wide]
    rw [e, List.length_append, List.length_cons]
    split
    · omega
    split
    · omega
    · simp only [List.length_cons, List.length_nil]; omega
theorem wide_cnt {Z W : List Nat} (hZ : Z.count 40 = 1) (hW : W.count 40 = 0) : ∀ l : List Nat, (wide Z W l).count 40 = l.count 40
  | [] => by simp [wide]
  | c :: r => by
    have ih := wide_cnt hZ hW r
    have e : wide Z W (c :: r) = (if c = 40 then Z else if c = 41 then W else [c]) ++ wide Z W r := by simp [wide]
    have e2 : (c :: r).count 40 = [c].count 40 + r.count 40 := by rw [← List.count_append]; rfl
    rw [e, List.count_append, ih, e2]
    congr 1
    split
    · rename_i h; rw [h, hZ]; rfl
    split
    · rename_i h; rw [h, hW]; rfl
    · rfl
theorem lexP_wsum (l : List Nat) : wsum (lexP l) ≤ 3 * l.length + 1 := by
  unfold lexP
  rw [wide_eq (by decide), wsum_spl]
  have := wide_len (Z := [32, 40, 32]) (W := [32, 41, 32]) (by decide) (by decide) l
  simp only [List.length_nil]
  omega
theorem lexL_wsum (l : List Nat) : wsum (lexL l) ≤ 3 * l.length + 1 := by
  unfold lexL
  rw [wide_eq (by decide), wsum_spl]
  have := wide_len (Z := [40, 32]) (W := [32, 41]) (by decide) (by decide) l
  simp only [List.length_nil]
  omega
theorem lexP_cnt (l : List Nat) : cnt 40 (lexP l) ≤ l.count 40 := by
  unfold lexP
  rw [wide_eq (by decide)]
  have := cnt_spl (wide [32, 40, 32] [32, 41, 32] l) []
  rw [wide_cnt (by decide) (by decide)] at this
  simpa using this
theorem lexL_cnt (l : List Nat) : cnt 40 (lexL l) ≤ l.count 40 := by
  unfold lexL
  rw [wide_eq (by decide)]
  have := cnt_spl (wide [40, 32] [32, 41] l) []
  rw [wide_cnt (by decide) (by decide)] at this
  simpa using this
theorem len_wsum : ∀ ws : List (List Nat), ws.length ≤ wsum ws
  | [] => Nat.le_refl _
  | w :: ws => by have := len_wsum ws; simp only [List.length_cons, wsum]; omega
/-! ### what is read -/
def Reads (t : List Nat) (d : PyData) : Prop := isP d = true ∧ okI d = true ∧ txt d = t
theorem Reads.runP {t : List Nat} {d : PyData} (h : Reads t d) : run partP (lexP t) [[]] = some [[d]] := by
  obtain ⟨h1, h2, h3⟩ := h
  subst h3
  exact run_txt back_P d h1 h2 (lexP_txt d h1)
theorem Reads.runL {t : List Nat} {d : PyData} (h : Reads t d) : run partL (lexL t) [[]] = some [[d]] := by
  obtain ⟨h1, h2, h3⟩ := h
  subst h3
  exact run_txt back_L d h1 h2 (lexL_txt d h1)
theorem Reads.uniq {t : List Nat} {d e : PyData} (h : Reads t d) (h' : Reads t e) : d = e := by
  have := h.runP.symm.trans h'.runP
  injection this with this
  injection this with this _
  injection this
theorem readP {t : List Nat} {d : PyData} (h : run partP (lexP t) [[]] = some [[d]]) (h1 : isP d = true) (h2 : txt d = t) : Reads t d := ⟨h1, (run_res tame_P h).1, h2⟩
theorem readL {t : List Nat} {d : PyData} (h : run partL (lexL t) [[]] = some [[d]]) (h1 : isP d = true) (h2 : txt d = t) : Reads t d := ⟨h1, (run_res tame_L h).1, h2⟩
mutual
theorem no10 : ∀ d, isP d = true → 10 ∉ txt d
  | .none, _ => by simp [txt, noneL]
  | .int n, _ => by rw [txt]; exact intL_free (by omega)
  | .str x, h => by
    have p := plain_mem (l := tl x) (by simpa [isP] using h)
    rw [txt]
    intro z
    rcases List.mem_cons.mp z with z | z
    · omega
    · exact (p _ z).2.2.2 rfl
  | .tuple ds, h => by
    have ih := no10A ds (by simpa [isP] using h)
    rw [txt]
    simp [ih]
  | .bool _, h => by simp [isP] at h
  | .list _, h => by simp [isP] at h
  | .dict _, h => by simp [isP] at h
theorem no10A : ∀ ds, isPA ds = true → 10 ∉ joinL [32] (txts ds)
  | [], _ => by simp [txts, joinL]
  | [d], h => by
    have h : isP d = true := by simpa [isPA] using h
    simpa [txts, joinL] using no10 d h
  | d :: e :: ds, h => by
    have h' : isP d = true ∧ isPA (e :: ds) = true := by simpa [isPA] using h
    have i1 := no10 d h'.1
    have i2 := no10A (e :: ds) h'.2
    simp only [txts, joinL] at i2 ⊢
    simp [i1, i2]
end
/-! ### lengths -/
mutual
theorem txt_len : ∀ d, isP d = true → (txt d).length + 1 ≤ tw d
  | .none, _ => by simp [txt, tw, noneL]
  | .int n, _ => by simp [txt, tw]
  | .str x, _ => by simp [txt, tw]
  | .tuple ds, h => by
    have ih := txts_len ds (by simpa [isP] using h)
    simp only [txt, tw, List.length_cons, List.length_append, List.length_nil]
    omega
  | .bool _, h => by simp [isP] at h
  | .list _, h => by simp [isP] at h
  | .dict _, h => by simp [isP] at h
theorem txts_len : ∀ ds, isPA ds = true → (joinL [32] (txts ds)).length ≤ twA ds
  | [], _ => by simp [txts, joinL, twA]
  | [d], h => by
    have h : isP d = true := by simpa [isPA] using h
    have := txt_len d h
    simp only [txts, joinL, twA]
    omega
  | d :: e :: ds, h => by
    have h' : isP d = true ∧ isPA (e :: ds) = true := by simpa [isPA] using h
    have i1 := txt_len d h'.1
    have i2 := txts_len (e :: ds) h'.2
    have q : joinL [32] (txts (d :: e :: ds)) = txt d ++ ([32] ++ joinL [32] (txts (e :: ds))) := by simp [txts, joinL]
    have q2 : twA (d :: e :: ds) = tw d + twA (e :: ds) := by rw [twA]
    rw [q, q2, List.length_append, List.length_append, List.length_singleton]
    omega
end
theorem tw_pos : ∀ d, 1 ≤ tw d
  | .none => by simp [tw]
  | .bool _ => by simp [tw]
  | .int _ => by simp [tw]
  | .str _ => by simp [tw]
  | .list _ => by simp only [tw]; omega
  | .tuple _ => by simp only [tw]; omega
  | .dict _ => by simp [tw]
theorem len_twA : ∀ ds : List PyData, ds.length ≤ twA ds
  | [] => by simp [twA]
  | d :: ds => by
    have := tw_pos d
    have := len_twA ds
    simp only [List.length_cons, twA]
    omega
theorem wsum_app : ∀ a b : List (List Nat), wsum (a ++ b) = wsum a + wsum b
  | [], b => by simp [wsum]
  | w :: a, b => by rw [List.cons_append, wsum, wsum, wsum_app a b]; omega
mutual
theorem toks_wsum : ∀ d, isP d = true → wsum (toks d) = tw d
  | .none, _ => by simp [toks, tw, wsum, noneL]
  | .int n, _ => by simp [toks, tw, wsum]
  | .str x, _ => by simp [toks, tw, wsum]
  | .tuple ds, h => by
    have ih := toksA_wsum ds (by simpa [isP] using h)
    simp only [toks, tw, wsum, wsum_app, List.length_cons, List.length_nil]
    omega
  | .bool _, h => by simp [isP] at h
  | .list _, h => by simp [isP] at h
  | .dict _, h => by simp [isP] at h
theorem toksA_wsum : ∀ ds, isPA ds = true → wsum (toksA ds) = twA ds
  | [], _ => by simp [toksA, wsum, twA]
  | d :: ds, h => by
    have h' : isP d = true ∧ isPA ds = true := by simpa [isPA] using h
    rw [toksA, wsum_app, toks_wsum d h'.1, toksA_wsum ds h'.2, twA]
end
end Mt

set_option Elab.async false
set_option linter.all false
set_option maxRecDepth 100000
set_option maxHeartbeats 4000000
namespace K8
open PySem PySem.Spec PyProof.Rows L2
/-! ### the text by places -/
def topS (i : Nat) : Stmt := PySem.Challenge.pw_plugcaller_k80_papers_and_their_texts.main.body.getD i (.Pass ⟨0, 0, 0, 0⟩)
abbrev s_word_of : Stmt := topS 9
abbrev s_paper_text : Stmt := topS 10
abbrev s_integer_of : Stmt := topS 11
abbrev s_part_of : Stmt := topS 12
abbrev s_paper_in : Stmt := topS 13
abbrev s_read_paper : Stmt := topS 14
abbrev s_is_plain_word : Stmt := topS 15
abbrev s_is_paper : Stmt := topS 16
abbrev s_law_draw : Stmt := topS 18
abbrev s_law_pick : Stmt := topS 19
abbrev s_law_same : Stmt := topS 20
abbrev s_law_deck : Stmt := topS 21
abbrev s_law_leaf : Stmt := topS 22
abbrev s_law_paper : Stmt := topS 23
abbrev s_law_deep : Stmt := topS 24
abbrev s_law_is_due : Stmt := topS 25
abbrev s_law_paper_text : Stmt := topS 26
abbrev s_law_read_word : Stmt := topS 27
abbrev s_law_read : Stmt := topS 28
abbrev s_law_bent : Stmt := topS 29
abbrev s_law_changed : Stmt := topS 30
abbrev s_law_is_short : Stmt := topS 31
abbrev s_law_heard : Stmt := topS 32
abbrev s_law : Stmt := topS 33
theorem c_word_of : FnScope ["thing"] ["thing"] (defScope s_word_of) := ⟨rfl, rfl, rfl, by decide +kernel, rfl, by decide +kernel, by decide +kernel⟩
theorem c_paper_text : FnScope ["thing", "found", "waiting", "one"] ["thing"] (defScope s_paper_text) := ⟨rfl, rfl, rfl, by decide +kernel, rfl, by decide +kernel, by decide +kernel⟩
theorem c_integer_of : FnScope ["word", "digits", "sign"] ["word"] (defScope s_integer_of) := ⟨rfl, rfl, rfl, by decide +kernel, rfl, by decide +kernel, by decide +kernel⟩
theorem c_part_of : FnScope ["word", "number"] ["word"] (defScope s_part_of) := ⟨rfl, rfl, rfl, by decide +kernel, rfl, by decide +kernel, by decide +kernel⟩
theorem c_paper_in : FnScope ["text", "lists", "word", "last", "part"] ["text"] (defScope s_paper_in) := ⟨rfl, rfl, rfl, by decide +kernel, rfl, by decide +kernel, by decide +kernel⟩
theorem c_read_paper : FnScope ["text", "found"] ["text"] (defScope s_read_paper) := ⟨rfl, rfl, rfl, by decide +kernel, rfl, by decide +kernel, by decide +kernel⟩
theorem c_is_plain_word : FnScope ["thing", "sign"] ["thing"] (defScope s_is_plain_word) := ⟨rfl, rfl, rfl, by decide +kernel, rfl, by decide +kernel, by decide +kernel⟩
theorem c_is_paper : FnScope ["thing", "waiting", "one"] ["thing"] (defScope s_is_paper) := ⟨rfl, rfl, rfl, by decide +kernel, rfl, by decide +kernel, by decide +kernel⟩
theorem c_law_draw : FnScope ["deck", "many", "figure", "cell"] ["deck", "many"] (defScope s_law_draw) := ⟨rfl, rfl, rfl, by decide +kernel, rfl, by decide +kernel, by decide +kernel⟩
theorem c_law_pick : FnScope ["deck", "some"] ["deck", "some"] (defScope s_law_pick) := ⟨rfl, rfl, rfl, by decide +kernel, rfl, by decide +kernel, by decide +kernel⟩
theorem c_law_same : FnScope ["told", "due", "waiting", "one", "it"] ["told", "due"] (defScope s_law_same) := ⟨rfl, rfl, rfl, by decide +kernel, rfl, by decide +kernel, by decide +kernel⟩
theorem c_law_deck : FnScope ["script", "mixed", "cell"] ["script"] (defScope s_law_deck) := ⟨rfl, rfl, rfl, by decide +kernel, rfl, by decide +kernel, by decide +kernel⟩
theorem c_law_leaf : FnScope ["deck", "way"] ["deck"] (defScope s_law_leaf) := ⟨rfl, rfl, rfl, by decide +kernel, rfl, by decide +kernel, by decide +kernel⟩
theorem c_law_paper : FnScope ["deck", "deep", "turn"] ["deck", "deep"] (defScope s_law_paper) := ⟨rfl, rfl, rfl, by decide +kernel, rfl, by decide +kernel, by decide +kernel⟩
theorem c_law_deep : FnScope ["deck", "found", "turn"] ["deck"] (defScope s_law_deep) := ⟨rfl, rfl, rfl, by decide +kernel, rfl, by decide +kernel, by decide +kernel⟩
theorem c_law_is_due : FnScope ["thing", "waiting", "part", "sign"] ["thing"] (defScope s_law_is_due) := ⟨rfl, rfl, rfl, by decide +kernel, rfl, by decide +kernel, by decide +kernel⟩
theorem c_law_paper_text : FnScope ["thing", "part"] ["thing"] (defScope s_law_paper_text) := ⟨rfl, rfl, rfl, by decide +kernel, rfl, by decide +kernel, by decide +kernel⟩
theorem c_law_read_word : FnScope ["word", "sign", "figures", "number"] ["word"] (defScope s_law_read_word) := ⟨rfl, rfl, rfl, by decide +kernel, rfl, by decide +kernel, by decide +kernel⟩
theorem c_law_read : FnScope ["text", "stack", "word", "made"] ["text"] (defScope s_law_read) := ⟨rfl, rfl, rfl, by decide +kernel, rfl, by decide +kernel, by decide +kernel⟩
theorem c_law_bent : FnScope ["deck", "thing", "rows", "here", "turn", "some", "whole", "at"] ["deck", "thing"] (defScope s_law_bent) := ⟨rfl, rfl, rfl, by decide +kernel, rfl, by decide +kernel, by decide +kernel⟩
theorem c_law_changed : FnScope ["deck", "text", "way", "at", "sign", "pairs", "old", "new"] ["deck", "text"] (defScope s_law_changed) := ⟨rfl, rfl, rfl, by decide +kernel, rfl, by decide +kernel, by decide +kernel⟩
theorem c_law_is_short : FnScope ["text"] ["text"] (defScope s_law_is_short) := ⟨rfl, rfl, rfl, by decide +kernel, rfl, by decide +kernel, by decide +kernel⟩
theorem c_law_heard : FnScope ["call", "e"] ["call"] (defScope s_law_heard) := ⟨rfl, rfl, rfl, by decide +kernel, rfl, by decide +kernel, by decide +kernel⟩
theorem c_law : FnScope ["script", "deck", "turn", "thing", "text", "again", "odd", "due", "shown"] ["script"] (defScope s_law) := ⟨rfl, rfl, rfl, by decide +kernel, rfl, by decide +kernel, by decide +kernel⟩
/-! ### what the top leaves -/
structure Facts (K : PySem.W.Frag) (mg : Str → Option Value) where
  f_word_of : Addr
  d_word_of : FuncData
  F_word_of : Fun K "word_of" "word_of" s_word_of f_word_of d_word_of
  m_word_of : mg "word_of" = some (.ref f_word_of)
  f_paper_text : Addr
  d_paper_text : FuncData
  F_paper_text : Fun K "paper_text" "paper_text" s_paper_text f_paper_text d_paper_text
  m_paper_text : mg "paper_text" = some (.ref f_paper_text)
  f_integer_of : Addr
  d_integer_of : FuncData
  F_integer_of : Fun K "integer_of" "integer_of" s_integer_of f_integer_of d_integer_of
  m_integer_of : mg "integer_of" = some (.ref f_integer_of)
  f_part_of : Addr
  d_part_of : FuncData
  F_part_of : Fun K "part_of" "part_of" s_part_of f_part_of d_part_of
  m_part_of : mg "part_of" = some (.ref f_part_of)
  f_paper_in : Addr
  d_paper_in : FuncData
  F_paper_in : Fun K "paper_in" "paper_in" s_paper_in f_paper_in d_paper_in
  m_paper_in : mg "paper_in" = some (.ref f_paper_in)
  f_read_paper : Addr
  d_read_paper : FuncData
  F_read_paper : Fun K "read_paper" "read_paper" s_read_paper f_read_paper d_read_paper
  m_read_paper : mg "read_paper" = some (.ref f_read_paper)
  f_is_plain_word : Addr
  d_is_plain_word : FuncData
  F_is_plain_word : Fun K "is_plain_word" "is_plain_word" s_is_plain_word f_is_plain_word d_is_plain_word
  m_is_plain_word : mg "is_plain_word" = some (.ref f_is_plain_word)
  f_is_paper : Addr
  d_is_paper : FuncData
  F_is_paper : Fun K "is_paper" "is_paper" s_is_paper f_is_paper d_is_paper
  m_is_paper : mg "is_paper" = some (.ref f_is_paper)
  f_law_draw : Addr
  d_law_draw : FuncData
  F_law_draw : Fun K "_law_draw" "_law_draw" s_law_draw f_law_draw d_law_draw
  m_law_draw : mg "_law_draw" = some (.ref f_law_draw)
  f_law_pick : Addr
  d_law_pick : FuncData
  F_law_pick : Fun K "_law_pick" "_law_pick" s_law_pick f_law_pick d_law_pick
  m_law_pick : mg "_law_pick" = some (.ref f_law_pick)
  f_law_same : Addr
  d_law_same : FuncData
  F_law_same : Fun K "_law_same" "_law_same" s_law_same f_law_same d_law_same
  m_law_same : mg "_law_same" = some (.ref f_law_same)
  f_law_deck : Addr
  d_law_deck : FuncData
  F_law_deck : Fun K "_law_deck" "_law_deck" s_law_deck f_law_deck d_law_deck
  m_law_deck : mg "_law_deck" = some (.ref f_law_deck)
  f_law_leaf : Addr
  d_law_leaf : FuncData
  F_law_leaf : Fun K "_law_leaf" "_law_leaf" s_law_leaf f_law_leaf d_law_leaf
  m_law_leaf : mg "_law_leaf" = some (.ref f_law_leaf)
  f_law_paper : Addr
  d_law_paper : FuncData
  F_law_paper : Fun K "_law_paper" "_law_paper" s_law_paper f_law_paper d_law_paper
  m_law_paper : mg "_law_paper" = some (.ref f_law_paper)
  f_law_deep : Addr
  d_law_deep : FuncData
  F_law_deep : Fun K "_law_deep" "_law_deep" s_law_deep f_law_deep d_law_deep
  m_law_deep : mg "_law_deep" = some (.ref f_law_deep)
  f_law_is_due : Addr
  d_law_is_due : FuncData
  F_law_is_due : Fun K "_law_is_due" "_law_is_due" s_law_is_due f_law_is_due d_law_is_due
  m_law_is_due : mg "_law_is_due" = some (.ref f_law_is_due)
  f_law_paper_text : Addr
  d_law_paper_text : FuncData
  F_law_paper_text : Fun K "_law_paper_text" "_law_paper_text" s_law_paper_text f_law_paper_text d_law_paper_text
  m_law_paper_text : mg "_law_paper_text" = some (.ref f_law_paper_text)
  f_law_read_word : Addr
  d_law_read_word : FuncData
  F_law_read_word : Fun K "_law_read_word" "_law_read_word" s_law_read_word f_law_read_word d_law_read_word
  m_law_read_word : mg "_law_read_word" = some (.ref f_law_read_word)
  f_law_read : Addr
  d_law_read : FuncData
  F_law_read : Fun K "_law_read" "_law_read" s_law_read f_law_read d_law_read
  m_law_read : mg "_law_read" = some (.ref f_law_read)
  f_law_bent : Addr
  d_law_bent : FuncData
  F_law_bent : Fun K "_law_bent" "_law_bent" s_law_bent f_law_bent d_law_bent
  m_law_bent : mg "_law_bent" = some (.ref f_law_bent)
  f_law_changed : Addr
  d_law_changed : FuncData
  F_law_changed : Fun K "_law_changed" "_law_changed" s_law_changed f_law_changed d_law_changed
  m_law_changed : mg "_law_changed" = some (.ref f_law_changed)
  f_law_is_short : Addr
  d_law_is_short : FuncData
  F_law_is_short : Fun K "_law_is_short" "_law_is_short" s_law_is_short f_law_is_short d_law_is_short
  m_law_is_short : mg "_law_is_short" = some (.ref f_law_is_short)
  f_law_heard : Addr
  d_law_heard : FuncData
  F_law_heard : Fun K "_law_heard" "_law_heard" s_law_heard f_law_heard d_law_heard
  m_law_heard : mg "_law_heard" = some (.ref f_law_heard)
  f_law : Addr
  d_law : FuncData
  F_law : Fun K "law" "law" s_law f_law d_law
  m_law : mg "law" = some (.ref f_law)
  t_BLANK : Tok
  n_BLANK : mg "BLANK" = some (.str (Str.ofString " ") t_BLANK)
  t_NONE : Tok
  n_NONE : mg "NONE" = some (.str (Str.ofString "none") t_NONE)
  t_QUOTE : Tok
  n_QUOTE : mg "QUOTE" = some (.str (Str.ofString "'") t_QUOTE)
  t_DIGITS : Tok
  n_DIGITS : mg "DIGITS" = some (.str (Str.ofString "0123456789") t_DIGITS)
  t_MOST_DIGITS : Tok
  n_MOST_DIGITS : mg "MOST_DIGITS" = some (.int 40 t_MOST_DIGITS)
  z_int : mg "int" = none
  z_tuple : mg "tuple" = none
  z_range : mg "range" = none
  z_isinstance : mg "isinstance" = none
  z_str : mg "str" = none
  z_len : mg "len" = none
  z_all : mg "all" = none
  z_any : mg "any" = none
  z_list : mg "list" = none
  z_bool : mg "bool" = none
  z_repr : mg "repr" = none
  z_max : mg "max" = none
  z_zip : mg "zip" = none
section
variable {K : PySem.W.Frag} {mg : Str → Option Value}
theorem Facts.b_word_of (T : Facts K mg) : Binds K T.d_word_of ["thing"] [] := T.F_word_of.binds (ps := ["thing"]) fun _ _ _ _ _ _ us hl => match us, hl with | [_], _ => rfl
theorem Facts.b_paper_text (T : Facts K mg) : Binds K T.d_paper_text ["thing"] [] := T.F_paper_text.binds (ps := ["thing"]) fun _ _ _ _ _ _ us hl => match us, hl with | [_], _ => rfl
theorem Facts.b_integer_of (T : Facts K mg) : Binds K T.d_integer_of ["word"] [] := T.F_integer_of.binds (ps := ["word"]) fun _ _ _ _ _ _ us hl => match us, hl with | [_], _ => rfl
theorem Facts.b_part_of (T : Facts K mg) : Binds K T.d_part_of ["word"] [] := T.F_part_of.binds (ps := ["word"]) fun _ _ _ _ _ _ us hl => match us, hl with | [_], _ => rfl
theorem Facts.b_paper_in (T : Facts K mg) : Binds K T.d_paper_in ["text"] [] := T.F_paper_in.binds (ps := ["text"]) fun _ _ _ _ _ _ us hl => match us, hl with | [_], _ => rfl
theorem Facts.b_read_paper (T : Facts K mg) : Binds K T.d_read_paper ["text"] [] := T.F_read_paper.binds (ps := ["text"]) fun _ _ _ _ _ _ us hl => match us, hl with | [_], _ => rfl
theorem Facts.b_is_plain_word (T : Facts K mg) : Binds K T.d_is_plain_word ["thing"] [] := T.F_is_plain_word.binds (ps := ["thing"]) fun _ _ _ _ _ _ us hl => match us, hl with | [_], _ => rfl
theorem Facts.b_is_paper (T : Facts K mg) : Binds K T.d_is_paper ["thing"] [] := T.F_is_paper.binds (ps := ["thing"]) fun _ _ _ _ _ _ us hl => match us, hl with | [_], _ => rfl
theorem Facts.b_law_draw (T : Facts K mg) : Binds K T.d_law_draw ["deck", "many"] [] := T.F_law_draw.binds (ps := ["deck", "many"]) fun _ _ _ _ _ _ us hl => match us, hl with | [_, _], _ => rfl
theorem Facts.b_law_pick (T : Facts K mg) : Binds K T.d_law_pick ["deck", "some"] [] := T.F_law_pick.binds (ps := ["deck", "some"]) fun _ _ _ _ _ _ us hl => match us, hl with | [_, _], _ => rfl
theorem Facts.b_law_same (T : Facts K mg) : Binds K T.d_law_same ["told", "due"] [] := T.F_law_same.binds (ps := ["told", "due"]) fun _ _ _ _ _ _ us hl => match us, hl with | [_, _], _ => rfl
theorem Facts.b_law_deck (T : Facts K mg) : Binds K T.d_law_deck ["script"] [] := T.F_law_deck.binds (ps := ["script"]) fun _ _ _ _ _ _ us hl => match us, hl with | [_], _ => rfl
theorem Facts.b_law_leaf (T : Facts K mg) : Binds K T.d_law_leaf ["deck"] [] := T.F_law_leaf.binds (ps := ["deck"]) fun _ _ _ _ _ _ us hl => match us, hl with | [_], _ => rfl
theorem Facts.b_law_paper (T : Facts K mg) : Binds K T.d_law_paper ["deck", "deep"] [] := T.F_law_paper.binds (ps := ["deck", "deep"]) fun _ _ _ _ _ _ us hl => match us, hl with | [_, _], _ => rfl
theorem Facts.b_law_deep (T : Facts K mg) : Binds K T.d_law_deep ["deck"] [] := T.F_law_deep.binds (ps := ["deck"]) fun _ _ _ _ _ _ us hl => match us, hl with | [_], _ => rfl
theorem Facts.b_law_is_due (T : Facts K mg) : Binds K T.d_law_is_due ["thing"] [] := T.F_law_is_due.binds (ps := ["thing"]) fun _ _ _ _ _ _ us hl => match us, hl with | [_], _ => rfl
theorem Facts.b_law_paper_text (T : Facts K mg) : Binds K T.d_law_paper_text ["thing"] [] := T.F_law_paper_text.binds (ps := ["thing"]) fun _ _ _ _ _ _ us hl => match us, hl with | [_], _ => rfl
theorem Facts.b_law_read_word (T : Facts K mg) : Binds K T.d_law_read_word ["word"] [] := T.F_law_read_word.binds (ps := ["word"]) fun _ _ _ _ _ _ us hl => match us, hl with | [_], _ => rfl
theorem Facts.b_law_read (T : Facts K mg) : Binds K T.d_law_read ["text"] [] := T.F_law_read.binds (ps := ["text"]) fun _ _ _ _ _ _ us hl => match us, hl with | [_], _ => rfl
theorem Facts.b_law_bent (T : Facts K mg) : Binds K T.d_law_bent ["deck", "thing"] [] := T.F_law_bent.binds (ps := ["deck", "thing"]) fun _ _ _ _ _ _ us hl => match us, hl with | [_, _], _ => rfl
theorem Facts.b_law_changed (T : Facts K mg) : Binds K T.d_law_changed ["deck", "text"] [] := T.F_law_changed.binds (ps := ["deck", "text"]) fun _ _ _ _ _ _ us hl => match us, hl with | [_, _], _ => rfl
theorem Facts.b_law_is_short (T : Facts K mg) : Binds K T.d_law_is_short ["text"] [] := T.F_law_is_short.binds (ps := ["text"]) fun _ _ _ _ _ _ us hl => match us, hl with | [_], _ => rfl
theorem Facts.b_law_heard (T : Facts K mg) : Binds K T.d_law_heard ["call"] [] := T.F_law_heard.binds (ps := ["call"]) fun _ _ _ _ _ _ us hl => match us, hl with | [_], _ => rfl
theorem Facts.b_law (T : Facts K mg) : Binds K T.d_law ["script"] [] := T.F_law.binds (ps := ["script"]) fun _ _ _ _ _ _ us hl => match us, hl with | [_], _ => rfl
end
end K8

set_option Elab.async false
set_option linter.all false
set_option maxRecDepth 100000
set_option maxHeartbeats 4000000
namespace Pk
open PySem PySem.Spec PyProof.Rows L2
theorem upd_upd (H : Hp) (a : Addr) (o u : HO) : upd (upd H a o) a u = upd H a u := by
  funext b
  by_cases h : b = a
  · subst h; rw [upd_same, upd_same]
  · rw [upd_ne h, upd_ne h, upd_ne h]
/-- [f(c) for c in a text if p(c)]: nothing else changes -/
theorem lc_text {z : Str} {k : Nat} {tt : TT} {te : TE} {vs : List Nat} {σ : L2.St} {H1 : Hp} {D : Addr} {Qd : Hp → Prop} (p : Nat → Bool) (f : Nat → V) (hw : ∀ x : V, wipe ((wipe σ vs).set k (some x)) vs = wipe σ vs) (hz : z.length ≤ 1000000)
    (ht : ∀ c l (Q : Bool → Hp → Prop), c ∈ TL.tl z → Q (p c) (upd H1 D (.lst l)) → tt ((wipe σ vs).set k (some (.str ⟨#[c]⟩))) (upd H1 D (.lst l)) Q)
    (hs : ∀ c l (Q : VK), c ∈ TL.tl z → p c = true → Q (f c) (upd H1 D (.lst l)) → te ((wipe σ vs).set k (some (.str ⟨#[c]⟩))) (upd H1 D (.lst l)) Q) (hd : Qd (upd H1 D (.lst (((TL.tl z).filter p).map f)))) :
    ∃ W : Nat → Nat → Hp → Prop, (∃ m, W 0 m (upd H1 D (.lst []))) ∧ ∀ i m H, W i m H →
      ((Its z).stop i H ∧ Qd H) ∨ ((Its z).go i H ∧ ∃ Nx : Hp → Prop, (∀ H', Nx H' → ∃ m', m' < m ∧ W (i + 1) m' H') ∧ ∀ x H', (Its z).yld i H x H' → (gName k) x (wipe σ vs) H' fun σ2 H2 => wipe σ2 vs = wipe σ vs ∧ tt σ2 H2 fun b H3 =>
        if b = true then te σ2 H3 fun y H4 => ∃ acc, H4 D = some (.lst acc) ∧ acc.length < sizeLine ∧ Nx (upd H4 D (.lst (acc ++ [y]))) else Nx H3) := by
  have el : z.cps.size = (TL.tl z).length := by simp [TL.tl]
  refine lc_it walk_str (fun i H => H = upd H1 D (.lst ((((TL.tl z).take i).filter p).map f))) (by simp) (fun _ _ _ _ => trivial) (fun i x H H' hi e y => ?_) (fun H e => ?_)
  · obtain ⟨rfl, c, hc, rfl⟩ := y
    have hc' : (TL.tl z)[i]? = some c := by simpa [TL.tl] using hc
    have hm : c ∈ TL.tl z := List.mem_of_getElem? hc'
    have ht' : (TL.tl z).take (i + 1) = (TL.tl z).take i ++ [c] := by rw [List.take_succ, hc']; rfl
    subst e
    refine ⟨hw _, ht c _ _ hm ?_⟩
    by_cases hp : p c = true
    · rw [if_pos hp]
      refine hs c _ _ hm hp ⟨_, upd_same, ?_, ?_⟩
      · rw [List.length_map]
        refine Nat.lt_of_le_of_lt (List.length_filter_le _ _) ?_
        rw [List.length_take]
        have : (TL.tl z).length ≤ 1000000 := by rw [← TL.len_tl]; exact hz
        exact Nat.lt_of_le_of_lt (show min i (TL.tl z).length ≤ 1000000 by omega) (by decide)
      · rw [upd_upd, ht', List.filter_append, List.map_append]
        congr 3
        simp [hp]
    · rw [if_neg hp, ht', List.filter_append, List.map_append]
      simp [hp]
  · rw [e]
    rw [el, List.take_length]
    exact hd
end Pk

set_option Elab.async false
set_option linter.all false
set_option maxRecDepth 100000
set_option maxHeartbeats 4000000
namespace K8
open PySem PySem.Spec PyProof.Rows L2 Pk Mt
abbrev FA := (K : PySem.W.Frag) → (Str → Option Value) → Type
theorem small {n : Nat} (h : n ≤ 1000000) : n ≤ sizeLine := Nat.le_trans h (by decide)
theorem log_ok {n : Int} (h : n.natAbs < 10 ^ 40) : n.natAbs.log2 < 1920 := by
  by_cases h0 : n.natAbs = 0
  · rw [h0]; decide
  · rw [Nat.log2_lt h0]
    exact Nat.lt_trans h (by decide +kernel)
theorem pe_gs {X : Cx} {x c : Str} {t : Tok} {pos : Pos} (hm : X.mg x = some (.str c t)) (hg : Gl X x := by rfl) (hd : (x == ("__debug__" : Str)) = false := by decide) : PE X (.Name x pos) (tC (.str c)) := pe_glob (v := .str c) hg hm ⟨_, rfl⟩ hd
theorem pe_gi {X : Cx} {x : Str} {n : Int} {t : Tok} {pos : Pos} (hm : X.mg x = some (.int n t)) (hg : Gl X x := by rfl) (hd : (x == ("__debug__" : Str)) = false := by decide) : PE X (.Name x pos) (tC (.int n)) := pe_glob (v := .int n) hg hm ⟨_, rfl⟩ hd
abbrev pis {X : Cx} {a : Expr} {ta : TE} {T : String} {Ts : Str} {p p2 pos : Pos} (hm : X.mg "isinstance" = none) (hmT : X.mg Ts = none) (ha : PE X a ta) (hT : fiveT T := by first | exact .inl rfl | exact .inr (.inl rfl) | exact .inr (.inr (.inl rfl)) | exact .inr (.inr (.inr (.inl rfl))) | exact .inr (.inr (.inr (.inr rfl)))) (hv : bootBuiltins Ts = some (.type T) := by decide +kernel)
  (hg : Gl X "isinstance" := by rfl) (hgT : Gl X Ts := by rfl)
    (hn : Ts ≠ "__name__" := by decide) (hd : (Ts == ("__debug__" : Str)) = false := by decide)
    (he : starEach (a :: [.Name Ts p2]) X.env = (false, eval a X.env) :: starEach [.Name Ts p2] X.env := by rfl) (hpl : (backTo pos (starEach [.Name Ts p2] X.env)).any (·.1) = false := by rfl)
    (he2 : starEach (.Name Ts p2 :: []) X.env = (false, eval (.Name Ts p2) X.env) :: starEach [] X.env := by rfl) :
    PE X (.Call (.Name "isinstance" p) [a, .Name Ts p2] [] pos) (tCB (rIsD T) (tCons ta (tCons (tC (.ty T)) tNil))) := pe_isD hm hmT hT hv ha hg hgT hn hd he hpl he2
section
variable {P : Program} {w : World} {K : PySem.W.Frag} {mg : Str → Option Value} {base : Heap}
/-! ### word_of -/
def spWordOf : Sp := fun vs H Q _ => ∃ x d, vs = [x] ∧ Rp H x d ∧ isP d = true ∧ okI d = true ∧ kd d ≠ "tuple" ∧ tw d ≤ 100000 ∧ ∀ z : Str, TL.tl z = txt d → Q (.str z) H
theorem ok_word_of (T : Facts K mg) : FnOk P w K mg base CX0 1 T.f_word_of T.d_word_of ["thing"] spWordOf := by
  refine T.F_word_of.ok c_word_of (fun vs H Q E h => ?_) (fun cdv A outer s H vs Q E hr h => ?_)
  · obtain ⟨x, d, rfl, _⟩ := h
    rfl
  obtain ⟨x, d, rfl, hx, hp, hi, hk, hw, q⟩ := h
  refine ⟨_, pss_cons (ps_if (pt_cmpR op_isN (pv 0) pe_non (nomark _)) (pss_one (ps_ret (pe_gs T.n_NONE))) pss_nil)
    (pss_one (ps_ret (pe_ifExp (pt_val (pis (T := "str") T.z_isinstance T.z_str (pv 0))) (pe_op op_add_str (pe_gs T.n_QUOTE) (pv 0))
      (pe_callTy call_str_int (by rfl) T.z_str (by decide +kernel) (pa_cons (pv 0) pa_nil))))), ?_⟩
  refine ⟨x, rfl, rfl, _, rfl, ?_⟩
  cases hx with
  | non => exact q _ (by decide +kernel)
  | bl b => simp [isP] at hp
  | int i => exact ⟨_, rfl, _, _, rfl, .int i, _, rfl, _, rfl, i, rfl, log_ok (by simpa [okI] using hi), q _ (by rw [txt]; exact tl_int i)⟩
  | str y =>
    have hl : (TL.tl y).length + 2 ≤ 100000 := by simpa [tw] using hw
    refine ⟨_, rfl, _, _, rfl, .str y, _, rfl, _, rfl, _, _, rfl, rfl, ?_, q _ ?_⟩
    · have e := TL.len_tl y
      show 1 + y.length ≤ sizeLine
      exact small (by omega)
    · rw [TL.tl_append, txt]
      rfl
  | lst _ _ => simp [isP] at hp
  | tup _ _ => exact absurd rfl hk
  | dct _ => simp [isP] at hp
end
end K8

set_option Elab.async false
set_option linter.all false
set_option maxRecDepth 100000
set_option maxHeartbeats 4000000
namespace K8
open PySem PySem.Spec PyProof.Rows L2 Pk Mt
theorem same_new {H : Hp} {p : Addr} (h : H p = none) (o : HO) : Same H (upd H p o) := fun b u q => by rw [upd_ne (ne_of_none q h)]; exact q
theorem same_upd {H H' : Hp} {p : Addr} (s : Same H H') (h : H p = none) (o : HO) : Same H (upd H' p o) := fun b u q => by rw [upd_ne (ne_of_none q h)]; exact s b u q
theorem ifT {c : Bool} {A B : Prop} (hc : c = true) (h : A) : if c = true then A else B := by
  rw [if_pos hc]
  exact h
theorem ifF {c : Bool} {A B : Prop} (hc : c = false) (h : B) : if c = true then A else B := by
  rw [hc, if_neg Bool.false_ne_true]
  exact h
section
variable {P : Program} {w : World} {K : PySem.W.Frag} {mg : Str → Option Value} {base : Heap}
/-! ### is_plain_word -/
def plainD : PyData → Bool
  | .str y => Mt.plain (TL.tl y)
  | _ => false
def spPlain : Sp := fun vs H Q _ => ∃ x d, vs = [x] ∧ Rp H x d ∧ tw d ≤ 100000 ∧ ∀ H', Same H H' → Q (.bl (plainD d)) H'
theorem any_plain (y : List Nat) : (!(([32, 40, 41, 10] : List Nat).map fun c => decide (c ∈ y)).any id) = Mt.plain y := by
  rw [Bool.eq_iff_iff]
  simp only [Bool.not_eq_true', List.any_eq_false, List.mem_map, id, Mt.plain, List.all_eq_true]
  constructor
  · intro h c hc
    have h1 := h (decide (32 ∈ y)) ⟨32, by simp, rfl⟩
    have h2 := h (decide (40 ∈ y)) ⟨40, by simp, rfl⟩
    have h3 := h (decide (41 ∈ y)) ⟨41, by simp, rfl⟩
    have h4 := h (decide (10 ∈ y)) ⟨10, by simp, rfl⟩
    simp only [decide_eq_true_eq] at h1 h2 h3 h4
    simp only [Bool.and_eq_true, bne_iff_ne]
    exact ⟨⟨⟨fun e => h1 (e ▸ hc), fun e => h2 (e ▸ hc)⟩, fun e => h3 (e ▸ hc)⟩, fun e => h4 (e ▸ hc)⟩
  · rintro h b ⟨c, hc, rfl⟩ hb
    have hb := of_decide_eq_true hb
    have := h c hb
    simp only [Bool.and_eq_true, bne_iff_ne] at this
    simp only [List.mem_cons, List.not_mem_nil, or_false] at hc
    omega
theorem ok_is_plain_word (T : Facts K mg) : FnOk P w K mg base CX0 1 T.f_is_plain_word T.d_is_plain_word ["thing"] spPlain := by
  refine T.F_is_plain_word.ok c_is_plain_word (fun vs H Q E h => ?_) (fun cdv A outer s H vs Q E hr h => ?_)
  · obtain ⟨x, d, rfl, _⟩ := h
    rfl
  obtain ⟨x, d, rfl, hx, hw, q⟩ := h
  refine ⟨_, pss_one (ps_ret (pe_and (pis (T := "str") T.z_isinstance T.z_str (pv 0)) (pe_one (pe_not (pe_callB (cr_any rfl) (by rfl) T.z_any (by decide +kernel) (pa_cons
    (pe_lc (own := [("sign", 1)]) (g := gName 1) (tt := tYes) rfl c_is_plain_word.nd (pi_str pe_str) (blkOk_by (own := [("sign", 1)]) (N := ["thing", "sign"]) (sc := defScope s_is_plain_word) (by decide +kernel))
      (fun _ _ _ _ _ => pg_name (i := 1) c_is_plain_word.nd rfl (Or.inl rfl)) (fun _ _ _ _ _ => pts_nil) (fun _ _ _ _ _ => pe_cmpR op_in_sign (pv 1) (pv 0) (by rfl))) pa_nil)))))), ?_⟩
  refine ⟨x, rfl, _, d, rfl, hx, _, rfl, ?_⟩
  cases hx with
  | str y =>
    refine iteT ⟨_, rfl, fun D hD => ?_⟩
    refine lc_text (fun _ => true) (fun c => .bl (decide (c ∈ TL.tl y))) (fun _ => rfl) (by decide) (fun _ _ _ _ h => h) (fun c l Q hc _ h => ⟨_, rfl, _, rfl, c, y, rfl, rfl, h⟩) ?_
    refine ⟨D, [32, 40, 41, 10].map fun c => decide (c ∈ TL.tl y), rfl, SqL.of (xs := ((([32, 40, 41, 10] : List Nat).map fun c => decide (c ∈ TL.tl y)).map V.bl)) ?_, _, rfl, ?_⟩
    · exact upd_same
    · rw [any_plain]
      exact q _ (same_new hD _)
  | non => exact iteF (q _ (Same.refl _))
  | bl b => exact iteF (q _ (Same.refl _))
  | int i => exact iteF (q _ (Same.refl _))
  | lst _ _ => exact iteF (q _ (Same.refl _))
  | tup _ _ => exact iteF (q _ (Same.refl _))
  | dct _ => exact iteF (q _ (Same.refl _))
/-! ### is_paper -/
def spIsPaper : Sp := fun vs H Q _ => ∃ x d, vs = [x] ∧ Rp H x d ∧ tw d ≤ 100000 ∧ ∀ H', Same H H' → Q (.bl (isP d)) H'
theorem isPA_app : ∀ a b : List PyData, isPA (a ++ b) = (isPA a && isPA b)
  | [], b => by simp [isPA]
  | d :: a, b => by rw [List.cons_append, isPA, isPA, isPA_app a b, Bool.and_assoc]
theorem ne_list (K : PySem.W.Frag) {H : Hp} {a p : Addr} {ws : List V} (h1 : H a = some (.lst ws)) (h2 : H p = some (.lst [])) : EmpPair K H a p (decide (ws.length = 0)) := .inl ⟨ws, [], SqL.of h1, SqL.of h2, .inr rfl, by simp⟩
theorem tw_le_twA {d : PyData} : ∀ {ds : List PyData}, d ∈ ds → tw d ≤ twA ds
  | e :: ds, h => by
    rw [twA]
    rcases List.mem_cons.mp h with rfl | h
    · omega
    · have := tw_le_twA h; omega
theorem ok_is_paper (T : Facts K mg) : FnOk P w K mg base CX0 2 T.f_is_paper T.d_is_paper ["thing"] spIsPaper := by
  refine T.F_is_paper.ok c_is_paper (fun vs H Q E h => ?_) (fun cdv A outer s H vs Q E hr h => ?_)
  · obtain ⟨x, d, rfl, _⟩ := h
    rfl
  obtain ⟨x, d, rfl, hx, hw, q⟩ := h
  have hu := hu_of hr
  refine ⟨_, pss_cons (ps_set (i := 1) c_is_paper.nd rfl (.inl rfl) (pe_lst (pa_cons (pv 0) pa_nil)))
    (pss_cons (ps_while PassesOwn.never (pt_cmpR (op_neE (Nat.lt_of_succ_lt hu)) (pv 1) (pe_lst pa_nil) (nomark _))
      (pss_cons (ps_set (i := 2) c_is_paper.nd rfl (.inl rfl) (pe_bm0 PySem.F.plainAttrs_list PySem.F.slot_list_pop PySem.F.type_list_pop mt_pop (pv 1)))
      (pss_one (ps_if (pt_val (pis (T := "tuple") T.z_isinstance T.z_tuple (pv 2)))
        (pss_one (ps_expr (pe_bm PySem.F.plainAttrs_list PySem.F.slot_list_extend PySem.F.type_list_extend mt_extA (pv 1) (pa_cons (pv 2) pa_nil))))
        (pss_one (ps_if (PW.pt (pw_or (pt_val (pis (T := "bool") T.z_isinstance T.z_bool (pv 2))) (pw_or1 (PW.pt (pw_and (pt_not (pt_val (pis (T := "int") T.z_isinstance T.z_int (pv 2)))) (pw_and (pt_cmpR op_notN (pv 2) pe_non (nomark _))
          (pw_and1 (pt_not (pt_val (pe_call (ok_is_plain_word T) hr (by rfl) T.m_is_plain_word T.F_is_plain_word.kp T.b_is_plain_word .nil pass0 (pa_cons (pv 2) pa_nil)))))))))))
          (pss_one (ps_ret pe_bl)) pss_nil))))))
    (pss_one (ps_ret pe_bl))), ?_⟩
  refine ⟨x, rfl, by show 1 ≤ sizeLine; decide, fun a ha => ?_⟩
  refine while_n (fun m σ H' => ∃ ws ds one, σ = [some x, some (.ref a), one] ∧ Same H H' ∧ H' a = some (.lst ws) ∧ RpA H ws ds ∧ isP d = isPA ds ∧ m = twA ds ∧ twA ds ≤ 100000) (tw d) ⟨[x], [d], none, rfl, same_new ha _, upd_same, .cons hx .nil, by simp [isPA], by simp [twA], by simpa [twA] using hw⟩ ?_ (fun _ _ _ _ h ⟨v, h1, h2, h3⟩ => ⟨v, h1, h2, fun p hp => ?_⟩)
  rotate_left
  · obtain ⟨a', b', e', z1, z2, z3, k, z4, z5⟩ := h3 p hp
    exact ⟨a', b', e', z1, z2, z3, k, z4, h _ _ z5⟩
  rintro m σ H' ⟨ws, ds, one, rfl, sm, ea, hd, hp, rfl, hm⟩
  refine ⟨_, rfl, by show 0 ≤ sizeLine; decide, fun p hpn => ?_⟩
  have nap : a ≠ p := ne_of_none ea hpn
  have sm2 : Same H (upd H' p (.lst [])) := sm.trans (same_new hpn _)
  have ea2 : upd H' p (.lst []) a = some (.lst ws) := by rw [upd_ne nap]; exact ea
  refine ⟨a, p, _, rfl, rfl, ne_list _ ea2 upd_same, _, rfl, ?_⟩
  rcases List.eq_nil_or_concat ws with e | ⟨L, v, e⟩
  · subst e
    cases hd
    have e : isP d = true := by rw [hp]; simp [isPA]
    refine iteF ?_
    show Q (.bl true) _
    rw [← e]
    exact q _ sm2
  rw [List.concat_eq_append] at e
  subst e
  obtain ⟨es, f, rfl, hL, hv⟩ := RpA.split hd
  have el : (!decide ((L ++ [v]).length = 0)) = true := by simp
  rw [el]
  refine iteT ?_
  refine ⟨_, rfl, .inl ⟨rfl, _, SqL.of ea2⟩, a, _, v, rfl, rfl, ea2, by simp, ?_⟩
  have tf : twA (es ++ [f]) = twA es + tw f := by rw [twA_app]; simp [twA]
  have pf : isPA (es ++ [f]) = (isPA es && isP f) := by rw [isPA_app]; simp [isPA]
  have pos := tw_pos f
  have sm3 : Same H (upd (upd H' p (.lst [])) a (.lst (L ++ [v]).dropLast)) := same_upd sm2 ha _
  generalize eH : upd (upd H' p (.lst [])) a (.lst (L ++ [v]).dropLast) = H3 at sm3
  have ea3 : H3 a = some (.lst L) := by rw [← eH, upd_same]; simp
  have hv3 := hv.mono sm3
  refine ⟨v, rfl, _, f, rfl, hv3, _, rfl, ?_⟩
  have done : isP f = true → tw f ≥ 1 → (∃ m', m' < twA (es ++ [f]) ∧ ∃ ws ds one, [some x, some (.ref a), some v] = [some x, some (.ref a), one] ∧ Same H H3 ∧ H3 a = some (.lst ws) ∧ RpA H ws ds ∧ isP d = isPA ds ∧ m' = twA ds ∧ twA ds ≤ 100000) := fun h1 h2 => ⟨twA es, by omega, L, es, some v, rfl, sm3, ea3, hL, by rw [hp, pf, h1, Bool.and_true], rfl, by omega⟩
  have bad : isP f = false → Q (.bl false) H3 := fun h1 => by
    have e : isP d = false := by rw [hp, pf, h1, Bool.and_false]
    rw [← e]
    exact q _ sm3
  cases hv with
  | @tup b xs cs hb hc =>
    refine iteT ?_
    have sz : L.length + xs.length ≤ sizeLine := by
      have h1 := hL.length
      have h2 := hc.length
      have h3 := len_twA es
      have h4 := len_twA cs
      simp only [tw] at tf
      exact small (by omega)
    refine ⟨_, rfl, .inl ⟨rfl, _, SqL.of ea3⟩, _, rfl, a, b, L, xs, rfl, rfl, ea3, .inr (SqT.of (sm3 _ _ hb)), sz, ?_⟩
    refine ⟨twA (es ++ cs), ?_, L ++ xs, es ++ cs, _, rfl, same_upd sm3 ha _, upd_same, hL.append hc, ?_, rfl, ?_⟩
    · rw [tf, twA_app]; simp only [tw]; omega
    · rw [hp, pf, isPA_app]; simp [isP]
    · rw [twA_app]; simp only [tw] at tf; omega
  | bl b =>
    refine iteF ⟨_, rfl, _, _, rfl, hv3, _, rfl, iteT (iteT (bad (by simp [isP])))⟩
  | int i =>
    refine iteF ⟨_, rfl, _, _, rfl, hv3, _, rfl, iteF ⟨_, rfl, _, _, rfl, hv3, _, rfl, iteF (iteF (done (by simp [isP]) pos))⟩⟩
  | non =>
    refine iteF ⟨_, rfl, _, _, rfl, hv3, _, rfl, iteF ⟨_, rfl, _, _, rfl, hv3, _, rfl, iteT ⟨_, rfl, rfl, _, rfl, iteF (iteF (done (by simp [isP]) pos))⟩⟩⟩
  | str y =>
    refine iteF ⟨_, rfl, _, _, rfl, hv3, _, rfl, iteF ⟨_, rfl, _, _, rfl, hv3, _, rfl, iteT ⟨_, rfl, rfl, _, rfl, iteT ⟨_, rfl, _, _, rfl, hv3, by omega, fun H4 s4 => ⟨_, rfl, ?_⟩⟩⟩⟩⟩
    by_cases hy : Mt.plain (TL.tl y) = true
    · have : (!plainD (.str y)) = false := by simp [plainD, hy]
      refine ifF this ?_
      refine ⟨twA es, by omega, L, es, some (.str y), rfl, sm3.trans s4, s4 _ _ ea3, hL, by rw [hp, pf]; simp [isP, hy], rfl, by omega⟩
    · have : (!plainD (.str y)) = true := by simp [plainD, hy]
      refine ifT this ?_
      have e : isP d = false := by rw [hp, pf]; simp [isP, hy]
      show Q (.bl false) _
      rw [← e]
      exact q _ (sm3.trans s4)
  | lst hb hc =>
    refine iteF ⟨_, rfl, _, _, rfl, hv3, _, rfl, iteF ⟨_, rfl, _, _, rfl, hv3, _, rfl, iteT ⟨_, rfl, rfl, _, rfl, iteT ⟨_, rfl, _, _, rfl, hv3, by omega, fun H4 s4 => ⟨_, rfl, iteT ?_⟩⟩⟩⟩⟩
    have e : isP d = false := by rw [hp, pf]; simp [isP]
    show Q (.bl false) _
    rw [← e]
    exact q _ (sm3.trans s4)
  | dct hb =>
    refine iteF ⟨_, rfl, _, _, rfl, hv3, _, rfl, iteF ⟨_, rfl, _, _, rfl, hv3, _, rfl, iteT ⟨_, rfl, rfl, _, rfl, iteT ⟨_, rfl, _, _, rfl, hv3, by omega, fun H4 s4 => ⟨_, rfl, iteT ?_⟩⟩⟩⟩⟩
    have e : isP d = false := by rw [hp, pf]; simp [isP]
    show Q (.bl false) _
    rw [← e]
    exact q _ (sm3.trans s4)
end
end K8

set_option Elab.async false
set_option linter.all false
set_option maxRecDepth 100000
set_option maxHeartbeats 4000000
namespace K8
open PySem PySem.Spec PyProof.Rows L2 Pk Mt
/-! ### texts as signs -/
theorem sub0 {x y : Str} (hy : TL.tl y ≠ []) : (decide (0 + y.length ≤ x.length) && Builtin.Str.subAt x y 0) = TL.pre (TL.tl y) (TL.tl x) := by
  have h := TL.at_iff (x := x) hy 0
  rw [List.drop_zero] at h
  rw [Bool.eq_iff_iff, ← h]
  simp only [Bool.and_eq_true, decide_eq_true_eq]
  exact Iff.rfl
theorem pre1 (c : Nat) (l : List Nat) : TL.pre [c] l = decide (l.head? = some c) := by
  cases l with
  | nil => rfl
  | cons d r => by_cases h : d = c <;> simp [TL.pre, h]
theorem tl_unminus (x : Str) : TL.tl (Txt.removeprefix x "-") = figs (TL.tl x) := by
  have ey : TL.tl ("-" : Str) = [45] := by decide +kernel
  rw [PySem.StrLaws.removeprefix_eq, sub0 (by rw [ey]; simp), ey, pre1]
  by_cases h : (TL.tl x).head? = some 45
  · rw [if_pos (decide_eq_true h)]
    obtain ⟨r, hr⟩ : ∃ r, TL.tl x = 45 :: r := by
      cases hx : TL.tl x with
      | nil => rw [hx] at h; simp at h
      | cons c r => rw [hx] at h; exact ⟨r, by simp at h; rw [h]⟩
    have el : ("-" : Str).length = 1 := by decide +kernel
    have ex := TL.len_tl x
    rw [hr] at ex ⊢
    show (List.take _ (List.drop _ (TL.tl x))) = r
    rw [el, hr, ex]
    simp
  · rw [if_neg (by simpa using h), figs_id h]
theorem starts_q (x : Str) : Txt.startswith x "'" = decide ((TL.tl x).head? = some 39) := by
  have ey : TL.tl ("'" : Str) = [39] := by decide +kernel
  have := sub0 (x := x) (y := "'") (by rw [ey]; simp)
  rw [ey, pre1] at this
  exact this
theorem tl_cut1 (z : Str) : TL.tl (cutS z (some 1) none) = (TL.tl z).tail := by
  show (List.take (z.length - HT.sIx z.length 0 (some ((1 : Nat) : Int))) (List.drop (HT.sIx z.length 0 (some ((1 : Nat) : Int))) (TL.tl z))) = _
  rw [HT.sIx_nat]
  have ex := TL.len_tl z
  cases hz : TL.tl z with
  | nil => simp
  | cons c r =>
    rw [hz, List.length_cons] at ex
    have : min 1 z.length = 1 := by omega
    rw [this, ex]
    simp
theorem tl_head1 (z : Str) : TL.tl (cutS z none (some 1)) = (TL.tl z).take 1 := by
  show (List.take (HT.sIx z.length z.length (some ((1 : Nat) : Int)) - 0) (List.drop 0 (TL.tl z))) = _
  rw [HT.sIx_nat, List.drop_zero]
  have ex := TL.len_tl z
  cases hz : TL.tl z with
  | nil => simp
  | cons c r =>
    rw [hz, List.length_cons] at ex
    have : min 1 z.length = 1 := by omega
    rw [this]
theorem tl_joinB (ys : List Str) : TL.tl (Txt.join " " ys) = TL.joinL [32] (ys.map TL.tl) := by
  rw [TL.join_eq, TL.tl_join]
  rfl
theorem PSsT.nox {X : Cx} {st : List Stmt} {t : TS} (h : PSsT X.nox st t) : PSsT X st t := fun pins s σ H D h0 I hw =>
  wpAny_mono (h pins s σ H D h0 (I.wish _) hw) (fun _ _ q => q.unwish) fun _ _ z => False.elim z
section
variable {P : Program} {w : World} {K : PySem.W.Frag} {mg : Str → Option Value} {base : Heap}
/-- a def with a token out: its body -/
theorem okT {x qual : Str} {st : Stmt} {f : Addr} {fd : FuncData} {N ps : List Str} {k : Nat} {sp : Sp} (F : Fun K x qual st f fd) (S : FnScope N ps (defScope st)) (hnc : ∀ y ∈ (defScope st).names, y.2 ≠ .cell) (hps : 1 ≤ ps.length) (len : ∀ vs H Q E, sp vs H Q E → vs.length = ps.length)
    (hbody : ∀ (cdv : Value) (A : Around) (outer : List Env) (s : Shared) (H : Hp) (vs : List V) (Q : VK) (E : XK), Room k (A.deeper (envOfC qual (defScope st) s.heap.objs.size f cdv)) → sp vs H Q E →
      ∃ t, PSsT (cxOf CX0 P w K mg base N qual (defScope st) f cdv A outer s H E).nox (defBody st) t ∧ t { nx := fun _ H' => Q .non H', rt := Q } (start N vs) H) : FnOk P w K mg base CX0 (k + 1) f fd ps sp := by
  obtain ⟨oc, od, kV, doc, pm, an, cdv, ct, osl, rfl, lk, hcd⟩ := F.ex
  refine fn_ofT lk hcd S hnc hps len fun A outer s H vs Q E hr hsp => ?_
  obtain ⟨t, h, q⟩ := hbody cdv A outer s H vs Q E hr hsp
  exact ⟨t, PSsT.nox h, q⟩
/-! ### paper_text -/
def spPaperText : Sp := fun vs H Q _ => ∃ x d, vs = [x] ∧ Rp H x d ∧ isP d = true ∧ okI d = true ∧ tw d ≤ 100000 ∧ ∀ (z : Str) H', TL.tl z = txt d → Same H H' → Q (.str z) H'
def outW : PyData → List (List Nat)
  | .bool _ => [[41]]
  | e => toks e
theorem outW_P {d : PyData} (h : isP d = true) : outW d = toks d := by cases d <;> first | rfl | simp [isP] at h
theorem outW_A : ∀ {ds : List PyData}, isPA ds = true → ds.flatMap outW = toksA ds
  | [], _ => by simp [toksA]
  | d :: ds, h => by
    have h' : isP d = true ∧ isPA ds = true := by simpa [isPA] using h
    rw [List.flatMap_cons, outW_P h'.1, outW_A h'.2, toksA]
theorem outW_ne : ∀ d, 1 ≤ (outW d).length
  | .none => by simp [outW, toks]
  | .bool _ => by simp [outW]
  | .int _ => by simp [outW, toks]
  | .str _ => by simp [outW, toks]
  | .list _ => by simp [outW, toks]
  | .tuple _ => by simp [outW, toks]
  | .dict _ => by simp [outW, toks]
theorem len_outW : ∀ ds : List PyData, ds.length ≤ (ds.flatMap outW).length
  | [] => by simp
  | d :: ds => by
    have := len_outW ds
    have := outW_ne d
    rw [List.flatMap_cons, List.length_append, List.length_cons]
    omega
def okW (d : PyData) : Prop := d = .bool false ∨ (isP d = true ∧ okI d = true ∧ tw d ≤ 100000)
theorem okW_all : ∀ {ds : List PyData}, isPA ds = true → okIA ds = true → twA ds ≤ 100000 → ∀ e ∈ ds, okW e
  | [], _, _, _, e, he => by simp at he
  | d :: ds, h1, h2, h3, e, he => by
    have h1' : isP d = true ∧ isPA ds = true := by simpa [isPA] using h1
    have h2' : okI d = true ∧ okIA ds = true := by simpa [okIA] using h2
    have h3' : tw d + twA ds ≤ 100000 := by simpa [twA] using h3
    rcases List.mem_cons.mp he with rfl | he
    · exact .inr ⟨h1'.1, h2'.1, by omega⟩
    · exact okW_all h1'.2 h2'.2 (by omega) e he
theorem sum_len (ts : List Str) : (ts.map (·.length)).sum + ts.length = wsum (ts.map TL.tl) := by
  induction ts with
  | nil => rfl
  | cons t ts ih =>
    have := TL.len_tl t
    simp only [List.map_cons, List.sum_cons, List.length_cons, wsum]
    omega
theorem ok_paper_text (T : Facts K mg) : FnOk P w K mg base CX0 2 T.f_paper_text T.d_paper_text ["thing"] spPaperText := by
  refine okT T.F_paper_text c_paper_text (by decide +kernel) (by decide) (fun vs H Q E h => ?_) (fun cdv A outer s H vs Q E hr h => ?_)
  · obtain ⟨x, d, rfl, _⟩ := h
    rfl
  obtain ⟨x, d, rfl, hx, hp, hi, hw, q⟩ := h
  have hu := hu_of hr
  refine ⟨_, psst_cons (PST.of (ps_par (i := 1) (j := 2) (by rfl) c_paper_text.nd rfl rfl (by decide) rfl rfl (pa_cons (pe_lst pa_nil) (pa_cons (pe_lst (pa_cons (pv 0) pa_nil)) pa_nil)) (by rfl)))
    (psst_cons (PST.of (ps_while PassesOwn.never (pt_cmpR (op_neE (Nat.lt_of_succ_lt hu)) (pv 2) (pe_lst pa_nil) (nomark _))
      (pss_cons (ps_set (i := 3) c_paper_text.nd rfl (.inl rfl) (pe_bm0 PySem.F.plainAttrs_list PySem.F.slot_list_pop PySem.F.type_list_pop mt_pop (pv 2)))
      (pss_one (ps_if (pt_val (pis (T := "tuple") T.z_isinstance T.z_tuple (pv 3)))
        (pss_cons (ps_expr (pe_bm PySem.F.plainAttrs_list PySem.F.slot_list_append PySem.F.type_list_append mt_append (pv 2) (pa_cons pe_bl pa_nil)))
        (pss_cons (ps_expr (pe_bm PySem.F.plainAttrs_list PySem.F.slot_list_extend PySem.F.type_list_extend mt_extA (pv 2) (pa_cons (pe_revL (pe_callTy call_list_of (by rfl) T.z_list (by decide +kernel) (pa_cons (pv 3) pa_nil))) pa_nil)))
        (pss_one (ps_expr (pe_bm PySem.F.plainAttrs_list PySem.F.slot_list_append PySem.F.type_list_append mt_append (pv 1) (pa_cons pe_str pa_nil))))))
        (pss_one (ps_expr (pe_bm PySem.F.plainAttrs_list PySem.F.slot_list_append PySem.F.type_list_append mt_append (pv 1) (pa_cons
          (pe_ifExp (pt_cmpR op_isB (pv 3) pe_bl (nomark _)) pe_str (pe_call (ok_word_of T) hr (by rfl) T.m_word_of T.F_word_of.kp T.b_word_of .nil pass0 (pa_cons (pv 3) pa_nil))) pa_nil)))))))))
    (CwR.psst_one (CwR.pst_ret (CwR.pet_replT (CwR.pet_replC (pe_join (pe_gs T.n_BLANK) (pv 1))))))), ?_⟩
  refine ⟨by show 0 ≤ sizeLine; decide, fun f hf => ⟨_, rfl, by show 1 ≤ sizeLine; decide, fun a ha => ⟨_, _, rfl, ?_⟩⟩⟩
  have naf : f ≠ a := ne_of_none upd_same ha
  have ha0 : H a = none := by rw [upd_ne (Ne.symm naf)] at ha; exact ha
  have hlen : (toks d).length ≤ 100000 := Nat.le_trans (len_wsum _) (by rw [toks_wsum d hp]; exact hw)
  refine while_n (fun m σ H' => ∃ fs ws ds one, σ = [some x, some (.ref f), some (.ref a), one] ∧ Same H H' ∧ H' f = some (.lst (fs.map V.str)) ∧ H' a = some (.lst ws) ∧ RpA H ws ds ∧ (∀ e ∈ ds, okW e) ∧
    fs.map TL.tl ++ ds.reverse.flatMap outW = toks d ∧ m = (ds.reverse.flatMap outW).length) (toks d).length
    ⟨[], [x], [d], none, rfl, (same_new hf _).trans (same_new ha _), by rw [upd_ne naf, upd_same]; rfl, upd_same, .cons hx .nil, fun e he => ?_, by simp [outW_P hp], by simp [outW_P hp]⟩ ?_ (fun _ _ _ _ h ⟨v, h1, h2, h3⟩ => ⟨v, h1, h2, fun p hp => ?_⟩)
  rotate_left 2
  · obtain ⟨a', b', e', z1, z2, z3, k, z4, z5⟩ := h3 p hp
    exact ⟨a', b', e', z1, z2, z3, k, z4, h _ _ z5⟩
  · have : e = d := by simpa using he
    rw [this]; exact .inr ⟨hp, hi, hw⟩
  rintro m σ H' ⟨fs, ws, ds, one, rfl, sm, ef, ea, hd, hk, ht, rfl⟩
  refine ⟨_, rfl, by show 0 ≤ sizeLine; decide, fun p hpn => ?_⟩
  have nap : a ≠ p := ne_of_none ea hpn
  have nfp : f ≠ p := ne_of_none ef hpn
  have sm2 : Same H (upd H' p (.lst [])) := sm.trans (same_new hpn _)
  have ea2 : upd H' p (.lst []) a = some (.lst ws) := by rw [upd_ne nap]; exact ea
  have ef2 : upd H' p (.lst []) f = some (.lst (fs.map V.str)) := by rw [upd_ne nfp]; exact ef
  have hfs : fs.length ≤ 100000 := by
    have := congrArg List.length ht
    rw [List.length_append, List.length_map] at this
    omega
  refine ⟨a, p, _, rfl, rfl, ne_list _ ea2 upd_same, _, rfl, ?_⟩
  rcases List.eq_nil_or_concat ws with e | ⟨L, v, e⟩
  · subst e
    cases hd
    have ht : fs.map TL.tl = toks d := by simpa using ht
    refine iteF ?_
    have hs := sum_len fs
    rw [ht, toks_wsum d hp] at hs
    have hj : TL.tl (Txt.join " " fs) = TL.joinL [32] (toks d) := by rw [tl_joinB, ht]
    have hlj : (Txt.join " " fs).length ≤ 200000 := by
      have e1 := TL.len_tl (Txt.join " " fs)
      have e2 : ∀ ts : List (List Nat), (TL.joinL [32] ts).length ≤ wsum ts := fun ts => by
        induction ts with
        | nil => simp [TL.joinL]
        | cons t ts ih =>
          cases ts with
          | nil => simp [TL.joinL, wsum]
          | cons u ts =>
            have q : TL.joinL [32] (t :: u :: ts) = t ++ ([32] ++ TL.joinL [32] (u :: ts)) := rfl
            rw [q, List.length_append, List.length_append, List.length_singleton, wsum]
            omega
      rw [e1, hj]
      have := e2 (toks d)
      rw [toks_wsum d hp] at this
      omega
    have r1e : TL.tl (Txt.replace (Txt.join " " fs) "( " "(") = r1 (TL.joinL [32] (toks d)) := by
      have := PySem.StrLaws.replace_list (x := Txt.join " " fs) (y := "( ") (z := "(") (by decide +kernel)
      rw [show (Txt.join " " fs).cps.toList = _ from hj] at this
      exact this
    have r2e : TL.tl (Txt.replace (Txt.replace (Txt.join " " fs) "( " "(") " )" ")") = txt d := by
      have := PySem.StrLaws.replace_list (x := Txt.replace (Txt.join " " fs) "( " "(") (y := " )") (z := ")") (by decide +kernel)
      rw [show (Txt.replace (Txt.join " " fs) "( " "(").cps.toList = _ from r1e] at this
      rw [← text_law d hp]
      exact this
    have hl1 := TK.replace_len (Txt.join " " fs) "( " "("
    have e1 : ("(" : Str).length = 1 := by decide +kernel
    have e3 : (")" : Str).length = 1 := by decide +kernel
    rw [e1] at hl1
    refine ⟨⟨_, rfl⟩, _, rfl, _, f, fs, rfl, rfl, .inl (SqL.of ef2), ?_, _, rfl, ?_, _, rfl, ?_, q _ _ r2e sm2⟩
    · have e4 : (" " : Str).length = 1 := by decide +kernel
      show (fs.map (·.length)).sum + fs.length * (" " : Str).length ≤ 16777216
      rw [e4]
      omega
    · rw [e1]; omega
    · rw [e3]; omega
  rw [List.concat_eq_append] at e
  subst e
  obtain ⟨es, g, rfl, hL, hv⟩ := RpA.split hd
  have el : (!decide ((L ++ [v]).length = 0)) = true := by simp
  refine ifT el ⟨_, rfl, .inl ⟨rfl, _, SqL.of ea2⟩, a, _, v, rfl, rfl, ea2, by simp, ?_⟩
  have sm3 : Same H (upd (upd H' p (.lst [])) a (.lst (L ++ [v]).dropLast)) := same_upd sm2 ha0 _
  have ef3' : upd (upd H' p (.lst [])) a (.lst (L ++ [v]).dropLast) f = some (.lst (fs.map V.str)) := by rw [upd_ne naf]; exact ef2
  generalize eH : upd (upd H' p (.lst [])) a (.lst (L ++ [v]).dropLast) = H3 at sm3 ef3'
  have ea3 : H3 a = some (.lst L) := by rw [← eH, upd_same]; simp
  have ef3 := ef3'
  have hv3 := hv.mono sm3
  have hg := hk g (by simp)
  have hke : ∀ e ∈ es, okW e := fun e he => hk e (by simp [he])
  rw [List.reverse_append, List.reverse_singleton, List.singleton_append, List.flatMap_cons] at ht ⊢
  have hL100 : L.length ≤ 100000 := by
    have h1 := hL.length
    have h2 := len_outW es.reverse
    have h3 := congrArg List.length ht
    simp only [List.length_append, List.length_map, List.length_reverse] at h2 h3
    omega
  refine ⟨v, rfl, _, g, rfl, hv3, _, rfl, ?_⟩
  have leaf : ∀ (z : Str), outW g = [TL.tl z] → ∃ m', m' < (outW g ++ es.reverse.flatMap outW).length ∧ ∃ fs ws ds one, [some x, some (.ref f), some (.ref a), some v] = [some x, some (.ref f), some (.ref a), one] ∧ Same H (upd H3 f (.lst (List.map V.str fs))) ∧ (upd H3 f (.lst (List.map V.str fs))) f = some (.lst (List.map V.str fs)) ∧ (upd H3 f (.lst (List.map V.str fs))) a = some (.lst ws) ∧ RpA H ws ds ∧ (∀ e ∈ ds, okW e) ∧
      fs.map TL.tl ++ ds.reverse.flatMap outW = toks d ∧ m' = (ds.reverse.flatMap outW).length := fun z hz => by
    refine ⟨(es.reverse.flatMap outW).length, by rw [hz]; simp, fs ++ [z], L, es, some v, rfl, same_upd sm3 hf _, upd_same, by rw [upd_ne (Ne.symm naf)]; exact ea3, hL, hke, ?_, rfl⟩
    rw [← ht, hz]
    simp
  cases hv with
  | @tup b xs cs hb hc =>
    have hg' : isP (.tuple cs) = true ∧ okI (.tuple cs) = true ∧ tw (.tuple cs) ≤ 100000 := by
      rcases hg with e | e
      · cases e
      · exact e
    have p1 : isPA cs = true := by simpa [isP] using hg'.1
    have p2 : okIA cs = true := by simpa [okI] using hg'.2.1
    have p3 : 4 + twA cs ≤ 100000 := by simpa [tw] using hg'.2.2
    have hxs := hc.length
    have hcs := len_twA cs
    refine iteT ?_
    refine ⟨_, rfl, .inl ⟨rfl, _, SqL.of ea3⟩, a, L, _, rfl, rfl, ea3, Nat.lt_of_le_of_lt hL100 (by decide), ?_⟩
    have nba : b ≠ a := ne_of_none hb ha0
    have sm4 : Same H (upd H3 a (.lst (L ++ [.bl false]))) := same_upd sm3 ha0 _
    have ef4 : upd H3 a (.lst (L ++ [.bl false])) f = some (.lst (fs.map V.str)) := by rw [upd_ne naf]; exact ef3
    generalize eH4 : upd H3 a (.lst (L ++ [.bl false])) = H4 at sm4 ef4
    have ea4 : H4 a = some (.lst (L ++ [.bl false])) := by rw [← eH4, upd_same]
    refine ⟨_, rfl, .inl ⟨rfl, _, SqL.of ea4⟩, _, rfl, b, xs, rfl, .inr (SqT.of (sm4 _ _ hb)), fun l1 hl1 => ⟨l1, xs, rfl, SqL.of upd_same, fun l2 hl2 => ?_⟩⟩
    have n1 : a ≠ l1 := ne_of_none ea4 hl1
    have n2 : a ≠ l2 := ne_of_none (show upd H4 l1 (.lst xs) a = _ by rw [upd_ne n1]; exact ea4) hl2
    have m1 : f ≠ l1 := ne_of_none ef4 hl1
    have m2 : f ≠ l2 := ne_of_none (show upd H4 l1 (.lst xs) f = _ by rw [upd_ne m1]; exact ef4) hl2
    have ea5 : upd (upd H4 l1 (.lst xs)) l2 (.lst xs.reverse) a = some (.lst (L ++ [.bl false])) := by rw [upd_ne n2, upd_ne n1]; exact ea4
    have ef5 : upd (upd H4 l1 (.lst xs)) l2 (.lst xs.reverse) f = some (.lst (fs.map V.str)) := by rw [upd_ne m2, upd_ne m1]; exact ef4
    have sm5 : Same H (upd (upd H4 l1 (.lst xs)) l2 (.lst xs.reverse)) := (sm4.trans (same_new hl1 _)).trans (same_new hl2 _)
    refine ⟨a, l2, L ++ [.bl false], xs.reverse, rfl, rfl, ea5, .inl upd_same, small ?_, ?_⟩
    · rw [List.length_append, List.length_singleton, List.length_reverse]; omega
    have sm6 : Same H (upd (upd (upd H4 l1 (.lst xs)) l2 (.lst xs.reverse)) a (.lst ((L ++ [.bl false]) ++ xs.reverse))) := same_upd sm5 ha0 _
    refine ⟨_, rfl, .inl ⟨rfl, _, SqL.of (show _ = some (HO.lst (fs.map V.str)) by rw [upd_ne naf]; exact ef5)⟩, f, _, _, rfl, rfl, (by rw [upd_ne naf]; exact ef5), Nat.lt_of_le_of_lt (by rw [List.length_map]; exact hfs) (by decide), ?_⟩
    have efin : ((es ++ [PyData.bool false]) ++ cs.reverse).reverse.flatMap outW = toksA cs ++ ([41] :: es.reverse.flatMap outW) := by
      rw [List.reverse_append, List.reverse_reverse, List.reverse_append, List.reverse_singleton, List.flatMap_append, outW_A p1]
      rfl
    have eg : outW (.tuple cs) = [40] :: (toksA cs ++ [[41]]) := by rw [outW_P hg'.1, toks]
    refine ⟨(((es ++ [PyData.bool false]) ++ cs.reverse).reverse.flatMap outW).length, ?_, fs ++ [("(" : Str)], (L ++ [.bl false]) ++ xs.reverse, (es ++ [PyData.bool false]) ++ cs.reverse, some (.ref b), rfl, same_upd sm6 hf _, ?_, ?_, (hL.append (.cons (.bl false) .nil)).append hc.rev, ?_, ?_, rfl⟩
    · rw [efin, eg]
      simp only [List.length_append, List.length_cons, List.length_nil]
      omega
    · rw [upd_same, List.map_append]; rfl
    · rw [upd_ne (Ne.symm naf), upd_same]
    · intro e he
      rcases List.mem_append.mp he with he | he
      · rcases List.mem_append.mp he with he | he
        · exact hke e he
        · exact .inl (by simpa using he)
      · exact okW_all p1 p2 (by omega) e (List.mem_reverse.mp he)
    · rw [efin, ← ht, eg]
      have e1 : TL.tl ("(" : Str) = [40] := by decide +kernel
      simp [e1]
  | bl b =>
    have hb : b = false := by
      rcases hg with e | e
      · cases e; rfl
      · have := e.1; simp [isP] at this
    subst hb
    refine iteF ⟨_, rfl, .inl ⟨rfl, _, SqL.of ef3⟩, _, rfl, _, rfl, _, rfl, iteT ?_⟩
    refine ⟨f, _, _, rfl, rfl, ef3, Nat.lt_of_le_of_lt (by rw [List.length_map]; exact hfs) (by decide), ?_⟩
    refine ⟨(es.reverse.flatMap outW).length, by simp [outW], fs ++ [(")" : Str)], L, es, _, rfl, same_upd sm3 hf _, by rw [upd_same, List.map_append]; rfl, by rw [upd_ne (Ne.symm naf)]; exact ea3, hL, hke, ?_, rfl⟩
    rw [← ht]
    have e1 : TL.tl (")" : Str) = [41] := by decide +kernel
    simp [outW, e1]
  | non =>
    refine iteF ⟨_, rfl, .inl ⟨rfl, _, SqL.of ef3⟩, _, rfl, _, rfl, _, rfl, iteF ?_⟩
    refine ⟨_, rfl, _, .none, rfl, .non, by simp [isP], by simp [okI], by simp [kd], by simp [tw], fun z hz => ⟨f, _, _, rfl, rfl, ef3, Nat.lt_of_le_of_lt (by rw [List.length_map]; exact hfs) (by decide), ?_⟩⟩
    refine ⟨(es.reverse.flatMap outW).length, by simp [outW, toks], fs ++ [z], L, es, _, rfl, same_upd sm3 hf _, by rw [upd_same, List.map_append]; rfl, by rw [upd_ne (Ne.symm naf)]; exact ea3, hL, hke, ?_, rfl⟩
    rw [← ht, List.map_append, List.map_singleton, hz]
    simp [outW, toks, txt]
  | int i =>
    have hg' : isP (.int i) = true ∧ okI (.int i) = true ∧ tw (.int i) ≤ 100000 := by
      rcases hg with e | e
      · cases e
      · exact e
    refine iteF ⟨_, rfl, .inl ⟨rfl, _, SqL.of ef3⟩, _, rfl, _, rfl, _, rfl, iteF ?_⟩
    refine ⟨_, rfl, _, .int i, rfl, .int i, hg'.1, hg'.2.1, by simp [kd], hg'.2.2, fun z hz => ⟨f, _, _, rfl, rfl, ef3, Nat.lt_of_le_of_lt (by rw [List.length_map]; exact hfs) (by decide), ?_⟩⟩
    refine ⟨(es.reverse.flatMap outW).length, by simp [outW, toks], fs ++ [z], L, es, _, rfl, same_upd sm3 hf _, by rw [upd_same, List.map_append]; rfl, by rw [upd_ne (Ne.symm naf)]; exact ea3, hL, hke, ?_, rfl⟩
    rw [← ht, List.map_append, List.map_singleton, hz]
    simp [outW, toks, txt]
  | str y =>
    have hg' : isP (.str y) = true ∧ okI (.str y) = true ∧ tw (.str y) ≤ 100000 := by
      rcases hg with e | e
      · cases e
      · exact e
    refine iteF ⟨_, rfl, .inl ⟨rfl, _, SqL.of ef3⟩, _, rfl, _, rfl, _, rfl, iteF ?_⟩
    refine ⟨_, rfl, _, .str y, rfl, .str y, hg'.1, hg'.2.1, by simp [kd], hg'.2.2, fun z hz => ⟨f, _, _, rfl, rfl, ef3, Nat.lt_of_le_of_lt (by rw [List.length_map]; exact hfs) (by decide), ?_⟩⟩
    refine ⟨(es.reverse.flatMap outW).length, by simp [outW, toks], fs ++ [z], L, es, _, rfl, same_upd sm3 hf _, by rw [upd_same, List.map_append]; rfl, by rw [upd_ne (Ne.symm naf)]; exact ea3, hL, hke, ?_, rfl⟩
    rw [← ht, List.map_append, List.map_singleton, hz]
    simp [outW, toks, txt]
  | lst _ _ =>
    rcases hg with e | e
    · cases e
    · have := e.1; simp [isP] at this
  | dct _ =>
    rcases hg with e | e
    · cases e
    · have := e.1; simp [isP] at this
end
end K8

set_option Elab.async false
set_option linter.all false
set_option maxRecDepth 100000
set_option maxHeartbeats 4000000
namespace K8
open PySem PySem.Spec PyProof.Rows L2 Pk Mt
theorem dec_str (a b : Str) : decide (V.str a = V.str b) = decide (TL.tl a = TL.tl b) := by
  by_cases h : a = b
  · subst h; simp
  · have : TL.tl a ≠ TL.tl b := fun e => h (TL.ext_tl e)
    rw [decide_eq_false this, decide_eq_false (fun e => h (by injection e))]
theorem dec_str_of {a b : Str} {l m : List Nat} (ha : TL.tl a = l) (hb : TL.tl b = m) : decide (V.str a = V.str b) = decide (l = m) := by rw [dec_str, ha, hb]
section
variable {P : Program} {w : World} {K : PySem.W.Frag} {mg : Str → Option Value} {base : Heap}
/-! ### integer_of -/
def intV : Option Int → V
  | none => .non
  | some n => .int n
def spIntegerOf : Sp := fun vs H Q _ => ∃ wd : Str, vs = [.str wd] ∧ wd.length ≤ 100000 ∧ ∀ H', Same H H' → Q (intV (intP (TL.tl wd))) H'
theorem int_of {x : Str} (h : badFigs (TL.tl x) = false) : intText? x = some (Mt.numOf (TL.tl x)) ∧ x.length ≤ 41 := by
  have hb : (figs (TL.tl x) ≠ [] ∧ (figs (TL.tl x)).length ≤ 40) ∧ (figs (TL.tl x)).all digit = true := by simpa [badFigs] using h
  obtain ⟨⟨h1, h2⟩, h3⟩ := hb
  have hd := all_digs h3
  have el := TL.len_tl x
  unfold Mt.numOf
  by_cases hm : (TL.tl x).head? = some 45
  · obtain ⟨r, hr⟩ : ∃ r, TL.tl x = 45 :: r := by
      cases hx : TL.tl x with
      | nil => rw [hx] at hm; simp at hm
      | cons c r => rw [hx] at hm; exact ⟨r, by simp at hm; rw [hm]⟩
    rw [hr] at el h1 h2 hd hm ⊢
    rw [figs_min] at *
    rw [List.length_cons] at el
    exact ⟨by rw [if_pos hm]; exact intText_neg hr hd h1 (by omega), by omega⟩
  · rw [figs_id hm] at *
    exact ⟨by rw [if_neg hm]; exact intText_digits hd h1 (by omega), by omega⟩
theorem all_digit (l : List Nat) : ((l.filter fun _ => true).map fun c => decide (c ∈ ([48, 49, 50, 51, 52, 53, 54, 55, 56, 57] : List Nat))).all id = l.all digit := by
  induction l with
  | nil => rfl
  | cons c l ih =>
    rw [List.filter_cons_of_pos rfl, List.map_cons, List.all_cons, List.all_cons, ih]
    congr 1
    rw [Bool.eq_iff_iff]
    simp only [id, digit, decide_eq_true_eq, Bool.and_eq_true, List.mem_cons, List.not_mem_nil, or_false]
    omega
theorem ok_integer_of (T : Facts K mg) : FnOk P w K mg base CX0 1 T.f_integer_of T.d_integer_of ["word"] spIntegerOf := by
  refine T.F_integer_of.ok c_integer_of (fun vs H Q E h => ?_) (fun cdv A outer s H vs Q E hr h => ?_)
  · obtain ⟨x, rfl, _⟩ := h
    rfl
  obtain ⟨x, rfl, hw, q⟩ := h
  refine ⟨_, pss_cons (ps_set (i := 1) c_integer_of.nd rfl (.inl rfl) (pe_bm PySem.F.plainAttrs_str PySem.F.slot_str_removeprefix PySem.F.type_str_removeprefix mt_removeprefix (pv 0) (pa_cons pe_str pa_nil)))
    (pss_cons (ps_if (PW.pt (pw_or (pt_cmpR op_eq (pv 1) pe_str (nomark _)) (pw_or (pt_cmpR op_gt (pe_callB call_len_str (by rfl) T.z_len (by decide +kernel) (pa_cons (pv 1) pa_nil)) (pe_gi T.n_MOST_DIGITS) (nomark _))
        (pw_or1 (pt_not (pt_val (pe_callB (cr_all rfl) (by rfl) T.z_all (by decide +kernel) (pa_cons
          (pe_lc (own := [("sign", 2)]) (g := gName 2) (tt := tYes) rfl c_integer_of.nd (pi_str (pv 1)) (blkOk_by (own := [("sign", 2)]) (N := ["word", "digits", "sign"]) (sc := defScope s_integer_of) (by decide +kernel))
            (fun _ _ _ _ _ => pg_name (i := 2) c_integer_of.nd rfl (Or.inl rfl)) (fun _ _ _ _ _ => pts_nil) (fun _ _ _ _ _ => pe_cmpR op_in_sign (pv 2) (pe_gs T.n_DIGITS) (by rfl))) pa_nil))))))))
      (pss_one (ps_ret pe_non)) pss_nil)
    (pss_cons (ps_if (PW.pt (pw_and (pt_cmpR op_eq (pe_ix ix_str (pv 1) pe_int (fun _ _ => rfl)) pe_str (nomark _)) (pw_and1 (pt_cmpR op_ne (pv 0) pe_str (nomark _))))) (pss_one (ps_ret pe_non)) pss_nil)
    (pss_one (ps_ret (pe_callTy call_int_str (by rfl) T.z_int (by decide +kernel) (pa_cons (pv 0) pa_nil)))))), ?_⟩
  have ew := TL.len_tl x
  refine ⟨_, rfl, rfl, x, "-", rfl, rfl, small (by omega), ?_⟩
  have hd := tl_unminus x
  generalize Txt.removeprefix x "-" = dg at hd
  have ed := TL.len_tl dg
  have hl : dg.length ≤ 100000 := by
    rw [ed, hd]
    have : (figs (TL.tl x)).length ≤ (TL.tl x).length := by
      unfold figs
      split
      · rename_i h; simp [h]
      · exact Nat.le_refl _
    omega
  have out : ∀ H1, Same H H1 → badFigs (TL.tl x) = true → Q .non H1 := fun H1 s1 hb => by
    have := q H1 s1
    unfold intP at this
    rw [if_pos hb] at this
    exact this
  refine ⟨_, rfl, rfl, _, rfl, ?_⟩
  rw [dec_str_of hd (show TL.tl ("" : Str) = [] by decide +kernel)]
  by_cases h0 : figs (TL.tl x) = []
  · rw [decide_eq_true h0]
    exact iteT (iteT (out H (Same.refl _) (by simp [badFigs, h0])))
  rw [decide_eq_false h0]
  refine iteF ⟨_, rfl, dg, rfl, small (by omega), _, _, rfl, rfl, _, rfl, ?_⟩
  by_cases h1 : 40 < (figs (TL.tl x)).length
  · rw [decide_eq_true (show (40 : Int) < (dg.length : Int) by rw [ed, hd]; omega)]
    exact iteT (iteT (out H (Same.refl _) (by simp [badFigs, h1])))
  rw [decide_eq_false (show ¬ (40 : Int) < (dg.length : Int) by rw [ed, hd]; omega)]
  refine iteF ⟨_, rfl, _, rfl, fun D hD => ?_⟩
  refine lc_text (fun _ => true) (fun c => .bl (decide (c ∈ ([48, 49, 50, 51, 52, 53, 54, 55, 56, 57] : List Nat)))) (fun _ => rfl) (by omega) (fun _ _ _ _ h => h) (fun c l Q hc _ h => ⟨_, rfl, c, _, rfl, rfl, ?_⟩) ?_
  · have e : (Str.ofString "0123456789").cps.toList = ([48, 49, 50, 51, 52, 53, 54, 55, 56, 57] : List Nat) := by decide +kernel
    rw [e]; exact h
  have sm : Same H (upd H D (.lst (((TL.tl dg).filter fun _ => true).map fun c => V.bl (decide (c ∈ ([48, 49, 50, 51, 52, 53, 54, 55, 56, 57] : List Nat)))))) := same_new hD _
  refine ⟨D, ((TL.tl dg).filter fun _ => true).map fun c => decide (c ∈ ([48, 49, 50, 51, 52, 53, 54, 55, 56, 57] : List Nat)), rfl, SqL.of (by rw [upd_same, List.map_map]; rfl), _, rfl, ?_⟩
  rw [all_digit]
  generalize upd H D (.lst (((TL.tl dg).filter fun _ => true).map fun c => V.bl (decide (c ∈ ([48, 49, 50, 51, 52, 53, 54, 55, 56, 57] : List Nat))))) = H1 at sm
  by_cases h2 : (TL.tl dg).all digit = true
  rotate_left
  · refine ifT (by simpa using h2) (out H1 sm ?_)
    rw [hd] at h2
    simp [badFigs, h2]
  refine ifF (by simp [h2]) ?_
  have hb : badFigs (TL.tl x) = false := by
    rw [hd] at h2
    simp [badFigs, h0, h2]
    omega
  have fin : ∀ r, (if (figs (TL.tl x)).head? = some 48 ∧ TL.tl x ≠ [48] then none else some (Mt.numOf (TL.tl x))) = r → Q (intV r) H1 := fun r hr => by
    have := q H1 sm
    unfold intP at this
    rw [if_neg (by rw [hb]; exact Bool.false_ne_true), hr] at this
    exact this
  obtain ⟨c, r, hc⟩ : ∃ c r, figs (TL.tl x) = c :: r := by
    cases e : figs (TL.tl x) with
    | nil => exact absurd e h0
    | cons c r => exact ⟨c, r, rfl⟩
  refine ⟨_, rfl, dg, 0, c, rfl, rfl, small (by omega), atI_nat (j := 0) (by rw [show dg.cps.toList = _ from hd, hc]; rfl), rfl, _, rfl, ?_⟩
  rw [dec_str_of (show TL.tl (⟨#[c]⟩ : Str) = [c] from rfl) (show TL.tl ("0" : Str) = [48] by decide +kernel)]
  have fine : ¬ ((figs (TL.tl x)).head? = some 48 ∧ TL.tl x ≠ [48]) → ∃ a n, [V.str x] = [V.str a] ∧ intText? a = some n ∧ a.length ≤ 640 ∧ Q (.int n) H1 := fun hn => by
    obtain ⟨i1, i2⟩ := int_of hb
    exact ⟨x, _, rfl, i1, by omega, fin (some (Mt.numOf (TL.tl x))) (if_neg hn)⟩
  by_cases h48 : c = 48
  · subst h48
    rw [decide_eq_true rfl]
    refine iteT ⟨_, rfl, rfl, _, rfl, ?_⟩
    rw [dec_str_of rfl (show TL.tl ("0" : Str) = [48] by decide +kernel)]
    by_cases h00 : TL.tl x = [48]
    · rw [decide_eq_true h00]
      exact iteF ⟨_, rfl, fine (fun z => z.2 h00)⟩
    · rw [decide_eq_false h00]
      exact iteT (fin none (if_pos ⟨by rw [hc]; rfl, h00⟩))
  · rw [decide_eq_false (by simpa using h48)]
    refine iteF (iteF ⟨_, rfl, fine (fun z => ?_)⟩)
    have := z.1
    rw [hc] at this
    simp at this
    exact h48 this
/-! ### part_of -/
def spPartOf : Sp := fun vs H Q _ => ∃ wd : Str, vs = [.str wd] ∧ wd.length ≤ 100000 ∧ (partP (TL.tl wd) = none → ∀ H', Same H H' → Q .non H') ∧ ∀ x, partP (TL.tl wd) = some x → ∀ H' p v, Same H H' → H' p = some (.tup [v]) → Rp H' v x → Q (.ref p) H'
theorem ok_part_of (T : Facts K mg) : FnOk P w K mg base CX0 2 T.f_part_of T.d_part_of ["word"] spPartOf := by
  refine T.F_part_of.ok c_part_of (fun vs H Q E h => ?_) (fun cdv A outer s H vs Q E hr h => ?_)
  · obtain ⟨x, rfl, _⟩ := h
    rfl
  obtain ⟨x, rfl, hw, q0, q1⟩ := h
  refine ⟨_, pss_cons (ps_if (pt_cmpR op_eq (pv 0) (pe_gs T.n_NONE) (nomark _)) (pss_one (ps_ret (pe_tup (pa_cons pe_non pa_nil)))) pss_nil)
    (pss_cons (ps_if (pt_val (pe_m1 PySem.F.slot_str_startswith PySem.F.type_str_startswith mt_startswith (pv 0) (pe_gs T.n_QUOTE))) (pss_one (ps_ret (pe_tup (pa_cons (pe_slice sl_str (pv 0) (po_some pe_int) po_none) pa_nil)))) pss_nil)
    (pss_cons (ps_set (i := 1) c_part_of.nd rfl (.inl rfl) (pe_call (ok_integer_of T) hr (by rfl) T.m_integer_of T.F_integer_of.kp T.b_integer_of .nil pass0 (pa_cons (pv 0) pa_nil)))
    (pss_one (ps_ret (pe_ifExp (pt_cmpR op_isN (pv 1) pe_non (nomark _)) pe_non (pe_tup (pa_cons (pv 1) pa_nil))))))), ?_⟩
  refine ⟨_, rfl, rfl, _, rfl, ?_⟩
  rw [dec_str_of rfl (show TL.tl (Str.ofString "none") = noneL by decide +kernel)]
  by_cases h0 : TL.tl x = noneL
  · rw [decide_eq_true h0]
    refine iteT ⟨by show 1 ≤ sizeLine; decide, fun p hp => ?_⟩
    exact q1 .none (by unfold partP; rw [if_pos h0]) _ p .non (same_new hp _) upd_same .non
  rw [decide_eq_false h0]
  refine iteF ⟨_, rfl, ⟨_, rfl⟩, x, _, rfl, rfl, _, rfl, ?_⟩
  rw [show Txt.startswith x (Str.ofString "'") = decide ((TL.tl x).head? = some 39) from starts_q x]
  by_cases h1 : (TL.tl x).head? = some 39
  · rw [decide_eq_true h1]
    refine iteT ⟨_, rfl, _, rfl, x, rfl, small (by omega), by show 1 ≤ sizeLine; decide, fun p hp => ?_⟩
    have e : cutS x (some 1) none = ⟨(TL.tl x).tail.toArray⟩ := TL.ext_tl (tl_cut1 x)
    refine q1 (.str ⟨(TL.tl x).tail.toArray⟩) (by unfold partP; rw [if_neg h0, if_pos h1]) _ p (.str (cutS x (some 1) none)) (same_new hp _) upd_same ?_
    rw [e]
    exact .str _
  rw [decide_eq_false h1]
  have e : partP (TL.tl x) = (intP (TL.tl x)).map .int := by unfold partP; rw [if_neg h0, if_neg h1]
  refine iteF ⟨_, rfl, x, rfl, hw, fun H1 s1 => ⟨_, rfl, rfl, _, rfl, ?_⟩⟩
  cases hi : intP (TL.tl x) with
  | none => exact iteT (q0 (by rw [e, hi]; rfl) H1 s1)
  | some n => exact iteF ⟨_, rfl, by show 1 ≤ sizeLine; decide, fun p hp => q1 (.int n) (by rw [e, hi]; rfl) _ p (.int n) (s1.trans (same_new hp _)) upd_same (.int n)⟩
end
end K8

set_option Elab.async false
set_option linter.all false
set_option maxRecDepth 100000
set_option maxHeartbeats 4000000
namespace Pk
open PySem PySem.Spec PyProof.Rows L2 Mt
/-- all tuples stand -/
def Tups (H H' : Hp) : Prop := ∀ b xs, H b = some (.tup xs) → H' b = some (.tup xs)
theorem Tups.of {H H' : Hp} (s : Same H H') : Tups H H' := fun b xs h => s b _ h
theorem Tups.trans {H H1 H2 : Hp} (a : Tups H H1) (b : Tups H1 H2) : Tups H H2 := fun c o h => b c o (a c o h)
theorem Tups.upd_lst {H : Hp} {a : Addr} {xs : List V} (h : H a = some (.lst xs)) (o : HO) : Tups H (upd H a o) := fun b ys e => by
  by_cases hb : b = a
  · rw [hb, h] at e; cases e
  · rw [upd_ne hb]; exact e
mutual
theorem Rp.tups {H H' : Hp} (t : Tups H H') : ∀ {d : PyData} {v : V}, okI d = true → Rp H v d → Rp H' v d
  | .none, _, _, h => by cases h; exact .non
  | .bool _, _, h0, _ => by simp [okI] at h0
  | .int _, _, _, h => by cases h; exact .int _
  | .str _, _, _, h => by cases h; exact .str _
  | .list _, _, h0, _ => by simp [okI] at h0
  | .tuple ds, _, h0, h => by
    cases h with
    | tup h1 h2 => exact .tup (t _ _ h1) (RpA.tups t (by simpa [okI] using h0) h2)
  | .dict _, _, h0, _ => by simp [okI] at h0
theorem RpA.tups {H H' : Hp} (t : Tups H H') : ∀ {ds : List PyData} {vs : List V}, okIA ds = true → RpA H vs ds → RpA H' vs ds
  | [], _, _, h => by cases h; exact .nil
  | d :: ds, _, h0, h => by
    have h0' : okI d = true ∧ okIA ds = true := by simpa [okIA] using h0
    cases h with
    | cons h1 h2 => exact .cons (Rp.tups t h0'.1 h1) (RpA.tups t h0'.2 h2)
end
/-- the open lists, the innermost first -/
inductive Lv (B H : Hp) : List Addr → List (List PyData) → Prop
  | nil : Lv B H [] []
  | cons {u : Addr} {us : List Addr} {xs : List V} {ds : List PyData} {st : List (List PyData)} : B u = none → H u = some (.lst xs) → RpA H xs ds → okIA ds = true → Lv B H us st → Lv B H (u :: us) (ds :: st)
theorem Lv.keep {B H H' : Hp} (t : Tups H H') : ∀ {us : List Addr} {st : List (List PyData)}, (∀ r ∈ us, ∀ xs, H r = some (.lst xs) → H' r = some (.lst xs)) → Lv B H us st → Lv B H' us st
  | [], _, _, .nil => .nil
  | u :: us, _, k, .cons a b c d e => .cons a (k u List.mem_cons_self _ b) (c.tups t d) d (Lv.keep t (fun r hr => k r (List.mem_cons_of_mem _ hr)) e)
theorem Lv.none {B H : Hp} : ∀ {us : List Addr} {st : List (List PyData)}, Lv B H us st → ∀ r ∈ us, B r = none ∧ ∃ xs, H r = some (.lst xs)
  | _, _, .cons a b _ _ e, r, hr => by
    rcases List.mem_cons.mp hr with rfl | hr
    · exact ⟨a, _, b⟩
    · exact Lv.none e r hr
theorem Lv.len {B H : Hp} : ∀ {us : List Addr} {st : List (List PyData)}, Lv B H us st → us.length = st.length
  | _, _, .nil => rfl
  | _, _, .cons _ _ _ _ e => congrArg (· + 1) (Lv.len e)
structure Stk (B H : Hp) (a : Addr) (us : List Addr) (st : List (List PyData)) : Prop where
  top : H a = some (.lst (us.reverse.map V.ref))
  fr : B a = none
  out : a ∉ us
  nd : us.Nodup
  lv : Lv B H us st
theorem Stk.same {B H H' : Hp} {a : Addr} {us : List Addr} {st : List (List PyData)} (S : Stk B H a us st) (s : Same H H') : Stk B H' a us st :=
  ⟨s _ _ S.top, S.fr, S.out, S.nd, S.lv.keep (.of s) fun r _ xs h => s _ _ h⟩
theorem Stk.push {B H : Hp} {a p : Addr} {us : List Addr} {st : List (List PyData)} (S : Stk B H a us st) (s : Same B H) (hp : H p = none) : Stk B (upd (upd H p (.lst [])) a (.lst (us.reverse.map V.ref ++ [.ref p]))) a (p :: us) ([] :: st) ∧ Same B (upd (upd H p (.lst [])) a (.lst (us.reverse.map V.ref ++ [.ref p]))) := by
  have nap : a ≠ p := ne_of_none S.top hp
  have e1 : upd H p (.lst []) a = some (.lst (us.reverse.map V.ref)) := by rw [upd_ne nap]; exact S.top
  have pu : p ∉ us := fun h => by
    obtain ⟨_, xs, e⟩ := S.lv.none p h
    rw [hp] at e; cases e
  have bp : B p = none := s.free hp
  refine ⟨⟨?_, S.fr, fun h => ?_, List.nodup_cons.mpr ⟨pu, S.nd⟩, .cons bp ?_ .nil (by simp [okIA]) (S.lv.keep ?_ fun r hr xs h => ?_)⟩, fun b o e => ?_⟩
  · rw [upd_same]; simp
  · rcases List.mem_cons.mp h with h | h
    · exact nap h
    · exact S.out h
  · rw [upd_ne (Ne.symm nap), upd_same]
  · exact Tups.trans (.of fun b o e => by rw [upd_ne (ne_of_none e hp)]; exact e) (Tups.upd_lst e1 _)
  · rw [upd_ne (fun z => S.out (by rw [← z]; exact hr)), upd_ne (fun z => pu (by rw [← z]; exact hr))]; exact h
  · rw [upd_ne (ne_of_none e S.fr), upd_ne (ne_of_none e bp)]; exact s b o e
theorem Stk.leaf {B H : Hp} {a u : Addr} {us : List Addr} {ds : List PyData} {st : List (List PyData)} {xs : List V} {v : V} {d : PyData} (S : Stk B H a (u :: us) (ds :: st)) (s : Same B H) (hu : H u = some (.lst xs)) (hv : Rp H v d) (hd : okI d = true) :
    Stk B (upd H u (.lst (xs ++ [v]))) a (u :: us) ((ds ++ [d]) :: st) ∧ Same B (upd H u (.lst (xs ++ [v]))) := by
  have nau : a ≠ u := fun z => S.out (by rw [z]; exact List.mem_cons_self)
  have t : Tups H (upd H u (.lst (xs ++ [v]))) := Tups.upd_lst hu _
  obtain ⟨h1, h2, h3, h4, h5⟩ := S
  cases h5 with
  | cons b1 b2 b3 b4 b5 =>
    rw [b2] at hu
    cases hu
    refine ⟨⟨by rw [upd_ne nau]; exact h1, h2, h3, h4, .cons b1 upd_same (RpA.append (b3.tups t b4) (.cons (hv.tups t hd) .nil)) (by rw [okIA_app]; simp [okIA, b4, hd]) (b5.keep t fun r hr ys h => ?_)⟩, fun b o e => ?_⟩
    · rw [upd_ne (fun z => (List.nodup_cons.mp h4).1 (by rw [← z]; exact hr))]; exact h
    · rw [upd_ne (ne_of_none e b1)]; exact s b o e
theorem Stk.pop {B H : Hp} {a u : Addr} {us : List Addr} {ds : List PyData} {st : List (List PyData)} (S : Stk B H a (u :: us) (ds :: st)) (s : Same B H) : ∃ xs, Stk B (upd H a (.lst (us.reverse.map V.ref))) a us st ∧ Same B (upd H a (.lst (us.reverse.map V.ref))) ∧
    (upd H a (.lst (us.reverse.map V.ref))) u = some (.lst xs) ∧ RpA (upd H a (.lst (us.reverse.map V.ref))) xs ds ∧ okIA ds = true ∧ B u = none := by
  have nau : a ≠ u := fun z => S.out (by rw [z]; exact List.mem_cons_self)
  have t : Tups H (upd H a (.lst (us.reverse.map V.ref))) := Tups.upd_lst S.top _
  obtain ⟨h1, h2, h3, h4, h5⟩ := S
  cases h5 with
  | @cons _ _ xs _ _ b1 b2 b3 b4 b5 =>
    refine ⟨xs, ⟨upd_same, h2, fun z => h3 (List.mem_cons_of_mem _ z), (List.nodup_cons.mp h4).2, b5.keep t fun r hr ys h => ?_⟩, fun b o e => ?_, by rw [upd_ne (Ne.symm nau)]; exact b2, b3.tups t b4, b4, b1⟩
    · rw [upd_ne (fun z => h3 (by rw [← z]; exact List.mem_cons_of_mem _ hr))]; exact h
    · rw [upd_ne (ne_of_none e h2)]; exact s b o e
theorem Stk.last {B H : Hp} {a u : Addr} {us : List Addr} {st : List (List PyData)} (S : Stk B H a (u :: us) st) : H a = some (.lst (us.reverse.map V.ref ++ [.ref u])) := by
  have := S.top
  rw [List.reverse_cons, List.map_append] at this
  exact this
theorem Stk.start {B H : Hp} {a p : Addr} (h1 : H a = some (.lst [.ref p])) (h2 : H p = some (.lst [])) (b1 : B a = none) (b2 : B p = none) : Stk B H a [p] [[]] :=
  ⟨h1, b1, fun z => (by rw [List.mem_singleton.mp z, h2] at h1; cases h1), by simp, .cons b2 h2 .nil (by simp [okIA]) .nil⟩
/-! ### how much the open lists hold -/
theorem twA_le_twS : ∀ {st : List (List PyData)} {l : List PyData}, l ∈ st → twA l + 4 ≤ twS st
  | m :: st, l, h => by
    rw [twS]
    rcases List.mem_cons.mp h with rfl | h
    · omega
    · have := twA_le_twS h; omega
theorem run_small {part : Part} (T : Tame part) {ws : List (List Nat)} {st : List (List PyData)} (h : run part ws [[]] = some st) : st.length ≤ 1 + ws.length ∧ ∀ l ∈ st, l.length ≤ wsum ws + 2 * ws.length := by
  obtain ⟨c, O⟩ := run_ok T ws h ok_start
  have hc : ∀ ws : List (List Nat), Mt.cnt 40 ws ≤ ws.length := fun ws => by
    induction ws with
    | nil => simp [Mt.cnt]
    | cons w ws ih => simp only [Mt.cnt, List.length_cons]; split <;> omega
  have h1 := O.n
  have h2 := O.w
  have h3 := hc ws
  refine ⟨by omega, fun l hl => ?_⟩
  have h4 := twA_le_twS hl
  have h5 := len_twA l
  omega
theorem run_ne {part : Part} (T : Tame part) {ws : List (List Nat)} {st : List (List PyData)} (h : run part ws [[]] = some st) : st ≠ [] := by
  obtain ⟨c, O⟩ := run_ok T ws h ok_start
  have := O.pos
  intro z
  rw [z] at this
  simp at this
theorem run_take {part : Part} {ws : List (List Nat)} {w : List Nat} {i : Nat} {st : List (List PyData)} (hw : ws[i]? = some w) (h : run part (ws.take i) [[]] = some st) : run part (ws.take (i + 1)) [[]] = step part w st ∧ (step part w st = none → run part ws [[]] = none) := by
  have e : ws.take (i + 1) = ws.take i ++ [w] := by rw [List.take_succ, hw]; rfl
  have e1 : run part (ws.take (i + 1)) [[]] = step part w st := by
    rw [e, run_app, h]
    show (match step part w st with | none => none | some st' => run part [] st') = _
    cases step part w st <;> rfl
  refine ⟨e1, fun h0 => ?_⟩
  have e2 : ws = ws.take (i + 1) ++ ws.drop (i + 1) := (List.take_append_drop _ _).symm
  rw [e2, run_app, e1, h0]
end Pk

set_option Elab.async false
set_option linter.all false
set_option maxRecDepth 100000
set_option maxHeartbeats 4000000
namespace K8
open PySem PySem.Spec PyProof.Rows L2 Pk Mt
/-- o.m(e) of a text o, a token out already -/
theorem pet_m1 {X : Cx} {o e : Expr} {to te : TE} {id : String} {name : Str} {apos pos : Pos} {r : V → List V → Hp → VK → Prop} (slot : Slot "str" name id) (ty : typeOf (.builtin id) = pure (.type "method_descriptor")) (rule : MtR X id r) (ho : PET X o to) (he : PE X e te)
    (hs : starEach [e] X.env = [(false, eval e X.env)] := by rfl) (hbase : attributeBase o name X.env (eval o X.env) = eval o X.env := by rfl) (hline : (apos.endLine == pos.line) = true := by rfl) :
    PET X (.Call (.Attribute o name apos) [e] [] pos) (tM1 r to te) := by
  intro pins s σ H Q one I h
  refine PySem.Call_method1 hbase hs hline (thn (ho pins s σ H _ one I h) fun v s1 q0 => ?_)
  obtain ⟨x, H1, I1, rx, ⟨a, ea⟩, q1⟩ := q0
  subst ea
  obtain ⟨t, et⟩ := _root_.id rx
  subst et
  refine ⟨"str", _, PySem.F.plainAttrs_str, slot, ty, typeIs_str _ _ _, (fun _ z => nomatch z), Calls.callWith_builtin rfl (Calls.evalArgs_plain (Calls.spliced_cons (thn (he.run pins s1 σ H1 _ I1 q1) fun u s2 q2 => ?_)))⟩
  obtain ⟨y, H2, I2, ry, q3⟩ := q2
  exact Calls.spliced_nil (rule pins s2 σ H2 _ [y] _ [u] Q I2 rx (.cons ry .nil) q3)
theorem dec_intN (n m : Nat) : decide (V.int (n : Int) = V.int (m : Int)) = decide (n = m) := by
  by_cases h : n = m
  · subst h; simp
  · rw [decide_eq_false h, decide_eq_false (fun e => h (by injection e with e; omega))]
section
variable {P : Program} {w : World} {K : PySem.W.Frag} {mg : Str → Option Value} {base : Heap}
/-! ### paper_in -/
def spPaperIn : Sp := fun vs H Q _ => ∃ t : Str, vs = [.str t] ∧ t.length ≤ 4000 ∧ (∀ d v H' p, Mt.run partP (lexP (TL.tl t)) [[]] = some [[d]] → Same H H' → H' p = some (.tup [v]) → Rp H' v d → Q (.ref p) H') ∧
  ((∀ d, Mt.run partP (lexP (TL.tl t)) [[]] ≠ some [[d]]) → ∀ H', Same H H' → Q .non H')
theorem lexP_split (t : Str) : (Txt.split (Txt.replace (Txt.replace t "(" " ( ") ")" " ) ") " ").map TL.tl = lexP (TL.tl t) := by
  have e := TL.split_spl (Txt.replace (Txt.replace t "(" " ( ") ")" " ) ") " " (by decide +kernel) (TL.kind_ok (by decide +kernel))
  have e1 : TL.tl (Txt.replace t "(" " ( ") = PySem.StrLaws.replL [40] [32, 40, 32] (TL.tl t) := PySem.StrLaws.replace_list (x := t) (y := "(") (z := " ( ") (by decide +kernel)
  have e2 : TL.tl (Txt.replace (Txt.replace t "(" " ( ") ")" " ) ") = PySem.StrLaws.replL [41] [32, 41, 32] (TL.tl (Txt.replace t "(" " ( ")) := PySem.StrLaws.replace_list (x := Txt.replace t "(" " ( ") (y := ")") (z := " ) ") (by decide +kernel)
  rw [e, e2, e1]
  rfl
theorem tup_of {B H : Hp} {t : Addr} {xs : List V} {ds : List PyData} (h : H t = none) (hx : RpA H xs ds) : Rp (upd H t (.tup xs)) (.ref t) (.tuple ds) := .tup upd_same (hx.mono (same_new h _))
theorem ok_paper_in (T : Facts K mg) : FnOk P w K mg base CX0 3 T.f_paper_in T.d_paper_in ["text"] spPaperIn := by
  refine okT T.F_paper_in c_paper_in (by decide +kernel) (by decide) (fun vs H Q E h => ?_) (fun cdv A outer s H vs Q E hr h => ?_)
  · obtain ⟨x, rfl, _⟩ := h
    rfl
  obtain ⟨t, rfl, hw, q1, q0⟩ := h
  refine ⟨_, psst_cons (PST.of (ps_set (i := 1) c_paper_in.nd rfl (.inl rfl) (pe_lst (pa_cons (pe_lst pa_nil) pa_nil))))
    (psst_cons (pst_for PassesOwn.never rfl (pit_list (pet_m1 PySem.F.slot_str_split PySem.F.type_str_split mt_split (CwR.pet_replT (CwR.pet_replC (pv 0))) (pe_gs T.n_BLANK))) (pg_name (i := 2) c_paper_in.nd rfl (Or.inl rfl))
      (pss_one (ps_if (pt_cmpR op_eq (pv 2) pe_str (nomark _)) (pss_one (ps_expr (pe_bm PySem.F.plainAttrs_list PySem.F.slot_list_append PySem.F.type_list_append mt_append (pv 1) (pa_cons (pe_lst pa_nil) pa_nil))))
        (pss_one (ps_if (pt_cmpR op_eq (pv 2) pe_str (nomark _))
          (pss_cons (ps_if (pt_cmpR op_eq (pe_callB call_len_seq (by rfl) T.z_len PySem.boot_len (pa_cons (pv 1) pa_nil)) pe_int (nomark _)) (pss_one (ps_ret pe_non)) pss_nil)
          (pss_cons (ps_set (i := 3) c_paper_in.nd rfl (.inl rfl) (pe_callTy call_tuple_of (by rfl) T.z_tuple (by decide +kernel) (pa_cons (pe_bm0 PySem.F.plainAttrs_list PySem.F.slot_list_pop PySem.F.type_list_pop mt_pop (pv 1)) pa_nil)))
          (pss_one (ps_expr (pe_bm PySem.F.plainAttrs_list PySem.F.slot_list_append PySem.F.type_list_append mt_append (pe_ix ix_list (pv 1) (pe_un un_neg pe_int) (fun _ _ => rfl)) (pa_cons (pv 3) pa_nil))))))
          (pss_one (ps_if (pt_cmpR op_ne (pv 2) pe_str (nomark _))
            (pss_cons (ps_set (i := 4) c_paper_in.nd rfl (.inl rfl) (pe_call (ok_part_of T) hr (by rfl) T.m_part_of T.F_part_of.kp T.b_part_of .nil pass0 (pa_cons (pv 2) pa_nil)))
            (pss_cons (ps_if (pt_cmpR op_isN (pv 4) pe_non (nomark _)) (pss_one (ps_ret pe_non)) pss_nil)
            (pss_one (ps_expr (pe_bm PySem.F.plainAttrs_list PySem.F.slot_list_append PySem.F.type_list_append mt_append (pe_ix ix_list (pv 1) (pe_un un_neg pe_int) (fun _ _ => rfl)) (pa_cons (pe_ix ix_tup (pv 4) pe_int (fun _ _ => rfl)) pa_nil))))))
            pss_nil)))))))
    (CwR.psst_one (PST.of (ps_ret (pe_ifExp (PW.pt (pw_and (pt_cmpR op_eq (pe_callB call_len_seq (by rfl) T.z_len PySem.boot_len (pa_cons (pv 1) pa_nil)) pe_int (nomark _))
        (pw_and1 (pt_cmpR op_eq (pe_callB call_len_seq (by rfl) T.z_len PySem.boot_len (pa_cons (pe_ix ix_list (pv 1) pe_int (fun _ _ => rfl)) pa_nil)) pe_int (nomark _)))))
      (pe_callTy call_tuple_of (by rfl) T.z_tuple (by decide +kernel) (pa_cons (pe_ix ix_list (pv 1) pe_int (fun _ _ => rfl)) pa_nil)) pe_non))))), ?_⟩
  have el := TL.len_tl t
  have hws := lexP_wsum (TL.tl t)
  have hlw := len_wsum (lexP (TL.tl t))
  have l1 := TK.replace_len t "(" " ( "
  have l2 := TK.replace_len (Txt.replace t "(" " ( ") ")" " ) "
  have z1 : (" ( " : Str).length = 3 := by decide +kernel
  have z2 : (" ) " : Str).length = 3 := by decide +kernel
  rw [z1] at l1
  rw [z2] at l2
  refine ⟨by show 0 ≤ sizeLine; decide, fun p0 hp0 => ⟨by show 1 ≤ sizeLine; decide, fun a ha => ?_⟩⟩
  refine ⟨_, rfl, _, rfl, by rw [z1]; omega, _, rfl, by rw [z2]; omega, ⟨_, rfl⟩, _, _, rfl, rfl, by decide +kernel, ?_, fun W hW => ⟨W, rfl, ⟨_, SqL.of upd_same⟩, ?_⟩⟩
  · exact Nat.le_trans (show _ ≤ 1000000 by omega) (by decide)
  have hlex := lexP_split t
  generalize Txt.split (Txt.replace (Txt.replace t (Str.ofString "(") (Str.ofString " ( ")) (Str.ofString ")") (Str.ofString " ) ")) (Str.ofString " ") = ws at hlex
  have hp00 : H p0 = none := hp0
  have nap : a ≠ p0 := fun z => by
    rw [z, upd_same] at ha
    cases ha
  have haH : H a = none := by rw [upd_ne nap] at ha; exact ha
  have nWa : W ≠ a := fun z => by rw [z, upd_same] at hW; cases hW
  have nWp : W ≠ p0 := fun z => by rw [z, upd_ne (Ne.symm nap), upd_same] at hW; cases hW
  have hWH : H W = none := by rw [upd_ne nWa, upd_ne nWp] at hW; exact hW
  generalize eB : upd H W (.lst (ws.map V.str)) = B
  have sHB : Same H B := by rw [← eB]; exact same_new hWH _
  have hBW : B W = some (.lst (ws.map V.str)) := by rw [← eB, upd_same]
  have lenws : (ws.map V.str).length = (lexP (TL.tl t)).length := by rw [List.length_map, ← hlex, List.length_map]
  have fail : (∀ d, Mt.run partP (lexP (TL.tl t)) [[]] ≠ some [[d]]) → ∀ H', Same B H' → Q .non H' := fun h H' s => q0 h H' (sHB.trans s)
  refine for_list (K := K) (a := W) (xs := ws.map V.str) (fun i σ H' => ∃ us st x2 x3 x4, σ = [some (.str t), some (.ref a), x2, x3, x4] ∧ Stk B H' a us st ∧ Same B H' ∧ Mt.run partP ((lexP (TL.tl t)).take i) [[]] = some st)
    ⟨[p0], [[]], none, none, none, rfl, Stk.start ?_ ?_ ?_ ?_, fun b o e => ?_, by simp [Mt.run]⟩ (fun i σ H' _ h => ?_) (fun i x σ H' hx h => ?_) (fun σ H' h => ?_)
  · rw [upd_ne (Ne.symm nWa), upd_same]
  · rw [upd_ne (Ne.symm nWp), upd_ne (Ne.symm nap), upd_same]
  · rw [← eB, upd_ne (Ne.symm nWa)]; exact haH
  · rw [← eB, upd_ne (Ne.symm nWp)]; exact hp00
  · rw [← eB] at e
    by_cases hb : b = W
    · subst hb; rw [upd_same] at e ⊢; exact e
    · rw [upd_ne hb] at e
      rw [upd_ne hb, upd_ne (ne_of_none e haH), upd_ne (ne_of_none e hp00)]
      exact e
  · obtain ⟨us, st, x2, x3, x4, rfl, S, sm, hrun⟩ := h
    exact SqL.of (sm _ _ hBW)
  · -- one word
    obtain ⟨us, st, x2, x3, x4, rfl, S, sm, hrun⟩ := h
    obtain ⟨wd, hwd, rfl⟩ : ∃ wd, ws[i]? = some wd ∧ x = .str wd := by
      rw [List.getElem?_map] at hx
      cases e : ws[i]? with
      | none => rw [e] at hx; cases hx
      | some y => rw [e] at hx; exact ⟨y, rfl, by injection hx with hx; exact hx.symm⟩
    have hlx : (lexP (TL.tl t))[i]? = some (TL.tl wd) := by rw [← hlex, List.getElem?_map, hwd]; rfl
    obtain ⟨hnext, hnone⟩ := run_take hlx hrun
    obtain ⟨sz1, sz2⟩ := run_small tame_P hrun
    have tk1 : ((lexP (TL.tl t)).take i).length ≤ (lexP (TL.tl t)).length := by rw [List.length_take]; omega
    have tk2 : wsum ((lexP (TL.tl t)).take i) ≤ wsum (lexP (TL.tl t)) := by
      have e := wsum_app ((lexP (TL.tl t)).take i) ((lexP (TL.tl t)).drop i)
      rw [List.take_append_drop] at e
      omega
    have szst : st.length ≤ 100000 := by omega
    have szl : ∀ l ∈ st, l.length ≤ 100000 := fun l hl => by have := sz2 l hl; omega
    have hne := run_ne tame_P hrun
    have hus := S.lv.len
    have bad : Mt.step partP (TL.tl wd) st = none → ∀ H', Same B H' → Q .non H' := fun h => fail fun d z => by rw [hnone h] at z; cases z
    have wlen : wd.length ≤ 100000 := by
      have e : ∀ (l : List (List Nat)) (x : List Nat), x ∈ l → x.length ≤ wsum l := fun l => by
        induction l with
        | nil => intro x h; cases h
        | cons y l ih =>
          intro x h
          rw [wsum]
          rcases List.mem_cons.mp h with rfl | h
          · omega
          · have := ih x h; omega
      have := e _ _ (List.mem_of_getElem? hlx)
      have := TL.len_tl wd
      omega
    refine ⟨_, rfl, rfl, _, rfl, ?_⟩
    rw [dec_str_of rfl (show TL.tl ("(" : Str) = [40] by decide +kernel)]
    by_cases h40 : TL.tl wd = [40]
    · rw [decide_eq_true h40]
      have hst : Mt.step partP (TL.tl wd) st = some ([] :: st) := by unfold Mt.step; rw [if_pos h40]
      refine iteT ⟨_, rfl, .inl ⟨rfl, _, SqL.of S.top⟩, by show 0 ≤ sizeLine; decide, fun p hp => ?_⟩
      obtain ⟨S2, s2⟩ := S.push sm hp
      refine ⟨a, _, _, rfl, rfl, (by rw [upd_ne (ne_of_none S.top hp)]; exact S.top), ?_, p :: us, [] :: st, _, _, _, rfl, S2, s2, by rw [hnext, hst]⟩
      rw [List.length_map, List.length_reverse]
      exact Nat.lt_of_le_of_lt (show _ ≤ 1000000 by omega) (by decide)
    rw [decide_eq_false h40]
    refine iteF ⟨_, rfl, rfl, _, rfl, ?_⟩
    rw [dec_str_of rfl (show TL.tl (")" : Str) = [41] by decide +kernel)]
    by_cases h41 : TL.tl wd = [41]
    · rw [decide_eq_true h41]
      refine iteT ⟨_, rfl, a, _, rfl, .inl (SqL.of S.top), rfl, _, rfl, ?_⟩
      rw [List.length_map, List.length_reverse, show ((1 : Int)) = ((1 : Nat) : Int) from rfl, dec_intN]
      cases hlv : S.lv with
      | nil => exact absurd rfl hne
      | @cons u us' xs ds st' b1 b2 b3 b4 b5 =>
        cases b5 with
        | nil =>
          refine ifT (by simp) (bad ?_ H' sm)
          unfold Mt.step
          rw [if_neg h40, if_pos h41]
        | @cons n us'' ys es st'' c1 c2 c3 c4 c5 =>
          have hst : Mt.step partP (TL.tl wd) (ds :: es :: st'') = some ((es ++ [.tuple ds]) :: st'') := by unfold Mt.step; rw [if_neg h40, if_pos h41]
          refine ifF (by simp) ?_
          obtain ⟨xs', S1, s1, hu1, hx1, ok1, bu⟩ := S.pop sm
          have hpop : ((u :: n :: us'').reverse.map V.ref).dropLast = (n :: us'').reverse.map V.ref := by
            rw [List.reverse_cons, List.map_append]
            simp
          refine ⟨_, rfl, .inl ⟨rfl, _, SqL.of S.top⟩, a, _, .ref u, rfl, rfl, S.top, by simp, ?_⟩
          rw [hpop]
          generalize upd H' a (.lst ((n :: us'').reverse.map V.ref)) = H1 at S1 s1 hu1 hx1
          refine ⟨u, xs', rfl, .inl ⟨SqL.of hu1, fun tt htt => ?_⟩⟩
          have S2 := S1.same (same_new htt (.tup xs'))
          have s2 := s1.trans (same_new htt (.tup xs'))
          have hrp := tup_of (B := B) htt hx1
          generalize upd H1 tt (.tup xs') = H2 at S2 s2 hrp
          cases S2.lv with
          | @cons _ _ ys' _ _ d1 d2 d3 d4 d5 =>
            have hix : atI ((n :: us'').reverse.map V.ref) (-1) = some (.ref n) := by
              rw [List.reverse_cons, List.map_append]
              exact atI_last _ _
            obtain ⟨S3, s3⟩ := S2.leaf s2 d2 hrp (by simpa [okI] using ok1)
            refine ⟨_, rfl, 1, rfl, a, _, _, _, rfl, rfl, SqL.of S2.top, hix, .inl ⟨rfl, _, SqL.of d2⟩, _, rfl, n, ys', _, rfl, rfl, d2, ?_, n :: us'', (es ++ [.tuple ds]) :: st'', _, _, _, rfl, S3, s3, by rw [hnext, hst]⟩
            have := d3.length
            have := szl es (List.mem_cons_of_mem _ List.mem_cons_self)
            exact Nat.lt_of_le_of_lt (show _ ≤ 1000000 by omega) (by decide)
    rw [decide_eq_false h41]
    refine iteF ⟨_, rfl, rfl, _, rfl, ?_⟩
    rw [dec_str_of rfl (show TL.tl ("" : Str) = [] by decide +kernel)]
    by_cases h0 : TL.tl wd = []
    · rw [decide_eq_true h0]
      have hst : Mt.step partP (TL.tl wd) st = some st := by unfold Mt.step; rw [if_neg h40, if_neg h41, if_pos h0]
      exact iteF ⟨us, st, _, _, _, rfl, S, sm, by rw [hnext, hst]⟩
    rw [decide_eq_false h0]
    refine iteT ⟨_, rfl, wd, rfl, wlen, fun hp H1 s1 => ?_, fun y hp H1 p v s1 hp1 hv1 => ?_⟩
    · refine ⟨_, rfl, rfl, _, rfl, iteT ?_⟩
      refine bad ?_ H1 (sm.trans s1)
      unfold Mt.step
      rw [if_neg h40, if_neg h41, if_neg h0, hp]
    · refine ⟨_, rfl, rfl, _, rfl, iteF ?_⟩
      have S1 := S.same s1
      obtain ⟨okx, _⟩ := tame_P _ _ hp
      cases hlv : S1.lv with
      | nil => exact absurd rfl hne
      | @cons u us' xs ds st' b1 b2 b3 b4 b5 =>
        have hst : Mt.step partP (TL.tl wd) (ds :: st') = some ((ds ++ [y]) :: st') := by
          unfold Mt.step
          rw [if_neg h40, if_neg h41, if_neg h0, hp]
        obtain ⟨S3, s3⟩ := S1.leaf (sm.trans s1) b2 hv1 okx
        have hix : atI ((u :: us').reverse.map V.ref) (-1) = some (.ref u) := by
          rw [List.reverse_cons, List.map_append]
          exact atI_last _ _
        refine ⟨_, rfl, 1, rfl, a, _, _, _, rfl, rfl, SqL.of S1.top, hix, .inl ⟨rfl, _, SqL.of b2⟩, _, rfl, p, _, 0, v, rfl, rfl, SqT.of hp1, atI_nat (j := 0) rfl, u, xs, v, rfl, rfl, b2, ?_, u :: us', (ds ++ [y]) :: st', _, _, _, rfl, S3, s3, by rw [hnext, hst]⟩
        have := b3.length
        have := szl ds List.mem_cons_self
        exact Nat.lt_of_le_of_lt (show _ ≤ 1000000 by omega) (by decide)
  · -- the end
    obtain ⟨us, st, x2, x3, x4, rfl, S, sm, hrun⟩ := h
    rw [lenws, List.take_length] at hrun
    have hne := run_ne tame_P hrun
    refine ⟨_, rfl, a, _, rfl, .inl (SqL.of S.top), rfl, _, rfl, ?_⟩
    rw [List.length_map, List.length_reverse, show ((1 : Int)) = ((1 : Nat) : Int) from rfl, dec_intN]
    cases hlv : S.lv with
    | nil => exact absurd rfl hne
    | @cons u us' xs ds st' b1 b2 b3 b4 b5 =>
      cases b5 with
      | cons c1 c2 c3 c4 c5 =>
        refine ifF (by simp) (fail (fun d z => ?_) H' sm)
        rw [hrun] at z
        cases z
      | nil =>
        have hix : atI (([u] : List Addr).reverse.map V.ref) 0 = some (.ref u) := atI_nat (j := 0) rfl
        refine ifT (by simp) ⟨_, rfl, a, _, 0, _, rfl, rfl, SqL.of S.top, hix, u, xs, rfl, .inl (SqL.of b2), rfl, _, rfl, ?_⟩
        have hlen := b3.length
        by_cases h1 : ds.length = 1
        · have dt : decide (V.int (xs.length : Int) = V.int 1) = true := decide_eq_true (by rw [hlen, h1]; rfl)
          obtain ⟨d, rfl⟩ : ∃ d, ds = [d] := by
            cases ds with
            | nil => simp at h1
            | cons d r =>
              cases r with
              | nil => exact ⟨d, rfl⟩
              | cons _ _ => simp at h1
          cases b3 with
          | cons hv hn =>
            cases hn
            refine ifT dt ⟨_, rfl, a, _, 0, _, rfl, rfl, SqL.of S.top, hix, u, _, rfl, .inl ⟨SqL.of b2, fun p hp => ?_⟩⟩
            exact q1 d _ _ p hrun ((sHB.trans sm).trans (same_new hp _)) upd_same (hv.mono (same_new hp _))
        · have dt : decide (V.int (xs.length : Int) = V.int 1) = false := decide_eq_false (fun e => h1 (by injection e with e; omega))
          refine ifF dt (fail (fun d z => h1 ?_) H' sm)
          rw [hrun] at z
          injection z with z
          injection z with z _
          rw [z]
          rfl
end
end K8

set_option Elab.async false
set_option linter.all false
set_option maxRecDepth 100000
set_option maxHeartbeats 4000000
namespace K8
open PySem PySem.Spec PyProof.Rows L2 Pk Mt
theorem cnt_count (c : Nat) : ∀ l : List Nat, PyProof.Rows.cnt c l = ((l.count c : Nat) : Int)
  | [] => rfl
  | n :: r => by
    rw [PyProof.Rows.cnt_cons, cnt_count c r]
    by_cases h : n = c
    · subst h; simp; omega
    · rw [if_neg h, List.count_cons_of_ne h]; omega
theorem count40 (t : Str) : Txt.count t "(" = (((TL.tl t).count 40 : Nat) : Int) := by
  have e : ("(" : Str) = ⟨#[40]⟩ := by decide +kernel
  rw [e, PyProof.Rows.count_is t 40]
  exact cnt_count 40 (TL.tl t)
theorem txts_app : ∀ a b : List PyData, txts (a ++ b) = txts a ++ txts b
  | [], b => by simp [txts]
  | d :: a, b => by rw [List.cons_append, txts, txts, txts_app a b]; rfl
theorem wsum_txts : ∀ ds : List PyData, isPA ds = true → wsum (txts ds) ≤ twA ds
  | [], _ => by simp [txts, wsum]
  | d :: ds, h => by
    have h' : isP d = true ∧ isPA ds = true := by simpa [isPA] using h
    have := txt_len d h'.1
    have := wsum_txts ds h'.2
    simp only [txts, wsum, twA]
    omega
theorem mem_A : ∀ {ds : List PyData} {i : Nat} {d : PyData}, ds[i]? = some d → (isPA ds = true → isP d = true) ∧ (okIA ds = true → okI d = true) ∧ tw d ≤ twA ds ∧ d.depth ≤ PyData.depthAll ds
  | [], _, _, h => by simp at h
  | e :: ds, 0, d, h => by
    simp at h
    subst h
    exact ⟨fun z => by simp [isPA] at z; exact z.1, fun z => by simp [okIA] at z; exact z.1, by simp only [twA]; omega, by simp only [PyData.depthAll]; omega⟩
  | e :: ds, i + 1, d, h => by
    obtain ⟨h1, h2, h3, h4⟩ := mem_A (ds := ds) (i := i) (d := d) (by simpa using h)
    exact ⟨fun z => h1 (by simp [isPA] at z; exact z.2), fun z => h2 (by simp [okIA] at z; exact z.2), by simp only [twA]; omega, by simp only [PyData.depthAll]; omega⟩
section
variable {P : Program} {w : World} {K : PySem.W.Frag} {mg : Str → Option Value} {base : Heap}
/-! ### _law_is_short -/
def shortT (t : Str) : Bool := decide (t.length < 3500) && decide ((TL.tl t).count 40 < 190)
def spShort : Sp := fun vs H Q _ => ∃ t : Str, vs = [.str t] ∧ t.length ≤ 1000000 ∧ Q (.bl (shortT t)) H
theorem ok_is_short (T : Facts K mg) : FnOk P w K mg base CX0 1 T.f_law_is_short T.d_law_is_short ["text"] spShort := by
  refine T.F_law_is_short.ok c_law_is_short (fun vs H Q E h => ?_) (fun cdv A outer s H vs Q E hr h => ?_)
  · obtain ⟨x, rfl, _⟩ := h
    rfl
  obtain ⟨t, rfl, hw, q⟩ := h
  refine ⟨_, pss_one (ps_ret (pe_and (pe_cmpR op_lt (pe_callB call_len_str (by rfl) T.z_len (by decide +kernel) (pa_cons (pv 0) pa_nil)) pe_int (nomark _)) (pe_one (pe_cmpR op_lt (pe_m1 PySem.F.slot_str_count PySem.F.type_str_count mt_count (pv 0) pe_str) pe_int (nomark _))))), ?_⟩
  refine ⟨_, rfl, t, rfl, small (by omega), _, _, rfl, rfl, _, rfl, ?_⟩
  by_cases h1 : t.length < 3500
  · refine ifT (decide_eq_true (by omega)) ⟨_, rfl, ⟨_, rfl⟩, t, _, rfl, rfl, _, _, rfl, rfl, ?_⟩
    have e : decide (Txt.count t "(" < 190) = shortT t := by
      unfold shortT
      rw [count40, decide_eq_true h1, Bool.true_and]
      by_cases h2 : (TL.tl t).count 40 < 190
      · rw [decide_eq_true h2, decide_eq_true (by omega)]
      · rw [decide_eq_false h2, decide_eq_false (by omega)]
    show Q (.bl (decide (Txt.count t "(" < 190))) H
    rw [e]
    exact q
  · refine ifF (decide_eq_false (by omega)) ?_
    have e : shortT t = false := by unfold shortT; rw [decide_eq_false h1, Bool.false_and]
    rw [e] at q
    exact q
/-! ### _law_is_due -/
theorem plain_filter (l : List Nat) : (l.filter fun c => decide (c ∈ ([32, 40, 41, 10] : List Nat))) = [] ↔ Mt.plain l = true := by
  rw [List.filter_eq_nil_iff, Mt.plain, List.all_eq_true]
  constructor
  · intro h c hc
    have := h c hc
    simp only [decide_eq_true_eq, List.mem_cons, List.not_mem_nil, or_false] at this
    simp only [Bool.and_eq_true, bne_iff_ne]
    omega
  · intro h c hc
    have := h c hc
    simp only [Bool.and_eq_true, bne_iff_ne] at this
    simp only [decide_eq_true_eq, List.mem_cons, List.not_mem_nil, or_false]
    omega
theorem ok_is_due (T : Facts K mg) : FnOk P w K mg base CX0 1 T.f_law_is_due T.d_law_is_due ["thing"] spIsPaper := by
  refine T.F_law_is_due.ok c_law_is_due (fun vs H Q E h => ?_) (fun cdv A outer s H vs Q E hr h => ?_)
  · obtain ⟨x, d, rfl, _⟩ := h
    rfl
  obtain ⟨x, d, rfl, hx, hw, q⟩ := h
  have hu := hu_of hr
  refine ⟨_, pss_cons (ps_set (i := 1) c_law_is_due.nd rfl (.inl rfl) (pe_lst (pa_cons (pv 0) pa_nil)))
    (pss_cons (ps_while PassesOwn.never (pt_cmpR (op_neE (Nat.lt_of_succ_lt hu)) (pv 1) (pe_lst pa_nil) (nomark _))
      (pss_cons (ps_set (i := 2) c_law_is_due.nd rfl (.inl rfl) (pe_bm0 PySem.F.plainAttrs_list PySem.F.slot_list_pop PySem.F.type_list_pop mt_pop (pv 1)))
      (pss_one (ps_if (pt_val (pis (T := "tuple") T.z_isinstance T.z_tuple (pv 2)))
        (pss_one (ps_expr (pe_bm PySem.F.plainAttrs_list PySem.F.slot_list_extend PySem.F.type_list_extend mt_extA (pv 1) (pa_cons (pe_callTy call_list_of (by rfl) T.z_list (by decide +kernel) (pa_cons (pv 2) pa_nil)) pa_nil))))
        (pss_one (ps_if (pt_val (pis (T := "str") T.z_isinstance T.z_str (pv 2)))
          (pss_one (ps_if (pt_cmpR (op_neE (Nat.lt_of_succ_lt hu)) (pe_lc (own := [("sign", 3)]) (g := gName 3) rfl c_law_is_due.nd (pi_str (pv 2)) (blkOk_by (own := [("sign", 3)]) (N := ["thing", "waiting", "part", "sign"]) (sc := defScope s_law_is_due) (by decide +kernel))
              (fun _ _ _ _ _ => pg_name (i := 3) c_law_is_due.nd rfl (Or.inl rfl)) (fun _ _ _ _ _ => pts_one (pt_cmpR op_in_sign (pv 3) pe_str (by rfl))) (fun _ _ _ _ _ => pv 3)) (pe_lst pa_nil) (nomark _)) (pss_one (ps_ret pe_bl)) pss_nil))
          (pss_one (ps_if (PW.pt (pw_and (pt_cmpR op_notN (pv 2) pe_non (nomark _)) (pw_and1 (PW.pt (pw_or (pt_not (pt_val (pis (T := "int") T.z_isinstance T.z_int (pv 2)))) (pw_or1 (pt_val (pis (T := "bool") T.z_isinstance T.z_bool (pv 2)))))))))
            (pss_one (ps_ret pe_bl)) pss_nil))))))))
    (pss_one (ps_ret pe_bl))), ?_⟩
  refine ⟨x, rfl, by show 1 ≤ sizeLine; decide, fun a ha => ?_⟩
  refine while_n (fun m σ H' => ∃ ws ds one, σ = [some x, some (.ref a), one, none] ∧ Same H H' ∧ H' a = some (.lst ws) ∧ RpA H ws ds ∧ isP d = isPA ds ∧ m = twA ds ∧ twA ds ≤ 100000) (tw d) ⟨[x], [d], none, rfl, same_new ha _, upd_same, .cons hx .nil, by simp [isPA], by simp [twA], by simpa [twA] using hw⟩ ?_ (fun _ _ _ _ h ⟨v, h1, h2, h3⟩ => ⟨v, h1, h2, fun p hp => ?_⟩)
  rotate_left
  · obtain ⟨a', b', e', z1, z2, z3, k, z4, z5⟩ := h3 p hp
    exact ⟨a', b', e', z1, z2, z3, k, z4, h _ _ z5⟩
  rintro m σ H' ⟨ws, ds, one, rfl, sm, ea, hd, hp, rfl, hm⟩
  refine ⟨_, rfl, by show 0 ≤ sizeLine; decide, fun p hpn => ?_⟩
  have nap : a ≠ p := ne_of_none ea hpn
  have sm2 : Same H (upd H' p (.lst [])) := sm.trans (same_new hpn _)
  have ea2 : upd H' p (.lst []) a = some (.lst ws) := by rw [upd_ne nap]; exact ea
  refine ⟨a, p, _, rfl, rfl, ne_list _ ea2 upd_same, _, rfl, ?_⟩
  rcases List.eq_nil_or_concat ws with e | ⟨L, v, e⟩
  · subst e
    cases hd
    have e : isP d = true := by rw [hp]; simp [isPA]
    refine iteF ?_
    show Q (.bl true) _
    rw [← e]
    exact q _ sm2
  rw [List.concat_eq_append] at e
  subst e
  obtain ⟨es, f, rfl, hL, hv⟩ := RpA.split hd
  have el : (!decide ((L ++ [v]).length = 0)) = true := by simp
  refine ifT el ⟨_, rfl, .inl ⟨rfl, _, SqL.of ea2⟩, a, _, v, rfl, rfl, ea2, by simp, ?_⟩
  have tf : twA (es ++ [f]) = twA es + tw f := by rw [twA_app]; simp [twA]
  have pf : isPA (es ++ [f]) = (isPA es && isP f) := by rw [isPA_app]; simp [isPA]
  have pos := tw_pos f
  have sm3 : Same H (upd (upd H' p (.lst [])) a (.lst (L ++ [v]).dropLast)) := same_upd sm2 ha _
  generalize eH : upd (upd H' p (.lst [])) a (.lst (L ++ [v]).dropLast) = H3 at sm3
  have ea3 : H3 a = some (.lst L) := by rw [← eH, upd_same]; simp
  have hv3 := hv.mono sm3
  refine ⟨v, rfl, _, f, rfl, hv3, _, rfl, ?_⟩
  have done : isP f = true → ∀ H4, Same H3 H4 → (∃ m', m' < twA (es ++ [f]) ∧ ∃ ws ds one, [some x, some (.ref a), some v, none] = [some x, some (.ref a), one, none] ∧ Same H H4 ∧ H4 a = some (.lst ws) ∧ RpA H ws ds ∧ isP d = isPA ds ∧ m' = twA ds ∧ twA ds ≤ 100000) := fun h1 H4 s4 => ⟨twA es, by omega, L, es, some v, rfl, sm3.trans s4, s4 _ _ ea3, hL, by rw [hp, pf, h1, Bool.and_true], rfl, by omega⟩
  have bad : isP f = false → ∀ H4, Same H3 H4 → Q (.bl false) H4 := fun h1 H4 s4 => by
    have e : isP d = false := by rw [hp, pf, h1, Bool.and_false]
    rw [← e]
    exact q _ (sm3.trans s4)
  cases hv with
  | @tup b xs cs hb hc =>
    have h1 := hL.length
    have h2 := hc.length
    have h3 := len_twA es
    have h4 := len_twA cs
    simp only [tw] at tf
    refine iteT ⟨_, rfl, .inl ⟨rfl, _, SqL.of ea3⟩, _, rfl, b, xs, rfl, .inr (SqT.of (sm3 _ _ hb)), fun l hl => ?_⟩
    have nal : a ≠ l := ne_of_none ea3 hl
    have sm4 : Same H (upd H3 l (.lst xs)) := sm3.trans (same_new hl _)
    refine ⟨a, l, L, xs, rfl, rfl, (by rw [upd_ne nal]; exact ea3), .inl upd_same, small (by omega), ?_⟩
    refine ⟨twA (es ++ cs), ?_, L ++ xs, es ++ cs, _, rfl, same_upd sm4 ha _, upd_same, hL.append hc, ?_, rfl, ?_⟩
    · rw [tf, twA_app]; omega
    · rw [hp, pf, isPA_app]; simp [isP]
    · rw [twA_app]; omega
  | bl b =>
    exact iteF ⟨_, rfl, _, _, rfl, hv3, _, rfl, iteF ⟨_, rfl, rfl, _, rfl, iteT ⟨_, rfl, _, _, rfl, hv3, _, rfl, iteF ⟨_, rfl, _, _, rfl, hv3, _, rfl, iteT (bad (by simp [isP]) _ (Same.refl _))⟩⟩⟩⟩
  | int i =>
    exact iteF ⟨_, rfl, _, _, rfl, hv3, _, rfl, iteF ⟨_, rfl, rfl, _, rfl, iteT ⟨_, rfl, _, _, rfl, hv3, _, rfl, iteF ⟨_, rfl, _, _, rfl, hv3, _, rfl, iteF (done (by simp [isP]) _ (Same.refl _))⟩⟩⟩⟩
  | non =>
    exact iteF ⟨_, rfl, _, _, rfl, hv3, _, rfl, iteF ⟨_, rfl, rfl, _, rfl, iteF (iteF (done (by simp [isP]) _ (Same.refl _)))⟩⟩
  | str y =>
    have hy : (TL.tl y).length + 2 ≤ 100000 := by simp only [tw] at tf; omega
    refine iteF ⟨_, rfl, _, _, rfl, hv3, _, rfl, iteT ⟨_, rfl, _, rfl, fun D hD => ?_⟩⟩
    have e4 : ∀ c, decide (c ∈ (Str.ofString " ()\n").cps.toList) = decide (c ∈ ([32, 40, 41, 10] : List Nat)) := fun c => by
      have : (Str.ofString " ()\n").cps.toList = ([32, 40, 41, 10] : List Nat) := by decide +kernel
      rw [this]
    refine lc_text (fun c => decide (c ∈ ([32, 40, 41, 10] : List Nat))) (fun c => .str ⟨#[c]⟩) (fun _ => rfl) (by have := TL.len_tl y; omega) (fun c l Q hc h => ⟨_, rfl, c, _, rfl, rfl, _, rfl, by rw [e4]; exact h⟩) (fun c l Q hc _ h => ⟨_, rfl, h⟩) ?_
    refine ⟨by show 0 ≤ sizeLine; decide, fun p2 hp2 => ?_⟩
    have nD : D ≠ p2 := fun z => by rw [z, upd_same] at hp2; cases hp2
    refine ⟨D, p2, _, rfl, rfl, ne_list _ (by rw [upd_ne nD, upd_same]) upd_same, _, rfl, ?_⟩
    have sm5 : Same H3 (upd (upd H3 D (.lst (((TL.tl y).filter fun c => decide (c ∈ ([32, 40, 41, 10] : List Nat))).map fun c => V.str ⟨#[c]⟩))) p2 (.lst [])) := (same_new hD _).trans (same_new hp2 _)
    by_cases hpl : Mt.plain (TL.tl y) = true
    · have ef := (plain_filter (TL.tl y)).mpr hpl
      refine ifF ?_ (done (by simp [isP, hpl]) _ sm5)
      rw [ef]; rfl
    · have ef : ¬ ((TL.tl y).filter fun c => decide (c ∈ ([32, 40, 41, 10] : List Nat))) = [] := fun z => hpl ((plain_filter _).mp z)
      refine ifT ?_ (bad (by simp [isP, hpl]) _ sm5)
      rw [List.length_map]
      simpa using ef
  | lst hb hc =>
    exact iteF ⟨_, rfl, _, _, rfl, hv3, _, rfl, iteF ⟨_, rfl, rfl, _, rfl, iteT ⟨_, rfl, _, _, rfl, hv3, _, rfl, iteT (iteT (bad (by simp [isP]) _ (Same.refl _)))⟩⟩⟩
  | dct hb =>
    exact iteF ⟨_, rfl, _, _, rfl, hv3, _, rfl, iteF ⟨_, rfl, rfl, _, rfl, iteT ⟨_, rfl, _, _, rfl, hv3, _, rfl, iteT (iteT (bad (by simp [isP]) _ (Same.refl _)))⟩⟩⟩
/-! ### _law_paper_text -/
def spLawText (n : Nat) : Sp := fun vs H Q _ => ∃ x d, vs = [x] ∧ Rp H x d ∧ isP d = true ∧ okI d = true ∧ tw d ≤ 100000 ∧ d.depth < n ∧ ∀ (z : Str) H', TL.tl z = txt d → Same H H' → Q (.str z) H'
theorem ok_paper_text_law (T : Facts K mg) : ∀ n : Nat, FnOk P w K mg base CX0 n T.f_law_paper_text T.d_law_paper_text ["thing"] (spLawText n)
  | 0 => by
    have no : ∀ vs H Q E, ¬ spLawText 0 vs H Q E := fun vs H Q E h => by
      obtain ⟨x, d, _, _, _, _, _, h1, _⟩ := h
      omega
    exact ⟨fun vs H Q E h => absurd h (no vs H Q E), fun A outer s H args us vs Q E _ _ _ _ h => absurd h (no vs H Q E)⟩
  | n + 1 => by
    have ih := ok_paper_text_law T n
    refine T.F_law_paper_text.ok c_law_paper_text (fun vs H Q E h => ?_) (fun cdv A outer s H vs Q E hr h => ?_)
    · obtain ⟨x, d, rfl, _⟩ := h
      rfl
    obtain ⟨x, d, rfl, hx, hp, hi, hw, hdp, q⟩ := h
    refine ⟨_, pss_cons (ps_if (pt_val (pis (T := "tuple") T.z_isinstance T.z_tuple (pv 0))) (pss_one (ps_ret (pe_op op_add_str (pe_op op_add_str pe_str (pe_join pe_str
        (pe_lc (own := [("part", 1)]) (g := gName 1) (tt := tYes) rfl c_law_paper_text.nd (pi_tup (pv 0)) (blkOk_by (own := [("part", 1)]) (N := ["thing", "part"]) (sc := defScope s_law_paper_text) (by decide +kernel))
          (fun _ _ _ _ _ => pg_name (i := 1) c_law_paper_text.nd rfl (Or.inl rfl)) (fun _ _ _ _ _ => pts_nil) (fun _ _ _ _ _ => pe_call ih hr (by rfl) T.m_law_paper_text T.F_law_paper_text.kp T.b_law_paper_text .nil pass0 (pa_cons (pv 1) pa_nil))))) pe_str))) pss_nil)
      (pss_cons (ps_if (pt_val (pis (T := "str") T.z_isinstance T.z_str (pv 0))) (pss_one (ps_ret (pe_op op_add_str pe_str (pv 0)))) pss_nil)
      (pss_one (ps_ret (pe_ifExp (pt_cmpR op_isN (pv 0) pe_non (nomark _)) pe_str (pe_callTy call_str_int (by rfl) T.z_str (by decide +kernel) (pa_cons (pv 0) pa_nil)))))), ?_⟩
    refine ⟨x, rfl, _, d, rfl, hx, _, rfl, ?_⟩
    cases hx with
    | @tup b xs ds hb hc =>
      have p1 : isPA ds = true := by simpa [isP] using hp
      have p2 : okIA ds = true := by simpa [okI] using hi
      have p3 : 4 + twA ds ≤ 100000 := by simpa [tw] using hw
      have hlen := hc.length
      have hlt := len_twA ds
      have hws := wsum_txts ds p1
      have hjl := txts_len ds p1
      refine iteT ⟨⟨_, rfl⟩, _, rfl, b, rfl, ⟨_, SqT.of hb⟩, fun D hD => ?_⟩
      refine lc_tup (K := K) (a := b) (xs := xs) (fun i H' => ∃ zs : List Str, H' D = some (.lst (zs.map V.str)) ∧ zs.map TL.tl = txts (ds.take i) ∧ Same H H') ⟨[], by rw [upd_same]; rfl, by simp [txts], same_new hD _⟩ (fun i H' _ h => ?_) (fun i y H' hy h => ?_) (fun H' h => ?_)
      · obtain ⟨zs, _, _, sm⟩ := h
        exact SqT.of (sm _ _ hb)
      · obtain ⟨zs, hz, hz2, sm⟩ := h
        obtain ⟨e, he, hye⟩ := hc.get hy
        obtain ⟨m1, m2, m3, m4⟩ := mem_A he
        have hzl : zs.length ≤ 100000 := by
          have e1 := congrArg List.length hz2
          have e2 : ∀ l : List PyData, (txts l).length = l.length := fun l => by
            induction l with
            | nil => rfl
            | cons a l ih => simp [txts, ih]
          rw [List.length_map, e2, List.length_take] at e1
          omega
        refine ⟨rfl, _, rfl, y, e, rfl, hye.mono sm, m1 p1, m2 p2, by omega, ?_, fun z H4 ez s4 => ⟨zs.map V.str, s4 _ _ hz, ?_, zs ++ [z], by rw [upd_same, List.map_append]; rfl, ?_, same_upd (sm.trans s4) hD _⟩⟩
        · simp only [PyData.depth] at hdp; omega
        · rw [List.length_map]; exact Nat.lt_of_le_of_lt hzl (by decide)
        · have e3 : ds.take (i + 1) = ds.take i ++ [e] := by rw [List.take_succ, he]; rfl
          rw [e3, txts_app, List.map_append, hz2, List.map_singleton, ez]
          simp [txts]
      · obtain ⟨zs, hz, hz2, sm⟩ := h
        rw [hlen, List.take_length] at hz2
        have hs := sum_len zs
        rw [hz2] at hs
        have hj : TL.tl (Txt.join " " zs) = TL.joinL [32] (txts ds) := by rw [tl_joinB, hz2]
        have hjl2 := TL.len_tl (Txt.join " " zs)
        rw [hj] at hjl2
        have c1 : (" " : Str).length = 1 := by decide +kernel
        have c2 : ("(" : Str).length = 1 := by decide +kernel
        have c3 : (")" : Str).length = 1 := by decide +kernel
        refine ⟨_, D, zs, rfl, rfl, .inl (SqL.of hz), ?_, _, _, rfl, rfl, ?_, _, _, rfl, rfl, ?_, q _ _ ?_ sm⟩
        · show (zs.map (·.length)).sum + zs.length * (" " : Str).length ≤ 16777216
          rw [c1]; omega
        · show ("(" : Str).length + (Txt.join " " zs).length ≤ sizeLine
          rw [c2]; exact small (by omega)
        · have e1 : (("(" : Str) ++ Txt.join " " zs).length = 1 + (Txt.join " " zs).length := by
            rw [TL.len_tl, TL.tl_append, List.length_append, ← TL.len_tl, ← TL.len_tl, c2]
          show (("(" : Str) ++ Txt.join " " zs).length + (")" : Str).length ≤ sizeLine
          rw [e1, c3]; exact small (by omega)
        · show TL.tl ((("(" : Str) ++ Txt.join " " zs) ++ (")" : Str)) = _
          rw [TL.tl_append, TL.tl_append, hj, txt]
          rfl
    | str y =>
      have hl : (TL.tl y).length + 2 ≤ 100000 := by simpa [tw] using hw
      have e := TL.len_tl y
      refine iteF ⟨_, rfl, _, _, rfl, .str y, _, rfl, iteT ⟨_, rfl, _, _, rfl, rfl, ?_, q _ _ ?_ (Same.refl _)⟩⟩
      · show 1 + y.length ≤ sizeLine
        exact small (by omega)
      · rw [TL.tl_append, txt]
        rfl
    | non => exact iteF ⟨_, rfl, _, _, rfl, .non, _, rfl, iteF ⟨_, rfl, rfl, _, rfl, iteT (q _ _ (by decide +kernel) (Same.refl _))⟩⟩
    | int i => exact iteF ⟨_, rfl, _, _, rfl, .int i, _, rfl, iteF ⟨_, rfl, rfl, _, rfl, iteF ⟨_, rfl, i, rfl, log_ok (by simpa [okI] using hi), q _ _ (by rw [txt]; exact tl_int i) (Same.refl _)⟩⟩⟩
    | bl b => simp [isP] at hp
    | lst _ _ => simp [isP] at hp
    | dct _ => simp [isP] at hp
end
end K8

set_option Elab.async false
set_option linter.all false
set_option maxRecDepth 100000
set_option maxHeartbeats 4000000
namespace K8
open PySem PySem.Spec PyProof.Rows L2 Pk Mt
theorem eq_list (K : PySem.W.Frag) {H : Hp} {a p : Addr} {ws : List V} (h1 : H a = some (.lst ws)) (h2 : H p = some (.lst [])) : EmpPair K H a p (decide (ws.length = 0)) := .inl ⟨ws, [], SqL.of h1, SqL.of h2, .inr rfl, by simp⟩
theorem dig_list : (Str.ofString "0123456789").cps.toList = ([48, 49, 50, 51, 52, 53, 54, 55, 56, 57] : List Nat) := by decide +kernel
theorem dig_mem (c : Nat) : (c ∈ ([48, 49, 50, 51, 52, 53, 54, 55, 56, 57] : List Nat)) ↔ digit c = true := by
  simp only [digit, Bool.and_eq_true, decide_eq_true_eq, List.mem_cons, List.not_mem_nil, or_false]
  omega
theorem dig_occ : ∀ k < 10, Builtin.Str.occurrences (Str.ofString "0123456789") ⟨#[48 + k]⟩ 0 (Str.ofString "0123456789").length 1 = [k] := by decide +kernel
theorem dig_occ' {c : Nat} (h : digit c = true) : Builtin.Str.occurrences (Str.ofString "0123456789") ⟨#[c]⟩ 0 (Str.ofString "0123456789").length 1 = [c - 48] := by
  have hc : 48 ≤ c ∧ c ≤ 57 := by simpa [digit] using h
  have := dig_occ (c - 48) (by omega)
  rw [show 48 + (c - 48) = c by omega] at this
  exact this
theorem head_take (l : List Nat) (k : Nat) : decide (l.take 1 = [k]) = decide (l.head? = some k) := by
  cases l <;> simp
section
variable {P : Program} {w : World} {K : PySem.W.Frag} {mg : Str → Option Value} {base : Heap}
/-! ### _law_read_word -/
def spReadWord : Sp := fun vs H Q _ => ∃ wd : Str, vs = [.str wd] ∧ wd.length ≤ 100000 ∧ (partL (TL.tl wd) = none → ∀ H' p, Same H H' → H' p = some (.tup []) → Q (.ref p) H') ∧ ∀ x, partL (TL.tl wd) = some x → ∀ H' p v, Same H H' → H' p = some (.tup [v]) → Rp H' v x → Q (.ref p) H'
theorem ok_read_word (T : Facts K mg) : FnOk P w K mg base CX0 1 T.f_law_read_word T.d_law_read_word ["word"] spReadWord := by
  refine T.F_law_read_word.ok c_law_read_word (fun vs H Q E h => ?_) (fun cdv A outer s H vs Q E hr h => ?_)
  · obtain ⟨x, rfl, _⟩ := h
    rfl
  obtain ⟨x, rfl, hw, q0, q1⟩ := h
  have hu := hu_of hr
  refine ⟨_, pss_cons (ps_if (pt_cmpR op_eq (pe_slice sl_str (pv 0) po_none (po_some pe_int)) pe_str (nomark _))
      (pss_one (ps_ret (pe_ifExp (pt_cmpR (op_eqE (Nat.lt_of_succ_lt hu)) (pe_lc (own := [("sign", 1)]) (g := gName 1) rfl c_law_read_word.nd (pi_str (pv 0)) (blkOk_by (own := [("sign", 1)]) (N := ["word", "sign", "figures", "number"]) (sc := defScope s_law_read_word) (by decide +kernel))
          (fun _ _ _ _ _ => pg_name (i := 1) c_law_read_word.nd rfl (Or.inl rfl)) (fun _ _ _ _ _ => pts_one (pt_cmpR op_in_sign (pv 1) pe_str (by rfl))) (fun _ _ _ _ _ => pv 1)) (pe_lst pa_nil) (nomark _))
        (pe_tup (pa_cons (pe_slice sl_str (pv 0) (po_some pe_int) po_none) pa_nil)) (pe_tup pa_nil)))) pss_nil)
    (pss_cons (ps_if (pt_cmpR op_eq (pv 0) pe_str (nomark _)) (pss_one (ps_ret (pe_tup (pa_cons pe_non pa_nil)))) pss_nil)
    (C8.pss_cut (ps_set (i := 2) c_law_read_word.nd rfl (.inl rfl) (pe_ifExp (pt_cmpR op_eq (pe_slice sl_str (pv 0) po_none (po_some pe_int)) pe_str (nomark _)) (pe_slice sl_str (pv 0) (po_some pe_int) po_none) (pv 0)))
    (pss_cons (ps_if (PW.pt (pw_or (pt_cmpR op_eq (pv 2) pe_str (nomark _)) (pw_or (pt_cmpR (op_neE (Nat.lt_of_succ_lt hu)) (pe_lc (own := [("sign", 1)]) (g := gName 1) rfl c_law_read_word.nd (pi_str (pv 2)) (blkOk_by (own := [("sign", 1)]) (N := ["word", "sign", "figures", "number"]) (sc := defScope s_law_read_word) (by decide +kernel))
          (fun _ _ _ _ _ => pg_name (i := 1) c_law_read_word.nd rfl (Or.inl rfl)) (fun _ _ _ _ _ => pts_one (pt_cmpR op_notIn_sign (pv 1) pe_str (by rfl))) (fun _ _ _ _ _ => pv 1)) (pe_lst pa_nil) (nomark _))
        (pw_or1 (pt_cmpR op_gt (pe_callB call_len_str (by rfl) T.z_len (by decide +kernel) (pa_cons (pv 2) pa_nil)) pe_int (nomark _)))))) (pss_one (ps_ret (pe_tup pa_nil))) pss_nil)
    (pss_cons (ps_set (i := 3) c_law_read_word.nd rfl (.inl rfl) pe_int)
    (pss_cons (ps_for PassesOwn.never rfl (pi_str (pv 2)) (pg_name (i := 1) c_law_read_word.nd rfl (Or.inl rfl))
      (pss_one (ps_set (i := 3) c_law_read_word.nd rfl (.inl rfl) (pe_op op_add (pe_op op_mul pe_int (pv 3)) (pe_m1 PySem.F.slot_str_index PySem.F.type_str_index mt_sindex pe_str (pv 1))))))
    (pss_one (ps_ret (pe_ifExp (pt_cmpR op_eq (pe_callTy call_str_int (by rfl) T.z_str (by decide +kernel) (pa_cons (pe_ifExp (pt_cmpR op_eq (pe_slice sl_str (pv 0) po_none (po_some pe_int)) pe_str (nomark _)) (pe_un un_neg (pv 3)) (pv 3)) pa_nil)) (pv 0) (nomark _))
      (pe_tup (pa_cons (pe_ifExp (pt_cmpR op_eq (pe_slice sl_str (pv 0) po_none (po_some pe_int)) pe_str (nomark _)) (pe_un un_neg (pv 3)) (pv 3)) pa_nil)) (pe_tup pa_nil))))))))), ?_⟩
  have ex := TL.len_tl x
  have hx1 := tl_head1 x
  have hx2 := tl_cut1 x
  generalize eh : cutS x none (some 1) = hd at hx1
  generalize et : cutS x (some 1) none = tlx at hx2
  have q39 : TL.tl ("'" : Str) = [39] := by decide +kernel
  have q45 : TL.tl ("-" : Str) = [45] := by decide +kernel
  refine ⟨_, rfl, _, rfl, x, rfl, small (by omega), ?_⟩
  rw [eh]
  refine ⟨rfl, _, rfl, ?_⟩
  rw [dec_str_of hx1 q39, head_take]
  by_cases h39 : (TL.tl x).head? = some 39
  · rw [decide_eq_true h39]
    refine iteT ⟨_, rfl, _, rfl, fun D hD => ?_⟩
    have e4 : ∀ c, decide (c ∈ (Str.ofString "()").cps.toList) = decide (c ∈ ([40, 41] : List Nat)) := fun c => by
      have : (Str.ofString "()").cps.toList = ([40, 41] : List Nat) := by decide +kernel
      rw [this]
    refine lc_text (fun c => decide (c ∈ ([40, 41] : List Nat))) (fun c => .str ⟨#[c]⟩) (fun _ => rfl) (by omega) (fun c l Q hc h => ⟨_, rfl, c, _, rfl, rfl, _, rfl, by rw [e4]; exact h⟩) (fun c l Q hc _ h => ⟨_, rfl, h⟩) ?_
    refine ⟨by show 0 ≤ sizeLine; decide, fun p2 hp2 => ?_⟩
    have nD : D ≠ p2 := fun z => by rw [z, upd_same] at hp2; cases hp2
    refine ⟨D, p2, _, rfl, rfl, eq_list _ (by rw [upd_ne nD, upd_same]) upd_same, _, rfl, ?_⟩
    have sm5 := (same_new hD (.lst (((TL.tl x).filter fun c => decide (c ∈ ([40, 41] : List Nat))).map fun c => V.str ⟨#[c]⟩))).trans (same_new hp2 (.lst []))
    by_cases hb : 40 ∈ TL.tl x ∨ 41 ∈ TL.tl x
    · refine ifF ?_ ⟨by show 0 ≤ sizeLine; decide, fun p hp => q0 ?_ _ p (sm5.trans (same_new hp _)) upd_same⟩
      · rw [List.length_map, decide_eq_false_iff_not]
        intro z
        have z := List.length_eq_zero_iff.mp z
        rw [List.filter_eq_nil_iff] at z
        rcases hb with hb | hb
        · exact z _ hb (by decide)
        · exact z _ hb (by decide)
      · unfold partL; rw [if_pos h39, if_pos hb]
    · refine ifT ?_ ⟨_, rfl, _, rfl, x, rfl, small (by omega), by show 1 ≤ sizeLine; decide, fun p hp => ?_⟩
      · rw [List.length_map, decide_eq_true_eq, List.length_eq_zero_iff, List.filter_eq_nil_iff]
        intro c hc z
        have z := of_decide_eq_true z
        simp only [List.mem_cons, List.not_mem_nil, or_false] at z
        rcases z with rfl | rfl
        · exact hb (.inl hc)
        · exact hb (.inr hc)
      · have e : tlx = ⟨(TL.tl x).tail.toArray⟩ := TL.ext_tl hx2
        refine q1 (.str ⟨(TL.tl x).tail.toArray⟩) (by unfold partL; rw [if_pos h39, if_neg hb]) _ p (.str tlx) (sm5.trans (same_new hp _)) ?_ ?_
        · rw [upd_same, et]
        · rw [e]; exact .str _
  rw [decide_eq_false h39]
  refine iteF ⟨_, rfl, rfl, _, rfl, ?_⟩
  rw [dec_str_of rfl (show TL.tl ("none" : Str) = noneL by decide +kernel)]
  by_cases hn : TL.tl x = noneL
  · rw [decide_eq_true hn]
    refine iteT ⟨by show 1 ≤ sizeLine; decide, fun p hp => q1 .none ?_ _ p .non (same_new hp _) upd_same .non⟩
    unfold partL
    rw [if_neg h39, if_pos hn]
  rw [decide_eq_false hn]
  refine iteF ⟨fun σ H' => ∃ fg : Str, TL.tl fg = figs (TL.tl x) ∧ H = H' ∧ σ = [some (.str x), none, some (.str fg), none], ?_, ?_⟩
  · refine ⟨_, rfl, _, rfl, x, rfl, small (by omega), ?_⟩
    rw [eh]
    refine ⟨rfl, _, rfl, ?_⟩
    rw [dec_str_of hx1 q45, head_take]
    by_cases h45 : (TL.tl x).head? = some 45
    · rw [decide_eq_true h45]
      refine iteT ⟨_, rfl, _, rfl, x, rfl, small (by omega), ?_⟩
      rw [et]
      refine ⟨tlx, ?_, rfl, rfl⟩
      rw [hx2]
      cases e : TL.tl x with
      | nil => rw [e] at h45; simp at h45
      | cons c r => rw [e] at h45; simp at h45; rw [h45]; rfl
    · rw [decide_eq_false h45]
      exact iteF ⟨_, rfl, x, (figs_id h45).symm, rfl, rfl⟩
  rintro σ H' ⟨fg, hfg, rfl, rfl⟩
  have elf := TL.len_tl fg
  have hfl : fg.length ≤ 100000 := by
    rw [elf, hfg]
    have : (figs (TL.tl x)).length ≤ (TL.tl x).length := by
      unfold figs
      split
      · rename_i h; simp [h]
      · exact Nat.le_refl _
    omega
  have bad : badFigs (TL.tl x) = true → partL (TL.tl x) = none := fun h => by
    unfold partL; rw [if_neg h39, if_neg hn, if_pos h]
  refine ⟨_, rfl, rfl, _, rfl, ?_⟩
  rw [dec_str_of hfg (show TL.tl ("" : Str) = [] by decide +kernel)]
  by_cases h0 : figs (TL.tl x) = []
  · rw [decide_eq_true h0]
    exact iteT (iteT ⟨by show 0 ≤ sizeLine; decide, fun p hp => q0 (bad (by simp [badFigs, h0])) _ p (same_new hp _) upd_same⟩)
  rw [decide_eq_false h0]
  refine iteF ⟨_, rfl, _, rfl, fun D hD => ?_⟩
  refine lc_text (fun c => !decide (c ∈ ([48, 49, 50, 51, 52, 53, 54, 55, 56, 57] : List Nat))) (fun c => .str ⟨#[c]⟩) (fun _ => rfl) (by omega) (fun c l Q hc h => ⟨_, rfl, c, _, rfl, rfl, _, rfl, by rw [dig_list]; exact h⟩) (fun c l Q hc _ h => ⟨_, rfl, h⟩) ?_
  refine ⟨by show 0 ≤ sizeLine; decide, fun p2 hp2 => ?_⟩
  have nD : D ≠ p2 := fun z => by rw [z, upd_same] at hp2; cases hp2
  refine ⟨D, p2, _, rfl, rfl, ne_list _ (by rw [upd_ne nD, upd_same]) upd_same, _, rfl, ?_⟩
  have sm5 := (same_new hD (.lst (((TL.tl fg).filter fun c => !decide (c ∈ ([48, 49, 50, 51, 52, 53, 54, 55, 56, 57] : List Nat))).map fun c => V.str ⟨#[c]⟩))).trans (same_new hp2 (.lst []))
  rw [List.length_map]
  generalize upd (upd H D (.lst (((TL.tl fg).filter fun c => !decide (c ∈ ([48, 49, 50, 51, 52, 53, 54, 55, 56, 57] : List Nat))).map fun c => V.str ⟨#[c]⟩))) p2 (.lst []) = H1 at sm5
  have hall : ((TL.tl fg).filter fun c => !decide (c ∈ ([48, 49, 50, 51, 52, 53, 54, 55, 56, 57] : List Nat))).length = 0 ↔ (figs (TL.tl x)).all digit = true := by
    rw [List.length_eq_zero_iff, List.filter_eq_nil_iff, List.all_eq_true, hfg]
    constructor
    · intro h c hc
      have := h c hc
      rw [← dig_mem]
      exact Classical.byContradiction fun z => this (by rw [decide_eq_false z]; rfl)
    · intro h c hc z
      rw [decide_eq_true ((dig_mem c).mpr (h c hc))] at z
      cases z
  by_cases hd9 : (figs (TL.tl x)).all digit = true
  rotate_left
  · refine ifT ?_ ?_
    · rw [decide_eq_false (fun z => hd9 (hall.mp z))]
      rfl
    refine iteT ⟨by show 0 ≤ sizeLine; decide, fun p hp => q0 (bad (by simp [badFigs, hd9])) _ p (sm5.trans (same_new hp _)) upd_same⟩
  refine ifF (by rw [decide_eq_true (hall.mpr hd9)]; rfl) ⟨_, rfl, fg, rfl, small (by omega), _, _, rfl, rfl, _, rfl, ?_⟩
  by_cases h40 : 40 < (figs (TL.tl x)).length
  · rw [decide_eq_true (show (40 : Int) < (fg.length : Int) by rw [elf, hfg]; omega)]
    exact iteT ⟨by show 0 ≤ sizeLine; decide, fun p hp => q0 (bad (by simp [badFigs, h40])) _ p (sm5.trans (same_new hp _)) upd_same⟩
  rw [decide_eq_false (show ¬ (40 : Int) < (fg.length : Int) by rw [elf, hfg]; omega)]
  refine iteF ?_
  have hbad : badFigs (TL.tl x) = false := by
    simp [badFigs, h0, hd9]
    omega
  refine ⟨_, rfl, fg, rfl, ?_⟩
  have esz : fg.cps.size = (TL.tl fg).length := by simp [TL.tl]
  refine for_it walk_str (fun i σ H' => H' = H1 ∧ ∃ s1, σ = [some (.str x), s1, some (.str fg), some (.int (((TL.tl fg).take i).foldl (fun acc c => acc * 10 + (c - 48)) 0 : Nat))]) ⟨rfl, none, rfl⟩ (fun _ _ _ _ _ => trivial) (fun i c σ H' H'' hi h y => ?_) (fun σ H' h => ?_)
  · obtain ⟨rfl, s1, rfl⟩ := h
    obtain ⟨rfl, ch, hc, rfl⟩ := y
    have hc' : (TL.tl fg)[i]? = some ch := by simpa [TL.tl] using hc
    have hdg : digit ch = true := by
      rw [← hfg] at hd9
      exact List.all_eq_true.mp hd9 ch (List.mem_of_getElem? hc')
    refine ⟨_, rfl, _, _, rfl, rfl, .inl ⟨by decide, by decide⟩, ⟨_, rfl⟩, _, rfl, _, _, ch - 48, [], rfl, rfl, dig_occ' hdg, _, _, rfl, rfl, rfl, some (.str ⟨#[ch]⟩), ?_⟩
    have e3 : (TL.tl fg).take (i + 1) = (TL.tl fg).take i ++ [ch] := by rw [List.take_succ, hc']; rfl
    rw [e3, List.foldl_append]
    have : (10 : Int) * (((TL.tl fg).take i).foldl (fun acc c => acc * 10 + (c - 48)) 0 : Nat) + ((ch - 48 : Nat) : Int) = ((List.foldl (fun acc c => acc * 10 + (c - 48)) (((TL.tl fg).take i).foldl (fun acc c => acc * 10 + (c - 48)) 0) [ch] : Nat) : Int) := by
      simp only [List.foldl_cons, List.foldl_nil]
      omega
    rw [← this]
    rfl
  · obtain ⟨rfl, s1, rfl⟩ := h
    rw [esz, List.take_length]
    have hval : (TL.tl fg).foldl (fun acc c => acc * 10 + (c - 48)) 0 = NumText.digitsVal (figs (TL.tl x)) := by rw [hfg]; rfl
    rw [hval]
    obtain ⟨tn1, tn2⟩ := tame_num hbad
    have hlog := log_ok (show (Mt.numOf (TL.tl x)).natAbs < 10 ^ 40 by simpa [okI] using tn1)
    have epart : partL (TL.tl x) = if intL (Mt.numOf (TL.tl x)) = TL.tl x then some (.int (Mt.numOf (TL.tl x))) else none := by
      unfold partL; rw [if_neg h39, if_neg hn, if_neg (by rw [hbad]; exact Bool.false_ne_true)]
    have fin : ∀ σ H2, σ = [some (.str x), s1, some (.str fg), some (.int ((NumText.digitsVal (figs (TL.tl x)) : Nat) : Int))] → ∀ (Q2 : VK), Q2 (.int (Mt.numOf (TL.tl x))) H2 → (tIf (tTest (tOp rEq (tSl rSlS (tVar 0) tNoPart (tPart (tC (.int 1)))) (tC (.str "-")))) (tUn (rU fun i => .int (-i)) (tVar 3)) (tVar 3) : TE) σ H2 Q2 := fun σ H2 eσ Q2 q2 => ?_
    · refine fin _ _ rfl _ ⟨_, rfl, hlog, _, rfl, rfl, _, rfl, ?_⟩
      rw [dec_str_of (tl_int _) rfl]
      by_cases hback : intL (Mt.numOf (TL.tl x)) = TL.tl x
      · rw [decide_eq_true hback]
        refine iteT (fin _ _ rfl _ ⟨by show 1 ≤ sizeLine; decide, fun p hp => q1 _ (by rw [epart, if_pos hback]) _ p _ (sm5.trans (same_new hp _)) upd_same (.int _)⟩)
      · rw [decide_eq_false hback]
        exact iteF ⟨by show 0 ≤ sizeLine; decide, fun p hp => q0 (by rw [epart, if_neg hback]) _ p (sm5.trans (same_new hp _)) upd_same⟩
    · subst eσ
      refine ⟨_, rfl, _, rfl, x, rfl, small (by omega), ?_⟩
      rw [eh]
      refine ⟨rfl, _, rfl, ?_⟩
      rw [dec_str_of hx1 q45, head_take]
      unfold Mt.numOf at q2
      by_cases h45 : (TL.tl x).head? = some 45
      · rw [decide_eq_true h45]
        rw [if_pos h45] at q2
        exact iteT ⟨_, rfl, _, rfl, q2⟩
      · rw [decide_eq_false h45]
        rw [if_neg h45] at q2
        exact iteF ⟨_, rfl, q2⟩
end
end K8

set_option Elab.async false
set_option linter.all false
set_option maxRecDepth 100000
set_option maxHeartbeats 4000000
namespace K8
open PySem PySem.Spec PyProof.Rows L2 Pk Mt
section
variable {P : Program} {w : World} {K : PySem.W.Frag} {mg : Str → Option Value} {base : Heap}
/-! ### _law_read -/
def spLawRead : Sp := fun vs H Q _ => ∃ x e, vs = [x] ∧ Rp H x e ∧ (∀ t, e = .str t → shortT t = true) ∧ (∀ t d v H' p, e = .str t → Reads (TL.tl t) d → Same H H' → H' p = some (.tup [v]) → Rp H' v d → Q (.ref p) H') ∧
  ((¬ ∃ t d, e = .str t ∧ Reads (TL.tl t) d) → ∀ H' p, Same H H' → H' p = some (.tup []) → Q (.ref p) H')
theorem lexL_split (t : Str) : (Txt.split (Txt.replace (Txt.replace t "(" "( ") ")" " )") " ").map TL.tl = lexL (TL.tl t) := by
  have e := TL.split_spl (Txt.replace (Txt.replace t "(" "( ") ")" " )") " " (by decide +kernel) (TL.kind_ok (by decide +kernel))
  have e1 : TL.tl (Txt.replace t "(" "( ") = PySem.StrLaws.replL [40] [40, 32] (TL.tl t) := PySem.StrLaws.replace_list (x := t) (y := "(") (z := "( ") (by decide +kernel)
  have e2 : TL.tl (Txt.replace (Txt.replace t "(" "( ") ")" " )") = PySem.StrLaws.replL [41] [32, 41] (TL.tl (Txt.replace t "(" "( ")) := PySem.StrLaws.replace_list (x := Txt.replace t "(" "( ") (y := ")") (z := " )") (by decide +kernel)
  rw [e, e2, e1]
  rfl
theorem ok_law_read (T : Facts K mg) : FnOk P w K mg base CX0 192 T.f_law_read T.d_law_read ["text"] spLawRead := by
  refine okT T.F_law_read c_law_read (by decide +kernel) (by decide) (fun vs H Q E h => ?_) (fun cdv A outer s H vs Q E hr h => ?_)
  · obtain ⟨x, e, rfl, _⟩ := h
    rfl
  obtain ⟨x, e, rfl, hx, hsh, q1, q0⟩ := h
  have hu := hu_of hr
  have zero : (0 : Nat) ≤ sizeLine := by decide
  refine ⟨_, psst_cons (PST.of (ps_if (PW.pt (pw_or (pt_not (pt_val (pis (T := "str") T.z_isinstance T.z_str (pv 0)))) (pw_or1 (pt_cmpR op_in_sign pe_str (pv 0) (by rfl))))) (pss_one (ps_ret (pe_tup pa_nil))) pss_nil))
    (psst_cons (PST.of (ps_set (i := 1) c_law_read.nd rfl (.inl rfl) (pe_lst (pa_cons (pe_lst pa_nil) pa_nil))))
    (psst_cons (pst_for PassesOwn.never rfl (pit_list (pet_m1 PySem.F.slot_str_split PySem.F.type_str_split mt_split (CwR.pet_replT (CwR.pet_replC (pv 0))) pe_str)) (pg_name (i := 2) c_law_read.nd rfl (Or.inl rfl))
      (pss_one (ps_if (pt_cmpR op_eq (pv 2) pe_str (nomark _)) (pss_one (ps_expr (pe_bm PySem.F.plainAttrs_list PySem.F.slot_list_append PySem.F.type_list_append mt_append (pv 1) (pa_cons (pe_lst pa_nil) pa_nil))))
        (pss_one (ps_if (pt_cmpR op_eq (pv 2) pe_str (nomark _))
          (pss_cons (ps_if (pt_cmpR op_eq (pe_callB call_len_seq (by rfl) T.z_len PySem.boot_len (pa_cons (pv 1) pa_nil)) pe_int (nomark _)) (pss_one (ps_ret (pe_tup pa_nil))) pss_nil)
          (pss_cons (ps_set (i := 3) c_law_read.nd rfl (.inl rfl) (pe_callTy call_tuple_of (by rfl) T.z_tuple (by decide +kernel) (pa_cons (pe_bm0 PySem.F.plainAttrs_list PySem.F.slot_list_pop PySem.F.type_list_pop mt_pop (pv 1)) pa_nil)))
          (pss_one (ps_expr (pe_bm PySem.F.plainAttrs_list PySem.F.slot_list_append PySem.F.type_list_append mt_append (pe_ix ix_list (pv 1) (pe_un un_neg pe_int) (fun _ _ => rfl)) (pa_cons (pv 3) pa_nil))))))
          (pss_one (ps_if (pt_cmpR op_ne (pv 2) pe_str (nomark _))
            (pss_cons (ps_set (i := 3) c_law_read.nd rfl (.inl rfl) (pe_call (ok_read_word T) (hr.mono (by decide)) (by rfl) T.m_law_read_word T.F_law_read_word.kp T.b_law_read_word .nil pass0 (pa_cons (pv 2) pa_nil)))
            (pss_cons (ps_if (pt_cmpR (op_eqE (Nat.lt_of_succ_lt hu)) (pv 3) (pe_tup pa_nil) (nomark _)) (pss_one (ps_ret (pe_tup pa_nil))) pss_nil)
            (pss_one (ps_expr (pe_bm PySem.F.plainAttrs_list PySem.F.slot_list_append PySem.F.type_list_append mt_append (pe_ix ix_list (pv 1) (pe_un un_neg pe_int) (fun _ _ => rfl)) (pa_cons (pe_ix ix_tup (pv 3) pe_int (fun _ _ => rfl)) pa_nil))))))
            pss_nil)))))))
    (psst_cons (PST.of (ps_if (PW.pt (pw_or (pt_cmpR op_ne (pe_callB call_len_seq (by rfl) T.z_len PySem.boot_len (pa_cons (pv 1) pa_nil)) pe_int (nomark _))
        (pw_or (pt_cmpR op_ne (pe_callB call_len_seq (by rfl) T.z_len PySem.boot_len (pa_cons (pe_ix ix_list (pv 1) pe_int (fun _ _ => rfl)) pa_nil)) pe_int (nomark _))
        (pw_or (pt_not (pt_val (pe_call (ok_is_due T) (hr.mono (by decide)) (by rfl) T.m_law_is_due T.F_law_is_due.kp T.b_law_is_due .nil pass0 (pa_cons (pe_ix ix_list (pe_ix ix_list (pv 1) pe_int (fun _ _ => rfl)) pe_int (fun _ _ => rfl)) pa_nil))))
        (pw_or1 (pt_cmpR op_ne (pe_call (ok_paper_text_law T 191) hr (by rfl) T.m_law_paper_text T.F_law_paper_text.kp T.b_law_paper_text .nil pass0 (pa_cons (pe_ix ix_list (pe_ix ix_list (pv 1) pe_int (fun _ _ => rfl)) pe_int (fun _ _ => rfl)) pa_nil)) (pv 0) (nomark _)))))))
        (pss_one (ps_ret (pe_tup pa_nil))) pss_nil))
    (CwR.psst_one (PST.of (ps_ret (pe_tup (pa_cons (pe_ix ix_list (pe_ix ix_list (pv 1) pe_int (fun _ _ => rfl)) pe_int (fun _ _ => rfl)) pa_nil)))))))), ?_⟩
  have out : (¬ ∃ t d, e = .str t ∧ Reads (TL.tl t) d) → ∀ H', Same H H' → ([] : List V).length ≤ sizeLine ∧ ∀ p, H' p = none → Q (.ref p) (upd H' p (.tup [])) := fun h H' s => ⟨zero, fun p hp => q0 h _ p (s.trans (same_new hp _)) upd_same⟩
  refine ⟨x, rfl, _, e, rfl, hx, _, rfl, ?_⟩
  cases hx with
  | non => exact iteT (iteT (out (fun ⟨t, d, z, _⟩ => by cases z) _ (Same.refl _)))
  | bl b => exact iteT (iteT (out (fun ⟨t, d, z, _⟩ => by cases z) _ (Same.refl _)))
  | int i => exact iteT (iteT (out (fun ⟨t, d, z, _⟩ => by cases z) _ (Same.refl _)))
  | lst h1 h2 => exact iteT (iteT (out (fun ⟨t, d, z, _⟩ => by cases z) _ (Same.refl _)))
  | tup h1 h2 => exact iteT (iteT (out (fun ⟨t, d, z, _⟩ => by cases z) _ (Same.refl _)))
  | dct h1 => exact iteT (iteT (out (fun ⟨t, d, z, _⟩ => by cases z) _ (Same.refl _)))
  | str t =>
  have hsh' : t.length < 3500 ∧ (TL.tl t).count 40 < 190 := by simpa [shortT] using hsh t rfl
  have out : (∀ d, ¬ Reads (TL.tl t) d) → ∀ H', Same H H' → ([] : List V).length ≤ sizeLine ∧ ∀ p, H' p = none → Q (.ref p) (upd H' p (.tup [])) := fun h => out (fun ⟨t', d, z, hd⟩ => by injection z with z; rw [← z] at hd; exact h d hd)
  refine iteF ⟨_, rfl, 10, t, congrArg V.str (by decide +kernel), rfl, _, rfl, ?_⟩
  by_cases h10 : 10 ∈ t.cps.toList
  · rw [decide_eq_true h10]
    refine iteT (out (fun d hd => ?_) _ (Same.refl _))
    obtain ⟨r1', r2', r3'⟩ := hd
    rw [← show TL.tl t = t.cps.toList from rfl, ← r3'] at h10
    exact no10 d r1' h10
  rw [decide_eq_false h10]
  refine iteF ?_
  have hw : t.length ≤ 4000 := by omega
  have el := TL.len_tl t
  have hws := lexL_wsum (TL.tl t)
  have hlw := len_wsum (lexL (TL.tl t))
  have l1 := TK.replace_len t "(" "( "
  have l2 := TK.replace_len (Txt.replace t "(" "( ") ")" " )"
  have z1 : ("( " : Str).length = 2 := by decide +kernel
  have z2 : (" )" : Str).length = 2 := by decide +kernel
  rw [z1] at l1
  rw [z2] at l2
  refine ⟨by show 0 ≤ sizeLine; decide, fun p0 hp0 => ⟨by show 1 ≤ sizeLine; decide, fun a ha => ?_⟩⟩
  refine ⟨_, rfl, _, rfl, by rw [z1]; omega, _, rfl, by rw [z2]; omega, ⟨_, rfl⟩, _, _, rfl, rfl, by decide +kernel, ?_, fun W hW => ⟨W, rfl, ⟨_, SqL.of upd_same⟩, ?_⟩⟩
  · exact Nat.le_trans (show _ ≤ 1000000 by omega) (by decide)
  have hlex := lexL_split t
  generalize Txt.split (Txt.replace (Txt.replace t (Str.ofString "(") (Str.ofString "( ")) (Str.ofString ")") (Str.ofString " )")) (Str.ofString " ") = ws at hlex
  have hp00 : H p0 = none := hp0
  have nap : a ≠ p0 := fun z => by
    rw [z, upd_same] at ha
    cases ha
  have haH : H a = none := by rw [upd_ne nap] at ha; exact ha
  have nWa : W ≠ a := fun z => by rw [z, upd_same] at hW; cases hW
  have nWp : W ≠ p0 := fun z => by rw [z, upd_ne (Ne.symm nap), upd_same] at hW; cases hW
  have hWH : H W = none := by rw [upd_ne nWa, upd_ne nWp] at hW; exact hW
  generalize eB : upd H W (.lst (ws.map V.str)) = B
  have sHB : Same H B := by rw [← eB]; exact same_new hWH _
  have hBW : B W = some (.lst (ws.map V.str)) := by rw [← eB, upd_same]
  have lenws : (ws.map V.str).length = (lexL (TL.tl t)).length := by rw [List.length_map, ← hlex, List.length_map]
  have fail : (∀ d, Mt.run partL (lexL (TL.tl t)) [[]] ≠ some [[d]]) → ∀ H', Same B H' → ([] : List V).length ≤ sizeLine ∧ ∀ p, H' p = none → Q (.ref p) (upd H' p (.tup [])) := fun h H' s => out (fun d hd => h d hd.runL) H' (sHB.trans s)
  refine for_list (K := K) (a := W) (xs := ws.map V.str) (fun i σ H' => ∃ us st x2 x3, σ = [some (.str t), some (.ref a), x2, x3] ∧ Stk B H' a us st ∧ Same B H' ∧ Mt.run partL ((lexL (TL.tl t)).take i) [[]] = some st)
    ⟨[p0], [[]], none, none, rfl, Stk.start ?_ ?_ ?_ ?_, fun b o e => ?_, by simp [Mt.run]⟩ (fun i σ H' _ h => ?_) (fun i x σ H' hx h => ?_) (fun σ H' h => ?_)
  · rw [upd_ne (Ne.symm nWa), upd_same]
  · rw [upd_ne (Ne.symm nWp), upd_ne (Ne.symm nap), upd_same]
  · rw [← eB, upd_ne (Ne.symm nWa)]; exact haH
  · rw [← eB, upd_ne (Ne.symm nWp)]; exact hp00
  · rw [← eB] at e
    by_cases hb : b = W
    · subst hb; rw [upd_same] at e ⊢; exact e
    · rw [upd_ne hb] at e
      rw [upd_ne hb, upd_ne (ne_of_none e haH), upd_ne (ne_of_none e hp00)]
      exact e
  · obtain ⟨us, st, x2, x3, rfl, S, sm, hrun⟩ := h
    exact SqL.of (sm _ _ hBW)
  · -- one word
    obtain ⟨us, st, x2, x3, rfl, S, sm, hrun⟩ := h
    obtain ⟨wd, hwd, rfl⟩ : ∃ wd, ws[i]? = some wd ∧ x = .str wd := by
      rw [List.getElem?_map] at hx
      cases e : ws[i]? with
      | none => rw [e] at hx; cases hx
      | some y => rw [e] at hx; exact ⟨y, rfl, by injection hx with hx; exact hx.symm⟩
    have hlx : (lexL (TL.tl t))[i]? = some (TL.tl wd) := by rw [← hlex, List.getElem?_map, hwd]; rfl
    obtain ⟨hnext, hnone⟩ := run_take hlx hrun
    obtain ⟨sz1, sz2⟩ := run_small tame_L hrun
    have tk1 : ((lexL (TL.tl t)).take i).length ≤ (lexL (TL.tl t)).length := by rw [List.length_take]; omega
    have tk2 : wsum ((lexL (TL.tl t)).take i) ≤ wsum (lexL (TL.tl t)) := by
      have e := wsum_app ((lexL (TL.tl t)).take i) ((lexL (TL.tl t)).drop i)
      rw [List.take_append_drop] at e
      omega
    have szst : st.length ≤ 100000 := by omega
    have szl : ∀ l ∈ st, l.length ≤ 100000 := fun l hl => by have := sz2 l hl; omega
    have hne := run_ne tame_L hrun
    have hus := S.lv.len
    have bad : Mt.step partL (TL.tl wd) st = none → ∀ H', Same B H' → [].length ≤ sizeLine ∧ ∀ p, H' p = none → Q (.ref p) (upd H' p (.tup [])) := fun h => fail fun d z => by rw [hnone h] at z; cases z
    have wlen : wd.length ≤ 100000 := by
      have e : ∀ (l : List (List Nat)) (x : List Nat), x ∈ l → x.length ≤ wsum l := fun l => by
        induction l with
        | nil => intro x h; cases h
        | cons y l ih =>
          intro x h
          rw [wsum]
          rcases List.mem_cons.mp h with rfl | h
          · omega
          · have := ih x h; omega
      have := e _ _ (List.mem_of_getElem? hlx)
      have := TL.len_tl wd
      omega
    refine ⟨_, rfl, rfl, _, rfl, ?_⟩
    rw [dec_str_of rfl (show TL.tl ("(" : Str) = [40] by decide +kernel)]
    by_cases h40 : TL.tl wd = [40]
    · rw [decide_eq_true h40]
      have hst : Mt.step partL (TL.tl wd) st = some ([] :: st) := by unfold Mt.step; rw [if_pos h40]
      refine iteT ⟨_, rfl, .inl ⟨rfl, _, SqL.of S.top⟩, by show 0 ≤ sizeLine; decide, fun p hp => ?_⟩
      obtain ⟨S2, s2⟩ := S.push sm hp
      refine ⟨a, _, _, rfl, rfl, (by rw [upd_ne (ne_of_none S.top hp)]; exact S.top), ?_, p :: us, [] :: st, _, _, rfl, S2, s2, by rw [hnext, hst]⟩
      rw [List.length_map, List.length_reverse]
      exact Nat.lt_of_le_of_lt (show _ ≤ 1000000 by omega) (by decide)
    rw [decide_eq_false h40]
    refine iteF ⟨_, rfl, rfl, _, rfl, ?_⟩
    rw [dec_str_of rfl (show TL.tl (")" : Str) = [41] by decide +kernel)]
    by_cases h41 : TL.tl wd = [41]
    · rw [decide_eq_true h41]
      refine iteT ⟨_, rfl, a, _, rfl, .inl (SqL.of S.top), rfl, _, rfl, ?_⟩
      rw [List.length_map, List.length_reverse, show ((1 : Int)) = ((1 : Nat) : Int) from rfl, dec_intN]
      cases hlv : S.lv with
      | nil => exact absurd rfl hne
      | @cons u us' xs ds st' b1 b2 b3 b4 b5 =>
        cases b5 with
        | nil =>
          refine ifT (by simp) (bad ?_ H' sm)
          unfold Mt.step
          rw [if_neg h40, if_pos h41]
        | @cons n us'' ys es st'' c1 c2 c3 c4 c5 =>
          have hst : Mt.step partL (TL.tl wd) (ds :: es :: st'') = some ((es ++ [.tuple ds]) :: st'') := by unfold Mt.step; rw [if_neg h40, if_pos h41]
          refine ifF (by simp) ?_
          obtain ⟨xs', S1, s1, hu1, hx1, ok1, bu⟩ := S.pop sm
          have hpop : ((u :: n :: us'').reverse.map V.ref).dropLast = (n :: us'').reverse.map V.ref := by
            rw [List.reverse_cons, List.map_append]
            simp
          refine ⟨_, rfl, .inl ⟨rfl, _, SqL.of S.top⟩, a, _, .ref u, rfl, rfl, S.top, by simp, ?_⟩
          rw [hpop]
          generalize upd H' a (.lst ((n :: us'').reverse.map V.ref)) = H1 at S1 s1 hu1 hx1
          refine ⟨u, xs', rfl, .inl ⟨SqL.of hu1, fun tt htt => ?_⟩⟩
          have S2 := S1.same (same_new htt (.tup xs'))
          have s2 := s1.trans (same_new htt (.tup xs'))
          have hrp := tup_of (B := B) htt hx1
          generalize upd H1 tt (.tup xs') = H2 at S2 s2 hrp
          cases S2.lv with
          | @cons _ _ ys' _ _ d1 d2 d3 d4 d5 =>
            have hix : atI ((n :: us'').reverse.map V.ref) (-1) = some (.ref n) := by
              rw [List.reverse_cons, List.map_append]
              exact atI_last _ _
            obtain ⟨S3, s3⟩ := S2.leaf s2 d2 hrp (by simpa [okI] using ok1)
            refine ⟨_, rfl, 1, rfl, a, _, _, _, rfl, rfl, SqL.of S2.top, hix, .inl ⟨rfl, _, SqL.of d2⟩, _, rfl, n, ys', _, rfl, rfl, d2, ?_, n :: us'', (es ++ [.tuple ds]) :: st'', _, _, rfl, S3, s3, by rw [hnext, hst]⟩
            have := d3.length
            have := szl es (List.mem_cons_of_mem _ List.mem_cons_self)
            exact Nat.lt_of_le_of_lt (show _ ≤ 1000000 by omega) (by decide)
    rw [decide_eq_false h41]
    refine iteF ⟨_, rfl, rfl, _, rfl, ?_⟩
    rw [dec_str_of rfl (show TL.tl ("" : Str) = [] by decide +kernel)]
    by_cases h0 : TL.tl wd = []
    · rw [decide_eq_true h0]
      have hst : Mt.step partL (TL.tl wd) st = some st := by unfold Mt.step; rw [if_neg h40, if_neg h41, if_pos h0]
      exact iteF ⟨us, st, _, _, rfl, S, sm, by rw [hnext, hst]⟩
    rw [decide_eq_false h0]
    refine iteT ⟨_, rfl, wd, rfl, wlen, fun hp H1 pp s1 hpp => ?_, fun y hp H1 p v s1 hp1 hv1 => ?_⟩
    · refine ⟨_, rfl, by show 0 ≤ sizeLine; decide, fun p3 hp3 => ⟨pp, p3, true, rfl, rfl, .inr ⟨[], [], SqT.of (by rw [upd_ne (ne_of_none hpp hp3)]; exact hpp), SqT.of upd_same, .inr rfl, by simp⟩, _, rfl, iteT ?_⟩⟩
      refine bad ?_ _ ((sm.trans s1).trans (same_new hp3 _))
      unfold Mt.step
      rw [if_neg h40, if_neg h41, if_neg h0, hp]
    · refine ⟨_, rfl, by show 0 ≤ sizeLine; decide, fun p3 hp3 => ⟨p, p3, false, rfl, rfl, .inr ⟨[v], [], SqT.of (by rw [upd_ne (ne_of_none hp1 hp3)]; exact hp1), SqT.of upd_same, .inr rfl, by simp⟩, _, rfl, iteF ?_⟩⟩
      have s1 := s1.trans (same_new hp3 (.tup []))
      have hp1 : upd H1 p3 (.tup []) p = some (.tup [v]) := by rw [upd_ne (ne_of_none hp1 hp3)]; exact hp1
      have hv1 := hv1.mono (same_new hp3 (.tup []))
      generalize upd H1 p3 (.tup []) = H1 at s1 hp1 hv1
      have S1 := S.same s1
      obtain ⟨okx, _⟩ := tame_L _ _ hp
      cases hlv : S1.lv with
      | nil => exact absurd rfl hne
      | @cons u us' xs ds st' b1 b2 b3 b4 b5 =>
        have hst : Mt.step partL (TL.tl wd) (ds :: st') = some ((ds ++ [y]) :: st') := by
          unfold Mt.step
          rw [if_neg h40, if_neg h41, if_neg h0, hp]
        obtain ⟨S3, s3⟩ := S1.leaf (sm.trans s1) b2 hv1 okx
        have hix : atI ((u :: us').reverse.map V.ref) (-1) = some (.ref u) := by
          rw [List.reverse_cons, List.map_append]
          exact atI_last _ _
        refine ⟨_, rfl, 1, rfl, a, _, _, _, rfl, rfl, SqL.of S1.top, hix, .inl ⟨rfl, _, SqL.of b2⟩, _, rfl, p, _, 0, v, rfl, rfl, SqT.of hp1, atI_nat (j := 0) rfl, u, xs, v, rfl, rfl, b2, ?_, u :: us', (ds ++ [y]) :: st', _, _, rfl, S3, s3, by rw [hnext, hst]⟩
        have := b3.length
        have := szl ds List.mem_cons_self
        exact Nat.lt_of_le_of_lt (show _ ≤ 1000000 by omega) (by decide)
  · -- the end
    obtain ⟨us, st, x2, x3, rfl, S, sm, hrun⟩ := h
    rw [lenws, List.take_length] at hrun
    have hne := run_ne tame_L hrun
    refine ⟨_, rfl, a, _, rfl, .inl (SqL.of S.top), rfl, _, rfl, ?_⟩
    rw [List.length_map, List.length_reverse, show ((1 : Int)) = ((1 : Nat) : Int) from rfl, dec_intN]
    cases hlv : S.lv with
    | nil => exact absurd rfl hne
    | @cons u us' xs ds st' b1 b2 b3 b4 b5 =>
      cases b5 with
      | cons c1 c2 c3 c4 c5 =>
        refine ifT (by simp) ?_
        refine iteT (fail (fun d z => ?_) H' sm)
        rw [hrun] at z
        cases z
      | nil =>
        have hix : atI (([u] : List Addr).reverse.map V.ref) 0 = some (.ref u) := atI_nat (j := 0) rfl
        have hlen := b3.length
        refine ifF (by simp) ⟨_, rfl, a, _, 0, _, rfl, rfl, SqL.of S.top, hix, u, xs, rfl, .inl (SqL.of b2), rfl, _, rfl, ?_⟩
        by_cases h1 : ds.length = 1
        rotate_left
        · have dt : (!decide (V.int (xs.length : Int) = V.int 1)) = true := by
            rw [decide_eq_false (fun e => h1 (by injection e with e; omega))]
            rfl
          refine ifT dt ?_
          refine iteT (fail (fun d z => h1 ?_) H' sm)
          rw [hrun] at z
          injection z with z
          injection z with z _
          rw [z]
          rfl
        have dt : (!decide (V.int (xs.length : Int) = V.int 1)) = false := by
          rw [decide_eq_true (show V.int (xs.length : Int) = V.int 1 by rw [hlen, h1]; rfl)]
          rfl
        refine ifF dt ?_
        obtain ⟨d, rfl⟩ : ∃ d, ds = [d] := by
          cases ds with
          | nil => simp at h1
          | cons d r =>
            cases r with
            | nil => exact ⟨d, rfl⟩
            | cons _ _ => simp at h1
        cases b3 with
        | @cons v _ _ _ hv hn =>
          cases hn
          obtain ⟨ok1, ok2, ok3⟩ := run_res tame_L hrun
          have hcnt := lexL_cnt (TL.tl t)
          have hix2 : atI [v] 0 = some v := atI_nat (j := 0) rfl
          have only : ∀ d', Reads (TL.tl t) d' → d' = d := fun d' h => by
            have z := h.runL
            rw [hrun] at z
            injection z with z
            injection z with z _
            injection z with z _
            exact z.symm
          refine ⟨_, rfl, a, _, 0, _, rfl, rfl, SqL.of S.top, hix, u, _, 0, _, rfl, rfl, SqL.of b2, hix2, v, d, rfl, hv, by omega, fun H2 s2 => ⟨_, rfl, ?_⟩⟩
          have S2 := S.same s2
          have sm2 := sm.trans s2
          by_cases hp : isP d = true
          rotate_left
          · refine ifT (by simpa using hp) ?_
            refine iteT (out (fun d' h => ?_) H2 (sHB.trans sm2))
            have := h.1
            rw [only d' h] at this
            exact hp this
          refine ifF (by simpa using hp) ⟨_, rfl, a, _, 0, _, rfl, rfl, SqL.of S2.top, hix, u, _, 0, _, rfl, rfl, SqL.of (s2 _ _ b2), hix2, v, d, rfl, hv.mono s2, hp, ok1, by omega, by omega, fun z H3 hz s3 => ⟨_, rfl, rfl, _, rfl, ?_⟩⟩
          have S3 := S2.same s3
          have sm3 := sm2.trans s3
          rw [dec_str_of hz rfl]
          by_cases ht : txt d = TL.tl t
          · rw [decide_eq_true ht]
            refine iteF ⟨_, rfl, a, _, 0, _, rfl, rfl, SqL.of S3.top, hix, u, _, 0, _, rfl, rfl, SqL.of (s3 _ _ (s2 _ _ b2)), hix2, by show 1 ≤ sizeLine; decide, fun p hp' => ?_⟩
            exact q1 t d v _ p rfl ⟨hp, ok1, ht⟩ ((sHB.trans sm3).trans (same_new hp' _)) upd_same ((hv.mono (s2.trans s3)).mono (same_new hp' _))
          · rw [decide_eq_false ht]
            refine iteT (out (fun d' h => ?_) H3 (sHB.trans sm3))
            have := h.2.2
            rw [only d' h] at this
            exact ht this
end
end K8

set_option Elab.async false
set_option linter.all false
set_option maxRecDepth 100000
set_option maxHeartbeats 4000000
namespace K8
open PySem PySem.Spec PyProof.Rows L2 Pk Mt
mutual
/-- no dict within -/
def noD : PyData → Bool
  | .dict _ => false
  | .list ds => noDA ds
  | .tuple ds => noDA ds
  | _ => true
def noDA : List PyData → Bool
  | [] => true
  | d :: ds => noD d && noDA ds
end
/-- pairs of two values of the same data each -/
inductive PairsOf (H H' : Hp) : List Addr → List PyData → Prop
  | nil : PairsOf H H' [] []
  | cons {p : Addr} {ps : List Addr} {x y : V} {d : PyData} {ds : List PyData} : H' p = some (.tup [x, y]) → Rp H x d → Rp H y d → PairsOf H H' ps ds → PairsOf H H' (p :: ps) (d :: ds)
theorem PairsOf.tups {H H1 H2 : Hp} (t : Tups H1 H2) : ∀ {ps : List Addr} {ds : List PyData}, PairsOf H H1 ps ds → PairsOf H H2 ps ds
  | _, _, .nil => .nil
  | _, _, .cons a b c e => .cons (t _ _ a) b c (PairsOf.tups t e)
theorem PairsOf.len {H H1 : Hp} : ∀ {ps : List Addr} {ds : List PyData}, PairsOf H H1 ps ds → ps.length = ds.length
  | _, _, .nil => rfl
  | _, _, .cons _ _ _ e => congrArg (· + 1) (PairsOf.len e)
theorem PairsOf.app {H H1 : Hp} : ∀ {ps qs : List Addr} {ds es : List PyData}, PairsOf H H1 ps ds → PairsOf H H1 qs es → PairsOf H H1 (ps ++ qs) (ds ++ es)
  | _, _, _, _, .nil, h => h
  | _, _, _, _, .cons a b c e, h => .cons a b c (PairsOf.app e h)
theorem PairsOf.split {H H1 : Hp} {p : Addr} : ∀ {ps : List Addr} {ds : List PyData}, PairsOf H H1 (ps ++ [p]) ds → ∃ es d x y, ds = es ++ [d] ∧ PairsOf H H1 ps es ∧ H1 p = some (.tup [x, y]) ∧ Rp H x d ∧ Rp H y d
  | [], _, .cons a b c .nil => ⟨[], _, _, _, rfl, .nil, a, b, c⟩
  | q :: ps, _, .cons a b c e => by
    obtain ⟨es, d, x, y, h1, h2, h3, h4, h5⟩ := PairsOf.split e
    exact ⟨_ :: es, d, x, y, by rw [h1]; rfl, .cons a b c h2, h3, h4, h5⟩
theorem pairsOf {H H' : Hp} : ∀ {ps : List Addr} {xs ys : List V} {ds : List PyData}, ps.length = xs.length → PairsAt H' ps xs ys → RpA H xs ds → RpA H ys ds → PairsOf H H' ps ds
  | [], [], _, _, _, _, .nil, .nil => .nil
  | [], _ :: _, _, _, h, _, _, _ => by simp at h
  | _ :: _, [], _, _, h, _, _, _ => by simp at h
  | _ :: _, _ :: _, [], [], _, _, h, _ => nomatch h
  | _ :: _, _ :: _, [], _ :: _, _, _, _, h => nomatch h
  | p :: ps, x :: xs, y :: ys, _ :: _, h, hp, .cons a b, .cons c e => by
    obtain ⟨x', y', e1, e2, e3⟩ := hp 0 p rfl
    simp at e1 e2
    subst e1 e2
    exact .cons e3 a c (pairsOf (by simpa using h) (fun j q hq => hp (j + 1) q (by simpa using hq)) b e)
theorem noDA_app : ∀ a b : List PyData, noDA (a ++ b) = (noDA a && noDA b)
  | [], b => by simp [noDA]
  | d :: a, b => by rw [List.cons_append, noDA, noDA, noDA_app a b, Bool.and_assoc]
section
variable {P : Program} {w : World} {K : PySem.W.Frag} {mg : Str → Option Value} {base : Heap}
/-! ### _law_same -/
def spSame : Sp := fun vs H Q _ => ∃ x y d, vs = [x, y] ∧ Rp H x d ∧ Rp H y d ∧ noD d = true ∧ tw d ≤ 500000 ∧ ∀ H', Same H H' → Q (.bl true) H'
theorem bl_same (b : Bool) : (!decide (V.bl b = V.bl b)) = false := by simp
theorem ok_same (T : Facts K mg) : FnOk P w K mg base CX0 1 T.f_law_same T.d_law_same ["told", "due"] spSame := by
  refine T.F_law_same.ok c_law_same (fun vs H Q E h => ?_) (fun cdv A outer s H vs Q E hr h => ?_)
  · obtain ⟨x, y, d, rfl, _⟩ := h
    rfl
  obtain ⟨x, y, d, rfl, hx, hy, hn, hw, q⟩ := h
  have hu := hu_of hr
  refine ⟨_, pss_cons (ps_set (i := 2) c_law_same.nd rfl (.inl rfl) (pe_lst (pa_cons (pe_tup (pa_cons (pv 0) (pa_cons (pv 1) pa_nil))) pa_nil)))
    (pss_cons (ps_while PassesOwn.never (pt_cmpR (op_neE (Nat.lt_of_succ_lt hu)) (pv 2) (pe_lst pa_nil) (nomark _))
      (pss_cons (ps_asg (pe_bm0 PySem.F.plainAttrs_list PySem.F.slot_list_pop PySem.F.type_list_pop mt_pop (pv 2)) (pg_tup rfl (pgs_cons (pg_name (i := 3) c_law_same.nd rfl (.inl rfl)) (pgs_cons (pg_name (i := 4) c_law_same.nd rfl (.inl rfl)) pgs_nil))))
      (pss_one (ps_if (PW.pt (pw_or (pt_val (pis (T := "tuple") T.z_isinstance T.z_tuple (pv 4))) (pw_or1 (pt_val (pis (T := "list") T.z_isinstance T.z_list (pv 4))))))
        (pss_cons (ps_if (PW.pt (pw_or (pt_cmpR op_ne (pis (T := "tuple") T.z_isinstance T.z_tuple (pv 3)) (pis (T := "tuple") T.z_isinstance T.z_tuple (pv 4)) (nomark _))
            (pw_or (pt_cmpR op_ne (pis (T := "list") T.z_isinstance T.z_list (pv 3)) (pis (T := "list") T.z_isinstance T.z_list (pv 4)) (nomark _))
            (pw_or1 (pt_cmpR op_ne (pe_callB call_len_seq (by rfl) T.z_len PySem.boot_len (pa_cons (pv 3) pa_nil)) (pe_callB call_len_seq (by rfl) T.z_len PySem.boot_len (pa_cons (pv 4) pa_nil)) (nomark _))))))
          (pss_one (ps_ret pe_bl)) pss_nil)
        (pss_one (ps_expr (pe_bm PySem.F.plainAttrs_list PySem.F.slot_list_extend PySem.F.type_list_extend mt_extA (pv 2) (pa_cons (pe_listZip rfl (pa_cons (pv 3) (pa_cons (pv 4) pa_nil)) (by rfl) T.z_list (by rfl) T.z_zip) pa_nil)))))
        (pss_one (ps_if (pt_cmpR op_isN (pv 4) pe_non (nomark _)) (pss_one (ps_if (pt_cmpR op_notN (pv 3) pe_non (nomark _)) (pss_one (ps_ret pe_bl)) pss_nil))
          (pss_one (ps_if (PW.pt (pw_or (pt_cmpR op_ne (pis (T := "bool") T.z_isinstance T.z_bool (pv 3)) (pis (T := "bool") T.z_isinstance T.z_bool (pv 4)) (nomark _))
              (pw_or1 (pt_cmpR op_ne (pis (T := "int") T.z_isinstance T.z_int (pv 3)) (pis (T := "int") T.z_isinstance T.z_int (pv 4)) (nomark _)))))
            (pss_one (ps_ret pe_bl))
            (pss_one (ps_if (PW.pt (pw_or (pt_cmpR op_ne (pis (T := "str") T.z_isinstance T.z_str (pv 3)) (pis (T := "str") T.z_isinstance T.z_str (pv 4)) (nomark _)) (pw_or1 (pt_cmpR op_ne (pv 3) (pv 4) (nomark _)))))
              (pss_one (ps_ret pe_bl)) pss_nil))))))))))
    (pss_one (ps_ret pe_bl))), ?_⟩
  refine ⟨x, rfl, y, rfl, by show 2 ≤ sizeLine; decide, fun t0 ht0 => ⟨by show 1 ≤ sizeLine; decide, fun a ha => ?_⟩⟩
  have nat0 : a ≠ t0 := fun z => by rw [z, upd_same] at ha; cases ha
  have haH : H a = none := by rw [upd_ne nat0] at ha; exact ha
  refine while_n (fun m σ H' => ∃ ps ds o i, σ = [some x, some y, some (.ref a), o, i] ∧ Same H H' ∧ H' a = some (.lst (ps.map V.ref)) ∧ PairsOf H H' ps ds ∧ noDA ds = true ∧ m = twA ds ∧ twA ds ≤ 500000) (tw d)
    ⟨[t0], [d], none, none, rfl, (same_new ht0 _).trans (same_new ha _), upd_same, .cons (by rw [upd_ne (Ne.symm nat0), upd_same]) hx hy .nil, by simp [noDA, hn], by simp [twA], by simpa [twA] using hw⟩ ?_ (fun _ _ _ _ h ⟨v, h1, h2, h3⟩ => ⟨v, h1, h2, fun p hp => ?_⟩)
  rotate_left
  · obtain ⟨a', b', e', z1, z2, z3, k, z4, z5⟩ := h3 p hp
    exact ⟨a', b', e', z1, z2, z3, k, z4, h _ _ z5⟩
  rintro m σ H' ⟨ps, ds, o, i, rfl, sm, ea, hP, hnd, rfl, hm⟩
  refine ⟨_, rfl, by show 0 ≤ sizeLine; decide, fun p hpn => ?_⟩
  have nap : a ≠ p := ne_of_none ea hpn
  have sm2 : Same H (upd H' p (.lst [])) := sm.trans (same_new hpn _)
  have hP2 := hP.tups (.of (same_new hpn (.lst [])))
  have ea2 : upd H' p (.lst []) a = some (.lst (ps.map V.ref)) := by rw [upd_ne nap]; exact ea
  refine ⟨a, p, _, rfl, rfl, ne_list _ ea2 upd_same, _, rfl, ?_⟩
  rcases List.eq_nil_or_concat ps with e | ⟨L, t, e⟩
  · subst e
    exact iteF (q _ sm2)
  rw [List.concat_eq_append] at e
  subst e
  obtain ⟨es, f, u, v, rfl, hL, ht, hu1, hv1⟩ := hP2.split
  have el : (!decide (((L ++ [t]).map V.ref).length = 0)) = true := by simp
  refine ifT el ⟨_, rfl, .inl ⟨rfl, _, SqL.of ea2⟩, a, _, .ref t, rfl, rfl, ea2, by simp, ?_⟩
  have tf : twA (es ++ [f]) = twA es + tw f := by rw [twA_app]; simp [twA]
  have nf : noDA es = true ∧ noD f = true := by
    rw [noDA_app] at hnd
    simpa [noDA] using hnd
  have pos := tw_pos f
  have edl : ((L ++ [t]).map V.ref).dropLast = L.map V.ref := by simp
  rw [edl]
  have tps : Tups (upd H' p (.lst [])) (upd (upd H' p (.lst [])) a (.lst (L.map V.ref))) := Tups.upd_lst ea2 _
  have sm3 : Same H (upd (upd H' p (.lst [])) a (.lst (L.map V.ref))) := same_upd sm2 haH _
  have hL3 := hL.tups tps
  have ht3 := tps _ _ ht
  have ea3 : upd (upd H' p (.lst [])) a (.lst (L.map V.ref)) a = some (.lst (L.map V.ref)) := upd_same
  generalize upd (upd H' p (.lst [])) a (.lst (L.map V.ref)) = H3 at sm3 hL3 ht3 ea3
  have hu3 := hu1.mono sm3
  have hv3 := hv1.mono sm3
  refine ⟨t, [u, v], rfl, SqT.of ht3, rfl, u, [v], rfl, v, [], rfl, rfl, ?_⟩
  refine ⟨_, rfl, _, f, rfl, hv3, _, rfl, ?_⟩
  have done : ∃ m', m' < twA (es ++ [f]) ∧ ∃ ps ds o i, [some x, some y, some (.ref a), some u, some v] = [some x, some y, some (.ref a), o, i] ∧ Same H H3 ∧ H3 a = some (.lst (ps.map V.ref)) ∧ PairsOf H H3 ps ds ∧ noDA ds = true ∧ m' = twA ds ∧ twA ds ≤ 500000 :=
    ⟨twA es, by omega, L, es, some u, some v, rfl, sm3, ea3, hL3, nf.1, rfl, by omega⟩
  have hl1 := hL3.len
  have hl2 := len_twA es
  have ext : ∀ (xs ys : List V) (cs : List PyData), RpA H xs cs → RpA H ys cs → noDA cs = true → tw f = 4 + twA cs → ∀ (H4 : Hp) (p : Addr) (qs : List Addr), Same H3 H4 → H3 p = none → H4 p = some (.lst (qs.map V.ref)) → qs.length = xs.length → PairsAt H4 qs xs ys →
      rExtA K (.ref a) [.ref p] H4 (fun _ H5 => ∃ m', m' < twA (es ++ [f]) ∧ ∃ ps ds o i, [some x, some y, some (.ref a), some u, some v] = [some x, some y, some (.ref a), o, i] ∧ Same H H5 ∧ H5 a = some (.lst (ps.map V.ref)) ∧ PairsOf H H5 ps ds ∧ noDA ds = true ∧ m' = twA ds ∧ twA ds ≤ 500000) := fun xs ys cs h1 h2 h3 h4 H4 p qs s4 hp hq hlq hpa => by
    have hcs := h1.length
    have hct := len_twA cs
    refine ⟨a, p, _, _, rfl, rfl, s4 _ _ ea3, .inl hq, small (by simp only [List.length_map]; omega), twA (es ++ cs), by rw [tf, twA_app, h4]; omega, L ++ qs, es ++ cs, _, _, rfl, same_upd (sm3.trans s4) haH _, by rw [upd_same, List.map_append], ?_, by rw [noDA_app, nf.1, h3]; rfl, rfl, by rw [twA_app]; omega⟩
    exact (((hL3.tups (.of s4)).app (pairsOf hlq hpa h1 h2))).tups (Tups.upd_lst (s4 _ _ ea3) _)
  cases hu1 with
  | @tup b xs cs hb hc =>
    cases hv1 with
    | @tup c ys _ hb' hc' =>
      have e1 := hc.length
      have e2 := hc'.length
      refine iteT ?_
      refine iteT ⟨_, rfl, _, _, rfl, hu3, _, rfl, _, _, rfl, hv3, rfl, _, rfl, iteF ⟨_, rfl, _, _, rfl, hu3, _, rfl, _, _, rfl, hv3, rfl, _, rfl, iteF ⟨_, rfl, b, xs, rfl, .inr (SqT.of (sm3 _ _ hb)), _, rfl, c, ys, rfl, .inr (SqT.of (sm3 _ _ hb')), rfl, _, rfl, ifF ?_ ?_⟩⟩⟩
      · rw [e1, e2]; simp
      · exact ⟨_, rfl, .inl ⟨rfl, _, SqL.of ea3⟩, _, rfl, _, rfl, b, c, xs, ys, rfl, .inr ⟨SqT.of (sm3 _ _ hb), SqT.of (sm3 _ _ hb')⟩, by omega, fun H4 p qs s4 hp hq hlq hpa => ext xs ys cs hc hc' (by simpa [noD] using nf.2) (by simp [tw]) H4 p qs s4 hp hq hlq hpa⟩
  | @lst b xs cs hb hc =>
    cases hv1 with
    | @lst c ys _ hb' hc' =>
      have e1 := hc.length
      have e2 := hc'.length
      refine iteF ⟨_, rfl, _, _, rfl, hv3, _, rfl, ?_⟩
      refine iteT ⟨_, rfl, _, _, rfl, hu3, _, rfl, _, _, rfl, hv3, rfl, _, rfl, iteF ⟨_, rfl, _, _, rfl, hu3, _, rfl, _, _, rfl, hv3, rfl, _, rfl, iteF ⟨_, rfl, b, xs, rfl, .inl (SqL.of (sm3 _ _ hb)), _, rfl, c, ys, rfl, .inl (SqL.of (sm3 _ _ hb')), rfl, _, rfl, ifF ?_ ?_⟩⟩⟩
      · rw [e1, e2]; simp
      · exact ⟨_, rfl, .inl ⟨rfl, _, SqL.of ea3⟩, _, rfl, _, rfl, b, c, xs, ys, rfl, .inl ⟨SqL.of (sm3 _ _ hb), SqL.of (sm3 _ _ hb')⟩, by omega, fun H4 p qs s4 hp hq hlq hpa => ext xs ys cs hc hc' (by simpa [noD] using nf.2) (by simp [tw]) H4 p qs s4 hp hq hlq hpa⟩
  | non =>
    cases hv1
    exact iteF ⟨_, rfl, _, _, rfl, hv3, _, rfl, iteF ⟨_, rfl, rfl, _, rfl, iteT ⟨_, rfl, rfl, _, rfl, iteF done⟩⟩⟩
  | bl b =>
    cases hv1
    exact iteF ⟨_, rfl, _, _, rfl, hv3, _, rfl, iteF ⟨_, rfl, rfl, _, rfl, iteF ⟨_, rfl, _, _, rfl, hu3, _, rfl, _, _, rfl, hv3, rfl, _, rfl, iteF ⟨_, rfl, _, _, rfl, hu3, _, rfl, _, _, rfl, hv3, rfl, _, rfl, iteF ⟨_, rfl, _, _, rfl, hu3, _, rfl, _, _, rfl, hv3, rfl, _, rfl, iteF ⟨_, rfl, _, rfl, rfl, _, rfl, ifF (by simp) done⟩⟩⟩⟩⟩⟩
  | int i =>
    cases hv1
    exact iteF ⟨_, rfl, _, _, rfl, hv3, _, rfl, iteF ⟨_, rfl, rfl, _, rfl, iteF ⟨_, rfl, _, _, rfl, hu3, _, rfl, _, _, rfl, hv3, rfl, _, rfl, iteF ⟨_, rfl, _, _, rfl, hu3, _, rfl, _, _, rfl, hv3, rfl, _, rfl, iteF ⟨_, rfl, _, _, rfl, hu3, _, rfl, _, _, rfl, hv3, rfl, _, rfl, iteF ⟨_, rfl, _, rfl, rfl, _, rfl, ifF (by simp) done⟩⟩⟩⟩⟩⟩
  | str z =>
    cases hv1
    exact iteF ⟨_, rfl, _, _, rfl, hv3, _, rfl, iteF ⟨_, rfl, rfl, _, rfl, iteF ⟨_, rfl, _, _, rfl, hu3, _, rfl, _, _, rfl, hv3, rfl, _, rfl, iteF ⟨_, rfl, _, _, rfl, hu3, _, rfl, _, _, rfl, hv3, rfl, _, rfl, iteF ⟨_, rfl, _, _, rfl, hu3, _, rfl, _, _, rfl, hv3, rfl, _, rfl, iteF ⟨_, rfl, _, rfl, rfl, _, rfl, ifF (by simp) done⟩⟩⟩⟩⟩⟩
  | dct h => simp [noD] at nf
end
end K8

set_option Elab.async false
set_option linter.all false
set_option maxRecDepth 100000
set_option maxHeartbeats 4000000
namespace K8
open PySem PySem.Spec PyProof.Rows L2 Pk Mt
/-! ### the deck -/
def dkv (l : Addr) (m n : Int) : List (Key × V) := [(Sum.inr "left", .ref l), (Sum.inr "mixed", .int m), (Sum.inr "draws", .int n)]
theorem ne_lm : ¬ (("left" : Str) = "mixed") := by decide +kernel
theorem ne_ld : ¬ (("left" : Str) = "draws") := by decide +kernel
theorem ne_md : ¬ (("mixed" : Str) = "draws") := by decide +kernel
theorem get_left {H : Hp} {d l : Addr} {m n : Int} (h : H d = some (.dK (dkv l m n))) : DGet H d (.str "left") (some (.ref l)) := .inl ⟨_, Sum.inr "left", .inl h, rfl, by simp [valV, dkv]⟩
theorem get_mixed {H : Hp} {d l : Addr} {m n : Int} (h : H d = some (.dK (dkv l m n))) : DGet H d (.str "mixed") (some (.int m)) := .inl ⟨_, Sum.inr "mixed", .inl h, rfl, by simp [valV, dkv, ne_lm]⟩
theorem get_draws {H : Hp} {d l : Addr} {m n : Int} (h : H d = some (.dK (dkv l m n))) : DGet H d (.str "draws") (some (.int n)) := .inl ⟨_, Sum.inr "draws", .inl h, rfl, by simp [valV, dkv, ne_ld, ne_md]⟩
theorem put_draws {H : Hp} {d l : Addr} {m n : Int} (k : Int) (h : H d = some (.dK (dkv l m n))) : DPut H d (.str "draws") (.int k) (upd H d (.dK (dkv l m k))) := by
  refine .inl ⟨_, Sum.inr "draws", h, rfl, (by show 3 < sizeLine; decide), ?_⟩
  have e : putK (dkv l m n) (Sum.inr "draws") (.int k) = dkv l m k := by
    simp [putK, dkv, ne_ld, ne_md]
  rw [e]
def Deck (H : Hp) (d l : Addr) : Prop := ∃ (m n : Int) (ns : List Int), H d = some (.dK (dkv l m n)) ∧ H l = some (.lst (ns.map V.int)) ∧ ns.length ≤ 100
/-- all but the deck and its list stays -/
def Fr (d l : Addr) (H H' : Hp) : Prop := ∀ b o, b ≠ d → b ≠ l → H b = some o → H' b = some o
theorem Fr.refl (d l : Addr) (H : Hp) : Fr d l H H := fun _ _ _ _ h => h
theorem Fr.trans {d l : Addr} {H H1 H2 : Hp} (a : Fr d l H H1) (b : Fr d l H1 H2) : Fr d l H H2 := fun c o h1 h2 h => b c o h1 h2 (a c o h1 h2 h)
theorem Fr.of {d l : Addr} {H H' : Hp} (s : Same H H') : Fr d l H H' := fun b o _ _ h => s b o h
theorem Fr.updd {d l : Addr} {H : Hp} (o : HO) : Fr d l H (upd H d o) := fun b u h1 _ h => by rw [upd_ne h1]; exact h
theorem Fr.updl {d l : Addr} {H : Hp} (o : HO) : Fr d l H (upd H l o) := fun b u _ h1 h => by rw [upd_ne h1]; exact h
theorem Deck.same {H H' : Hp} {d l : Addr} (D : Deck H d l) (s : Same H H') : Deck H' d l := by
  obtain ⟨m, n, ns, h1, h2, h3⟩ := D
  exact ⟨m, n, ns, s _ _ h1, s _ _ h2, h3⟩
theorem Deck.tup {H : Hp} {d l b : Addr} {xs : List V} (D : Deck H d l) (h : H b = some (.tup xs)) : b ≠ d ∧ b ≠ l := by
  obtain ⟨m, n, ns, h1, h2, h3⟩ := D
  exact ⟨fun z => (by rw [z, h1] at h; cases h), fun z => (by rw [z, h2] at h; cases h)⟩
theorem Fr.tups {H H' : Hp} {d l : Addr} (f : Fr d l H H') (D : Deck H d l) : Tups H H' := fun b xs h => f b _ (D.tup h).1 (D.tup h).2 h
section
variable {P : Program} {w : World} {K : PySem.W.Frag} {mg : Str → Option Value} {base : Heap}
/-! ### _law_draw -/
def spDraw : Sp := fun vs H Q _ => ∃ d l m, vs = [.ref d, .int m] ∧ Deck H d l ∧ 1 ≤ m ∧ m ≤ 100000 ∧ ∀ r H', 0 ≤ r → r < m → Fr d l H H' → Deck H' d l → Q (.int r) H'
theorem ok_draw (T : Facts K mg) : FnOk P w K mg base CX0 1 T.f_law_draw T.d_law_draw ["deck", "many"] spDraw := by
  refine T.F_law_draw.ok c_law_draw (fun vs H Q E h => ?_) (fun cdv A outer s H vs Q E hr h => ?_)
  · obtain ⟨d, l, m, rfl, _⟩ := h
    rfl
  obtain ⟨d, l, many, rfl, D, hm1, hm2, q⟩ := h
  have hu := hu_of hr
  refine ⟨_, pss_cons (ps_dput hu (pv 0) pe_str (pe_op op_add (pe_dget hu (pv 0) pe_str (fun _ _ => rfl)) pe_int) rfl)
    (pss_cons (ps_set (i := 2) c_law_draw.nd rfl (.inl rfl) (pe_op op_add (pe_dget hu (pv 0) pe_str (fun _ _ => rfl)) (pe_op op_mul pe_int (pe_dget hu (pv 0) pe_str (fun _ _ => rfl)))))
    (C8.pss_cut (ps_if (pt_cmpR (op_neE (Nat.lt_of_succ_lt hu)) (pe_dget hu (pv 0) pe_str (fun _ _ => rfl)) (pe_lst pa_nil) (nomark _))
      (pss_cons (ps_set (i := 3) c_law_draw.nd rfl (.inl rfl) (pe_bm0 PySem.F.plainAttrs_list PySem.F.slot_list_pop PySem.F.type_list_pop mt_pop (pe_dget hu (pv 0) pe_str (fun _ _ => rfl))))
      (pss_cons (ps_if (pt_cmpR op_ge (pv 3) (pe_op op_pow pe_int pe_int) (nomark _))
        (pss_cons (ps_expr (pe_bm PySem.F.plainAttrs_list PySem.F.slot_list_append PySem.F.type_list_append mt_append (pe_dget hu (pv 0) pe_str (fun _ _ => rfl)) (pa_cons (pe_op op_fdivN (pv 3) (pe_callB (call_max2 rfl) (by rfl) T.z_max (by decide +kernel) (pa_cons pe_int (pa_cons (pv 1) pa_nil)))) pa_nil)))
        (pss_one (ps_ret (pe_op op_mod (pe_callTy call_int1 (by rfl) T.z_int (by decide +kernel) (pa_cons (pv 3) pa_nil)) (pv 1))))) pss_nil)
      (pss_one (ps_set (i := 2) c_law_draw.nd rfl (.inl rfl) (pe_op op_add (pv 2) (pe_op op_mod (pe_callTy call_int1 (by rfl) T.z_int (by decide +kernel) (pa_cons (pv 3) pa_nil)) pe_int)))))) pss_nil)
    (pss_cons (ps_set (i := 2) c_law_draw.nd rfl (.inl rfl) (pe_op op_mod (pe_callTy call_int1 (by rfl) T.z_int (by decide +kernel) (pa_cons (pe_op op_add (pe_op op_mul (pv 2) pe_int) pe_int) pa_nil)) pe_int))
    (pss_cons (ps_set (i := 2) c_law_draw.nd rfl (.inl rfl) (pe_op op_mod (pe_callTy call_int1 (by rfl) T.z_int (by decide +kernel) (pa_cons (pe_op op_add (pe_op op_add (pe_op op_mul (pv 2) (pv 2)) (pe_op op_mul pe_int (pe_dget hu (pv 0) pe_str (fun _ _ => rfl)))) pe_int) pa_nil)) pe_int))
    (pss_cons (ps_set (i := 2) c_law_draw.nd rfl (.inl rfl) (pe_op op_mod (pe_callTy call_int1 (by rfl) T.z_int (by decide +kernel) (pa_cons (pe_op op_mul (pv 2) pe_int) pa_nil)) pe_int))
    (pss_one (ps_ret (pe_op op_mod (pe_callTy call_int1 (by rfl) T.z_int (by decide +kernel) (pa_cons (pe_op op_fdivN (pv 2) pe_int) pa_nil)) (pv 1))))))))), ?_⟩
  obtain ⟨m, n, ns, h1, h2, h3⟩ := D
  have hdl : d ≠ l := fun z => by rw [z, h2] at h1; cases h1
  refine ⟨_, rfl, d, .int n, rfl, get_draws h1, _, _, rfl, rfl, _, rfl, d, _, rfl, put_draws _ h1, ?_⟩
  have g1 : upd H d (.dK (dkv l m (n + 1))) d = some (.dK (dkv l m (n + 1))) := upd_same
  have g2 : upd H d (.dK (dkv l m (n + 1))) l = some (.lst (ns.map V.int)) := by rw [upd_ne (Ne.symm hdl)]; exact h2
  have f1 : Fr d l H (upd H d (.dK (dkv l m (n + 1)))) := Fr.updd _
  generalize upd H d (.dK (dkv l m (n + 1))) = H1 at g1 g2 f1
  refine ⟨_, rfl, d, _, rfl, get_mixed g1, _, rfl, d, _, rfl, get_draws g1, _, _, rfl, rfl, .inl ⟨by decide, by decide⟩, _, _, rfl, rfl, ?_⟩
  refine ⟨fun σ H' => ∃ fig c, σ = [some (.ref d), some (.int many), some (.int fig), c] ∧ Fr d l H H' ∧ Deck H' d l, ?_, ?_⟩
  · refine ⟨_, rfl, d, _, rfl, get_left g1, by show 0 ≤ sizeLine; decide, fun p hp => ?_⟩
    have s2 := same_new hp (.lst [])
    have nlp : l ≠ p := ne_of_none g2 hp
    have g1' := s2 _ _ g1
    have g2' := s2 _ _ g2
    have f2 := f1.trans (Fr.of s2)
    refine ⟨l, p, _, rfl, rfl, ne_list _ g2' upd_same, _, rfl, ?_⟩
    generalize upd H1 p (.lst []) = H2 at s2 g1' g2' f2
    rcases List.eq_nil_or_concat ns with e | ⟨L, z, e⟩
    · subst e
      exact iteF ⟨_, _, rfl, f2, m, n + 1, [], g1', g2', by decide⟩
    rw [List.concat_eq_append] at e
    subst e
    have el : (!decide (((L ++ [z]).map V.int).length = 0)) = true := by simp
    have edl : ((L ++ [z]).map V.int).dropLast = L.map V.int := by simp
    refine ifT el ⟨_, rfl, d, _, rfl, get_left g1', .inl ⟨rfl, _, SqL.of g2'⟩, l, _, .int z, rfl, rfl, g2', by simp, ?_⟩
    rw [edl]
    have g3 : upd H2 l (.lst (L.map V.int)) d = some (.dK (dkv l m (n + 1))) := by rw [upd_ne hdl]; exact g1'
    have g4 : upd H2 l (.lst (L.map V.int)) l = some (.lst (L.map V.int)) := upd_same
    have f3 : Fr d l H (upd H2 l (.lst (L.map V.int))) := f2.trans (Fr.updl _)
    have hL : L.length ≤ 100 := by rw [List.length_append] at h3; omega
    generalize upd H2 l (.lst (L.map V.int)) = H3 at g3 g4 f3
    refine ⟨_, rfl, _, _, rfl, rfl, ⟨by decide, by decide, by decide⟩, _, _, rfl, rfl, _, rfl, ?_⟩
    refine ite2 (fun _ => ?_) (fun _ => ?_)
    · refine ⟨_, rfl, d, _, rfl, get_left g3, .inl ⟨rfl, _, SqL.of g4⟩, _, rfl, _, rfl, _, _, rfl, _, _, rfl, rfl, ?_, l, _, _, rfl, rfl, g4, ?_, _, rfl, .inl ⟨_, rfl, _, rfl, _, _, rfl, rfl, ?_, q _ _ ?_ ?_ (f3.trans (Fr.updl _)) ?_⟩⟩
      · split
        · exact ⟨by omega, by omega⟩
        · exact ⟨by decide, by decide⟩
      · rw [List.length_map]; exact Nat.lt_of_le_of_lt hL (by decide)
      · show (0 : Int) < many; omega
      · exact Int.emod_nonneg _ (by omega)
      · exact Int.emod_lt_of_pos _ (by omega)
      · refine ⟨m, n + 1, L ++ [z.fdiv (if many > 2 then many else 2)], ?_, ?_, ?_⟩
        · rw [upd_ne hdl]; exact g3
        · rw [upd_same, List.map_append]; rfl
        · rw [List.length_append, List.length_singleton]
          rw [List.length_append, List.length_singleton] at h3
          exact h3
    · exact ⟨_, rfl, _, rfl, .inl ⟨_, rfl, _, _, rfl, rfl, (by show (0 : Int) < 2147483629; decide), _, _, rfl, rfl, _, _, rfl, f3, m, n + 1, L, g3, g4, hL⟩⟩
  rintro σ H' ⟨fig, c, rfl, f2, m', n', ns', k1, k2, k3⟩
  refine ⟨_, rfl, _, _, rfl, rfl, .inr ⟨by decide, by decide⟩, _, _, rfl, rfl, .inl ⟨_, rfl, _, _, rfl, rfl, (by show (0 : Int) < 2147483563; decide), ?_⟩⟩
  have b1 : 0 ≤ (fig * 40014 + 71) % 2147483563 := Int.emod_nonneg _ (by decide)
  have b2 : (fig * 40014 + 71) % 2147483563 < 2147483563 := Int.emod_lt_of_pos _ (by decide)
  generalize (fig * 40014 + 71) % 2147483563 = fg at b1 b2
  refine ⟨_, rfl, _, rfl, _, _, rfl, rfl, .inl ⟨by omega, by omega⟩, _, rfl, d, _, rfl, get_draws k1, _, _, rfl, rfl, .inl ⟨by decide, by decide⟩, _, _, rfl, rfl, _, _, rfl, rfl, .inl ⟨_, rfl, _, _, rfl, rfl, (by show (0 : Int) < 2147483399; decide), ?_⟩⟩
  refine ⟨_, rfl, _, _, rfl, rfl, .inr ⟨by decide, by decide⟩, .inl ⟨_, rfl, _, _, rfl, rfl, (by show (0 : Int) < 2147483647; decide), ?_⟩⟩
  refine ⟨_, rfl, _, _, rfl, rfl, ⟨by decide, by decide⟩, .inl ⟨_, rfl, _, rfl, _, _, rfl, rfl, (by show (0 : Int) < many; omega), q _ _ (Int.emod_nonneg _ (by omega)) (Int.emod_lt_of_pos _ (by omega)) f2 ⟨m', n', ns', k1, k2, k3⟩⟩⟩
/-! ### _law_pick -/
def spPick : Sp := fun vs H Q _ => ∃ d l x, vs = [.ref d, x] ∧ Deck H d l ∧ ((∃ a xs, x = .ref a ∧ a ≠ l ∧ H a = some (.lst xs) ∧ 1 ≤ xs.length ∧ xs.length ≤ 1000 ∧ ∀ v ∈ xs, ∀ H', Fr d l H H' → Deck H' d l → Q v H') ∨
  ∃ z : Str, x = .str z ∧ 1 ≤ z.length ∧ z.length ≤ 1000 ∧ ∀ c, ∀ H', Fr d l H H' → Deck H' d l → Q (.str ⟨#[c]⟩) H')
theorem ok_pick (T : Facts K mg) : FnOk P w K mg base CX0 2 T.f_law_pick T.d_law_pick ["deck", "some"] spPick := by
  refine T.F_law_pick.ok c_law_pick (fun vs H Q E h => ?_) (fun cdv A outer s H vs Q E hr h => ?_)
  · obtain ⟨d, l, m, rfl, _⟩ := h
    rfl
  obtain ⟨d, l, x, rfl, D, h⟩ := h
  refine ⟨_, pss_one (ps_ret (pe_ix ix_seq (pv 1) (pe_call (ok_draw T) hr (by rfl) T.m_law_draw T.F_law_draw.kp T.b_law_draw .nil pass0 (pa_cons (pv 0) (pa_cons (pe_callB call_len (by rfl) T.z_len (by decide +kernel) (pa_cons (pv 1) pa_nil)) pa_nil))) (fun _ _ => rfl))), ?_⟩
  rcases h with ⟨a, xs, rfl, nal, ha, h1, h2, q⟩ | ⟨z, rfl, h1, h2, q⟩
  · have nad : a ≠ d := fun z => by
      obtain ⟨m, n, ns, e1, _⟩ := D
      rw [z, e1] at ha
      cases ha
    refine ⟨_, rfl, _, rfl, _, rfl, _, xs.length, rfl, .inl ⟨xs, SqL.of ha, rfl⟩, d, l, _, rfl, D, by omega, by omega, fun r H' r0 r1 f D' => .inl ?_⟩
    obtain ⟨k, rfl⟩ : ∃ k : Nat, r = (k : Int) := ⟨r.toNat, by omega⟩
    have hk : k < xs.length := by omega
    exact ⟨a, xs, _, xs[k], rfl, rfl, SqL.of (f _ _ nad nal ha), atI_nat (List.getElem?_eq_getElem hk), q _ (List.getElem_mem hk) H' f D'⟩
  · refine ⟨_, rfl, _, rfl, _, rfl, _, z.length, rfl, ⟨small (by omega), rfl⟩, d, l, _, rfl, D, by omega, by omega, fun r H' r0 r1 f D' => .inr (.inr ?_)⟩
    obtain ⟨k, rfl⟩ : ∃ k : Nat, r = (k : Int) := ⟨r.toNat, by omega⟩
    have e := TL.len_tl z
    have hk : k < z.cps.toList.length := by have : z.cps.toList.length = z.length := e.symm; omega
    exact ⟨z, _, z.cps.toList[k], rfl, rfl, small (by omega), atI_nat (List.getElem?_eq_getElem hk), q _ H' f D'⟩
end
end K8

set_option Elab.async false
set_option linter.all false
set_option maxRecDepth 100000
set_option maxHeartbeats 4000000
namespace K8
open PySem PySem.Spec PyProof.Rows L2 Pk Mt
theorem cut_ints (ns : List Int) (lo hi : Option Int) : ∃ ms : List Int, cutV (ns.map V.int) lo hi = ms.map V.int ∧ ms.length ≤ ns.length := by
  refine ⟨(ns.drop (HT.sIx (ns.map V.int).length 0 lo)).take (HT.sIx (ns.map V.int).length (ns.map V.int).length hi - HT.sIx (ns.map V.int).length 0 lo), ?_, ?_⟩
  · unfold cutV
    rw [List.map_take, List.map_drop]
  · rw [List.length_take, List.length_drop]; omega
theorem Deck.off {H : Hp} {d l b : Addr} {o : HO} (D : Deck H d l) (h1 : b ≠ d) (h2 : b ≠ l) : Deck (upd H b o) d l := by
  obtain ⟨m, n, ns, e1, e2, e3⟩ := D
  exact ⟨m, n, ns, by rw [upd_ne (Ne.symm h1)]; exact e1, by rw [upd_ne (Ne.symm h2)]; exact e2, e3⟩
theorem Deck.new {H : Hp} {d l b : Addr} (D : Deck H d l) (h : H b = none) : b ≠ d ∧ b ≠ l := by
  obtain ⟨m, n, ns, e1, e2, e3⟩ := D
  exact ⟨fun z => (by rw [z, e1] at h; cases h), fun z => (by rw [z, e2] at h; cases h)⟩
mutual
/-- no sign beyond 1000 in its texts -/
def low : PyData → Bool
  | .str x => (TL.tl x).all (· < 1000)
  | .list ds => lowA ds
  | .tuple ds => lowA ds
  | .dict kvs => kvs.isEmpty
  | _ => true
def lowA : List PyData → Bool
  | [] => true
  | d :: ds => low d && lowA ds
end
theorem lowA_app : ∀ a b : List PyData, lowA (a ++ b) = (lowA a && lowA b)
  | [], b => by simp [lowA]
  | d :: a, b => by rw [List.cons_append, lowA, lowA, lowA_app a b, Bool.and_assoc]
/-- a paper of weight at most B and depth at most n -/
structure Pap (B n : Nat) (e : PyData) : Prop where
  l : low e = true
  p : isP e = true
  i : okI e = true
  w : tw e ≤ B
  d : e.depth ≤ n
theorem Pap.mono {B n B' n' : Nat} {e : PyData} (h : Pap B n e) (h1 : B ≤ B') (h2 : n ≤ n') : Pap B' n' e := ⟨h.l, h.p, h.i, Nat.le_trans h.w h1, Nat.le_trans h.d h2⟩
theorem pap_int {n : Int} (h : n.natAbs < 10 ^ 40) : Pap 50 0 (.int n) := by
  refine ⟨by simp [low], by simp [isP], by simp [okI, h], ?_, by simp [PyData.depth]⟩
  have := TL.numL_len (n := n.natAbs) (k := 40) (by decide) h
  simp only [tw]
  unfold intL
  split
  · rw [List.length_cons]; omega
  · omega
theorem pap_str {x : Str} (h : Mt.plain (TL.tl x) = true) (hl : x.length ≤ 48) (hw : (TL.tl x).all (· < 1000) = true) : Pap 50 0 (.str x) := by
  have := TL.len_tl x
  exact ⟨by rw [low]; exact hw, by simp [isP, h], by simp [okI], by simp only [tw]; omega, by simp [PyData.depth]⟩
theorem pap_none : Pap 50 0 .none := ⟨by simp [low], by simp [isP], by simp [okI], by simp [tw], by simp [PyData.depth]⟩
section
variable {P : Program} {w : World} {K : PySem.W.Frag} {mg : Str → Option Value} {base : Heap}
/-! ### _law_deck -/
def spDeck (K : PySem.W.Frag) : Sp := fun vs H Q _ => ∃ (a : Addr) (ns : List Int), vs = [.ref a] ∧ SqL K H a (ns.map V.int) ∧ ns.length ≤ 63 ∧ ∀ d l H', Same H H' → Deck H' d l → H l = none → Q (.ref d) H'
theorem ok_deck (T : Facts K mg) : FnOk P w K mg base CX0 1 T.f_law_deck T.d_law_deck ["script"] (spDeck K) := by
  refine T.F_law_deck.ok c_law_deck (fun vs H Q E h => ?_) (fun cdv A outer s H vs Q E hr h => ?_)
  · obtain ⟨a, ns, rfl, _⟩ := h
    rfl
  obtain ⟨a, ns, rfl, hS, hl, q⟩ := h
  refine ⟨_, pss_cons (ps_set (i := 1) c_law_deck.nd rfl (.inl rfl) pe_int)
    (pss_cons (ps_for PassesOwn.never rfl (pi_list (pe_slice sl_list (pv 0) po_none (po_some pe_int))) (pg_name (i := 2) c_law_deck.nd rfl (Or.inl rfl))
      (pss_one (ps_set (i := 1) c_law_deck.nd rfl (.inl rfl) (pe_op op_mod (pe_callTy call_int1 (by rfl) T.z_int (by decide +kernel) (pa_cons (pe_op op_add (pe_op op_add (pe_op op_mul (pv 1) pe_int) (pe_op op_mod (pe_callTy call_int1 (by rfl) T.z_int (by decide +kernel) (pa_cons (pv 2) pa_nil)) pe_int)) pe_int) pa_nil)) pe_int))))
    (pss_one (ps_ret (pe_disp (pps_cons pe_str (pe_revL (pe_lc (own := [("cell", 2)]) (g := gName 2) (tt := tYes) rfl c_law_deck.nd (pi_list (pe_slice sl_list (pv 0) po_none (po_some pe_int))) (blkOk_by (own := [("cell", 2)]) (N := ["script", "mixed", "cell"]) (sc := defScope s_law_deck) (by decide +kernel))
        (fun _ _ _ _ _ => pg_name (i := 2) c_law_deck.nd rfl (Or.inl rfl)) (fun _ _ _ _ _ => pts_nil) (fun _ _ _ _ _ => pe_callTy call_int1 (by rfl) T.z_int (by decide +kernel) (pa_cons (pv 2) pa_nil))))
      (pps_cons pe_str (pv 1) (pps_cons pe_str pe_int pps_nil))) (by rfl) (by rfl) (fun z => by cases z) (by decide))))), ?_⟩
  obtain ⟨ms, hms, hml⟩ := cut_ints ns none (some 63)
  refine ⟨_, rfl, _, rfl, a, _, rfl, hS, fun p hp => ⟨p, rfl, ⟨_, SqL.of upd_same⟩, ?_⟩⟩
  have sm := same_new hp (.lst (cutV (ns.map V.int) none (some 63)))
  have hpl : upd H p (.lst (cutV (ns.map V.int) none (some 63))) p = some (.lst (ms.map V.int)) := by rw [upd_same, hms]
  generalize upd H p (.lst (cutV (ns.map V.int) none (some 63))) = H1 at sm hpl
  refine for_list (K := K) (a := p) (xs := ms.map V.int) (fun i σ H' => H1 = H' ∧ ∃ z c, σ = [some (.ref a), some (.int z), c]) ⟨rfl, _, none, rfl⟩ (fun i σ H' _ h => ?_) (fun i x σ H' hx h => ?_) (fun σ H' h => ?_)
  · rw [← h.1]; exact SqL.of hpl
  · obtain ⟨rfl, z, c, rfl⟩ := h
    obtain ⟨n, _, rfl⟩ : ∃ n ∈ ms, x = .int n := by
      have := List.mem_of_getElem? hx
      obtain ⟨n, h1, h2⟩ := List.mem_map.mp this
      exact ⟨n, h1, h2.symm⟩
    exact ⟨_, rfl, _, _, rfl, rfl, .inr ⟨by decide, by decide⟩, _, rfl, .inl ⟨_, rfl, _, _, rfl, rfl, (by show (0 : Int) < 2147483629; decide), _, _, rfl, rfl, _, _, rfl, rfl, .inl ⟨_, rfl, _, _, rfl, rfl, (by show (0 : Int) < 2147483587; decide), rfl, _, _, rfl⟩⟩⟩
  · obtain ⟨rfl, z, c, rfl⟩ := h
    refine fun d hd => ⟨_, rfl, _, rfl, a, _, rfl, (sm.trans (same_new hd _)).seq hS, fun p2 hp2 => ⟨p2, rfl, ⟨_, SqL.of upd_same⟩, fun D hD => ?_⟩⟩
    rw [hms] at hD ⊢
    generalize eB : upd (upd H1 d (.dK [])) p2 (.lst (ms.map V.int)) = B at hD
    have hBp : B p2 = some (.lst (ms.map V.int)) := by rw [← eB, upd_same]
    refine lc_list (K := K) (a := p2) (xs := ms.map V.int) (fun i H' => H' = upd B D (.lst ((ms.take i).map V.int))) (by simp) (fun i H' _ h => ?_) (fun i x H' hx h => ?_) (fun H' h => ?_)
    · rw [h]; exact SqL.of (by rw [upd_ne (ne_of_none hBp hD)]; exact hBp)
    · subst h
      obtain ⟨n, hn, rfl⟩ : ∃ n, ms[i]? = some n ∧ x = .int n := by
        rw [List.getElem?_map] at hx
        cases e : ms[i]? with
        | none => rw [e] at hx; cases hx
        | some y => rw [e] at hx; exact ⟨y, rfl, by injection hx with hx; exact hx.symm⟩
      refine ⟨rfl, _, rfl, .inl ⟨_, rfl, _, upd_same, ?_, ?_⟩⟩
      · rw [List.length_map, List.length_take]
        exact Nat.lt_of_le_of_lt (show min i ms.length ≤ 63 by omega) (by decide)
      · have e3 : ms.take (i + 1) = ms.take i ++ [n] := by rw [List.take_succ, hn]; rfl
        rw [Pk.upd_upd, e3, List.map_append]
        rfl
    · rw [h, List.length_map, List.take_length]
      refine ⟨D, _, rfl, SqL.of upd_same, fun l hl => ⟨_, rfl, ?_⟩⟩
      have hl' : l ≠ D := fun z => by rw [z, upd_same] at hl; cases hl
      have hl2 : B l = none := by rw [upd_ne hl'] at hl; exact hl
      have nlp : l ≠ p2 := fun z => by rw [z, hBp] at hl2; cases hl2
      have hl3 : upd H1 d (.dK []) l = none := by rw [← eB, upd_ne nlp] at hl2; exact hl2
      have nld : l ≠ d := fun z => by rw [z, upd_same] at hl3; cases hl3
      have hl4 : H1 l = none := by rw [upd_ne nld] at hl3; exact hl3
      have hp2' : upd H1 d (.dK []) p2 = none := hp2
      have ndp : d ≠ p2 := fun z => by rw [← z, upd_same] at hp2'; cases hp2'
      have hBd : B d = some (.dK []) := by rw [← eB, upd_ne ndp, upd_same]
      have ndD : d ≠ D := fun z => by rw [← z, hBd] at hD; cases hD
      have e2 : upd (upd B D (.lst (ms.map V.int))) l (.lst (ms.map V.int).reverse) d = some (.dK []) := by rw [upd_ne (Ne.symm nld), upd_ne ndD]; exact hBd
      refine ⟨e2, [(Sum.inr "left", .ref l), (Sum.inr "mixed", .int z), (Sum.inr "draws", .int 0)], rfl, (by show 3 ≤ 15; decide), ?_⟩
      have em : mergeK [] [((Sum.inr "left" : Key), V.ref l), (Sum.inr "mixed", .int z), (Sum.inr "draws", .int 0)] = dkv l z 0 := by
        simp [mergeK, putK, dkv, ne_lm, ne_ld, ne_md]
      rw [em]
      refine q d l _ ?_ ⟨z, 0, ms.reverse, upd_same, ?_, by rw [List.length_reverse]; omega⟩ (sm.free hl4)
      · intro b o hb
        have h1 := sm b o hb
        have nd : b ≠ d := ne_of_none h1 hd
        have h2 : upd H1 d (.dK []) b = some o := by rw [upd_ne nd]; exact h1
        have h3 : B b = some o := by rw [← eB, upd_ne (ne_of_none h2 hp2')]; exact h2
        rw [upd_ne nd, upd_ne (fun e => by rw [e, hl2] at h3; cases h3), upd_ne (ne_of_none h3 hD)]
        exact h3
      · rw [upd_ne nld, upd_same, List.map_reverse]
/-! ### _law_leaf -/
def spLeaf : Sp := fun vs H Q _ => ∃ d l, vs = [.ref d] ∧ Deck H d l ∧ ∀ v e H', Pap 50 0 e → Rp H' v e → Fr d l H H' → Deck H' d l → Q v H'
theorem leaf_strs : ∀ s ∈ ([Str.ofString "", Str.ofString "a", Str.ofString "once", Str.ofString "'", Str.ofString "none", Str.ofString "-", Str.ofString "0", Str.ofString "12", Str.ofString "x'y", Str.ofString ",", Str.ofString "a.b", Str.ofString "~", Str.ofString "wrong", Str.ofString "twice", Str.ofString ">", Str.ofString "zzzzzzzz", Str.ofString "n0ne", Str.ofString "''"] : List Str), Mt.plain (TL.tl s) = true ∧ s.length ≤ 48 ∧ (TL.tl s).all (· < 1000) = true := by decide +kernel
theorem leaf_ints (r : Int) (h0 : 0 ≤ r) (h1 : r < 1000) : ∀ n ∈ ([0, 1, -1, 7, 10, -12, 10 ^ 39, -(10 ^ 39), 10 ^ 40 - 1, 123456789, r - 500] : List Int), n.natAbs < 10 ^ 40 := by
  intro n hn
  simp only [List.mem_cons, List.not_mem_nil, or_false] at hn
  rcases hn with rfl | rfl | rfl | rfl | rfl | rfl | rfl | rfl | rfl | rfl | rfl
  all_goals first | decide +kernel | omega
theorem ok_leaf (T : Facts K mg) : FnOk P w K mg base CX0 3 T.f_law_leaf T.d_law_leaf ["deck"] spLeaf := by
  refine T.F_law_leaf.ok c_law_leaf (fun vs H Q E h => ?_) (fun cdv A outer s H vs Q E hr h => ?_)
  · obtain ⟨a, ns, rfl, _⟩ := h
    rfl
  obtain ⟨d, l, rfl, D, q⟩ := h
  refine ⟨_, pss_cons (ps_set (i := 1) c_law_leaf.nd rfl (.inl rfl) (pe_call (ok_draw T) (hr.mono (by decide)) (by rfl) T.m_law_draw T.F_law_draw.kp T.b_law_draw .nil pass0 (pa_cons (pv 0) (pa_cons pe_int pa_nil))))
    (pss_cons (ps_if (pt_cmpR op_lt (pv 1) pe_int (nomark _)) (pss_one (ps_ret (pe_call (ok_pick T) hr (by rfl) T.m_law_pick T.F_law_pick.kp T.b_law_pick .nil pass0 (pa_cons (pv 0) (pa_cons
        (pe_lst (pa_cons pe_str (pa_cons pe_str (pa_cons pe_str (pa_cons pe_str (pa_cons pe_str (pa_cons pe_str (pa_cons pe_str (pa_cons pe_str (pa_cons pe_str (pa_cons pe_str (pa_cons pe_str (pa_cons pe_str (pa_cons pe_str (pa_cons pe_str (pa_cons pe_str (pa_cons pe_str (pa_cons pe_str (pa_cons pe_str pa_nil))))))))))))))))))) pa_nil))))) pss_nil)
    (pss_cons (ps_if (pt_cmpR op_lt (pv 1) pe_int (nomark _)) (pss_one (ps_ret (pe_call (ok_pick T) hr (by rfl) T.m_law_pick T.F_law_pick.kp T.b_law_pick .nil pass0 (pa_cons (pv 0) (pa_cons
        (pe_lst (pa_cons pe_int (pa_cons pe_int (pa_cons (pe_un un_neg pe_int) (pa_cons pe_int (pa_cons pe_int (pa_cons (pe_un un_neg pe_int) (pa_cons (pe_op op_pow pe_int pe_int) (pa_cons (pe_un un_neg (pe_op op_pow pe_int pe_int)) (pa_cons (pe_op op_sub (pe_op op_pow pe_int pe_int) pe_int) (pa_cons pe_int
          (pa_cons (pe_op op_sub (pe_call (ok_draw T) (hr.mono (by decide)) (by rfl) T.m_law_draw T.F_law_draw.kp T.b_law_draw .nil pass0 (pa_cons (pv 0) (pa_cons pe_int pa_nil))) pe_int) pa_nil)))))))))))) pa_nil))))) pss_nil)
    (pss_one (ps_ret pe_non)))), ?_⟩
  refine ⟨_, rfl, d, l, 8, rfl, D, by decide, by decide, fun r H1 r0 r1 f1 D1 => ⟨_, rfl, _, _, rfl, rfl, _, rfl, ite2 (fun _ => ?_) (fun _ => ⟨_, rfl, _, _, rfl, rfl, _, rfl, ite2 (fun _ => ?_) (fun _ => ?_)⟩)⟩⟩
  · refine ⟨_, rfl, by show 18 ≤ sizeLine; decide, fun a ha => ⟨d, l, _, rfl, D1.same (same_new ha _), .inl ⟨a, _, rfl, (D1.new ha).2, upd_same, by decide, by decide, fun v hv H' f D' => ?_⟩⟩⟩
    obtain ⟨s, hs, rfl⟩ : ∃ s ∈ ([Str.ofString "", Str.ofString "a", Str.ofString "once", Str.ofString "'", Str.ofString "none", Str.ofString "-", Str.ofString "0", Str.ofString "12", Str.ofString "x'y", Str.ofString ",", Str.ofString "a.b", Str.ofString "~", Str.ofString "wrong", Str.ofString "twice", Str.ofString ">", Str.ofString "zzzzzzzz", Str.ofString "n0ne", Str.ofString "''"] : List Str), V.str s = v := by
      have : v ∈ ([Str.ofString "", Str.ofString "a", Str.ofString "once", Str.ofString "'", Str.ofString "none", Str.ofString "-", Str.ofString "0", Str.ofString "12", Str.ofString "x'y", Str.ofString ",", Str.ofString "a.b", Str.ofString "~", Str.ofString "wrong", Str.ofString "twice", Str.ofString ">", Str.ofString "zzzzzzzz", Str.ofString "n0ne", Str.ofString "''"] : List Str).map V.str := hv
      obtain ⟨s, h1, h2⟩ := List.mem_map.mp this
      exact ⟨s, h1, h2⟩
    obtain ⟨z1, z2, z3⟩ := leaf_strs s hs
    exact q _ _ _ (pap_str z1 z2 z3) (.str s) ((f1.trans (Fr.of (same_new ha _))).trans f) D'
  · refine ⟨_, rfl, _, rfl, _, rfl, _, _, rfl, rfl, ⟨by decide, by decide, by decide⟩, _, _, rfl, rfl, ⟨by decide, by decide, by decide⟩, _, rfl, _, _, rfl, rfl, ⟨by decide, by decide, by decide⟩, _, _, rfl, rfl, _, rfl, d, l, 1000, rfl, D1, by decide, by decide, fun r2 H2 r20 r21 f2 D2 => ⟨_, _, rfl, rfl, by show 11 ≤ sizeLine; decide, fun a ha => ⟨d, l, _, rfl, D2.same (same_new ha _), .inl ⟨a, _, rfl, (D2.new ha).2, upd_same, (by show 1 ≤ 11; decide), (by show 11 ≤ 1000; decide), fun v hv H' f D' => ?_⟩⟩⟩⟩
    obtain ⟨n, hn, rfl⟩ : ∃ n ∈ ([0, 1, -1, 7, 10, -12, 10 ^ 39, -(10 ^ 39), 10 ^ 40 - 1, 123456789, r2 - 500] : List Int), V.int n = v := by
      have : v ∈ ([0, 1, -1, 7, 10, -12, 10 ^ 39, -(10 ^ 39), 10 ^ 40 - 1, 123456789, r2 - 500] : List Int).map V.int := hv
      obtain ⟨s, h1, h2⟩ := List.mem_map.mp this
      exact ⟨s, h1, h2⟩
    exact q _ _ _ (pap_int (leaf_ints r2 r20 r21 n hn)) (.int n) (((f1.trans f2).trans (Fr.of (same_new ha _))).trans f) D'
  · exact q _ _ _ pap_none .non f1 D1
/-! ### _law_paper -/
def wB : Nat → Nat
  | 0 => 50
  | n + 1 => 4 + 4 * wB n
def spPaper (n : Nat) : Sp := fun vs H Q _ => ∃ (d l : Addr) (k : Nat), vs = [.ref d, .int (k : Int)] ∧ k < n ∧ Deck H d l ∧ ∀ v e H', Pap (wB k) k e → Rp H' v e → Fr d l H H' → Deck H' d l → Q v H'
theorem wB_pos : ∀ k, 50 ≤ wB k
  | 0 => Nat.le_refl _
  | k + 1 => by have := wB_pos k; simp only [wB]; omega
theorem ok_paper (T : Facts K mg) : ∀ n : Nat, FnOk P w K mg base CX0 (3 + n) T.f_law_paper T.d_law_paper ["deck", "deep"] (spPaper n)
  | 0 => by
    have no : ∀ vs H Q E, ¬ spPaper 0 vs H Q E := fun vs H Q E h => by
      obtain ⟨d, l, k, _, h1, _⟩ := h
      omega
    exact ⟨fun vs H Q E h => absurd h (no vs H Q E), fun A outer s H args us vs Q E _ _ _ _ h => absurd h (no vs H Q E)⟩
  | n + 1 => by
    have ih := ok_paper T n
    refine T.F_law_paper.ok c_law_paper (fun vs H Q E h => ?_) (fun cdv A outer s H vs Q E hr h => ?_)
    · obtain ⟨a, ns, k, rfl, _⟩ := h
      rfl
    obtain ⟨d, l, k, rfl, hk, D, q⟩ := h
    refine ⟨_, pss_cons (ps_if (PW.pt (pw_or (pt_cmpR op_eq (pv 1) pe_int (nomark _)) (pw_or1 (pt_cmpR op_eq (pe_call (ok_draw T) (hr.mono (show 1 ≤ 3 + n by omega)) (by rfl) T.m_law_draw T.F_law_draw.kp T.b_law_draw .nil pass0 (pa_cons (pv 0) (pa_cons pe_int pa_nil))) pe_int (nomark _)))))
        (pss_one (ps_ret (pe_call (ok_leaf T) (hr.mono (show 3 ≤ 3 + n by omega)) (by rfl) T.m_law_leaf T.F_law_leaf.kp T.b_law_leaf .nil pass0 (pa_cons (pv 0) pa_nil)))) pss_nil)
      (pss_one (ps_ret (pe_callTy call_tuple_of (by rfl) T.z_tuple (by decide +kernel) (pa_cons (pe_lc (own := [("turn", 2)]) (g := gName 2) (tt := tYes) rfl c_law_paper.nd
          (pi_range1 (by rfl) T.z_range (pa_cons (pe_call (ok_draw T) (hr.mono (show 1 ≤ 3 + n by omega)) (by rfl) T.m_law_draw T.F_law_draw.kp T.b_law_draw .nil pass0 (pa_cons (pv 0) (pa_cons pe_int pa_nil))) pa_nil))
          (blkOk_by (own := [("turn", 2)]) (N := ["deck", "deep", "turn"]) (sc := defScope s_law_paper) (by decide +kernel))
          (fun _ _ _ _ _ => pg_name (i := 2) c_law_paper.nd rfl (Or.inl rfl)) (fun _ _ _ _ _ => pts_nil)
          (fun _ _ _ _ _ => pe_call ih hr (by rfl) T.m_law_paper T.F_law_paper.kp T.b_law_paper .nil pass0 (pa_cons (pv 0) (pa_cons (pe_op op_sub (pv 1) pe_int) pa_nil)))) pa_nil)))), ?_⟩
    have leaf : ∀ H1, Fr d l H H1 → Deck H1 d l → spLeaf [.ref d] H1 Q E0 := fun H1 f1 D1 => ⟨d, l, rfl, D1, fun v e H' hp hr f2 D2 => q v e H' (hp.mono (wB_pos k) (Nat.zero_le _)) hr (f1.trans f2) D2⟩
    refine ⟨_, rfl, rfl, _, rfl, ?_⟩
    by_cases hk0 : k = 0
    · refine ifT (decide_eq_true (by rw [hk0]; rfl)) (iteT ⟨_, rfl, leaf H (Fr.refl _ _ _) D⟩)
    refine ifF (decide_eq_false (fun e => hk0 (by injection e with e; omega))) ⟨_, rfl, d, l, 4, rfl, D, by decide, by decide, fun r H1 r0 r1 f1 D1 => ⟨rfl, _, rfl, ite2 (fun _ => ⟨_, rfl, leaf H1 f1 D1⟩) (fun _ => ?_)⟩⟩
    refine ⟨_, rfl, d, l, 5, rfl, D1, by decide, by decide, fun r2 H2 r20 r21 f2 D2 => ⟨_, rfl, by omega, by omega, fun L hL => ?_⟩⟩
    obtain ⟨n1, n2⟩ := D2.new hL
    obtain ⟨k', rfl⟩ : ∃ k', k = k' + 1 := ⟨k - 1, by omega⟩
    refine lc_range (lo := 0) (n := r2.toNat) (fun i H' => ∃ vs es, H' L = some (.lst vs) ∧ RpA H' vs es ∧ isPA es = true ∧ okIA es = true ∧ twA es ≤ i * wB k' ∧ PyData.depthAll es ≤ k' ∧ es.length = i ∧ lowA es = true ∧ Fr d l H2 H' ∧ Deck H' d l) ⟨[], [], upd_same, .nil, by simp [isPA], by simp [okIA], by simp [twA], by simp [PyData.depthAll], rfl, by simp [lowA], Fr.of (same_new hL _), D2.off n1 n2⟩ (fun i H' hi h => ?_) (fun H' h => ?_)
    · obtain ⟨vs, es, g1, g2, g3, g4, g5, g6, g7, gl, g8, g9⟩ := h
      refine ⟨rfl, _, rfl, _, rfl, _, _, rfl, rfl, d, l, k', ?_, by omega, g9, fun v e H4 hp hr f4 D4 => ⟨vs, f4 _ _ n1 n2 g1, ?_, vs ++ [v], es ++ [e], upd_same, ?_, ?_, ?_, ?_, ?_, ?_, ?_, ?_, ?_⟩⟩
      · have : ((k' + 1 : Nat) : Int) - 1 = (k' : Int) := by omega
        show [V.ref d, V.int (((k' + 1 : Nat) : Int) - 1)] = _
        rw [this]
      · rw [g2.length, g7]
        exact Nat.lt_of_le_of_lt (show i ≤ 5 by omega) (by decide)
      · have t4 := f4.tups g9
        have g1' := f4 _ _ n1 n2 g1
        have t5 : Tups H4 (upd H4 L (.lst (vs ++ [v]))) := Tups.upd_lst g1' _
        exact RpA.append ((g2.tups t4 g4).tups t5 g4) (.cons (hr.tups t5 hp.i) .nil)
      · rw [isPA_app, g3]; simp [isPA, hp.p]
      · rw [okIA_app, g4]; simp [okIA, hp.i]
      · rw [twA_app, Nat.succ_mul]
        have := hp.w
        simp only [twA]; omega
      · rw [depthAll_app]
        have := hp.d
        simp only [PyData.depthAll]; omega
      · rw [List.length_append, g7]; rfl
      · rw [lowA_app, gl]; simp [lowA, hp.l]
      · exact fun b o h1 h2 h => by rw [upd_ne (ne_of_none h hL)]; exact (g8.trans f4) b o h1 h2 h
      · exact D4.off n1 n2
    · obtain ⟨vs, es, g1, g2, g3, g4, g5, g6, g7, gl, g8, g9⟩ := h
      refine ⟨L, vs, rfl, .inl ⟨SqL.of g1, fun t ht => ?_⟩⟩
      refine q (.ref t) (.tuple es) _ ⟨by simpa [low] using gl, by simpa [isP] using g3, by simpa [okI] using g4, ?_, ?_⟩ (tup_of (B := H) ht g2) (((f1.trans f2).trans g8).trans (Fr.of (same_new ht _))) (g9.same (same_new ht _))
      · have : r2.toNat ≤ 4 := by omega
        have := Nat.mul_le_mul_right (wB k') this
        simp only [tw, wB]; omega
      · simp only [PyData.depth]; omega
/-! ### _law_deep -/
def spDeep : Sp := fun vs H Q _ => ∃ d l, vs = [.ref d] ∧ Deck H d l ∧ ∀ v e H', Pap 1000 30 e → Rp H' v e → Fr d l H H' → Deck H' d l → Q v H'
theorem ok_deep (T : Facts K mg) : FnOk P w K mg base CX0 4 T.f_law_deep T.d_law_deep ["deck"] spDeep := by
  refine T.F_law_deep.ok c_law_deep (fun vs H Q E h => ?_) (fun cdv A outer s H vs Q E hr h => ?_)
  · obtain ⟨a, ns, rfl, _⟩ := h
    rfl
  obtain ⟨d, l, rfl, D, q⟩ := h
  refine ⟨_, pss_cons (ps_set (i := 1) c_law_deep.nd rfl (.inl rfl) (pe_call (ok_leaf T) hr (by rfl) T.m_law_leaf T.F_law_leaf.kp T.b_law_leaf .nil pass0 (pa_cons (pv 0) pa_nil)))
    (pss_cons (ps_for PassesOwn.never rfl (pi_range1 (by rfl) T.z_range (pa_cons (pe_call (ok_draw T) (hr.mono (by decide)) (by rfl) T.m_law_draw T.F_law_draw.kp T.b_law_draw .nil pass0 (pa_cons (pv 0) (pa_cons pe_int pa_nil))) pa_nil)) (pg_name (i := 2) c_law_deep.nd rfl (Or.inl rfl))
      (pss_one (ps_set (i := 1) c_law_deep.nd rfl (.inl rfl) (pe_call (ok_pick T) (hr.mono (by decide)) (by rfl) T.m_law_pick T.F_law_pick.kp T.b_law_pick .nil pass0 (pa_cons (pv 0) (pa_cons
        (pe_lst (pa_cons (pe_tup (pa_cons (pv 1) pa_nil)) (pa_cons (pe_tup (pa_cons (pv 1) (pa_cons pe_int pa_nil))) (pa_cons (pe_tup (pa_cons (pe_tup pa_nil) (pa_cons (pv 1) pa_nil))) pa_nil)))) pa_nil))))))
    (pss_one (ps_ret (pv 1)))), ?_⟩
  refine ⟨_, rfl, d, l, rfl, D, fun v0 e0 H1 hp0 hr0 f1 D1 => ⟨_, rfl, d, l, 24, rfl, D1, by decide, by decide, fun r H2 r0 r1 f2 D2 => ⟨_, rfl, by omega, by omega, ?_⟩⟩⟩
  refine for_range (lo := 0) (n := r.toNat) (fun i σ H' => ∃ v e t, σ = [some (.ref d), some v, t] ∧ Rp H' v e ∧ Pap (50 + 20 * i) (i + 1) e ∧ Fr d l H H' ∧ Deck H' d l) ⟨v0, e0, none, rfl, hr0.tups (f2.tups D1) hp0.i, hp0.mono (by omega) (by omega), f1.trans f2, D2⟩ (fun i σ H' hi h => ?_) (fun σ H' h => ?_)
  · obtain ⟨v, e, t, rfl, he, hp, f, Dk⟩ := h
    refine ⟨_, rfl, _, rfl, by show 1 ≤ sizeLine; decide, fun t1 h1 => ⟨_, rfl, by show 2 ≤ sizeLine; decide, fun t2 h2 => ⟨by show 0 ≤ sizeLine; decide, fun t3 h3 => ⟨_, rfl, by show 2 ≤ sizeLine; decide, fun t4 h4 => ⟨by show 3 ≤ sizeLine; decide, fun a ha => ?_⟩⟩⟩⟩⟩
    have s1 := same_new h1 (.tup [v])
    have s2 := same_new h2 (.tup [v, .int 1])
    have s3 := same_new h3 (.tup [])
    have s4 := same_new h4 (.tup [.ref t3, v])
    have s5 := same_new ha (.lst [.ref t1, .ref t2, .ref t4])
    have k1 : Rp (upd H' t1 (.tup [v])) (.ref t1) (.tuple [e]) := tup_of (B := H) h1 (.cons he .nil)
    have k2 := tup_of (B := H) h2 (.cons (he.mono s1) (.cons (.int 1) .nil))
    have k3 := tup_of (B := H) h3 .nil
    have k4 := tup_of (B := H) h4 (.cons k3 (.cons (((he.mono s1).mono s2).mono s3) .nil))
    have sAll := (((s1.trans s2).trans s3).trans s4).trans s5
    have w1 : Pap (50 + 20 * (i + 1)) (i + 1 + 1) (.tuple [e]) := ⟨by simp [low, lowA, hp.l], by simp [isP, isPA, hp.p], by simp [okI, okIA, hp.i], by have := hp.w; simp only [tw, twA]; omega, by have := hp.d; simp only [PyData.depth, PyData.depthAll]; omega⟩
    have lone : (intL 1).length = 1 := by decide +kernel
    have w2 : Pap (50 + 20 * (i + 1)) (i + 1 + 1) (.tuple [e, .int 1]) := ⟨by simp [low, lowA, hp.l], by simp [isP, isPA, hp.p], by simp [okI, okIA, hp.i], by have := hp.w; simp only [tw, twA, lone]; omega, by have := hp.d; simp only [PyData.depth, PyData.depthAll]; omega⟩
    have w4 : Pap (50 + 20 * (i + 1)) (i + 1 + 1) (.tuple [.tuple [], e]) := ⟨by simp [low, lowA, hp.l], by simp [isP, isPA, hp.p], by simp [okI, okIA, hp.i], by have := hp.w; simp only [tw, twA]; omega, by have := hp.d; simp only [PyData.depth, PyData.depthAll]; omega⟩
    have m1 := (((k1.mono s2).mono s3).mono s4).mono s5
    have m2 := ((k2.mono s3).mono s4).mono s5
    have m4 := k4.mono s5
    have Da := Dk.same sAll
    have fa := f.trans (Fr.of sAll)
    have nal : a ≠ l := fun z => by
      have := (Dk.same (((s1.trans s2).trans s3).trans s4)).new ha
      exact this.2 z
    refine ⟨d, l, _, rfl, Da, .inl ⟨a, _, rfl, nal, upd_same, (by show 1 ≤ 3; decide), (by show 3 ≤ 1000; decide), fun u hu H5 f5 D5 => ?_⟩⟩
    have tt := f5.tups Da
    have hu : u = .ref t1 ∨ u = .ref t2 ∨ u = .ref t4 := by simpa using hu
    rcases hu with rfl | rfl | rfl
    · exact ⟨_, _, _, rfl, m1.tups tt w1.i, w1, fa.trans f5, D5⟩
    · exact ⟨_, _, _, rfl, m2.tups tt w2.i, w2, fa.trans f5, D5⟩
    · exact ⟨_, _, _, rfl, m4.tups tt w4.i, w4, fa.trans f5, D5⟩
  · obtain ⟨v, e, t, rfl, he, hp, f, Dk⟩ := h
    exact ⟨_, rfl, q v e H' (hp.mono (by omega) (by omega)) he f Dk⟩
end
end K8

set_option Elab.async false
set_option linter.all false
set_option maxRecDepth 100000
set_option maxHeartbeats 8000000
namespace K8
open PySem PySem.Spec PyProof.Rows L2 Pk Mt
theorem RpA.take' {H : Hp} : ∀ (k : Nat) {vs : List V} {ds : List PyData}, RpA H vs ds → RpA H (vs.take k) (ds.take k)
  | 0, _, _, _ => .nil
  | k + 1, _, _, .nil => .nil
  | k + 1, _, _, .cons a b => .cons a (RpA.take' k b)
theorem RpA.drop' {H : Hp} : ∀ (k : Nat) {vs : List V} {ds : List PyData}, RpA H vs ds → RpA H (vs.drop k) (ds.drop k)
  | 0, _, _, h => h
  | k + 1, _, _, .nil => .nil
  | k + 1, _, _, .cons a b => RpA.drop' k b
/-! ### what is laid in a paper's place -/
structure Odd (B n : Nat) (f : PyData) : Prop where
  l : low f = true
  s : f.showable = true
  x : f.hasDict = true → noList f = true
  w : tw f ≤ B
  d : f.depth ≤ n
mutual
theorem pure_P : ∀ f, isP f = true → okI f = true → f.hasDict = false ∧ noList f = true ∧ f.showable = true
  | .none, _, _ => by simp [PyData.hasDict, noList, PyData.showable]
  | .int n, _, h => by
    have := log_ok (n := n) (by simpa [okI] using h)
    exact ⟨by simp [PyData.hasDict], by simp [noList], by simp only [PyData.showable]; exact decide_eq_true this⟩
  | .str _, _, _ => by simp [PyData.hasDict, noList, PyData.showable]
  | .tuple ds, h, h2 => by
    have := pure_A ds (by simpa [isP] using h) (by simpa [okI] using h2)
    simpa [PyData.hasDict, noList, PyData.showable] using this
  | .bool _, h, _ => by simp [isP] at h
  | .list _, h, _ => by simp [isP] at h
  | .dict _, h, _ => by simp [isP] at h
theorem pure_A : ∀ ds, isPA ds = true → okIA ds = true → PyData.hasDictAll ds = false ∧ noListA ds = true ∧ PyData.showableAll ds = true
  | [], _, _ => by simp [PyData.hasDictAll, noListA, PyData.showableAll]
  | d :: ds, h, h2 => by
    have h' : isP d = true ∧ isPA ds = true := by simpa [isPA] using h
    have h2' : okI d = true ∧ okIA ds = true := by simpa [okIA] using h2
    obtain ⟨a1, a2, a3⟩ := pure_P d h'.1 h2'.1
    obtain ⟨b1, b2, b3⟩ := pure_A ds h'.2 h2'.2
    simp [PyData.hasDictAll, noListA, PyData.showableAll, a1, a2, a3, b1, b2, b3]
end
theorem Odd.ofP {B n : Nat} {f : PyData} (h : Pap B n f) : Odd B n f := by
  obtain ⟨a, b, c⟩ := pure_P f h.p h.i
  exact ⟨h.l, c, fun z => (by rw [a] at z; cases z), h.w, h.d⟩
theorem Odd.mono {B n B' n' : Nat} {f : PyData} (h : Odd B n f) (h1 : B ≤ B') (h2 : n ≤ n') : Odd B' n' f := ⟨h.l, h.s, h.x, Nat.le_trans h.w h1, Nat.le_trans h.d h2⟩
theorem hasDictAll_app : ∀ a b : List PyData, PyData.hasDictAll (a ++ b) = (PyData.hasDictAll a || PyData.hasDictAll b)
  | [], b => by simp [PyData.hasDictAll]
  | d :: a, b => by rw [List.cons_append, PyData.hasDictAll, PyData.hasDictAll, hasDictAll_app a b, Bool.or_assoc]
theorem noListA_app : ∀ a b : List PyData, noListA (a ++ b) = (noListA a && noListA b)
  | [], b => by simp [noListA]
  | d :: a, b => by rw [List.cons_append, noListA, noListA, noListA_app a b, Bool.and_assoc]
theorem showableAll_app : ∀ a b : List PyData, PyData.showableAll (a ++ b) = (PyData.showableAll a && PyData.showableAll b)
  | [], b => by simp [PyData.showableAll]
  | d :: a, b => by rw [List.cons_append, PyData.showableAll, PyData.showableAll, showableAll_app a b, Bool.and_assoc]
/-- one of a tuple's places filled anew -/
theorem Odd.put {B n B' n' k : Nat} {es : List PyData} {f : PyData} (hw : Pap B' n' (.tuple es)) (hf : Odd B n f) (hk : k < es.length) : Odd (B + B') (max n' (n + 1)) (.tuple ((es.take k ++ [f]) ++ es.drop (k + 1))) := by
  have e : es = es.take k ++ (es[k] :: es.drop (k + 1)) := by rw [← List.drop_eq_getElem_cons hk, List.take_append_drop]
  obtain ⟨l1, p1, i1, w1, d1⟩ := hw
  obtain ⟨c1, c2, c3⟩ := pure_A es (by simpa [isP] using p1) (by simpa [okI] using i1)
  have l1 : lowA es = true := by simpa [low] using l1
  simp only [tw] at w1
  simp only [PyData.depth] at d1
  rw [e] at l1 c1 c2 c3 w1 d1
  rw [lowA_app] at l1
  rw [hasDictAll_app] at c1
  rw [noListA_app] at c2
  rw [showableAll_app] at c3
  rw [twA_app] at w1
  rw [depthAll_app] at d1
  simp only [lowA, Bool.and_eq_true] at l1
  simp only [PyData.hasDictAll, Bool.or_eq_false_iff] at c1
  simp only [noListA, Bool.and_eq_true] at c2
  simp only [PyData.showableAll, Bool.and_eq_true] at c3
  simp only [twA] at w1
  simp only [PyData.depthAll] at d1
  have fw := hf.w
  have fd := hf.d
  refine ⟨?_, ?_, fun z => ?_, ?_, ?_⟩
  · simp only [low]
    rw [lowA_app, lowA_app]
    simp [lowA, l1.1, l1.2.2, hf.l]
  · simp only [PyData.showable]
    rw [showableAll_app, showableAll_app]
    simp [PyData.showableAll, c3.1, c3.2.2, hf.s]
  · simp only [PyData.hasDict] at z
    rw [hasDictAll_app, hasDictAll_app] at z
    simp only [PyData.hasDictAll, c1.1, c1.2.2, Bool.or_false, Bool.false_or] at z
    have := hf.x z
    simp only [noList]
    rw [noListA_app, noListA_app]
    simp [noListA, c2.1, c2.2.2, this]
  · simp only [tw]
    rw [twA_app, twA_app]
    simp only [twA]
    omega
  · simp only [PyData.depth]
    rw [depthAll_app, depthAll_app]
    simp only [PyData.depthAll]
    omega
theorem cut_to (xs : List V) (k : Nat) : cutV xs none (some (k : Int)) = xs.take k := by
  unfold cutV
  rw [HT.sIx_none, HT.sIx_nat, List.drop_zero, Nat.sub_zero]
  by_cases h : k ≤ xs.length
  · rw [Nat.min_eq_left h]
  · rw [Nat.min_eq_right (by omega), List.take_of_length_le (Nat.le_refl _), List.take_of_length_le (by omega)]
theorem cut_from (xs : List V) (k : Nat) : cutV xs (some (k : Int)) none = xs.drop k := by
  unfold cutV
  rw [HT.sIx_none, HT.sIx_nat]
  by_cases h : k ≤ xs.length
  · rw [Nat.min_eq_left h, List.take_of_length_le (by rw [List.length_drop]; omega)]
  · rw [Nat.min_eq_right (by omega), List.drop_of_length_le (Nat.le_refl _), List.drop_of_length_le (by omega)]
    simp
theorem cat_of {K : PySem.W.Frag} {H : Hp} {a b : Addr} {xs ys : List V} {Q : VK} (ha : H a = some (.tup xs)) (hb : H b = some (.tup ys)) (hz : xs.length + ys.length ≤ sizeLine) (q : ∀ r H', Same H H' → H' r = some (.tup (xs ++ ys)) → Q (.ref r) H') : rCatA K (.ref a) (.ref b) H Q :=
  ⟨a, b, xs, ys, rfl, rfl, SqT.of ha, SqT.of hb, hz, fun e => q b H (Same.refl _) (by rw [e]; exact hb), fun _ e => q a H (Same.refl _) (by rw [e, List.append_nil]; exact ha), fun _ _ p hp => q p _ (same_new hp _) upd_same⟩
theorem slice_of {K : PySem.W.Frag} {H : Hp} {a : Addr} {xs : List V} {lo hi : Option Int} {Q : VK} (ha : H a = some (.tup xs)) (hn : ¬ (HT.sIx xs.length 0 lo = 0 ∧ HT.sIx xs.length xs.length hi = xs.length)) (q : ∀ r, H r = none → Q (.ref r) (upd H r (.tup (cutV xs lo hi)))) : rSlA K (.ref a) lo hi H Q :=
  ⟨a, xs, rfl, SqT.of ha, fun z => absurd z hn, fun _ p hp => q p hp⟩
/-- a row: a paper that is a tuple, and one of its places -/
def RowOk (H : Hp) (v : V) : Prop := ∃ (t wa : Addr) (k : Nat) (xs : List V) (es : List PyData), v = .ref t ∧ H t = some (.tup [.ref wa, .int (k : Int)]) ∧ H wa = some (.tup xs) ∧ RpA H xs es ∧ Pap 13140 30 (.tuple es) ∧ k < xs.length
theorem RowOk.tups {H H' : Hp} {v : V} (t : Tups H H') (h : RowOk H v) : RowOk H' v := by
  obtain ⟨a, wa, k, xs, es, e, h1, h2, h3, h4, h5⟩ := h
  exact ⟨a, wa, k, xs, es, e, t _ _ h1, t _ _ h2, h3.tups t (by simpa [okI] using h4.i), h4, h5⟩
theorem pap_sub {es : List PyData} {e : PyData} {B n i : Nat} (h : Pap B n (.tuple es)) (hi : es[i]? = some e) : Pap B n e := by
  obtain ⟨m1, m2, m3, m4⟩ := mem_A hi
  have l : ∀ (es : List PyData) (i : Nat), es[i]? = some e → lowA es = true → low e = true := fun es => by
    induction es with
    | nil => intro i h; simp at h
    | cons a es ih =>
      intro i h hl
      simp only [lowA, Bool.and_eq_true] at hl
      cases i with
      | zero => simp at h; subst h; exact hl.1
      | succ i => exact ih i (by simpa using h) hl.2
  have w := h.w
  have dd := h.d
  simp only [tw] at w
  simp only [PyData.depth] at dd
  exact ⟨l es i hi (by simpa [low] using h.l), m1 (by simpa [isP] using h.p), m2 (by simpa [okI] using h.i), by omega, by omega⟩
theorem odd_one {g : PyData} (hg : Pap 13140 30 g) : Odd 14000 40 (.list [g]) := by
  obtain ⟨y1, y2, y3⟩ := pure_P _ hg.p hg.i
  refine ⟨?_, ?_, fun z => ?_, ?_, ?_⟩
  · simp only [low, lowA, Bool.and_true]; exact hg.l
  · simp only [PyData.showable, PyData.showableAll, Bool.and_true]; exact y3
  · simp only [PyData.hasDict, PyData.hasDictAll, Bool.or_false] at z
    rw [y1] at z; cases z
  · have := hg.w; simp only [tw, twA] at this ⊢; omega
  · have := hg.d; simp only [PyData.depth, PyData.depthAll] at this ⊢; omega
/-- one of the things that may be laid in a paper's place -/
inductive Alien (d l : Addr) (H : Hp) : V → PyData → Prop
  | pap {v : V} {f : PyData} : Odd 14000 40 f → okI f = true → Rp H v f → Alien d l H v f
  | bl (b : Bool) : Odd 14000 40 (.bool b) → Alien d l H (.bl b) (.bool b)
  | lst {a : Addr} {vs : List V} {fs : List PyData} : a ≠ d → a ≠ l → H a = some (.lst vs) → Odd 14000 40 (.list fs) → okIA fs = true → RpA H vs fs → Alien d l H (.ref a) (.list fs)
  | dct {a : Addr} : a ≠ d → a ≠ l → H a = some (.dK []) → Odd 14000 40 (.dict []) → Alien d l H (.ref a) (.dict [])
theorem Alien.odd {d l : Addr} {H : Hp} {v : V} {f : PyData} (h : Alien d l H v f) : Odd 14000 40 f := by
  cases h <;> assumption
theorem Alien.fr {d l : Addr} {H H' : Hp} {v : V} {f : PyData} (h : Alien d l H v f) (fr : Fr d l H H') (D : Deck H d l) : Rp H' v f := by
  cases h with
  | pap _ h1 h2 => exact h2.tups (fr.tups D) h1
  | bl b _ => exact .bl b
  | lst h1 h2 h3 _ h4 h5 => exact .lst (fr _ _ h1 h2 h3) (h5.tups (fr.tups D) h4)
  | dct h1 h2 h3 _ => exact .dct (fr _ _ h1 h2 h3)
section
variable {P : Program} {w : World} {K : PySem.W.Frag} {mg : Str → Option Value} {base : Heap}
/-! ### _law_bent -/
def spBent : Sp := fun vs H Q _ => ∃ d l x e, vs = [.ref d, x] ∧ Deck H d l ∧ Rp H x e ∧ Pap 13140 30 e ∧ ∀ v f H', Odd 90000 60 f → Rp H' v f → Fr d l H H' → Deck H' d l → Q v H'
theorem odd_str {s : Str} (h : s.length ≤ 40 ∧ (TL.tl s).all (· < 1000) = true) : Odd 14000 40 (.str s) := by
  have := TL.len_tl s
  exact ⟨by rw [low]; exact h.2, by simp [PyData.showable], fun z => by simp [PyData.hasDict] at z, by simp only [tw]; omega, by simp [PyData.depth]⟩
theorem ok_bent (T : Facts K mg) : FnOk P w K mg base CX0 3 T.f_law_bent T.d_law_bent ["deck", "thing"] spBent := by
  refine T.F_law_bent.ok c_law_bent (fun vs H Q E h => ?_) (fun cdv A outer s H vs Q E hr h => ?_)
  · obtain ⟨d, l, x, e, rfl, _⟩ := h
    rfl
  obtain ⟨d, l, x, e, rfl, D, hx, hp, q⟩ := h
  have hu := hu_of hr
  refine ⟨_, pss_cons (ps_par (i := 2) (j := 3) (by rfl) c_law_bent.nd rfl rfl (by decide) rfl rfl (pa_cons (pe_lst pa_nil) (pa_cons (pv 1) pa_nil)) (by rfl))
    (pss_cons (ps_for PassesOwn.never rfl (pi_range1 (by rfl) T.z_range (pa_cons (pe_call (ok_draw T) (hr.mono (by decide)) (by rfl) T.m_law_draw T.F_law_draw.kp T.b_law_draw .nil pass0 (pa_cons (pv 0) (pa_cons pe_int pa_nil))) pa_nil)) (pg_name (i := 4) c_law_bent.nd rfl (Or.inl rfl))
      (pss_one (ps_if (PW.pt (pw_and (pt_val (pis (T := "tuple") T.z_isinstance T.z_tuple (pv 3))) (pw_and1 (pt_cmpR (op_neE (Nat.lt_of_succ_lt hu)) (pv 3) (pe_tup pa_nil) (nomark _)))))
        (pss_cons (ps_expr (pe_bm PySem.F.plainAttrs_list PySem.F.slot_list_append PySem.F.type_list_append mt_append (pv 2) (pa_cons (pe_tup (pa_cons (pv 3) (pa_cons
            (pe_call (ok_draw T) (hr.mono (by decide)) (by rfl) T.m_law_draw T.F_law_draw.kp T.b_law_draw .nil pass0 (pa_cons (pv 0) (pa_cons (pe_callB call_len_seq (by rfl) T.z_len PySem.boot_len (pa_cons (pv 3) pa_nil)) pa_nil))) pa_nil))) pa_nil)))
        (pss_one (ps_set (i := 3) c_law_bent.nd rfl (.inl rfl) (pe_ix ix_tup (pv 3) (pe_ix ix_tup (pe_ix ix_list (pv 2) (pe_un un_neg pe_int) (fun _ _ => rfl)) pe_int (fun _ _ => rfl)) (fun _ _ => rfl))))) pss_nil)))
    (pss_cons (ps_set (i := 5) c_law_bent.nd rfl (.inl rfl) (pe_lst (pa_cons pe_bl (pa_cons pe_bl (pa_cons (pe_lst pa_nil) (pa_cons pe_dnewK (pa_cons (pe_lst (pa_cons pe_str pa_nil)) (pa_cons pe_str (pa_cons pe_str (pa_cons pe_str (pa_cons pe_str (pa_cons pe_str (pa_cons pe_str
        (pa_cons pe_non (pa_cons pe_int (pa_cons pe_str (pa_cons (pe_tup pa_nil) (pa_cons (pe_tup (pa_cons pe_int (pa_cons pe_str pa_nil)))
        (pa_cons (pe_ifExp (pt_val (pis (T := "tuple") T.z_isinstance T.z_tuple (pv 3))) (pe_callTy call_list_of (by rfl) T.z_list (by decide +kernel) (pa_cons (pv 3) pa_nil)) (pe_lst (pa_cons (pv 3) pa_nil))) pa_nil)))))))))))))))))))
    (pss_cons (ps_set (i := 3) c_law_bent.nd rfl (.inl rfl) (pe_call (ok_pick T) hr (by rfl) T.m_law_pick T.F_law_pick.kp T.b_law_pick .nil pass0 (pa_cons (pv 0) (pa_cons (pv 5) pa_nil))))
    (pss_cons (ps_for PassesOwn.never rfl (pi_list (pe_revL (pv 2))) (pg_tup rfl (pgs_cons (pg_name (i := 6) c_law_bent.nd rfl (.inl rfl)) (pgs_cons (pg_name (i := 7) c_law_bent.nd rfl (.inl rfl)) pgs_nil)))
      (pss_one (ps_set (i := 3) c_law_bent.nd rfl (.inl rfl) (pe_op op_catA (pe_op op_catA (pe_slice sl_tupA (pv 6) po_none (po_some (pv 7))) (pe_tup (pa_cons (pv 3) pa_nil))) (pe_slice sl_tupA (pv 6) (po_some (pe_op op_add (pv 7) pe_int)) po_none)))))
    (pss_one (ps_ret (pv 3))))))), ?_⟩
  refine ⟨by show 0 ≤ sizeLine; decide, fun rr hrr => ⟨_, rfl, _, _, rfl, ?_⟩⟩
  obtain ⟨nrd, nrl⟩ := D.new hrr
  have s0 := same_new hrr (.lst [])
  have D0 := D.same s0
  refine ⟨_, rfl, d, l, 6, rfl, D0, by decide, by decide, fun r H1 r0 r1 f1 D1 => ⟨_, rfl, by omega, by omega, ?_⟩⟩
  have e1 : H1 rr = some (.lst []) := f1 _ _ nrd nrl upd_same
  have f01 := (Fr.of s0).trans f1
  -- Fr from H: rr is new
  refine for_range (lo := 0) (n := r.toNat) (fun i σ H' => ∃ rs v g t, σ = [some (.ref d), some x, some (.ref rr), some v, t, none, none, none] ∧ H' rr = some (.lst rs) ∧ rs.length ≤ i ∧ (∀ u ∈ rs, RowOk H' u) ∧ Rp H' v g ∧ Pap 13140 30 g ∧ Fr d l H H' ∧ Deck H' d l)
    ⟨[], x, e, none, rfl, e1, Nat.le_refl _, fun u hu => by simp at hu, (hx.mono s0).tups (f1.tups D0) hp.i, hp, f01, D1⟩ (fun i σ H' hi h => ?_) (fun σ H' h => ?_)
  · obtain ⟨rs, v, g, t, rfl, er, lr, hrs, hv, hg, f, Dk⟩ := h
    have keep : ∃ rs' v' g' t', [some (.ref d), some x, some (.ref rr), some v, some (V.int (0 + (i : Int))), none, none, none] = [some (.ref d), some x, some (.ref rr), some v', t', none, none, none] ∧ H' rr = some (.lst rs') ∧ rs'.length ≤ i + 1 ∧ (∀ u ∈ rs', RowOk H' u) ∧ Rp H' v' g' ∧ Pap 13140 30 g' ∧ Fr d l H H' ∧ Deck H' d l :=
      ⟨rs, v, g, _, rfl, er, by omega, hrs, hv, hg, f, Dk⟩
    refine ⟨_, rfl, _, g, rfl, hv, _, rfl, ?_⟩
    have hvv := hv
    cases hv with
    | non => exact iteF (iteF keep)
    | bl b => exact iteF (iteF keep)
    | int n => exact iteF (iteF keep)
    | str y => exact iteF (iteF keep)
    | lst _ _ => exact iteF (iteF keep)
    | dct _ => exact iteF (iteF keep)
    | @tup b xs es hb hc =>
      refine iteT ⟨_, rfl, by show 0 ≤ sizeLine; decide, fun p3 hp3 => ⟨b, p3, decide (xs.length = 0), rfl, rfl, .inr ⟨xs, [], SqT.of (by rw [upd_ne (ne_of_none hb hp3)]; exact hb), SqT.of upd_same, .inr rfl, by simp⟩, _, rfl, ?_⟩⟩
      have s3 := same_new hp3 (.tup [])
      have hlen := hc.length
      by_cases hx0 : xs.length = 0
      · refine ifF (by rw [decide_eq_true hx0]; rfl) ⟨rs, _, _, _, rfl, s3 _ _ er, by omega, fun u hu => (hrs u hu).tups (.of s3), hvv.mono s3, hg, f.trans (Fr.of s3), Dk.same s3⟩
      refine ifT (by rw [decide_eq_false hx0]; rfl) ⟨_, rfl, .inl ⟨rfl, _, SqL.of (s3 _ _ er)⟩, _, rfl, _, rfl, _, rfl, b, xs, rfl, .inr (SqT.of (s3 _ _ hb)), d, l, _, rfl, Dk.same s3, by omega, ?_, fun r3 H4 r30 r31 f4 D4 => ⟨by show 2 ≤ sizeLine; decide, fun t3 ht3 => ?_⟩⟩
      · have h4 := len_twA es
        have := hg.w
        simp only [tw] at this
        omega
      have tt := (f4.tups (Dk.same s3))
      have er4 := f4 _ _ nrd nrl (s3 _ _ er)
      have hb4 := tt _ _ (s3 _ _ hb)
      have hc4 := (hc.mono s3).tups tt (by simpa [okI] using hg.i)
      obtain ⟨k, rfl⟩ : ∃ k : Nat, r3 = (k : Int) := ⟨r3.toNat, by omega⟩
      have hk : k < xs.length := by omega
      have s5 := same_new ht3 (.tup [.ref b, .int (k : Int)])
      have er5 := s5 _ _ er4
      have nrt : rr ≠ t3 := ne_of_none er4 ht3
      refine ⟨rr, rs, _, rfl, rfl, er5, Nat.lt_of_le_of_lt (show rs.length ≤ 100 by omega) (by decide), ?_⟩
      have row : RowOk (upd H4 t3 (.tup [.ref b, .int (k : Int)])) (.ref t3) := ⟨t3, b, k, xs, es, rfl, upd_same, s5 _ _ hb4, hc4.mono s5, hg, hk⟩
      have t6 : Tups (upd H4 t3 (.tup [.ref b, .int (k : Int)])) (upd (upd H4 t3 (.tup [.ref b, .int (k : Int)])) rr (.lst (rs ++ [.ref t3]))) := Tups.upd_lst er5 _
      obtain ⟨e', he', hv'⟩ := hc4.get (i := k) (v := xs[k]) (List.getElem?_eq_getElem hk)
      refine ⟨_, rfl, _, rfl, 1, rfl, rr, _, _, _, rfl, rfl, SqL.of upd_same, atI_last _ _, t3, _, 0 + 1, _, rfl, rfl, SqT.of (t6 _ _ upd_same), (by exact atI_nat (j := 1) rfl), b, xs, _, xs[k], rfl, rfl, SqT.of (t6 _ _ (s5 _ _ hb4)), atI_nat (List.getElem?_eq_getElem hk), ?_⟩
      refine ⟨rs ++ [.ref t3], xs[k], e', _, rfl, upd_same, by rw [List.length_append, List.length_singleton]; omega, fun u hu => ?_, ((hv'.mono s5).tups t6 (pap_sub hg he').i), pap_sub hg he', ?_, ?_⟩
      · rcases List.mem_append.mp hu with hu | hu
        · exact (((hrs u hu).tups (.of s3)).tups tt).tups ((Tups.of s5).trans t6)
        · rw [List.mem_singleton.mp hu]; exact row.tups t6
      · intro c o h1 h2 hc0
        have nc : c ≠ rr := ne_of_none hc0 hrr
        rw [upd_ne nc]
        exact s5 _ _ (f4 _ _ h1 h2 (s3 _ _ (f _ _ h1 h2 hc0)))
      · exact (D4.same s5).off nrd nrl
  · -- the choice
    obtain ⟨rs, v, g, t, rfl, er, lr, hrs, hv, hg, f, Dk⟩ := h
    refine ⟨by show 0 ≤ sizeLine; decide, fun p1 h1 => fun p2 h2 => ⟨by show 1 ≤ sizeLine; decide, fun p3 h3 => ⟨by show 0 ≤ sizeLine; decide, fun p4 h4 => ⟨by show 2 ≤ sizeLine; decide, fun p5 h5 => ?_⟩⟩⟩⟩
    have s1 := same_new h1 (.lst [])
    have s2 := same_new h2 (.dK [])
    have s3 := same_new h3 (.lst [.str "a"])
    have s4 := same_new h4 (.tup [])
    have s5 := same_new h5 (.tup [.int 1, .str "a"])
    have sA := (((s1.trans s2).trans s3).trans s4).trans s5
    have g1 := s5 _ _ (s4 _ _ (s3 _ _ (s2 _ _ (upd_same (H := H') (a := p1) (o := HO.lst [])))))
    have g2 := s5 _ _ (s4 _ _ (s3 _ _ (upd_same (H := upd H' p1 (.lst [])) (a := p2) (o := HO.dK []))))
    have g3 := s5 _ _ (s4 _ _ (upd_same (H := upd (upd H' p1 (.lst [])) p2 (.dK [])) (a := p3) (o := HO.lst [.str "a"])))
    have g4 := s5 _ _ (upd_same (H := upd (upd (upd H' p1 (.lst [])) p2 (.dK [])) p3 (.lst [.str "a"])) (a := p4) (o := HO.tup []))
    have g5 := (upd_same (H := upd (upd (upd (upd H' p1 (.lst [])) p2 (.dK [])) p3 (.lst [.str "a"])) p4 (.tup [])) (a := p5) (o := HO.tup [.int 1, .str "a"]))
    have n1 := Dk.new h1
    have n2 := (Dk.same s1).new h2
    have n3 := ((Dk.same s1).same s2).new h3
    generalize upd (upd (upd (upd (upd H' p1 (.lst [])) p2 (.dK [])) p3 (.lst [.str "a"])) p4 (.tup [])) p5 (.tup [.int 1, .str "a"]) = HA at sA g1 g2 g3 g4 g5
    have DA := Dk.same sA
    have vA := hv.mono sA
    have str_ok : ∀ s ∈ ([Str.ofString "a b", Str.ofString "(", Str.ofString "a)", Str.ofString "\n", Str.ofString " ", Str.ofString "x\ny", Str.ofString "ok", Str.ofString "a"] : List Str), s.length ≤ 40 ∧ (TL.tl s).all (· < 1000) = true := by decide +kernel
    have go : ∀ (u : V) (HB : Hp), Same HA HB → (∃ f, Alien d l HB u f) → ([.bl true, .bl false, .ref p1, .ref p2, .ref p3, .str (Str.ofString "a b"), .str (Str.ofString "("), .str (Str.ofString "a)"), .str (Str.ofString "\n"), .str (Str.ofString " "), .str (Str.ofString "x\ny"), .non, .int 0, .str (Str.ofString "ok"), .ref p4, .ref p5, u] : List V).length ≤ sizeLine ∧ ∀ a, HB a = none →
        spPick [.ref d, .ref a] (upd HB a (.lst [.bl true, .bl false, .ref p1, .ref p2, .ref p3, .str (Str.ofString "a b"), .str (Str.ofString "("), .str (Str.ofString "a)"), .str (Str.ofString "\n"), .str (Str.ofString " "), .str (Str.ofString "x\ny"), .non, .int 0, .str (Str.ofString "ok"), .ref p4, .ref p5, u]))
          (fun v7 H7 => ∃ f, Odd 14000 40 f ∧ Rp H7 v7 f ∧ Fr d l H H7 ∧ Deck H7 d l ∧ H7 rr = some (.lst rs) ∧ ∀ u ∈ rs, RowOk H7 u) E0 := fun u HB sB hu => by
      refine ⟨by show 17 ≤ sizeLine; decide, fun a ha => ?_⟩
      have DB := DA.same sB
      obtain ⟨nad, nal⟩ := DB.new ha
      have sC := same_new ha (.lst [.bl true, .bl false, .ref p1, .ref p2, .ref p3, .str (Str.ofString "a b"), .str (Str.ofString "("), .str (Str.ofString "a)"), .str (Str.ofString "\n"), .str (Str.ofString " "), .str (Str.ofString "x\ny"), .non, .int 0, .str (Str.ofString "ok"), .ref p4, .ref p5, u])
      refine ⟨d, l, _, rfl, DB.same sC, .inl ⟨a, _, rfl, nal, upd_same, (by show 1 ≤ 17; decide), (by show 17 ≤ 1000; decide), fun v7 hv7 H7 f7 D7 => ?_⟩⟩
      have fin : (∃ f, Alien d l HB v7 f) → ∃ f, Odd 14000 40 f ∧ Rp H7 v7 f ∧ Fr d l H H7 ∧ Deck H7 d l ∧ H7 rr = some (.lst rs) ∧ ∀ u ∈ rs, RowOk H7 u := fun ⟨f', hf'⟩ => by
        have fB : Fr d l HB H7 := (Fr.of sC).trans f7
        have fH : Fr d l H' H7 := (Fr.of (sA.trans sB)).trans fB
        exact ⟨f', hf'.odd, hf'.fr fB DB, f.trans fH, D7, fH _ _ nrd nrl er, fun u hu => (hrs u hu).tups (fH.tups Dk)⟩
      have pap : ∀ (v : V) (f : PyData), Pap 13140 30 f → Rp HA v f → ∃ f, Alien d l HB v f := fun v f h1 h2 => ⟨f, .pap (Odd.mono (.ofP h1) (by omega) (by omega)) h1.i (h2.mono sB)⟩
      have texty : ∀ s ∈ ([Str.ofString "a b", Str.ofString "(", Str.ofString "a)", Str.ofString "\n", Str.ofString " ", Str.ofString "x\ny", Str.ofString "ok", Str.ofString "a"] : List Str), ∃ f, Alien d l HB (.str s) f := fun s hs => ⟨.str s, .pap (odd_str (str_ok s hs)) (by simp [okI]) (.str s)⟩
      have hmem : v7 = .bl true ∨ v7 = .bl false ∨ v7 = .ref p1 ∨ v7 = .ref p2 ∨ v7 = .ref p3 ∨ v7 = .str (Str.ofString "a b") ∨ v7 = .str (Str.ofString "(") ∨ v7 = .str (Str.ofString "a)") ∨ v7 = .str (Str.ofString "\n") ∨ v7 = .str (Str.ofString " ") ∨ v7 = .str (Str.ofString "x\ny") ∨ v7 = .non ∨ v7 = .int 0 ∨ v7 = .str (Str.ofString "ok") ∨ v7 = .ref p4 ∨ v7 = .ref p5 ∨ v7 = u := by simpa using hv7
      have oa : Odd 14000 40 (.list [.str "a"]) := by
        have := (odd_str (str_ok (Str.ofString "a") (by simp)))
        have e : tw (.str "a") = 3 := by decide +kernel
        exact ⟨by simp [low, lowA]; decide +kernel, by simp [PyData.showable, PyData.showableAll], fun z => by simp [PyData.hasDict, PyData.hasDictAll] at z, by simp only [tw, twA] at e ⊢; omega, by simp [PyData.depth, PyData.depthAll]⟩
      have o0 : Odd 14000 40 (.list []) := ⟨by simp [low, lowA], by simp [PyData.showable, PyData.showableAll], fun z => by simp [PyData.hasDict, PyData.hasDictAll] at z, by simp [tw, twA], by simp [PyData.depth, PyData.depthAll]⟩
      have od : Odd 14000 40 (.dict []) := ⟨by simp [low], by simp [PyData.showable, PyData.showableKv], fun z => by simp [noList], by simp [tw], by simp [PyData.depth, PyData.depthKv]⟩
      have ob : ∀ b, Odd 14000 40 (.bool b) := fun b => ⟨by simp [low], by simp [PyData.showable], fun z => by simp [PyData.hasDict] at z, by simp [tw], by simp [PyData.depth]⟩
      have w4 : Pap 13140 30 (.tuple []) := ⟨by simp [low, lowA], by simp [isP, isPA], by simp [okI, okIA], by simp [tw, twA], by simp [PyData.depth, PyData.depthAll]⟩
      have w5 : Pap 13140 30 (.tuple [.int 1, .str "a"]) := ⟨by simp [low, lowA]; decide +kernel, by simp [isP, isPA]; decide +kernel, by simp [okI, okIA], (by simp only [tw, twA]; decide +kernel), by simp [PyData.depth, PyData.depthAll]⟩
      rcases hmem with rfl | rfl | rfl | rfl | rfl | rfl | rfl | rfl | rfl | rfl | rfl | rfl | rfl | rfl | rfl | rfl | rfl
      · exact fin ⟨_, .bl true (ob true)⟩
      · exact fin ⟨_, .bl false (ob false)⟩
      · exact fin ⟨_, .lst n1.1 n1.2 (sB _ _ g1) o0 (by simp [okIA]) .nil⟩
      · exact fin ⟨_, .dct n2.1 n2.2 (sB _ _ g2) od⟩
      · exact fin ⟨_, .lst n3.1 n3.2 (sB _ _ g3) oa (by simp [okIA, okI]) (.cons (.str _) .nil)⟩
      · exact fin (texty _ (by simp))
      · exact fin (texty _ (by simp))
      · exact fin (texty _ (by simp))
      · exact fin (texty _ (by simp))
      · exact fin (texty _ (by simp))
      · exact fin (texty _ (by simp))
      · exact fin (pap _ _ (pap_none.mono (by omega) (by omega)) .non)
      · exact fin (pap _ _ ((pap_int (n := 0) (by decide)).mono (by omega) (by omega)) (.int 0))
      · exact fin (texty _ (by simp))
      · exact fin (pap _ _ w4 (.tup g4 .nil))
      · exact fin (pap _ _ w5 (.tup g5 (.cons (.int 1) (.cons (.str _) .nil))))
      · exact fin hu
    -- the walk back
    have back : ∀ (sm : V) (t1 : Option V) (v7 : V) (H7 : Hp), (∃ f, Odd 14000 40 f ∧ Rp H7 v7 f ∧ Fr d l H H7 ∧ Deck H7 d l ∧ H7 rr = some (.lst rs) ∧ ∀ u ∈ rs, RowOk H7 u) →
        (tSeq (tFor (iList K (tRevL K (tVar 2))) (gTup K 2 (gCons (gName 6) (gCons (gName 7) gNil))) (tAsg (tOp (rCatA K) (tOp (rCatA K) (tSl (rSlA K) (tVar 6) tNoPart (tPart (tVar 7))) (tTup (tCons (tVar 3) tNil))) (tSl (rSlA K) (tVar 6) (tPart (tOp (rI0 fun i j => .int (i + j)) (tVar 7) (tC (.int 1)))) tNoPart)) (gName 3))) (tRet (tVar 3)) : TS)
          { nx := fun _ H' => Q .non H', rt := Q } [some (.ref d), some x, some (.ref rr), some v7, t1, some sm, none, none] H7 := fun sm t1 v7 H7 h7 => by
      obtain ⟨f7, o7, r7, fr7, D7, e7, rows7⟩ := h7
      refine ⟨_, rfl, rr, rs, rfl, SqL.of e7, fun L hL => ⟨L, rfl, ⟨_, SqL.of upd_same⟩, ?_⟩⟩
      have sL := same_new hL (.lst rs.reverse)
      refine for_list (K := K) (a := L) (xs := rs.reverse) (fun i σ H8 => ∃ v8 f8 z6 z7, σ = [some (.ref d), some x, some (.ref rr), some v8, t1, some sm, z6, z7] ∧ Same (upd H7 L (.lst rs.reverse)) H8 ∧ Rp H8 v8 f8 ∧ Odd (14000 + 13140 * i) (40 + i) f8)
        ⟨v7, f7, none, none, rfl, Same.refl _, r7.mono sL, o7⟩ (fun i σ H8 _ h => ?_) (fun i u σ H8 hu h => ?_) (fun σ H8 h => ?_)
      · obtain ⟨v8, f8, z6, z7, rfl, s8, r8, o8⟩ := h
        exact SqL.of (s8 _ _ upd_same)
      · obtain ⟨v8, f8, z6, z7, rfl, s8, r8, o8⟩ := h
        have hum : u ∈ rs := List.mem_reverse.mp (List.mem_of_getElem? hu)
        obtain ⟨t, wa, k, xs, es, rfl, ht, hwa, hxs, hpw, hk⟩ := (rows7 u hum).tups (.of (sL.trans s8))
        have hlen := hxs.length
        refine ⟨t, _, rfl, SqT.of ht, rfl, .ref wa, [.int (k : Int)], rfl, .int (k : Int), [], rfl, rfl, ?_⟩
        refine ⟨_, rfl, _, rfl, _, rfl, slice_of hwa (fun z => ?_) fun q1 hq1 => ?_⟩
        · have z2 := z.2
          rw [HT.sIx_nat] at z2
          omega
        rw [cut_to]
        have t1' := same_new hq1 (.tup (xs.take k))
        have w1 := t1' _ _ hwa
        have k1 : upd H8 q1 (.tup (xs.take k)) q1 = some (.tup (xs.take k)) := upd_same
        have x1 := hxs.mono t1'
        have r1 := r8.mono t1'
        generalize upd H8 q1 (.tup (xs.take k)) = G1 at t1' w1 k1 x1 r1
        refine ⟨_, rfl, by show 1 ≤ sizeLine; decide, fun q2 hq2 => ?_⟩
        have t2' := same_new hq2 (.tup [v8])
        have w2 := t2' _ _ w1
        have k2 : upd G1 q2 (.tup [v8]) q2 = some (.tup [v8]) := upd_same
        have k1' := t2' _ _ k1
        have x2 := x1.mono t2'
        have r2 := r1.mono t2'
        generalize upd G1 q2 (.tup [v8]) = G2 at t2' w2 k2 k1' x2 r2
        have hes : es.length ≤ 13140 := by
          have h4 := len_twA es
          have := hpw.w
          simp only [tw] at this
          omega
        refine cat_of k1' k2 (small (by rw [List.length_take, List.length_singleton]; omega)) fun q3 G3 t3' k3 => ?_
        refine ⟨_, rfl, _, rfl, _, _, rfl, rfl, _, rfl, ?_⟩
        unfold tNoPart
        refine slice_of (t3' _ _ w2) (fun z => ?_) fun q4 hq4 => ?_
        · have z1 := z.1
          have e : ((k : Int) + 1) = ((k + 1 : Nat) : Int) := by omega
          rw [e, HT.sIx_nat] at z1
          omega
        have e1 : ((k : Int) + 1) = ((k + 1 : Nat) : Int) := by omega
        rw [e1, cut_from]
        have t4' := same_new hq4 (.tup (xs.drop (k + 1)))
        refine cat_of (t4' _ _ k3) upd_same (small (by rw [List.length_append, List.length_take, List.length_drop, List.length_singleton]; omega)) fun q5 G5 t5' k5 => ?_
        have all := (t2'.trans t3').trans (t4'.trans t5')
        have x5 := x1.mono all
        have r5 := r1.mono all
        have hput := Odd.put hpw o8 (by omega : k < es.length)
        refine ⟨.ref q5, _, _, _, rfl, s8.trans (t1'.trans all), .tup k5 (((RpA.take' k x5).append (.cons r5 .nil)).append (RpA.drop' (k + 1) x5)), hput.mono (by omega) (by omega)⟩
      · obtain ⟨v8, f8, z6, z7, rfl, s8, r8, o8⟩ := h
        rw [List.length_reverse] at o8
        have lr5 : rs.length ≤ 5 := by omega
        have := Nat.mul_le_mul_left 13140 lr5
        exact ⟨_, rfl, q v8 f8 H8 (o8.mono (by omega) (by omega)) r8 (fr7.trans (Fr.of (sL.trans s8))) (D7.same (sL.trans s8))⟩
    refine ⟨_, rfl, _, g, rfl, vA, _, rfl, ?_⟩
    have out : ∀ (a : Addr) (HC : Hp), spPick [.ref d, .ref a] HC (fun v7 H7 => ∃ f, Odd 14000 40 f ∧ Rp H7 v7 f ∧ Fr d l H H7 ∧ Deck H7 d l ∧ H7 rr = some (.lst rs) ∧ ∀ u ∈ rs, RowOk H7 u) E0 → spPick [.ref d, .ref a] HC (fun v7 H7 => (tSeq (tFor (iList K (tRevL K (tVar 2))) (gTup K 2 (gCons (gName 6) (gCons (gName 7) gNil))) (tAsg (tOp (rCatA K) (tOp (rCatA K) (tSl (rSlA K) (tVar 6) tNoPart (tPart (tVar 7))) (tTup (tCons (tVar 3) tNil))) (tSl (rSlA K) (tVar 6) (tPart (tOp (rI0 fun i j => .int (i + j)) (tVar 7) (tC (.int 1)))) tNoPart)) (gName 3))) (tRet (tVar 3)) : TS)
          { nx := fun _ H' => Q .non H', rt := Q } [some (.ref d), some x, some (.ref rr), some v7, t, some (.ref a), none, none] H7) E0 := fun a HC h => by
      obtain ⟨d', l', x', e', Dk', h'⟩ := h
      cases e'
      rcases h' with ⟨a', xs', e'', h1, h2, h3, h4, h5⟩ | ⟨z, e'', _⟩
      · cases e''
        exact ⟨d, l', _, rfl, Dk', .inl ⟨a, xs', rfl, h1, h2, h3, h4, fun v hv H' f' D' => back _ _ v H' (h5 v hv H' f' D')⟩⟩
      · cases e''
    have vAA := vA
    cases vA with
    | @tup b xs es hb hc =>
      refine iteT ⟨_, rfl, b, xs, rfl, .inr (SqT.of hb), fun p6 h6 => ?_⟩
      have n6 := DA.new h6
      have s6 := same_new h6 (.lst xs)
      have o6 : Odd 14000 40 (.list es) := by
        have := Odd.ofP hg
        obtain ⟨y1, y2, y3⟩ := pure_P _ hg.p hg.i
        refine ⟨by simpa [low] using this.l, by simpa [PyData.showable] using this.s, fun z => ?_, by have := this.w; simp only [tw] at this ⊢; omega, by have := this.d; simp only [PyData.depth] at this ⊢; omega⟩
        simp only [PyData.hasDict] at y1 z
        rw [y1] at z
        cases z
      obtain ⟨z1, z2⟩ := go (.ref p6) _ s6 ⟨_, .lst n6.1 n6.2 upd_same o6 (by simpa [okI] using hg.i) (hc.mono s6)⟩
      exact ⟨z1, fun a ha => ⟨_, rfl, _, rfl, out a _ (z2 a ha)⟩⟩
    | _ =>
      refine iteF ⟨_, rfl, by show 1 ≤ sizeLine; decide, fun p6 h6 => ?_⟩
      have n6 := DA.new h6
      have z := go (.ref p6) _ (same_new h6 _) ⟨_, .lst n6.1 n6.2 upd_same (odd_one hg) (by simp only [okIA, Bool.and_true]; exact hg.i) (.cons (vAA.mono (same_new h6 _)) .nil)⟩
      exact ⟨z.1, fun a ha => ⟨_, rfl, _, rfl, out a _ (z.2 a ha)⟩⟩
end
end K8

set_option Elab.async false
set_option linter.all false
set_option maxRecDepth 100000
set_option maxHeartbeats 8000000
namespace K8
open PySem PySem.Spec PyProof.Rows L2 Pk Mt
/-! ### names stored with their tokens known -/
section
variable {X : Cx} {pins : List (Addr × Obj)} {σ : L2.St} {H : Hp} {s : Shared}
theorem inv_store {i : Nat} {x : Str} {v : V} {u : Value} {m : Str → Option Value} {h' : Heap} {k : Nat} (I : Inv X pins σ H s) (hN : X.N.Nodup) (hi : X.N[i]? = some x) (hk : X.env.scope.names.lookup x = some .local) (r : RelV v u) (hn : s.heap.Ns X.env.locals m)
    (hn' : h'.Ns X.env.locals fun y => if y = x then some u else m y) (hs : Heap.SameBut X.env.locals s.heap h') : Inv X pins (σ.set i (some v)) H { s with heap := h', toks := k } := by
  have long : i < σ.length := by rw [I.len]; exact (List.getElem?_eq_some_iff.mp hi).1
  have apart := I.cne
  have below : ∀ b o, X.s_0.heap.get? b = some o → h'.get? b = s.heap.get? b := fun b o e => hs.2 b (Nat.ne_of_lt (Nat.lt_of_lt_of_le (Heap.lt_size e) I.ok.above))
  have ml : ∀ (j : Nat) (y : Str) (z : V), X.N[j]? = some y → σ[j]? = some (some z) → Vis X.env.scope y → ∃ t, RelV z t ∧ Look X.env s.heap m y t := by
    obtain ⟨m0, a0, b0⟩ := I.loc
    intro j y z c1 c2 c3
    obtain ⟨t, d1, d2⟩ := b0 j y z c1 c2 c3
    refine ⟨t, d1, ?_⟩
    rcases d2 with ⟨q1, q2⟩ | q
    · refine .inl ⟨q1, ?_⟩
      rw [hn.agree a0 y]
      exact q2
    · exact .inr q
  exact
    { ok := I.ok, os := I.os, bare := I.bare, free := I.free, freeC := I.freeC
      len := by rw [List.length_set]; exact I.len
      base := ⟨fun b o e n hb hx => (below b o e).trans (I.base.keep b o e n hb hx), fun b o e n hb hx => (I.base.slot b o e n hb hx).imp fun sl q => (below b o e).trans q, I.base.free, fun b o e hx => (I.base.there b o e hx).imp fun o' q => (below b o e).trans q, I.base.tups, I.base.frzs, I.base.tbls⟩
      cell := fun y c e => (I.cell y c e).imp fun z q => q.sameBut hs (apart y c e)
      pin := fun p hp => by
        obtain ⟨e, a1, a2, a3, a4⟩ := I.pin p hp
        exact ⟨(hs.2 p.1 a2).trans e, a1, a2, a3, a4⟩
      hok := fun b ob e => by
        refine (I.hok b ob e).stay (fun c w' hc q => (hs.2 c fun z => ?_).trans q) (fun _ q => q) fun _ _ q => q
        subst z
        rcases hc with hc | hc
        · subst hc
          rw [I.free] at e; cases e
        · rw [I.free] at hc; cases hc
      loc := ⟨_, hn', fun j y z c1 c2 c3 => by
        by_cases hj : j = i
        · subst hj
          rw [hi] at c1
          cases c1
          rw [List.getElem?_set_self long] at c2
          cases c2
          exact ⟨u, r, .inl ⟨hk, if_pos rfl⟩⟩
        · rw [List.getElem?_set_ne (Ne.symm hj)] at c2
          obtain ⟨t, d1, d2⟩ := ml j y z c1 c2 c3
          refine ⟨t, d1, ?_⟩
          rcases d2 with ⟨q1, q2⟩ | ⟨q1, c, q2, q3⟩
          · exact .inl ⟨q1, (if_neg fun e => hj (nodup_ix hN (by rw [← e]; exact c1) hi)).trans q2⟩
          · exact .inr ⟨q1, c, q2, q3.sameBut hs (apart y c q2)⟩⟩ }
end
section
variable {X : Cx}
/-- a tuple of two texts, their tokens known -/
def PairOk (H : Hp) (v : V) : Prop := ∃ (p : Addr) (o : Obj) (t u : Tok) (n : Nat) (y z : Str), v = .ref p ∧ H p = some (.frz o (.tup [.str y, .str z])) ∧ o.data = .seq #[.str y t, .str z u] n ∧ t ≠ 0 ∧ u ≠ 0 ∧ t ≠ u ∧ (y == z) = false ∧ z.length ≤ 41
theorem PairOk.mono {H H' : Hp} {v : V} (h : PairOk H v) (s : Same H H') : PairOk H' v := by
  obtain ⟨p, o, t, u, n, y, z, e, h1, h2⟩ := h
  exact ⟨p, o, t, u, n, y, z, e, s _ _ h1, h2⟩
def tPairOk : TE := fun _ H Q => ∀ v H', Same H H' → PairOk H' v → Q v H'
def tPairs (k : Nat) : TA := fun _ H Q => ∀ vs H', Same H H' → (∀ v ∈ vs, PairOk H' v) → vs.length = k → Q vs H'
theorem pairs_nil : PAT X [] (tPairs 0) := fun pos pins s σ H Q one I h => pat_nil pos pins s σ H Q one I (h [] H (Same.refl _) (fun v hv => by simp at hv) rfl)
theorem pairs_cons {e : Expr} {es : List Expr} {k : Nat} (h1 : PET X e tPairOk) (h2 : PAT X es (tPairs k)) (hs : starEach (e :: es) X.env = (false, eval e X.env) :: starEach es X.env := by rfl) : PAT X (e :: es) (tPairs (k + 1)) :=
  fun pos pins s σ H Q one I h => pat_cons h1 h2 hs pos pins s σ H Q one I fun v H1 s1 p1 vs H2 s2 p2 hl => h (v :: vs) H2 (s1.trans s2) (fun u hu => by
    rcases List.mem_cons.mp hu with rfl | hu
    · exact p1.mono s2
    · exact p2 u hu) (by rw [List.length_cons, hl])
theorem laid_pair {pins : List (Addr × Obj)} {σ : L2.St} {H : Hp} {s : Shared} {Q : VK} {y z : Str} {t u : Tok} {k : Nat} (I : Inv X pins σ H s) (h : tPairOk σ H Q) (ht : t ≠ 0) (hu : u ≠ 0) (htu : t ≠ u) (hyz : (y == z) = false) (hz : z.length ≤ 41) :
    EP X pins σ Q (.ref s.heap.objs.size) { s with heap := s.heap.push { cls := .type "tuple", data := .seq [Value.str y t, .str z u].toArray }, toks := k } := by
  have h2 : (2 : Nat) ≤ sizeLine := by decide
  have new : s.heap.objs.size ≤ s.heap.objs.size := Nat.le_refl _
  refine ⟨.ref s.heap.objs.size, upd H s.heap.objs.size (.frz { cls := .type "tuple", data := .seq [Value.str y t, .str z u].toArray } (.tup [.str y, .str z])), I.laid (t' := k) (fun b o e => Heap.get?_push_of_some _ e) new ?_, rfl, h _ _ (same_new (I.hok.fresh new) _) ⟨_, _, t, u, _, y, z, rfl, upd_same, rfl, ht, hu, htu, hyz, hz⟩⟩
  exact ⟨Heap.get?_push_size _ rfl, h2, [.str y t, .str z u], .cons ⟨_, rfl⟩ (.cons ⟨_, rfl⟩ .nil), ⟨_, Heap.get?_push_size _ rfl, rfl, _, rfl⟩⟩
theorem pet_two {y z : Str} {j0 j1 k2 : Nat} {c0 c1 pos : Pos} (hyz : (y == z) = false) (hz : z.length ≤ 41) : PET X (.Tuple [.Constant (.str y) j0 c0, .Constant (.str z) j1 c1] k2 pos) tPairOk := by
  intro pins s σ H Q one I h
  refine wpAny_Tuple_spliced ?_
  show wpAny _ _ (spliced ((false, eval (.Constant (.str y) j0 c0) X.env) :: backTo pos (starEach [.Constant (.str z) j1 c1] X.env))) _ _ s
  refine Calls.spliced_cons (Calls.Constant_str ?_)
  show wpAny _ _ (spliced ((false, eval (.Constant (.str z) j1 c1) X.env) :: backTo pos (starEach [] X.env))) _ _ _
  refine Calls.spliced_cons (Calls.Constant_str (Calls.spliced_nil ⟨(by show 2 ≤ sizeLine; decide), ?_⟩))
  exact laid_pair (s := s) (k := s.toks + 1 + 1) (t := s.toks) (u := s.toks + 1) I h (show s.toks ≠ 0 by omega) (show s.toks + 1 ≠ 0 by omega) (show s.toks ≠ s.toks + 1 by omega) hyz hz
/-- ("1", "1" * 41) -/
theorem pet_many {j0 j1 j2 k2 : Nat} {c0 c1 c2 bp pos : Pos} : PET X (.Tuple [.Constant (.str "1") j0 c0, .BinOp (.Constant (.str "1") j1 c1) .Mult (.Constant (.int 41) j2 c2) bp] k2 pos) tPairOk := by
  intro pins s σ H Q one I h
  refine wpAny_Tuple_spliced ?_
  show wpAny _ _ (spliced ((false, eval (.Constant (.str "1") j0 c0) X.env) :: backTo pos (starEach [.BinOp (.Constant (.str "1") j1 c1) .Mult (.Constant (.int 41) j2 c2) bp] X.env))) _ _ s
  refine Calls.spliced_cons (Calls.Constant_str ?_)
  show wpAny _ _ (spliced ((false, eval (.BinOp (.Constant (.str "1") j1 c1) .Mult (.Constant (.int 41) j2 c2) bp) X.env) :: backTo pos (starEach [] X.env))) _ _ _
  refine Calls.spliced_cons (wpAny_BinOp (Calls.Constant_str (wpAny_Constant_int ?_)))
  refine PySem.P.mul_str (by decide) (fun _ _ => by decide +kernel) (fun _ _ => by decide +kernel) ?_
  rw [if_neg (by decide), if_neg (by decide +kernel)]
  refine ⟨by decide +kernel, Calls.spliced_nil ⟨(by show 2 ≤ sizeLine; decide), ?_⟩⟩
  exact laid_pair (s := s) (k := s.toks + 1 + 1 + 1 + 1) (t := s.toks) (u := s.toks + 1 + 1 + 1) I h (show s.toks ≠ 0 by omega) (show s.toks + 1 + 1 + 1 ≠ 0 by omega) (show s.toks ≠ s.toks + 1 + 1 + 1 by omega) (by decide +kernel) (by decide +kernel)
/-- name = e, a token out -/
theorem pst_set {i : Nat} {x : Str} {e : Expr} {te : TE} {px pos : Pos} (hN : X.N.Nodup) (hi : X.N[i]? = some x) (hx : Loc X.env.scope x) (he : PET X e te)
    (hs : swapsWith e (some (.Name x px)) pos.line X.env = pure false := by rfl) (hf : X.fn x = true ∨ X.env.scope.names.lookup x = some .local := by first | exact .inl rfl | exact .inr rfl | assumption) :
    PST X (.Assign [.Name x px] e pos) (tAsg te (gName i)) := by
  intro pins s σ H D one I h
  refine wpAny_Assign_Name (thn (he pins s σ H _ one I h) fun u s1 h1 => ?_) hs
  obtain ⟨v, H1, I1, r1, q1⟩ := h1
  exact store_ok I1 hN hi hx r1 (fun s2 I2 => ⟨_, H1, I2, q1⟩) hf
/-- a, b = e; return t.replace(a, b) -/
def tSwap (K : PySem.W.Frag) (te : TE) (it : Nat) : TS := fun D σ H => te σ H fun v H1 => PairOk H1 v ∧ ∃ t : Str, σ[it]? = some (some (.str t)) ∧ t.length ≤ 20000 ∧ ∀ z : Str, z.length ≤ 900000 → D.rt (.str z) H1
theorem psst_swap {ia ib it : Nat} {a b t : Str} {e : Expr} {te : TE} {k0 : Nat} {pa pb pt pe p1 p2 p3 ap cp rp : Pos} (hc : X.calm = true) (hN : X.N.Nodup) (ha : X.N[ia]? = some a) (hb : X.N[ib]? = some b) (ht : X.N[it]? = some t) (hab : a ≠ b) (hta : it ≠ ia) (htb : it ≠ ib)
    (la : X.env.scope.names.lookup a = some .local) (lb : X.env.scope.names.lookup b = some .local) (vt : Vis X.env.scope t) (he : PE X e te)
    (hs : swapsWithSole [.Tuple [.Name a pa, .Name b pb] k0 pt] e pe.line X.env = pure false := by rfl) (hw : swappedStores [.Tuple [.Name a pa, .Name b pb] k0 pt] e X.env = pure none := by rfl)
    (h1 : (assignEach [.Tuple [.Name a pa, .Name b pb] k0 pt] X.env).map (·.2) = [assign (.Tuple [.Name a pa, .Name b pb] k0 pt) X.env] := by rfl)
    (hn : (assignEach [.Name a pa, .Name b pb] X.env).length = 2 := by rfl) (hst : (assignEach [.Name a pa, .Name b pb] X.env).findIdx? (·.1) = none := by rfl)
    (hm : (assignEach [.Name a pa, .Name b pb] X.env).map (·.2) = [assign (.Name a pa) X.env, assign (.Name b pb) X.env] := by rfl)
    (hbase : attributeBase (.Name t p1) "replace" X.env (eval (.Name t p1) X.env) = eval (.Name t p1) X.env := by rfl) (hline : (ap.endLine == cp.line) = true := by rfl)
    (hse : starEach [.Name a p2, .Name b p3] X.env = [(false, eval (.Name a p2) X.env), (false, eval (.Name b p3) X.env)] := by rfl)
    (da : (a == ("__debug__" : Str)) = false := by decide) (db : (b == ("__debug__" : Str)) = false := by decide) (dt : (t == ("__debug__" : Str)) = false := by decide) (dct : (t == ("__classdict__" : Str)) = false := by decide) :
    PSs X [.Assign [.Tuple [.Name a pa, .Name b pb] k0 pt] e pe, .Return (some (.Call (.Attribute (.Name t p1) "replace" ap) [.Name a p2, .Name b p3] [] cp)) rp] (tSwap X.K te it) := by
  refine ⟨fun pins s σ H D I h => ?_⟩
  refine wpAny_execs_cons (wpAny_Assign_stores (thn (he.run pins s σ H _ I h) fun v s1 q => ?_) hs hw)
  obtain ⟨x, H1, I1, r1, ⟨p, o, tk, uk, n, y, z, rfl, hp, hd, t0, u0, tu, yz, hz⟩, tt, hσ, htl, q1⟩ := q
  cases r1
  rw [h1]
  have tup : IsTup s1.heap p #[.str y tk, .str z uk] := by
    obtain ⟨e1, _, its, rv, o', e2, e3, n', e4⟩ := I1.hok p _ hp
    rw [e1] at e2
    cases e2
    exact ⟨o, e1, e3, n, hd⟩
  refine assign_Tuple_tuple (I1.ok.hd hc) tup (by rw [hn]; rfl) hst fun h' hx => ?_
  have I2 : Inv X pins σ H1 { s1 with heap := h' } := I1.kept (t' := s1.toks) fun b o e => hx b o (Nat.ne_of_lt (Heap.lt_size e)) e
  rw [hm]
  obtain ⟨m, hns, _⟩ := id I2.loc
  have hcls : (X.env.scope.kind == .class || (X.env.scope.kind == .module && X.env.locals != X.env.globals)) = false := by rw [I2.ok.kind]; rfl
  show wpAny _ _ (assignInOrder [assign (.Name a pa) X.env, assign (.Name b pb) X.env] [.str y tk, .str z uk]) _ _ _
  refine assignInOrder_cons (wpAny_assign_Name (wpAny_storeName_local la hns (fun g1 n1 sb1 => ?_) hcls))
  have I3 := inv_store (k := s1.toks + 1) (v := .str y) I2 hN ha la ⟨tk, rfl⟩ hns n1 sb1
  refine assignInOrder_cons (wpAny_assign_Name (wpAny_storeName_local lb n1 (fun g2 n2 sb2 => ?_) hcls))
  have I4 := inv_store (k := s1.toks + 1 + 1) (v := .str z) I3 hN hb lb ⟨uk, rfl⟩ n1 n2 sb2
  refine assignInOrder_nil ?_
  show wpAny _ _ (execs _ _) _ _ _
  have hσ4 : ((σ.set ia (some (.str y))).set ib (some (.str z)))[it]? = some (some (.str tt)) := by
    rw [List.getElem?_set_ne (Ne.symm htb), List.getElem?_set_ne (Ne.symm hta)]
    exact hσ
  refine wpAny_execs_cons (wpAny_Return_some (PySem.Call_method2 hbase hse hline (raw_name ht vt I4 hσ4 (fun v r => ?_) dt dct)))
  obtain ⟨tx, e⟩ := r
  subst e
  refine ⟨"str", _, PySem.F.plainAttrs_str, PySem.F.slot_str_replace, PySem.F.type_str_replace, typeIs_str _ _ _, (fun _ e => nomatch e), Calls.callWith_builtin rfl (Calls.evalArgs_plain (Calls.spliced_cons ?_))⟩
  refine wpAny_Name (wpAny_loadName_local I4.ok.kind la n2 (show (if a = b then some (Value.str z uk) else if a = a then some (Value.str y tk) else m a) = some (Value.str y tk) by rw [if_neg hab, if_pos rfl]) ?_) da
  refine Calls.spliced_cons (wpAny_Name (wpAny_loadName_local I4.ok.kind lb n2 (show (if b = b then some (Value.str z uk) else if b = a then some (Value.str y tk) else m b) = some (Value.str z uk) from if_pos rfl) ?_) db)
  refine Calls.spliced_nil ?_
  have hlen := TK.replace_len tt y z
  have hmul : (tt.length + 1) * z.length ≤ 20001 * 41 := Nat.mul_le_mul (by omega) hz
  exact PySem.SC.replace t0 u0 tu yz (by omega) fun t' k => ⟨.str (Txt.replace tt y z), _, H1, I4.tok k, ⟨t', rfl⟩, q1 _ (by omega)⟩
end
end K8

set_option Elab.async false
set_option linter.all false
set_option maxRecDepth 100000
set_option maxHeartbeats 8000000
namespace K8
open PySem PySem.Spec PyProof.Rows L2 Pk Mt
theorem len_app (a b : Str) : (a ++ b).length = a.length + b.length := by
  rw [TL.len_tl, TL.tl_append, List.length_append, ← TL.len_tl, ← TL.len_tl]
theorem PairOk.ne {H : Hp} {v : V} {d l : Addr} (h : PairOk H v) (D : Deck H d l) {H' : Hp} (f : Fr d l H H') : PairOk H' v := by
  obtain ⟨p, o, t, u, n, y, z, e, h1, h2⟩ := h
  obtain ⟨m, k, ns, e1, e2, _⟩ := D
  exact ⟨p, o, t, u, n, y, z, e, f _ _ (fun q => by rw [q, e1] at h1; cases h1) (fun q => by rw [q, e2] at h1; cases h1) h1, h2⟩
section
variable {P : Program} {w : World} {K : PySem.W.Frag} {mg : Str → Option Value} {base : Heap}
/-! ### _law_changed -/
structure TT (X : Cx) (st : List Stmt) (t : TS) : Prop where
  run : PSsT X st t
structure T1 (X : Cx) (st : Stmt) (t : TS) : Prop where
  run : PST X st t
theorem tt_cons {X : Cx} {st : Stmt} {rest : List Stmt} {t u : TS} (h1 : T1 X st t) (h2 : TT X rest u) : TT X (st :: rest) (tSeq t u) := ⟨psst_cons h1.run h2.run⟩
theorem t1_of {X : Cx} {st : Stmt} {t : TS} (h : PS X st t) : T1 X st t := ⟨PST.of h⟩
theorem tt_of {X : Cx} {st : List Stmt} {t : TS} (h : PSs X st t) : TT X st t := ⟨PSsT.of h⟩
structure E1 (X : Cx) (e : Expr) (t : TE) : Prop where
  run : PET X e t
structure A1 (X : Cx) (es : List Expr) (t : TA) : Prop where
  run : PAT X es t
theorem a1_nil {X : Cx} : A1 X [] (tPairs 0) := ⟨pairs_nil⟩
theorem a1_cons {X : Cx} {e : Expr} {es : List Expr} {k : Nat} (h1 : E1 X e tPairOk) (h2 : A1 X es (tPairs k)) (hs : starEach (e :: es) X.env = (false, eval e X.env) :: starEach es X.env := by rfl) : A1 X (e :: es) (tPairs (k + 1)) := ⟨pairs_cons h1.run h2.run hs⟩
theorem e1_two {X : Cx} {y z : Str} {j0 j1 k2 : Nat} {c0 c1 pos : Pos} (hyz : (y == z) = false) (hz : z.length ≤ 41) : E1 X (.Tuple [.Constant (.str y) j0 c0, .Constant (.str z) j1 c1] k2 pos) tPairOk := ⟨pet_two hyz hz⟩
theorem e1_many {X : Cx} {j0 j1 j2 k2 : Nat} {c0 c1 c2 bp pos : Pos} : E1 X (.Tuple [.Constant (.str "1") j0 c0, .BinOp (.Constant (.str "1") j1 c1) .Mult (.Constant (.int 41) j2 c2) bp] k2 pos) tPairOk := ⟨pet_many⟩
theorem e1_lst {X : Cx} {es : List Expr} {ta : TA} {pos : Pos} (h : A1 X es ta) : E1 X (.List es pos) (tLst ta) := ⟨pet_lst h.run⟩
theorem t1_set {X : Cx} {i : Nat} {x : Str} {e : Expr} {te : TE} {px pos : Pos} (hN : X.N.Nodup) (hi : X.N[i]? = some x) (hx : Loc X.env.scope x) (he : E1 X e te)
    (hs : swapsWith e (some (.Name x px)) pos.line X.env = pure false := by rfl) (hf : X.fn x = true ∨ X.env.scope.names.lookup x = some .local := by first | exact .inl rfl | exact .inr rfl | assumption) :
    T1 X (.Assign [.Name x px] e pos) (tAsg te (gName i)) := ⟨pst_set hN hi hx he.run hs hf⟩
def spChanged : Sp := fun vs H Q _ => ∃ d l t, vs = [.ref d, .str t] ∧ Deck H d l ∧ t.length ≤ 13140 ∧ ∀ (z : Str) H', z.length ≤ 900000 → Fr d l H H' → Deck H' d l → Q (.str z) H'
theorem ok_changed (T : Facts K mg) : FnOk P w K mg base CX0 3 T.f_law_changed T.d_law_changed ["deck", "text"] spChanged := by
  refine okT T.F_law_changed c_law_changed (by decide +kernel) (by decide) (fun vs H Q E h => ?_) (fun cdv A outer s H vs Q E hr h => ?_)
  · obtain ⟨d, l, t, rfl, _⟩ := h
    rfl
  obtain ⟨d, l, t, rfl, D, hl, q⟩ := h
  refine ⟨_, TT.run (tt_cons (t1_of (ps_par3 (i := 2) (j := 3) (l := 4) rfl c_law_changed.nd rfl rfl rfl (by decide) (by decide) (by decide) rfl rfl rfl
      (pa_cons (pe_call (ok_draw T) (hr.mono (by decide)) (by rfl) T.m_law_draw T.F_law_draw.kp T.b_law_draw .nil pass0 (pa_cons (pv 0) (pa_cons pe_int pa_nil)))
      (pa_cons (pe_call (ok_draw T) (hr.mono (by decide)) (by rfl) T.m_law_draw T.F_law_draw.kp T.b_law_draw .nil pass0 (pa_cons (pv 0) (pa_cons (pe_op op_add (pe_callB call_len_str (by rfl) T.z_len (by decide +kernel) (pa_cons (pv 1) pa_nil)) pe_int) pa_nil)))
      (pa_cons (pe_call (ok_pick T) hr (by rfl) T.m_law_pick T.F_law_pick.kp T.b_law_pick .nil pass0 (pa_cons (pv 0) (pa_cons pe_str pa_nil))) pa_nil))) (by rfl)))
    (tt_cons (t1_of (ps_if (pt_cmpR op_eq (pv 2) pe_int (nomark _)) (pss_one (ps_ret (pe_op op_add_str (pe_slice sl_str (pv 1) po_none (po_some (pv 3))) (pe_slice sl_str (pv 1) (po_some (pe_op op_add (pv 3) pe_int)) po_none)))) pss_nil))
    (tt_cons (t1_of (ps_if (pt_cmpR op_eq (pv 2) pe_int (nomark _)) (pss_one (ps_ret (pe_op op_add_str (pe_op op_add_str (pe_slice sl_str (pv 1) po_none (po_some (pv 3))) (pv 4)) (pe_slice sl_str (pv 1) (po_some (pv 3)) po_none)))) pss_nil))
    (tt_cons (t1_of (ps_if (pt_cmpR op_eq (pv 2) pe_int (nomark _)) (pss_one (ps_ret (pe_op op_add_str (pe_op op_add_str (pe_slice sl_str (pv 1) po_none (po_some (pv 3))) (pv 4)) (pe_slice sl_str (pv 1) (po_some (pe_op op_add (pv 3) pe_int)) po_none)))) pss_nil))
    (tt_cons (t1_of (ps_if (pt_cmpR op_eq (pv 2) pe_int (nomark _)) (pss_one (ps_ret (pe_op op_add_str (pv 1) (pe_call (ok_pick T) hr (by rfl) T.m_law_pick T.F_law_pick.kp T.b_law_pick .nil pass0 (pa_cons (pv 0) (pa_cons
        (pe_lst (pa_cons pe_str (pa_cons pe_str (pa_cons pe_str (pa_cons pe_str (pa_cons pe_str (pa_cons pe_str pa_nil))))))) pa_nil)))))) pss_nil))
    (tt_cons (t1_set (i := 5) c_law_changed.nd rfl (.inl rfl) (e1_lst
      (a1_cons (e1_two (by decide +kernel) (by decide +kernel)) (a1_cons (e1_two (by decide +kernel) (by decide +kernel)) (a1_cons (e1_two (by decide +kernel) (by decide +kernel)) (a1_cons (e1_two (by decide +kernel) (by decide +kernel))
      (a1_cons (e1_two (by decide +kernel) (by decide +kernel)) (a1_cons (e1_two (by decide +kernel) (by decide +kernel)) (a1_cons (e1_two (by decide +kernel) (by decide +kernel)) (a1_cons (e1_two (by decide +kernel) (by decide +kernel))
      (a1_cons (e1_two (by decide +kernel) (by decide +kernel)) (a1_cons (e1_two (by decide +kernel) (by decide +kernel)) (a1_cons e1_many (a1_cons (e1_two (by decide +kernel) (by decide +kernel)) (a1_cons (e1_two (by decide +kernel) (by decide +kernel)) a1_nil)))))))))))))))
    (tt_of (psst_swap (ia := 6) (ib := 7) (it := 1) rfl c_law_changed.nd rfl rfl rfl (by decide) (by decide) (by decide) rfl rfl (.inl rfl) (pe_call (ok_pick T) hr (by rfl) T.m_law_pick T.F_law_pick.kp T.b_law_pick .nil pass0 (pa_cons (pv 0) (pa_cons (pv 5) pa_nil))))))))))), ?_⟩
  have lsl : t.length ≤ sizeLine := small (by omega)
  refine ⟨_, rfl, d, l, 7, rfl, D, by decide, by decide, fun r H1 r0 r1 f1 D1 => ?_⟩
  refine ⟨_, rfl, _, rfl, t, rfl, lsl, _, _, rfl, rfl, d, l, _, rfl, D1, by omega, by omega, fun at_ H2 a0 a1 f2 D2 => ?_⟩
  refine ⟨_, rfl, d, l, _, rfl, D2, .inr ⟨_, rfl, by decide +kernel, by decide +kernel, fun c H3 f3 D3 => ⟨_, _, _, rfl, ?_⟩⟩⟩
  have f := (f1.trans f2).trans f3
  have lc : ((⟨#[c]⟩ : Str)).length = 1 := rfl
  have c1 : ∀ lo hi, (cutS t lo hi).length ≤ 13140 := fun lo hi => Nat.le_trans (cutS_length t lo hi) hl
  refine ⟨_, rfl, rfl, _, rfl, ite2 (fun _ => ?_) (fun _ => ⟨_, rfl, rfl, _, rfl, ite2 (fun _ => ?_) (fun _ => ⟨_, rfl, rfl, _, rfl, ite2 (fun _ => ?_) (fun _ => ⟨_, rfl, rfl, _, rfl, ite2 (fun _ => ?_) (fun _ => ?_)⟩)⟩)⟩)⟩
  · refine ⟨_, rfl, _, rfl, _, rfl, t, rfl, lsl, _, rfl, _, rfl, _, _, rfl, rfl, _, rfl, t, rfl, lsl, _, _, rfl, rfl, small ?_, q _ _ ?_ f D3⟩
    · have := c1 none (some at_); have := c1 (some (at_ + 1)) none; omega
    · rw [len_app]
      have := c1 none (some at_); have := c1 (some (at_ + 1)) none; omega
  · refine ⟨_, rfl, _, rfl, _, rfl, t, rfl, lsl, _, rfl, _, _, rfl, rfl, small ?_, _, rfl, _, rfl, _, rfl, t, rfl, lsl, _, _, rfl, rfl, small ?_, q _ _ ?_ f D3⟩
    · have := c1 none (some at_); rw [lc]; omega
    · rw [len_app, lc]; have := c1 none (some at_); have := c1 (some at_) none; omega
    · rw [len_app, len_app, lc]; have := c1 none (some at_); have := c1 (some at_) none; omega
  · refine ⟨_, rfl, _, rfl, _, rfl, t, rfl, lsl, _, rfl, _, _, rfl, rfl, small ?_, _, rfl, _, rfl, _, _, rfl, rfl, _, rfl, t, rfl, lsl, _, _, rfl, rfl, small ?_, q _ _ ?_ f D3⟩
    · have := c1 none (some at_); rw [lc]; omega
    · rw [len_app, lc]; have := c1 none (some at_); have := c1 (some (at_ + 1)) none; omega
    · rw [len_app, len_app, lc]; have := c1 none (some at_); have := c1 (some (at_ + 1)) none; omega
  · refine ⟨_, rfl, _, rfl, by show 6 ≤ sizeLine; decide, fun a ha => ⟨d, l, _, rfl, D3.same (same_new ha _), .inl ⟨a, _, rfl, (D3.new ha).2, upd_same, (by show 1 ≤ 6; decide), (by show 6 ≤ 1000; decide), fun v hv H4 f4 D4 => ?_⟩⟩⟩
    obtain ⟨s, hs, rfl⟩ : ∃ s : Str, s.length ≤ 2 ∧ v = .str s := by
      have six : ∀ s ∈ ([Str.ofString " ", Str.ofString "\n", Str.ofString ")", Str.ofString " 1", Str.ofString "()", Str.ofString "'"] : List Str), s.length ≤ 2 := by decide +kernel
      have : v ∈ ([Str.ofString " ", Str.ofString "\n", Str.ofString ")", Str.ofString " 1", Str.ofString "()", Str.ofString "'"] : List Str).map V.str := hv
      obtain ⟨s, h1, h2⟩ := List.mem_map.mp this
      exact ⟨s, six s h1, h2.symm⟩
    refine ⟨_, _, rfl, rfl, small (by omega), q _ _ (by rw [len_app]; omega) (f.trans ((Fr.of (same_new ha _)).trans f4)) D4⟩
  · refine fun vs H4 s4 hv hlen => ⟨by rw [hlen]; decide, fun a ha => ?_⟩
    have s5 := same_new ha (.lst vs)
    have D5 := (D3.same s4).same s5
    refine ⟨_, rfl, _, rfl, d, l, _, rfl, D5, .inl ⟨a, vs, rfl, ((D3.same s4).new ha).2, upd_same, by omega, by omega, fun v hvm H6 f6 D6 => ⟨((hv v hvm).mono s5).ne D5 f6, t, rfl, by omega, fun z hz => q z H6 hz (f.trans ((Fr.of (s4.trans s5)).trans f6)) D6⟩⟩⟩
/-! ### how long repr's text is -/
theorem int_len (n : Int) : (Str.ofString (toString n)).length = (intL n).length := by rw [TL.len_tl, tl_int]
mutual
theorem shown_len : ∀ f : PyData, low f = true → f.shown.length + 2 ≤ 12 * tw f
  | .none, _ => by
    have : (PyData.none).shown.length = 4 := by simp only [PyData.shown]; decide +kernel
    simp only [tw]; omega
  | .bool b, _ => by
    have : (PyData.bool b).shown.length ≤ 5 := by cases b <;> simp only [PyData.shown] <;> decide +kernel
    simp only [tw]; omega
  | .int n, _ => by
    have : (PyData.int n).shown.length = (intL n).length := by simp only [PyData.shown]; exact int_len n
    simp only [tw]; omega
  | .str x, h => by
    have hc : ∀ c ∈ x.cps.toList, c < 16 ^ 8 := fun c hc => by
      have h : (TL.tl x).all (· < 1000) = true := by simpa [low] using h
      have := List.all_eq_true.mp h c hc
      have := of_decide_eq_true this
      omega
    have := PySem.StrLaws.reprText_len x hc
    have e := TL.len_tl x
    simp only [PyData.shown, tw]; omega
  | .list ds, h => by
    have ih := shown_lenA ds (by simpa [low] using h)
    have := PySem.listText_len_le (PyData.shownAll ds)
    simp only [PyData.shown, tw]; omega
  | .tuple ds, h => by
    have ih := shown_lenA ds (by simpa [low] using h)
    have := PySem.tupleText_len_le (PyData.shownAll ds)
    simp only [PyData.shown, tw]; omega
  | .dict kvs, h => by
    have : kvs = [] := by simpa [low] using h
    subst this
    have : (PyData.dict []).shown.length = 2 := by simp only [PyData.shown, PyData.shownKv]; decide +kernel
    simp only [tw]; omega
theorem shown_lenA : ∀ ds : List PyData, lowA ds = true → ((PyData.shownAll ds).map (·.length)).sum + 2 * (PyData.shownAll ds).length ≤ 12 * twA ds
  | [], _ => by simp [PyData.shownAll, twA]
  | d :: ds, h => by
    have h' : low d = true ∧ lowA ds = true := by simpa [lowA] using h
    have i1 := shown_len d h'.1
    have i2 := shown_lenA ds h'.2
    simp only [PyData.shownAll, List.map_cons, List.sum_cons, List.length_cons, twA]
    omega
end
end
end K8

set_option Elab.async false
set_option linter.all false
set_option maxRecDepth 100000
set_option maxHeartbeats 4000000
/-! an own error over Exception, one field set by its __init__ -/
namespace XcI
open PySem PySem.W PySem.Calls PyProof.Rows PySem.HandSPX PySem.Builtin PySem.Builtin.ObjectAttr
abbrev xTail : List Value := [.type "Exception", .type "BaseException", .type "object"]
/-- own classes, then Exception's mro -/
inductive Own : List Value → Prop
  | end_ : Own xTail
  | cons (c : Addr) {l : List Value} : Own l → Own (.ref c :: l)
theorem Own.pass (self : Value) {l : List Value} (h : Own l) : refuseLoop self "__setattr__" l = pure () := by
  induction h with
  | end_ => exact F.store_Exception.passes self
  | cons c _ ih => rw [refuseLoop_ref]; exact ih
theorem Own.has (X : String) {l : List Value} (h : Own l) : l.contains (.type X) = xTail.contains (.type X) := by
  induction h with
  | end_ => rfl
  | cons c _ ih => rw [List.contains_cons, ih]; rfl
theorem Own.ne {l : List Value} (h : Own l) : l.isEmpty = false := by cases h <;> rfl
section
variable {prog : Program} {w : World} {A : Around} {R : Result → Shared → Prop} {hp : Heap} {g : Array GenState} {d : Drawn} {t : Nat} {os : OsState}
theorem set_first {K : W.Frag} {name : Str} {tk : Tok} {v : Value} {x C : Addr} {fv : Array Value} {cd : ClassData}
    (X : K.In hp) (hx : hp.get? x = some { cls := .ref C, data := .fields fv }) (hcd : W.clsIn K C = some cd) (hm : Own cd.mro) (hh : cd.hasDict = true) (ha : W.findIn K (.ref C) name = some none)
    (hq : ∀ h' tk' dx, (∀ b o, b ≠ x → hp.get? b = some o → h'.get? b = some o) → hp.objs.size ≤ dx → dx ≠ x → h'.get? x = some { cls := .ref C, dict := some dx, data := .fields fv } →
      h'.Ns1 dx (fun y => if y = name then some v else none) → R (.ok (.ret .none)) ⟨h', g, d, tk', os⟩) :
    codeAny (model prog w) A (.call (.builtin "object.__setattr__") ⟨[.ref x, .str name tk, v], []⟩) R ⟨hp, g, d, t, os⟩ := by
  have inst : W.InstAt hp x { cls := .ref C, data := .fields fv } C none := ⟨hx, rfl, rfl, trivial⟩
  have facts := F.store_object
  have full := hm.ne
  have isObj : cd.mro.contains (.type "object") = true := (hm.has "object").trans (by decide +kernel)
  have old : x ≠ hp.objs.size := Nat.ne_of_lt (Heap.lt_size hx)
  have sub : W.Looks (model prog w) hp (isInstance (.ref x) (.type "object")) true := inst.type.andThen (W.looks_mroIn X (by unfold W.mroIn; rw [hcd, Option.bind_some, if_neg (by rw [full]; decide), isObj]))
  refine codeAny_call_builtin facts.slot.plain facts.entry (@W.check_slot (model prog w) _ _ ⟨hp, g, d, t, os⟩ "object.__setattr__" "object" "__setattr__" (.ref x) [.str name tk, v] [] _ facts.kind facts.split sub (facts.args (.ref x) (.str name tk) v) ?_)
  have mro : W.Looks (model prog w) hp (mroOf (.ref C)) cd.mro := (W.looks_clsIn X hcd).andThen .now
  have taker : W.Looks (model prog w) hp (storeTaker? none) none := .now
  have cls : W.Looks (model prog w) hp (classData C) cd := W.looks_clsIn X hcd
  rw [W.osa_eq, refuse_eq]
  refine wpAny_bind (wpAny_bind (inst.type.at (wpAny_bind (mro.at ?_))))
  rw [hm.pass]
  refine wpAny_pure (wpAny_bind (inst.type.at (wpAny_bind ((W.looks_findIn X ha).at (wpAny_bind (taker.at ?_))))))
  show wpAny _ _ (storeInOwnDict (.ref x) (.ref C) (.str name tk) name v false) _ _ _
  obtain ⟨nm, bs, mro_, ns, qn, hd, sn, sb, ab, col, del⟩ := cd
  dsimp only at hh
  subst hh
  unfold storeInOwnDict ownDictForStores
  repeat (first | with_reducible refine store_in_new ?_ ?_ | with_reducible refine wpAny_loadPart_at hx ?_ | with_reducible refine cls.at ?_ | wp_step)
  · exact ⟨_, #[], _, (Heap.get?_update_ne _ _ _ _ old.symm).trans (Heap.get?_push_at rfl rfl), rfl, fun e he => absurd he (by simp), fun _ => rfl⟩
  · intro h' tk' hn' hs
    have hx1 : (hp.push { cls := .type "dict", data := .dict #[] }).get? x = some { cls := .ref C, data := .fields fv } := Heap.get?_push_of_some _ hx
    refine hq h' tk' hp.objs.size (fun b o hb ho => ?_) (Nat.le_refl _) old.symm ?_ hn'
    · exact (hs.2 b (Nat.ne_of_lt (Heap.lt_size ho))).trans ((Heap.get?_update_ne _ _ _ _ hb).trans (Heap.get?_push_of_some _ ho))
    · exact (hs.2 x old).trans (Heap.get?_update_self _ hx1 rfl)
end
/-! ### the text of __init__ -/
def iA (p1 p2 : Pos) : Arguments := { posonlyargs := [], args := [{ arg := "self", annotation := none, pos := p1 }, { arg := "line", annotation := none, pos := p2 }], vararg := none, kwonlyargs := [], kw_defaults := [], kwarg := none, defaults := [] }
def iB (q1 q2 q3 q4 : Pos) : List Stmt := [.Assign [.Attribute (.Name "self" q1) "line" q2] (.Name "line" q3) q4]
def iS : Scope := { kind := .function, names := [(PySem.Str.ofString "self", .local), (PySem.Str.ofString "line", .local)], isGenerator := false, isCoroutine := false, more := [] }
/-- what the written part says of InvalidText, at C, of FlowError, at D, and of __init__, at fI -/
structure Txt (K : Frag) (mg : Str → Option Value) (C D fI : Addr) : Prop where
  gC : mg "InvalidText" = some (.ref C)
  gD : mg "FlowError" = some (.ref D)
  cls : ∃ nm q N bs bm sn sub ab col dd k0 k1 k2 k3 k5, K.lookup C = some (excClassObj nm q C N bs bm true sn sub ab col dd k0 k1 k2 k3 k5 "Exception.__new__") ∧ Own bm
  sa : findIn K (.ref C) "__setattr__" = some (some (.builtin "object.__setattr__"))
  ga : findIn K (.ref C) "__getattribute__" = some (some (.builtin "BaseException.__getattribute__"))
  gg : findIn K (.ref C) "__getattr__" = some none
  noN : findIn K (.ref C) "line" = some none
  iC : findIn K (.ref C) "__init__" = some (some (.ref fI))
  tC : typeIn K (.ref fI) = some (.type "function")
  kC : keepIn K (.ref C) = true
  exC : subIn K (.ref C) (.type "BaseException") = some true
  tyC : typeIn K (.ref C) = some (.type "type")
  hdC : hasDictIn K C = true
  te : exmOne K (.ref C) (.ref C) = some true
  cc : findIn K (.ref C) "__class__" = some (some (.builtin "object.__class__"))
  sp : specialIn K (.builtin "object.__class__") "__get__" = some (some (.builtin "getset_descriptor.__get__"))
  tk : takesIn K (.builtin "object.__class__") = some true
  mo : mroIn K C (.type "object") = some true
  kit : kitOne K (.ref C) (.ref D) = some true
  fn : ∃ (oc : Value) (od : Option Addr) (doc pm : Value) (an : Option Addr) (cdv ct : Value) (osl : Array (Option Value)) (p1 p2 q1 q2 q3 q4 : Pos),
    K.lookup fI = some ⟨oc, od, .func (fnOf "__init__" "InvalidText.__init__" (iA p1 p2) (iB q1 q2 q3 q4) iS .none .none doc pm an cdv ct), osl⟩ ∧ codeIn K cdv "InvalidText.__init__" = true
theorem one_size (v : Value) : [v].length ≤ sizeLine := by show 1 ≤ sizeLine; decide
theorem ldN {M : Model} {s : Shared} {name : Str} {scope : Scope} {L a : Addr} {cd : Value} {m : Str → Option Value} {x : Str} {pos : Pos} {v : Value} {Q : Value → Shared → Prop} {A : Around} {E : Value → Shared → Prop} (hn : s.heap.Ns L m) (hv : m x = some v) (h : Q v s)
    (hk : scope.kind = .function := by rfl) (hl : (envOfC name scope L a cd).kindOf x = some .local := by rfl) (hd : (x == ("__debug__" : Str)) = false := by decide) :
    wpAny M A (eval (.Name x pos) (envOfC name scope L a cd)) Q E s := wpAny_Name (wpAny_loadName_local hk hl hn hv h) hd
/-- what __init__ leaves of a fresh error at x -/
structure Left (h h' : Heap) (x C dx t1 : Addr) (v : Value) : Prop where
  keep : ∀ b o, b ≠ x → h.get? b = some o → h'.get? b = some o
  obj : h'.get? x = some { cls := .ref C, dict := some dx, data := .fields #[.ref t1, .none, .none, .none, .bool false, .none] }
  dbig : h.objs.size ≤ dx
  dne : dx ≠ x
  ns : h'.Ns1 dx (fun y => if y = "line" then some v else none)
/-- a made one -/
structure Made (h h' : Heap) (e C d : Addr) (v : Value) : Prop where
  keep : ∀ b o, h.get? b = some o → h'.get? b = some o
  new : h.objs.size ≤ e
  obj : ∃ oe vs, h'.get? e = some oe ∧ oe.cls = .ref C ∧ oe.dict = some d ∧ oe.data = .fields vs ∧ vs[1]? = some .none
  dbig : h.objs.size ≤ d
  dne : d ≠ e
  ns : h'.Ns1 d (fun y => if y = "line" then some v else none)
section
variable {prog : Program} {w : World} {A : Around} {E : Value → Shared → Prop} {R : Result → Shared → Prop} {s : Shared} {K : Frag} {mg : Str → Option Value} {C D fI : Addr}
theorem init_run (T : Txt K mg C D fI) {x t0 : Addr} {v : Value} (X : K.In s.heap) (hlim : s.heap.NoLimit) (hx : s.heap.get? x = some (excO C t0)) (hnx : K.lookup x = none) (hroom : A.depth < recursionLimit)
    (hq : ∀ h' tk dx, Left s.heap h' x C dx t0 v → R (.ok (.ret .none)) { s with heap := h', toks := tk }) :
    codeAny (model prog w) A (.call (.ref fI) ⟨[.ref x, v], []⟩) R s := by
  obtain ⟨oc, od, doc, pm, an, cdv, ct, osl, p1, p2, q1, q2, q3, q4, ho, hcd⟩ := T.fn
  obtain ⟨nm, q, N, bs, bm, sn, sub, ab, col, dd, k0, k1, k2, k3, k5, hC, hbm⟩ := T.cls
  have hcl : clsIn K C = some { name := nm, bases := bs, mro := .ref C :: bm, ns := N, qualname := q, hasDict := true, slotNames := sn, subclasses := sub, abstract := ab, collection := col, hasDel := false } := by unfold clsIn; rw [hC] <;> rfl
  refine Att.call_fn (binds := [("self", .ref x), ("line", v)]) X hlim ho hcd hroom (BindsTo.of_eq (by first | rfl | with_unfolding_all rfl)) (by first | rfl | decide | with_unfolding_all rfl) (fun s₁ IC => ?_) rfl rfl rfl
  obtain ⟨h₁, tk₁, rfl⟩ := IC.toInCall.same
  have k : ∀ b o, s.heap.get? b = some o → h₁.get? b = some o := IC.toInCall.keep
  have hn := IC.toInCall.ns
  have X₁ : K.In h₁ := X.keeps k
  have hx₁ := k _ _ hx
  show wpAny _ _ (execs _ _) _ _ _
  refine wpAny_execs_cons (plainObj_wpAny_Assign_Attribute ?_)
  refine ldN (v := v) hn (by first | rfl | with_unfolding_all rfl | kernel_rfl) (ldN (v := .ref x) hn (by first | rfl | with_unfolding_all rfl | kernel_rfl) ?_)
  refine set_plain X₁ (ox := excO C t0) (od := none) ⟨hx₁, rfl, rfl, trivial⟩ T.sa ?_
  refine set_first X₁ hx₁ hcl (.cons C hbm) rfl T.noN (fun h₃ tk₃ dx k₃ dn dne hx₃ hn₃ => ?_)
  show wpAny _ _ (execs _ _) _ _ _
  have z : s.heap.objs.size < h₁.objs.size := hn.lt
  exact wpAny_execs_nil (hq h₃ tk₃ dx ⟨fun b o hb e => k₃ b o hb (k b o e), hx₃, Nat.le_of_lt (Nat.lt_of_lt_of_le z dn), dne, hn₃⟩)
theorem made_run (T : Txt K mg C D fI) {v : Value} (X : K.In s.heap) (hlim : s.heap.NoLimit) (hroom : A.depth + 1 < recursionLimit)
    (hq : ∀ h' tk e d, Made s.heap h' e C d v → R (.ok (.ret (.ref e))) { s with heap := h', toks := tk }) :
    codeAny (model prog w) A (.call (.ref C) ⟨[v], []⟩) R s := by
  obtain ⟨nm, q, N, bs, bm, sn, sub, ab, col, dd, k0, k1, k2, k3, k5, hC, hbm⟩ := T.cls
  obtain ⟨hp, g, dr, tk, os⟩ := s
  have k : ∀ b o, hp.get? b = some o → ((hp.push (kdv_tup [v])).push (excO C hp.objs.size)).get? b = some o := fun b o e => Heap.get?_push_of_some _ (Heap.get?_push_of_some _ e)
  have hget : ((hp.push (kdv_tup [v])).push (excO C hp.objs.size)).get? (hp.objs.size + 1) = some (excO C hp.objs.size) := by heap_get
  have hnx : K.lookup (hp.objs.size + 1) = none := by
    cases e : K.lookup (hp.objs.size + 1) with
    | none => rfl
    | some o =>
      have z : hp.get? (hp.objs.size + 1) = some o := X _ _ e
      exact absurd (Nat.lt_of_succ_lt (Heap.lt_size z)) (Nat.lt_irrefl _)
  refine call_own F.excBase_Exception (fun X => hbm.has X) (X _ _ hC) (looks_findIn X T.iC) (fun self => bind_fn X self T.tC) (one_size v) ?_
  refine init_run (s := ⟨(hp.push (kdv_tup [v])).push (excO C hp.objs.size), g, dr, tk, os⟩) T (X.keeps k) (hlim.keeps k) hget hnx ?_ fun h' tk' dx ⟨k', hx, dn, dne, hns⟩ => ?_
  · show A.depth + 1 < recursionLimit
    exact hroom
  · have old : ∀ b o, hp.get? b = some o → h'.get? b = some o := fun b o e => k' b o (Nat.ne_of_lt (Nat.lt_succ_of_lt (Heap.lt_size e))) (k b o e)
    have z : hp.objs.size + 1 + 1 ≤ dx := by
      first
        | (simpa only [Heap.size_push] using dn)
        | exact dn
        | (have q := dn; rw [Heap.size_push, Heap.size_push] at q; exact q)
    exact ⟨rfl, hq h' tk' (hp.objs.size + 1) dx ⟨old, Nat.le_succ _, ⟨_, _, hx, rfl, rfl, rfl, rfl⟩, Nat.le_trans (Nat.le_trans (Nat.le_succ _) (Nat.le_succ _)) z, dne, hns⟩⟩
end
end XcI
namespace XcI
open PySem PySem.Spec PyProof.Rows L2
theorem relO_line {v : V} {v' : Value} (r : RelV v v') (f : Str) : RelO (List.lookup f [(("line" : Str), v)]) (if f = "line" then some v' else none) := by
  by_cases hw : f = "line"
  · subst hw
    rw [if_pos rfl]
    have q : List.lookup ("line" : Str) [(("line" : Str), v)] = some v := by simp [List.lookup]
    rw [q]
    exact r
  · rw [if_neg hw]
    have qw : (f == ("line" : Str)) = false := by simpa using hw
    have q2 : List.lookup f [(("line" : Str), v)] = none := by simp [List.lookup, qw]
    rw [q2]
    trivial
section
variable {X : Cx} {C D fI : Addr}
/-- InvalidText(e) -/
def tMk (C : Addr) (ta : TA) : L2.St → Hp → XK → Prop := fun σ H Q => ta σ H fun vs H1 => ∃ v, vs = [v] ∧ ∀ d, H1 d = none → Q (.ref C) (some d) (upd H1 d (.xd [(("line" : Str), v)]))
theorem pmk {a : Expr} {ta : TA} {p pos : Pos} {k : Nat} (T : Txt X.K X.mg C D fI) (hr : Room k X.A) (ha : PA X [a] ta) (hg : Gl X "InvalidText" := by rfl)
    (he : starEach (a :: []) X.env = (false, eval a X.env) :: starEach [] X.env := by rfl) (hpl : (backTo pos (starEach [] X.env)).any (·.1) = false := by rfl) :
    PMk X (.Call (.Name "InvalidText" p) [a] [] pos) (tMk C ta) := by
  intro pins s σ H Q I h
  refine wpAny_Call_Name_kw (ld_glob I hg T.gC ?_)
  refine PySem.W.callWith_K (h₀ := X.base) I.ok.mod.kin T.kC (thn (ha.run pos pins s σ H _ I h) fun us s1 hh => ?_) he hpl
  obtain ⟨vs, H1, I1, r1, v, ev, q1⟩ := hh
  subst ev
  refine ⟨I1.kIn, ?_⟩
  cases r1 with
  | cons rv rn =>
    rename_i v' us'
    cases rn
    show wpAny _ _ (call (.ref C) [v']) _ _ _
    have hlim := I1.nolimit
    obtain ⟨hp, g, dr, tk, os⟩ := s1
    refine wpAny_call (made_run T I1.kIn hlim (by have := hr.dp; omega) fun h' tk' e d M => ?_)
    show MkP X pins σ Q (.ref e) ⟨h', g, dr, tk', os⟩
    obtain ⟨oe, fv, hoe, hc, hd, hdat, h1⟩ := M.obj
    have hns := M.ns
    obtain ⟨G', g1, g2⟩ := restrict h' fun b => decide (b ≠ e)
    have gk : ∀ b, b ≠ e → G'.get? b = h'.get? b := fun b hb => g1 b (decide_eq_true hb)
    have ge : G'.get? e = none := g2 e (by simp)
    have old : ∀ b o, hp.get? b = some o → G'.get? b = some o := fun b o q => (gk b (Nat.ne_of_lt (Nat.lt_of_lt_of_le (Heap.lt_size q) M.new))).trans (M.keep b o q)
    have ob : ObjOk X.prog X.w (upd H1 d (.xd [(("line" : Str), v)])) G' d (.xd [(("line" : Str), v)]) :=
      ⟨_, hns.at (fun o q => (gk d M.dne).trans q), fun f => relO_line rv f⟩
    have J : Inv X pins σ (upd H1 d (.xd [(("line" : Str), v)])) ⟨G', g, dr, tk', os⟩ := I1.laid (t' := tk') old M.dbig ob
    refine ⟨e, oe, fv, ⟨G', g, dr, tk', os⟩, _, .ref C, some d, rfl, J, fun b o q => ?_, ge, hoe, ⟨hc, hd⟩, hdat, h1, ?_, rfl, I1.bare, raises_own T.exC T.tyC, q1 d (I1.hok.fresh M.dbig)⟩
    · by_cases hb : b = e
      · have q' : G'.get? b = some o := q
        rw [hb, ge] at q'; cases q'
      · exact (gk b hb).symm.trans q
    · rw [upd_ne (Ne.symm M.dne)]
      exact I1.hok.fresh M.new
def tRaise (C : Addr) (W : WX) (ta : TA) : TS := fun _ σ H => tMk C ta σ H fun cls d H' => W cls d σ H'
theorem ps_raiseI {a : Expr} {ta : TA} {W : WX} {p pos pos2 : Pos} {k : Nat} (hc : X.calm = true) (T : Txt X.K X.mg C D fI) (hr : Room k X.A) (tk : Takes X W) (ha : PA X [a] ta) (hg : Gl X "InvalidText" := by rfl)
    (he : starEach (a :: []) X.env = (false, eval a X.env) :: starEach [] X.env := by rfl) (hpl : (backTo pos (starEach [] X.env)).any (·.1) = false := by rfl) :
    PS X (.Raise (some (.Call (.Name "InvalidText" p) [a] [] pos)) none pos2) (tRaise C W ta) := ps_raise hc tk (pmk T hr ha hg he hpl)
/-- the error that the suite holds: its class, its dict -/
def HeldI (H : Hp) (C : Addr) (cls : Value) (d : Option Addr) (v : V) : Prop := cls = .ref C ∧ ∃ dd, d = some dd ∧ H dd = some (.xd [(("line" : Str), v)])
def tByLine (C : Addr) (a : Addr) (cls : Value) (d : Option Addr) (te : TE) : TE := fun σ H Q => te σ H fun x H1 => x = .ref a ∧ ∃ v, HeldI H1 C cls d v ∧ Q v H1
theorem inst_of {a : Addr} {oe : Obj} {cls : Value} {d : Option Addr} {pn pins : List (Addr × Obj)} {σ : L2.St} {H : Hp} {s : Shared} {v : V} (I : Inv (X.suite a ((a, oe) :: pn)) pins σ H s) (hz : Zc cls d oe) (hf : ∃ vs, oe.data = .fields vs) (hh : HeldI H C cls d v) :
    ∃ (od : Obj) (u : Value), PySem.W.InstAt s.heap a oe C (some od) ∧ RelV v u ∧ PySem.W.lookIn "line" od = some (some u) := by
  obtain ⟨rfl, dd, rfl, hd⟩ := hh
  obtain ⟨ha, _⟩ := I.pin (a, oe) (List.mem_append_left _ List.mem_cons_self)
  obtain ⟨vs, hv⟩ := hf
  have hx : ObjOk X.prog X.w H s.heap dd (.xd [(("line" : Str), v)]) := I.hok dd _ hd
  obtain ⟨mA, hns, hr⟩ := hx
  obtain ⟨od, ho, hl⟩ := lookIn_ns hns
  have l : List.lookup ("line" : Str) [(("line" : Str), v)] = some v := by simp [List.lookup]
  obtain ⟨u, hu, ru⟩ := RelO.some_of (v := v) (o := mA "line") (by rw [← l]; exact hr "line")
  exact ⟨od, u, ⟨ha, hz.1, by unfold PySem.W.notCls; rw [hv] <;> rfl, by rw [hz.2]; exact ho⟩, ru, by rw [hl, hu]⟩
/-- e.line -/
theorem pe_line {a : Addr} {oe : Obj} {cls : Value} {d : Option Addr} {pn : List (Addr × Obj)} {e : Expr} {te : TE} {pos : Pos} (T : Txt X.K X.mg C D fI) (hz : Zc cls d oe) (hf : ∃ vs, oe.data = .fields vs) (he : PE (X.suite a ((a, oe) :: pn)) e te)
    (hb : attributeBase e "line" X.env (eval e X.env) = eval e X.env := by rfl) :
    PE (X.suite a ((a, oe) :: pn)) (.Attribute e "line" pos) (tByLine C a cls d te) := by
  refine ⟨fun pins s σ H Q I h => ?_⟩
  refine attr_of hb (thn (he.run pins s σ H _ I h) fun u s1 hh => ?_)
  obtain ⟨x, H1, I1, rx, rfl, v, hv, q⟩ := hh
  obtain rfl : u = Value.ref a := rx
  obtain ⟨od, w', J, rw', hl⟩ := inst_of I1 hz hf hv
  exact HandSPX.exc_get I1.kIn J T.ga T.gg T.exC (PySem.W.findObj_own T.hdC T.noN rfl hl) (handed_of rw') ⟨v, H1, I1.tok _, rw', q⟩
/-- isinstance(e, FlowError) -/
def rIsF' (C D a : Addr) (cls : Value) (d : Option Addr) : List V → Hp → VK → Prop := fun xs H Q => ∃ v, xs = [.ref a, .ref D] ∧ HeldI H C cls d v ∧ Q (.bl true) H
theorem call_isF {a : Addr} {oe : Obj} {cls : Value} {d : Option Addr} {pn : List (Addr × Obj)} (T : Txt X.K X.mg C D fI) (hz : Zc cls d oe) (hf : ∃ vs, oe.data = .fields vs) : CallR (X.suite a ((a, oe) :: pn)) (.builtin "isinstance") (rIsF' C D a cls d) := by
  intro pins s σ H xs us Q I r h
  obtain ⟨v, rfl, hv, q⟩ := h
  obtain ⟨u1, u2, rfl, r1, r2⟩ := vals2 r
  cases r1
  cases r2
  obtain ⟨od, w', J, rw', hl⟩ := inst_of I hz hf hv
  exact PySem.W.kia_one (PySem.W.kitx_exc (od := some od) (by
    obtain ⟨nm, q, N, bs, bm, sn, sub, ab, col, dd, k0, k1, k2, k3, k5, hC, hbm⟩ := T.cls
    unfold PySem.W.clsIn; rw [hC]; rfl) T.ga T.gg T.exC T.cc T.sp T.tk T.mo) I.kIn J T.kit (fun z => nomatch z) fun tk => ⟨.bl true, H, I.kept (t' := tk) fun _ _ z => z, rfl, q⟩
end
end XcI

set_option Elab.async false
set_option linter.all false
set_option maxRecDepth 100000
set_option maxHeartbeats 8000000
namespace K8
open PySem PySem.Spec PyProof.Rows L2 Pk Mt
section
variable {P : Program} {w : World} {K : PySem.W.Frag} {mg : Str → Option Value} {base : Heap}
/-! ### read_paper -/
def spReadP (C : Addr) : Sp := fun vs H Q E => ∃ x e, vs = [x] ∧ Rp H x e ∧ (∀ t, e = .str t → t.length ≤ 3500) ∧ (∀ t d v H', e = .str t → Reads (TL.tl t) d → Same H H' → Rp H' v d → Q v H') ∧
  ((¬ ∃ t d, e = .str t ∧ Reads (TL.tl t) d) → ∀ dd H', Same H H' → H' dd = some (.xd [(("line" : Str), .int 0)]) → E (.ref C) (some dd) H')
theorem ok_read_paper {C D fI : Addr} (T : Facts K mg) (TX : XcI.Txt K mg C D fI) : FnOk P w K mg base (L2.CX P w) 4 T.f_read_paper T.d_read_paper ["text"] (spReadP C) := by
  refine T.F_read_paper.okX c_read_paper (fun vs H Q E h => ?_) (fun cdv A outer s H vs Q E hr h => ?_)
  · obtain ⟨x, e, rfl, _⟩ := h
    rfl
  obtain ⟨x, e, rfl, hx, hsh, q1, q0⟩ := h
  refine ⟨_, pss_cons (ps_set (i := 1) c_read_paper.nd rfl (.inl rfl) (pe_ifExp (pt_val (pis (T := "str") T.z_isinstance T.z_str (pv 0))) (pe_call (ok_paper_in T) hr (by rfl) T.m_paper_in T.F_paper_in.kp T.b_paper_in .nil pass0 (pa_cons (pv 0) pa_nil)) pe_non))
    (pss_cons (ps_if (PW.pt (pw_or (pt_cmpR op_isN (pv 1) pe_non (nomark _)) (pw_or (pt_not (pt_val (pe_call (ok_is_paper T) (hr.mono (by decide)) (by rfl) T.m_is_paper T.F_is_paper.kp T.b_is_paper .nil pass0 (pa_cons (pe_ix ix_tup (pv 1) pe_int (fun _ _ => rfl)) pa_nil))))
        (pw_or1 (pt_cmpR op_ne (pe_call (ok_paper_text T) (hr.mono (by decide)) (by rfl) T.m_paper_text T.F_paper_text.kp T.b_paper_text .nil pass0 (pa_cons (pe_ix ix_tup (pv 1) pe_int (fun _ _ => rfl)) pa_nil)) (pv 0) (nomark _))))))
      (pss_one (XcI.ps_raiseI rfl TX hr (takes_of (E := E) rfl rfl rfl rfl) (pa_cons pe_int pa_nil))) pss_nil)
    (pss_one (ps_ret (pe_ix ix_tup (pv 1) pe_int (fun _ _ => rfl))))), ?_⟩
  have out : (¬ ∃ t d, e = .str t ∧ Reads (TL.tl t) d) → ∀ H', Same H H' → ∃ v, [V.int 0] = [v] ∧ ∀ d, H' d = none → E (.ref C) (some d) (upd H' d (.xd [(("line" : Str), v)])) := fun h H' s => ⟨_, rfl, fun d hd => q0 h d _ (s.trans (same_new hd _)) upd_same⟩
  refine ⟨x, rfl, _, e, rfl, hx, _, rfl, ?_⟩
  cases hx with
  | non => exact iteF ⟨_, rfl, rfl, _, rfl, iteT (iteT (out (fun ⟨t, d, z, _⟩ => by cases z) _ (Same.refl _)))⟩
  | bl b => exact iteF ⟨_, rfl, rfl, _, rfl, iteT (iteT (out (fun ⟨t, d, z, _⟩ => by cases z) _ (Same.refl _)))⟩
  | int i => exact iteF ⟨_, rfl, rfl, _, rfl, iteT (iteT (out (fun ⟨t, d, z, _⟩ => by cases z) _ (Same.refl _)))⟩
  | lst h1 h2 => exact iteF ⟨_, rfl, rfl, _, rfl, iteT (iteT (out (fun ⟨t, d, z, _⟩ => by cases z) _ (Same.refl _)))⟩
  | tup h1 h2 => exact iteF ⟨_, rfl, rfl, _, rfl, iteT (iteT (out (fun ⟨t, d, z, _⟩ => by cases z) _ (Same.refl _)))⟩
  | dct h1 => exact iteF ⟨_, rfl, rfl, _, rfl, iteT (iteT (out (fun ⟨t, d, z, _⟩ => by cases z) _ (Same.refl _)))⟩
  | str t =>
    have hl := hsh t rfl
    have el := TL.len_tl t
    have hws := lexP_wsum (TL.tl t)
    have out : (∀ d, ¬ Reads (TL.tl t) d) → ∀ H', Same H H' → ∃ v, [V.int 0] = [v] ∧ ∀ d, H' d = none → E (.ref C) (some d) (upd H' d (.xd [(("line" : Str), v)])) := fun h => out (fun ⟨t', d, z, hd⟩ => by injection z with z; rw [← z] at hd; exact h d hd)
    refine iteT ⟨_, rfl, t, rfl, by omega, fun d v H1 p hrun s1 hp hv => ?_, fun hrun H1 s1 => ?_⟩
    · obtain ⟨k1, k2, k3⟩ := run_res tame_P hrun
      have only : ∀ d', Reads (TL.tl t) d' → d' = d := fun d' h => by
        have z := h.runP
        rw [hrun] at z
        injection z with z
        injection z with z _
        injection z with z _
        exact z.symm
      have hix : atI [v] 0 = some v := atI_nat (j := 0) rfl
      refine ⟨_, rfl, rfl, _, rfl, ?_⟩
      refine iteF ⟨_, rfl, p, [v], 0, v, rfl, rfl, SqT.of hp, hix, v, d, rfl, hv, by omega, fun H2 s2 => ⟨_, rfl, ?_⟩⟩
      by_cases hpd : isP d = true
      rotate_left
      · refine ifT (by simpa using hpd) ?_
        refine iteT (out (fun d' h => ?_) H2 (s1.trans s2))
        have := h.1
        rw [only d' h] at this
        exact hpd this
      refine ifF (by simpa using hpd) ⟨_, rfl, p, [v], 0, v, rfl, rfl, SqT.of (s2 _ _ hp), hix, v, d, rfl, hv.mono s2, hpd, k1, by omega, fun z H3 hz s3 => ⟨_, rfl, rfl, _, rfl, ?_⟩⟩
      rw [dec_str_of hz rfl]
      by_cases ht : txt d = TL.tl t
      · rw [decide_eq_true ht]
        exact iteF ⟨_, rfl, p, [v], 0, v, rfl, rfl, SqT.of (s3 _ _ (s2 _ _ hp)), hix, q1 t d v H3 rfl ⟨hpd, k1, ht⟩ ((s1.trans s2).trans s3) (hv.mono (s2.trans s3))⟩
      · rw [decide_eq_false ht]
        refine iteT (out (fun d' h => ?_) H3 ((s1.trans s2).trans s3))
        have := h.2.2
        rw [only d' h] at this
        exact ht this
    · exact ⟨_, rfl, rfl, _, rfl, iteT (iteT (out (fun d h => hrun d h.runP) H1 s1))⟩
/-! ### _law_heard, handed a lambda -/
/-- told ("told", what it gave), or ("text", line, True) -/
def TTold (C : Addr) : (XK → Hp → VK → Prop) → Hp → VK → Prop := fun tl H Q =>
  tl (fun cls d H' => ∃ v, XcI.HeldI H' C cls d v ∧ ∀ p, H' p = none → Q (.ref p) (upd H' p (.tup [.str "text", v, .bl true]))) H (fun v H' => [V.str "told", v].length ≤ sizeLine ∧ ∀ p, H' p = none → Q (.ref p) (upd H' p (.tup [.str "told", v])))
/-- a name just stored, the other slots not known -/
def tHeld (i : Nat) (a : Addr) : TE := fun σ H Q => (∃ σ0 : L2.St, σ = σ0.set i (some (.ref a))) ∧ Q (.ref a) H
theorem pe_held {X : Cx} (i : Nat) (a : Addr) {x : Str} {pos : Pos} (hN : X.N[i]? = some x := by rfl) (hv : Vis X.env.scope x := by exact Or.inl rfl) (hd : (x == ("__debug__" : Str)) = false := by decide)
    (hcd : (x == ("__classdict__" : Str)) = false := by decide) : PE X (.Name x pos) (tHeld i a) := by
  refine ⟨fun pins s σ H Q I h => ?_⟩
  obtain ⟨⟨σ0, rfl⟩, q⟩ := h
  have hl := I.len
  rw [List.length_set] at hl
  refine (pe_var (pos := pos) hN hv hd hcd).run pins s _ H Q I ⟨.ref a, ?_, q⟩
  exact List.getElem?_set_self (by rw [hl]; exact (List.getElem?_eq_some_iff.mp hN).1)
theorem heard_gives {X : Cx} {C D fI g : Addr} {cdg : Value} {q : Str} (T : Facts X.K X.mg) (TX : XcI.Txt X.K X.mg C D fI) :
    LamX.GivesTo X ["call", "e"] "_law_heard" (defScope s_law_heard) g cdg (defBody s_law_heard) "call" q (TTold C) := by
  intro f c' s H Q tl act hc h
  refine ⟨_, pss_one (ps_try_as (i := 1) (X := (cxOf C8.CX0 X.prog X.w X.K X.mg X.base ["call", "e"] "_law_heard" (defScope s_law_heard) g cdg X.A X.stack s H C8.E0).nox) (c := .ref C)
      (tb := fun W D σ H => ∃ Ech : XK, (∀ cls d σ' H', Ech cls d H' → W cls d σ' H') ∧ σ[0]? = some (some (.ref f)) ∧ H c' = some (LamX.CodeO c' q) ∧ tl Ech H fun v H' => [V.str "told", v].length ≤ sizeLine ∧ ∀ p, H' p = none → D.rt (.ref p) (upd H' p (.tup [.str "told", v])))
      rfl rfl c_law_heard.nd rfl rfl ⟨by rfl, by decide, .inl TX.gC⟩ takes0 (fun W pn xe tk _ => ?_)
      (fun a oe cls d pn hz hf => pss_one (ps_ret (pe_tup (pa_cons pe_str (pa_cons (XcI.pe_line TX hz hf (pe_held 1 a)) (pa_cons (pe_callB (XcI.call_isF TX hz hf) (by rfl) T.z_isinstance (by decide +kernel) (pa_cons (pe_held 1 a) (pa_cons (pe_glob (v := .ref D) (by rfl) TX.gD rfl) pa_nil))) pa_nil))))))), ?_⟩
  · refine ⟨fun pins s' σ H' D I h' => ?_⟩
    obtain ⟨Ech, hW, h1, h2, h3⟩ := h'
    exact PSs.run (pss_one (ps_ret (pe_tup (pa_cons pe_str (pa_cons (act W pn xe Ech _ _ tk hW) pa_nil))))) pins s' σ H' D I ⟨h1, h2, h3⟩
  · refine ⟨fun cls d H' => ∃ v, XcI.HeldI H' C cls d v ∧ ∀ p, H' p = none → Q (.ref p) (upd H' p (.tup [.str "text", v, .bl true])), fun cls d σ' H' ⟨v, hv, hq⟩ => ?_, rfl, hc, h⟩
    obtain ⟨rfl, dd, rfl, hd⟩ := id hv
    exact ⟨true, TX.te, fun _ a ha => ⟨⟨σ', rfl⟩, rfl, v, hv, ⟨σ', rfl⟩, v, rfl, hv, (by show 3 ≤ sizeLine; decide), fun p hp => hq p hp⟩, fun z => nomatch z⟩
end
end K8

set_option Elab.async false
set_option linter.all false
set_option maxRecDepth 100000
set_option maxHeartbeats 16000000
namespace K8
open PySem PySem.Spec PyProof.Rows L2 Pk Mt
/-! ### f(k = v) -/
section
variable {X : Cx} {CX : CXT} {k : Nat} {f : Addr} {fd : FuncData} {ps ks : List Str} {sp : Sp} {E : XK} {x : Str} {p pos : Pos} {kws : List Keyword} {tk : TA} {g : List Value → List Value → List Value} {gV : List V → List V → List V}
theorem pe_callK0 (F : FnOk X.prog X.w X.K X.mg X.base CX k f fd ps sp) (hr : Room k X.A) (hg : Gl X x) (hm : X.mg x = some (.ref f)) (hk : PySem.W.keepIn X.K (.ref f) = true) (hb : KBn X.K fd ps 0 ks g gV) (hx : Passes CX X E) (hkw : PK X kws tk)
    (hall : (backToKw pos (keywordEach kws X.env)).all (·.1.isSome) = true := by rfl) (hks : (backToKw pos (keywordEach kws X.env)).filterMap (·.1) = ks := by rfl) (hdb : (x == ("__debug__" : Str)) = false := by decide)
    (hpl : ((backTo pos (starEach [] X.env)).any (·.1) || (backToKw pos (keywordEach kws X.env)).any (·.1.isNone)) = false := by rfl) :
    PE X (.Call (.Name x p) [] kws pos) (tCallN 0 ks.length sp gV E tNil tk) := by
  refine ⟨fun pins s σ H Q I h => ?_⟩
  refine wpAny_Call_Name_kw (ld_glob I hg hm ?_ hdb)
  refine PySem.W.callWith_KW0 (h₀ := X.base) I.ok.mod.kin hk hall (thn (hkw.run pos pins s σ H _ I h) fun ws s2 q => ?_) hpl
  obtain ⟨zs, H2, I2, rz, l1, l2, q2⟩ := q
  refine ⟨I2.kIn, ?_⟩
  rw [hks]
  exact run_fnN (us := []) (vs := []) F hr hb hx I2 .nil rz rfl l2 q2
end
section
variable {K : PySem.W.Frag} {mg : Str → Option Value}
theorem kb1 {x qual : Str} {st : Stmt} {f : Addr} {fd : FuncData} {a : Str} (F : Fun K x qual st f fd)
    (h : ∀ (kV doc pm : Value) (an : Option Addr) (cdv ct u : Value), bindArgs (PySem.W.fnOf x qual (defArgs st) (defBody st) (defScope st) .none kV doc pm an cdv ct) ⟨[], [(a, u)]⟩ = pure [(a, u)]) : KBn K fd [a] 0 [a] (fun _ ws => ws) (fun _ zs => zs) := by
  obtain ⟨oc, od, kV, doc, pm, an, cdv, ct, osl, rfl, lk, hcd⟩ := F.ex
  refine ⟨fun s us ws _ l1 l2 => ?_, fun _ r => r⟩
  match us, ws, l1, l2 with
  | [], [u], _, _ => exact .of_eq (h kV doc pm an cdv ct u)
end
/-! ### what stays where a lambda is made, or cards are drawn -/
mutual
theorem Rp.extN {H H' : Hp} (e : LamX.ExtN H H') : ∀ {v : V} {d : PyData}, Rp H v d → Rp H' v d
  | _, _, .non => .non
  | _, _, .bl b => .bl b
  | _, _, .int i => .int i
  | _, _, .str x => .str x
  | _, _, .lst h r => .lst (e _ _ h fun _ z => nomatch z) (RpA.extN e r)
  | _, _, .tup h r => .tup (e _ _ h fun _ z => nomatch z) (RpA.extN e r)
  | _, _, .dct h => .dct (e _ _ h fun _ z => nomatch z)
theorem RpA.extN {H H' : Hp} (e : LamX.ExtN H H') : ∀ {vs : List V} {ds : List PyData}, RpA H vs ds → RpA H' vs ds
  | _, _, .nil => .nil
  | _, _, .cons r t => .cons (Rp.extN e r) (RpA.extN e t)
end
theorem Deck.extN {H H' : Hp} {d l : Addr} (D : Deck H d l) (e : LamX.ExtN H H') : Deck H' d l := by
  obtain ⟨m, n, ns, h1, h2, h3⟩ := D
  exact ⟨m, n, ns, e _ _ h1 (fun _ z => nomatch z), e _ _ h2 (fun _ z => nomatch z), h3⟩
theorem tabs_fr {T : List (Addr × Str)} {H H' : Hp} {d l : Addr} (t : LamX.Tabs T H) (D : Deck H d l) (f : Fr d l H H') : LamX.Tabs T H' := fun p hp => by
  obtain ⟨ps, h1, h2, h3⟩ := t p hp
  obtain ⟨m, n, ns, e1, e2, _⟩ := D
  refine ⟨ps, f _ _ (fun z => by rw [z, e1] at h1; cases h1) (fun z => by rw [z, e2] at h1; cases h1) h1, h2, fun pos cv hc => ?_⟩
  obtain ⟨c, k1, k2⟩ := h3 pos cv hc
  refine ⟨c, k1, f _ _ (fun z => ?_) (fun z => ?_) k2⟩
  · rw [z, e1] at k2; unfold LamX.CodeO at k2; cases k2
  · rw [z, e2] at k2; unfold LamX.CodeO at k2; cases k2
mutual
theorem noD_ok : ∀ d, okI d = true → noD d = true
  | .none, _ => by simp [noD]
  | .int _, _ => by simp [noD]
  | .str _, _ => by simp [noD]
  | .tuple ds, h => by simp only [noD]; exact noDA_ok ds (by simpa [okI] using h)
  | .bool _, h => by simp [okI] at h
  | .list _, h => by simp [okI] at h
  | .dict _, h => by simp [okI] at h
theorem noDA_ok : ∀ ds, okIA ds = true → noDA ds = true
  | [], _ => by simp [noDA]
  | d :: ds, h => by
    have h' : okI d = true ∧ okIA ds = true := by simpa [okIA] using h
    simp [noDA, noD_ok d h'.1, noDA_ok ds h'.2]
end
def tS (e : PyData) : Str := ⟨(txt e).toArray⟩
theorem tS_of {z : Str} {e : PyData} (h : TL.tl z = txt e) : z = tS e := TL.ext_tl h
/-- what may stand where a text is asked for -/
inductive Any2 (d l : Addr) (H : Hp) : V → PyData → Prop
  | pap {v : V} {f : PyData} : okI f = true → Rp H v f → Any2 d l H v f
  | bl (b : Bool) : Any2 d l H (.bl b) (.bool b)
  | lst {a : Addr} {vs : List V} {fs : List PyData} : a ≠ d → a ≠ l → H a = some (.lst vs) → okIA fs = true → RpA H vs fs → Any2 d l H (.ref a) (.list fs)
theorem Any2.fr {d l : Addr} {H H' : Hp} {v : V} {f : PyData} (h : Any2 d l H v f) (fr : Fr d l H H') (D : Deck H d l) : Rp H' v f := by
  cases h with
  | pap h1 h2 => exact h2.tups (fr.tups D) h1
  | bl b => exact .bl b
  | lst h1 h2 h3 h4 h5 => exact .lst (fr _ _ h1 h2 h3) (h5.tups (fr.tups D) h4)
/-- law's lambda is named so -/
def qLam : Str := ("law" ++ ".<locals>.") ++ "<lambda>"
end K8

set_option Elab.async false
set_option linter.all false
set_option maxRecDepth 100000
set_option maxHeartbeats 16000000
namespace K8
open PySem PySem.Spec PyProof.Rows L2 Pk Mt
def forBody : Stmt → List Stmt
  | .For _ _ b _ _ => b
  | _ => []
def noS : Stmt := .Pass ⟨0, 0, 0, 0⟩
def L1 : Stmt := (defBody s_law).getD 1 noS
def Li (i : Nat) : Stmt := (forBody L1).getD i noS
def Lj (i : Nat) : Stmt := (forBody (Li 6)).getD i noS
abbrev LN : List Str := ["script", "deck", "turn", "thing", "text", "again", "odd", "due", "shown"]
abbrev LX (P : Program) (w : World) (K : PySem.W.Frag) (mg : Str → Option Value) (base : Heap) (f c : Addr) (s : Shared) (H : Hp) : Cx := (cxOf CX0 P w K mg base LN "law" (defScope s_law) f (.ref c) callerA [] s H E0).nox
section
variable {P : Program} {w : World} {K : PySem.W.Frag} {mg : Str → Option Value} {base : Heap} {C D fI c tb f : Addr} {s : Shared} {H : Hp}
/-- the slots: the script, the deck, and the rest -/
abbrev Sl (sc : V) (d : Addr) (z2 z3 z4 z5 z6 z7 z8 : Option V) : L2.St := [some sc, some (.ref d), z2, z3, z4, z5, z6, z7, z8]
abbrev TL' (tb : Addr) : List (Addr × Str) := [(tb, qLam)]
theorem p0 (T : Facts K mg) (TX : XcI.Txt K mg C D fI) (TB : LamX.TabB base mg c tb) (hz : mg "repr" = none) (hr : Room 192 (callerA.deeper (envOfC "law" (defScope s_law) s.heap.objs.size f (.ref c)))) :
    ∃ t, PS (LX P w K mg base f c s H) (Li 0) t ∧ ∀ (sc : V) (d l : Addr), ∀ (E : Ends) (H1 : Hp) (z2 z3 z4 z5 z6 z7 z8 : Option V), Deck H1 d l → LamX.Tabs (TL' tb) H1 → (∀ v e H2, Rp H2 v e → Pap 13140 30 e → Deck H2 d l → LamX.Tabs (TL' tb) H2 → E.nx (Sl sc d z2 (some v) z4 z5 z6 z7 z8) H2) → t E (Sl sc d z2 z3 z4 z5 z6 z7 z8) H1 := by
  have hu : (callerA.deeper (envOfC "law" (defScope s_law) s.heap.objs.size f (.ref c))).units + 200 < cLine := by
    have := hr.un
    omega
  have kIP := kb1 (a := "thing") T.F_is_paper fun _ _ _ _ _ _ _ => rfl
  have kPT := kb1 (a := "thing") T.F_paper_text fun _ _ _ _ _ _ _ => rfl
  have kRP := kb1 (a := "text") T.F_read_paper fun _ _ _ _ _ _ _ => rfl
  refine ⟨_, (ps_set (i := 3) c_law.nd rfl (.inl rfl) (pe_ifExp (pt_cmpR op_gt (pe_call (ok_draw T) (hr.mono (by decide)) (by rfl) T.m_law_draw T.F_law_draw.kp T.b_law_draw .nil pass0 (pa_cons (pv 1) (pa_cons pe_int pa_nil))) pe_int (nomark _))
        (pe_call (ok_paper T 5) (hr.mono (by decide)) (by rfl) T.m_law_paper T.F_law_paper.kp T.b_law_paper .nil pass0 (pa_cons (pv 1) (pa_cons pe_int pa_nil)))
        (pe_call (ok_deep T) (hr.mono (by decide)) (by rfl) T.m_law_deep T.F_law_deep.kp T.b_law_deep .nil pass0 (pa_cons (pv 1) pa_nil)))), ?_⟩
  intro sc d l
  intro E H1 z2 z3 z4 z5 z6 z7 z8 Dk Tb q
  refine ⟨_, rfl, d, l, 4, rfl, Dk, by decide, by decide, fun r H2 r0 r1 f2 D2 => ⟨_, _, rfl, rfl, _, rfl, ite2 (fun _ => ?_) (fun _ => ?_)⟩⟩
  · exact ⟨_, rfl, d, l, 4, rfl, by decide, D2, fun v e H3 hp he f3 D3 => q v e H3 he (hp.mono (by decide) (by decide)) D3 (tabs_fr (tabs_fr Tb Dk f2) D2 f3)⟩
  · exact ⟨_, rfl, d, l, rfl, D2, fun v e H3 hp he f3 D3 => q v e H3 he (hp.mono (by decide) (by decide)) D3 (tabs_fr (tabs_fr Tb Dk f2) D2 f3)⟩
theorem p1 (T : Facts K mg) (TX : XcI.Txt K mg C D fI) (TB : LamX.TabB base mg c tb) (hz : mg "repr" = none) (hr : Room 192 (callerA.deeper (envOfC "law" (defScope s_law) s.heap.objs.size f (.ref c)))) :
    ∃ t, PS (LX P w K mg base f c s H) (Li 1) t ∧ ∀ (sc : V) (d l : Addr), ∀ (E : Ends) (H1 : Hp) (z2 z4 z5 z6 z7 z8 : Option V) (v : V) (e : PyData), Rp H1 v e → Pap 13140 30 e → Deck H1 d l → LamX.Tabs (TL' tb) H1 → (∀ v e H2, Rp H2 v e → Pap 13140 30 e → (txt e).length ≤ 3500 → Deck H2 d l → LamX.Tabs (TL' tb) H2 → E.nx (Sl sc d z2 (some v) z4 z5 z6 z7 z8) H2) → t E (Sl sc d z2 (some v) z4 z5 z6 z7 z8) H1 := by
  have hu : (callerA.deeper (envOfC "law" (defScope s_law) s.heap.objs.size f (.ref c))).units + 200 < cLine := by
    have := hr.un
    omega
  have kIP := kb1 (a := "thing") T.F_is_paper fun _ _ _ _ _ _ _ => rfl
  have kPT := kb1 (a := "thing") T.F_paper_text fun _ _ _ _ _ _ _ => rfl
  have kRP := kb1 (a := "text") T.F_read_paper fun _ _ _ _ _ _ _ => rfl
  refine ⟨_, (ps_set (i := 3) c_law.nd rfl (.inl rfl) (pe_ifExp (pt_val (pe_call (ok_is_short T) (hr.mono (by decide)) (by rfl) T.m_law_is_short T.F_law_is_short.kp T.b_law_is_short .nil pass0 (pa_cons
          (pe_call (ok_paper_text_law T 191) (hr.mono (by decide)) (by rfl) T.m_law_paper_text T.F_law_paper_text.kp T.b_law_paper_text .nil pass0 (pa_cons (pv 3) pa_nil)) pa_nil))) (pv 3)
        (pe_call (ok_paper T 5) (hr.mono (by decide)) (by rfl) T.m_law_paper T.F_law_paper.kp T.b_law_paper .nil pass0 (pa_cons (pv 1) (pa_cons pe_int pa_nil))))), ?_⟩
  intro sc d l
  intro E H1 z2 z4 z5 z6 z7 z8 v e he hp Dk Tb q
  have hw := hp.w
  have hdp := hp.d
  refine ⟨_, rfl, v, e, rfl, he, hp.p, hp.i, by omega, by omega, fun z H2 hz2 s2 => ⟨z, rfl, ?_, ⟨_, rfl, ?_⟩⟩⟩
  · have := TL.len_tl z
    have := txt_len e hp.p
    rw [hz2] at *
    omega
  by_cases hs : shortT z = true
  · refine ifT hs ⟨_, rfl, q v e H2 (he.mono s2) hp ?_ (Dk.same s2) (Tb.ext s2)⟩
    have h1 : z.length < 3500 ∧ (TL.tl z).count 40 < 190 := by simpa [shortT] using hs
    have := TL.len_tl z
    rw [hz2] at this
    omega
  · refine ifF (by simpa using hs) ⟨_, rfl, d, l, 2, rfl, by decide, Dk.same s2, fun v3 e3 H3 hp3 he3 f3 D3 => q v3 e3 H3 he3 (hp3.mono (by decide) (by decide)) ?_ D3 (tabs_fr (Tb.ext s2) (Dk.same s2) f3)⟩
    have h1 := txt_len e3 hp3.p
    have h2 := hp3.w
    have h3 : wB 2 = 820 := by decide
    omega
theorem p2 (T : Facts K mg) (TX : XcI.Txt K mg C D fI) (TB : LamX.TabB base mg c tb) (hz : mg "repr" = none) (hr : Room 192 (callerA.deeper (envOfC "law" (defScope s_law) s.heap.objs.size f (.ref c)))) :
    ∃ t, PS (LX P w K mg base f c s H) (Li 2) t ∧ ∀ (sc : V) (d l : Addr), ∀ (E : Ends) (H1 : Hp) (z2 z4 z5 z6 z7 z8 : Option V) (v : V) (e : PyData), Rp H1 v e → Pap 13140 30 e → Deck H1 d l → LamX.Tabs (TL' tb) H1 → (∀ H2, Rp H2 v e → Deck H2 d l → LamX.Tabs (TL' tb) H2 → E.nx (Sl sc d z2 (some v) (some (.str (tS e))) z5 z6 z7 z8) H2) → t E (Sl sc d z2 (some v) z4 z5 z6 z7 z8) H1 := by
  have hu : (callerA.deeper (envOfC "law" (defScope s_law) s.heap.objs.size f (.ref c))).units + 200 < cLine := by
    have := hr.un
    omega
  have kIP := kb1 (a := "thing") T.F_is_paper fun _ _ _ _ _ _ _ => rfl
  have kPT := kb1 (a := "thing") T.F_paper_text fun _ _ _ _ _ _ _ => rfl
  have kRP := kb1 (a := "text") T.F_read_paper fun _ _ _ _ _ _ _ => rfl
  refine ⟨_, (ps_set (i := 4) c_law.nd rfl (.inl rfl) (pe_call (ok_paper_text_law T 191) (hr.mono (by decide)) (by rfl) T.m_law_paper_text T.F_law_paper_text.kp T.b_law_paper_text .nil pass0 (pa_cons (pv 3) pa_nil))), ?_⟩
  intro sc d l
  intro E H1 z2 z4 z5 z6 z7 z8 v e he hp Dk Tb q
  have hw := hp.w
  have hdp := hp.d
  refine ⟨_, rfl, v, e, rfl, he, hp.p, hp.i, by omega, by omega, fun z H2 hz2 s2 => ?_⟩
  rw [tS_of hz2]
  exact q H2 (he.mono s2) (Dk.same s2) (Tb.ext s2)
theorem p3 (T : Facts K mg) (TX : XcI.Txt K mg C D fI) (TB : LamX.TabB base mg c tb) (hz : mg "repr" = none) (hr : Room 192 (callerA.deeper (envOfC "law" (defScope s_law) s.heap.objs.size f (.ref c)))) :
    ∃ t, PS (LX P w K mg base f c s H) (Li 3) t ∧ ∀ (sc : V) (d l : Addr), ∀ (E : Ends) (H1 : Hp) (z2 z5 z6 z7 z8 : Option V) (v : V) (e : PyData), Rp H1 v e → Pap 13140 30 e → Deck H1 d l → LamX.Tabs (TL' tb) H1 → (∀ H2, Rp H2 v e → Deck H2 d l → LamX.Tabs (TL' tb) H2 → E.nx (Sl sc d z2 (some v) (some (.str (tS e))) z5 z6 z7 z8) H2) → t E (Sl sc d z2 (some v) (some (.str (tS e))) z5 z6 z7 z8) H1 := by
  have hu : (callerA.deeper (envOfC "law" (defScope s_law) s.heap.objs.size f (.ref c))).units + 200 < cLine := by
    have := hr.un
    omega
  have kIP := kb1 (a := "thing") T.F_is_paper fun _ _ _ _ _ _ _ => rfl
  have kPT := kb1 (a := "thing") T.F_paper_text fun _ _ _ _ _ _ _ => rfl
  have kRP := kb1 (a := "text") T.F_read_paper fun _ _ _ _ _ _ _ => rfl
  refine ⟨_, (ps_if (pt_not (pt_val (pe_call (ok_same T) (hr.mono (by decide)) (by rfl) T.m_law_same T.F_law_same.kp T.b_law_same .nil pass0 (pa_cons
          (pe_lst (pa_cons (pe_call (ok_is_paper T) (hr.mono (by decide)) (by rfl) T.m_is_paper T.F_is_paper.kp T.b_is_paper .nil pass0 (pa_cons (pv 3) pa_nil))
            (pa_cons (pe_callK0 (ok_is_paper T) (hr.mono (by decide)) (by rfl) T.m_is_paper T.F_is_paper.kp kIP pass0 (pk_cons (pv 3) pk_nil))
            (pa_cons (pe_call (ok_paper_text T) (hr.mono (by decide)) (by rfl) T.m_paper_text T.F_paper_text.kp T.b_paper_text .nil pass0 (pa_cons (pv 3) pa_nil))
            (pa_cons (pe_callK0 (ok_paper_text T) (hr.mono (by decide)) (by rfl) T.m_paper_text T.F_paper_text.kp kPT pass0 (pk_cons (pv 3) pk_nil)) pa_nil)))))
          (pa_cons (pe_lst (pa_cons pe_bl (pa_cons pe_bl (pa_cons (pv 4) (pa_cons (pv 4) pa_nil))))) pa_nil))))) (pss_one (ps_ret pe_bl)) pss_nil), ?_⟩
  intro sc d l
  intro E H1 z2 z5 z6 z7 z8 v e he hp Dk Tb q
  have hw := hp.w
  have hlen := txt_len e hp.p
  have eq1 : ∀ {z : Str}, TL.tl z = txt e → z = tS e := fun h => tS_of h
  refine ⟨_, rfl, v, e, rfl, he, by omega, fun H2 s2 => ?_⟩
  refine ⟨_, rfl, rfl, rfl, v, e, rfl, he.mono s2, by omega, fun H3 s3 => ?_⟩
  refine ⟨_, rfl, v, e, rfl, (he.mono s2).mono s3, hp.p, hp.i, by omega, fun y1 H4 hy1 s4 => ?_⟩
  refine ⟨_, rfl, rfl, rfl, v, e, rfl, ((he.mono s2).mono s3).mono s4, hp.p, hp.i, by omega, fun y2 H5 hy2 s5 => ?_⟩
  have s25 := ((s2.trans s3).trans s4).trans s5
  refine ⟨by show 4 ≤ sizeLine; decide, fun a1 h1 => ?_⟩
  have s6 := same_new h1 (.lst [.bl (isP e), .bl (isP e), .str y1, .str y2])
  refine ⟨_, rfl, _, rfl, by show 4 ≤ sizeLine; decide, fun a2 h2 => ?_⟩
  have s7 := same_new h2 (.lst [.bl true, .bl true, .str (tS e), .str (tS e)])
  have sA := (s25.trans s6).trans s7
  rw [eq1 hy1, eq1 hy2, hp.p] at *
  have lt : (TL.tl (tS e)).length + 1 ≤ 13140 := by
    have : TL.tl (tS e) = txt e := rfl
    rw [this]; omega
  refine ⟨_, _, .list [.bool true, .bool true, .str (tS e), .str (tS e)], rfl, .lst (s7 _ _ upd_same) (.cons (.bl _) (.cons (.bl _) (.cons (.str _) (.cons (.str _) .nil)))), .lst upd_same (.cons (.bl _) (.cons (.bl _) (.cons (.str _) (.cons (.str _) .nil)))), by simp [noD, noDA], by simp only [tw, twA]; omega, fun H8 s8 => ⟨_, rfl, ?_⟩⟩
  exact iteF (q H8 ((he.mono sA).mono s8) ((Dk.same sA).same s8) ((Tb.ext sA).ext s8))
theorem p4 (T : Facts K mg) (TX : XcI.Txt K mg C D fI) (TB : LamX.TabB base mg c tb) (hz : mg "repr" = none) (hr : Room 192 (callerA.deeper (envOfC "law" (defScope s_law) s.heap.objs.size f (.ref c)))) :
    ∃ t, PS (LX P w K mg base f c s H) (Li 4) t ∧ ∀ (sc : V) (d l : Addr), ∀ (E : Ends) (H1 : Hp) (z2 z5 z6 z7 z8 : Option V) (v : V) (e : PyData), Rp H1 v e → Pap 13140 30 e → (txt e).length ≤ 3500 → Deck H1 d l → LamX.Tabs (TL' tb) H1 → (∀ H2, Rp H2 v e → Deck H2 d l → LamX.Tabs (TL' tb) H2 → E.nx (Sl sc d z2 (some v) (some (.str (tS e))) z5 z6 z7 z8) H2) → t E (Sl sc d z2 (some v) (some (.str (tS e))) z5 z6 z7 z8) H1 := by
  have hu : (callerA.deeper (envOfC "law" (defScope s_law) s.heap.objs.size f (.ref c))).units + 200 < cLine := by
    have := hr.un
    omega
  have kIP := kb1 (a := "thing") T.F_is_paper fun _ _ _ _ _ _ _ => rfl
  have kPT := kb1 (a := "thing") T.F_paper_text fun _ _ _ _ _ _ _ => rfl
  have kRP := kb1 (a := "text") T.F_read_paper fun _ _ _ _ _ _ _ => rfl
  refine ⟨_, (ps_if (pt_not (pt_val (pe_call (ok_same T) (hr.mono (by decide)) (by rfl) T.m_law_same T.F_law_same.kp T.b_law_same .nil pass0 (pa_cons
          (pe_lst (pa_cons (pe_call (ok_read_paper T TX) (hr.mono (by decide)) (by rfl) T.m_read_paper T.F_read_paper.kp T.b_read_paper .nil passL (pa_cons (pv 4) pa_nil))
            (pa_cons (pe_callK0 (ok_read_paper T TX) (hr.mono (by decide)) (by rfl) T.m_read_paper T.F_read_paper.kp kRP passL (pk_cons (pv 4) pk_nil)) pa_nil)))
          (pa_cons (pe_lst (pa_cons (pv 3) (pa_cons (pv 3) pa_nil))) pa_nil))))) (pss_one (ps_ret pe_bl)) pss_nil), ?_⟩
  intro sc d l
  intro E H1 z2 z5 z6 z7 z8 v e he hp hlen Dk Tb q
  have hw := hp.w
  have et : TL.tl (tS e) = txt e := rfl
  have hR : Reads (TL.tl (tS e)) e := ⟨hp.p, hp.i, rfl⟩
  have hl : (tS e).length ≤ 3500 := by rw [TL.len_tl, et]; exact hlen
  have need : ∀ (H2 : Hp) (Q : VK), (∀ v2 H3, Same H2 H3 → Rp H3 v2 e → Q v2 H3) → spReadP C [.str (tS e)] H2 Q E0 := fun H2 Q hq =>
    ⟨_, .str (tS e), rfl, .str _, fun t ht => by injection ht with ht; rw [← ht]; exact hl, fun t d2 v2 H3 ht hd s3 hv => (by
      injection ht with ht
      rw [← ht] at hd
      rw [hd.uniq hR] at hv
      exact hq v2 H3 s3 hv), fun hno => absurd ⟨_, _, rfl, hR⟩ hno⟩
  refine ⟨_, rfl, need _ _ fun v2 H2 s2 r2 => ⟨_, rfl, rfl, rfl, need _ _ fun v3 H3 s3 r3 => ⟨by show 2 ≤ sizeLine; decide, fun a1 h1 => ?_⟩⟩⟩
  have s6 := same_new h1 (.lst [v2, v3])
  refine ⟨_, rfl, _, rfl, by show 2 ≤ sizeLine; decide, fun a2 h2 => ?_⟩
  have s7 := same_new h2 (.lst [v, v])
  have sA := ((s2.trans s3).trans s6).trans s7
  have he' := he.mono sA
  refine ⟨_, _, .list [e, e], rfl, .lst (s7 _ _ upd_same) (.cons (((r2.mono s3).mono s6).mono s7) (.cons ((r3.mono s6).mono s7) .nil)), .lst upd_same (.cons he' (.cons he' .nil)), by simp [noD, noDA, noD_ok e hp.i], by simp only [tw, twA]; omega, fun H8 s8 => ⟨_, rfl, ?_⟩⟩
  exact iteF (q H8 (he'.mono s8) ((Dk.same sA).same s8) ((Tb.ext sA).ext s8))
theorem p5 (T : Facts K mg) (TX : XcI.Txt K mg C D fI) (TB : LamX.TabB base mg c tb) (hz : mg "repr" = none) (hr : Room 192 (callerA.deeper (envOfC "law" (defScope s_law) s.heap.objs.size f (.ref c)))) :
    ∃ t, PS (LX P w K mg base f c s H) (Li 5) t ∧ ∀ (sc : V) (d l : Addr), ∀ (E : Ends) (H1 : Hp) (z2 z5 z6 z7 z8 : Option V) (v : V) (e : PyData), Rp H1 v e → Pap 13140 30 e → Deck H1 d l → LamX.Tabs (TL' tb) H1 → (∀ H2 z5 z6 z7 z8, Rp H2 v e → Deck H2 d l → LamX.Tabs (TL' tb) H2 → E.nx (Sl sc d z2 (some v) (some (.str (tS e))) z5 z6 z7 z8) H2) → t E (Sl sc d z2 (some v) (some (.str (tS e))) z5 z6 z7 z8) H1 := by
  have hu : (callerA.deeper (envOfC "law" (defScope s_law) s.heap.objs.size f (.ref c))).units + 200 < cLine := by
    have := hr.un
    omega
  have kIP := kb1 (a := "thing") T.F_is_paper fun _ _ _ _ _ _ _ => rfl
  have kPT := kb1 (a := "thing") T.F_paper_text fun _ _ _ _ _ _ _ => rfl
  have kRP := kb1 (a := "text") T.F_read_paper fun _ _ _ _ _ _ _ => rfl
  refine ⟨_, (ps_for PassesOwn.never rfl (pi_range1 (by rfl) T.z_range (pa_cons pe_int pa_nil)) (pg_name (i := 5) c_law.nd rfl (Or.inl rfl))
        (pss_cons (ps_set (i := 6) c_law.nd rfl (.inr rfl) (pe_call (ok_bent T) (hr.mono (by decide)) (by rfl) T.m_law_bent T.F_law_bent.kp T.b_law_bent .nil pass0 (pa_cons (pv 1) (pa_cons (pv 3) pa_nil))))
        (pss_cons (ps_par (i := 7) (j := 8) (by rfl) c_law.nd rfl rfl (by decide) rfl rfl (pa_cons (pe_call (ok_is_due T) (hr.mono (by decide)) (by rfl) T.m_law_is_due T.F_law_is_due.kp T.b_law_is_due .nil pass0 (pa_cons (pv 6) pa_nil))
            (pa_cons (pe_callB (call_repr (by rfl) hu) (by rfl) hz (by decide +kernel) (pa_cons (pv 6) pa_nil)) pa_nil)) (by rfl))
        (pss_one (ps_if (PW.pt (pw_or (pt_not (pt_val (pe_call (ok_same T) (hr.mono (by decide)) (by rfl) T.m_law_same T.F_law_same.kp T.b_law_same .nil pass0 (pa_cons
          (pe_lst (pa_cons (pe_call (ok_is_paper T) (hr.mono (by decide)) (by rfl) T.m_is_paper T.F_is_paper.kp T.b_is_paper .nil pass0 (pa_cons (pv 6) pa_nil))
            (pa_cons (pe_callK0 (ok_is_paper T) (hr.mono (by decide)) (by rfl) T.m_is_paper T.F_is_paper.kp kIP pass0 (pk_cons (pv 6) pk_nil)) pa_nil)))
          (pa_cons (pe_lst (pa_cons (pv 7) (pa_cons (pv 7) pa_nil))) pa_nil))))) (pw_or1 (pt_cmpR op_ne (pe_callB (call_repr (by rfl) hu) (by rfl) hz (by decide +kernel) (pa_cons (pv 6) pa_nil)) (pv 8) (nomark _))))) (pss_one (ps_ret pe_bl)) pss_nil))))), ?_⟩
  intro sc d l
  intro E H1 z2 z5 z6 z7 z8 v e he hp Dk Tb q
  refine ⟨4, rfl, by decide, by decide, ?_⟩
  refine for_range (lo := 0) (n := 4) (fun i σ H' => ∃ z5 z6 z7 z8, σ = Sl sc d z2 (some v) (some (.str (tS e))) z5 z6 z7 z8 ∧ Rp H' v e ∧ Deck H' d l ∧ LamX.Tabs (TL' tb) H') ⟨z5, z6, z7, z8, rfl, he, Dk, Tb⟩ (fun i σ H' hi h => ?_) (fun σ H' h => ?_)
  · obtain ⟨y5, y6, y7, y8, rfl, he, Dk, Tb⟩ := h
    refine ⟨_, rfl, _, rfl, d, l, v, e, rfl, Dk, he, hp, fun o g H2 ho hg f2 D2 => ?_⟩
    have Tb2 := tabs_fr Tb Dk f2
    have he2 := he.tups (f2.tups Dk) hp.i
    have sh := shown_len g ho.l
    have how := ho.w
    have hdep : g.depth ≤ 100 := by have := ho.d; omega
    have hsz : g.shown.length ≤ sizeLine := Nat.le_trans (show _ ≤ 2000000 by omega) (by decide)
    refine ⟨_, rfl, o, g, rfl, hg, by omega, fun H3 s3 => ⟨_, rfl, o, g, rfl, hg.mono s3, ho.s, ho.x, hdep, hsz, _, _, rfl, ?_⟩⟩
    have hg3 := hg.mono s3
    refine ⟨_, rfl, o, g, rfl, hg3, by omega, fun H4 s4 => ⟨_, rfl, rfl, rfl, o, g, rfl, hg3.mono s4, by omega, fun H5 s5 => ⟨by show 2 ≤ sizeLine; decide, fun a1 h1 => ?_⟩⟩⟩
    have s6 := same_new h1 (.lst [.bl (isP g), .bl (isP g)])
    refine ⟨_, rfl, _, rfl, by show 2 ≤ sizeLine; decide, fun a2 h2 => ?_⟩
    have s7 := same_new h2 (.lst [.bl (isP g), .bl (isP g)])
    have sA := (((s3.trans s4).trans s5).trans s6).trans s7
    refine ⟨_, _, .list [.bool (isP g), .bool (isP g)], rfl, .lst (s7 _ _ upd_same) (.cons (.bl _) (.cons (.bl _) .nil)), .lst upd_same (.cons (.bl _) (.cons (.bl _) .nil)), by simp [noD, noDA], by simp only [tw, twA]; omega, fun H8 s8 => ⟨_, rfl, ?_⟩⟩
    have sB := sA.trans s8
    refine iteF ⟨_, rfl, o, g, rfl, hg.mono sB, ho.s, ho.x, hdep, hsz, _, rfl, rfl, _, rfl, ?_⟩
    rw [decide_eq_true rfl]
    exact iteF ⟨_, _, _, _, rfl, he2.mono sB, D2.same sB, Tb2.ext sB⟩
  · obtain ⟨y5, y6, y7, y8, rfl, he, Dk, Tb⟩ := h
    exact q H' y5 y6 y7 y8 he Dk Tb
end
end K8

set_option Elab.async false
set_option linter.all false
set_option maxRecDepth 100000
set_option maxHeartbeats 16000000
namespace K8
open PySem PySem.Spec PyProof.Rows L2 Pk Mt
section
variable {P : Program} {w : World} {K : PySem.W.Frag} {mg : Str → Option Value} {base : Heap} {C D fI c tb f : Addr} {s : Shared} {H : Hp}
theorem q0 (T : Facts K mg) (TX : XcI.Txt K mg C D fI) (TB : LamX.TabB base mg c tb) (hz : mg "repr" = none) (hr : Room 192 (callerA.deeper (envOfC "law" (defScope s_law) s.heap.objs.size f (.ref c)))) :
    ∃ t, PS (LX P w K mg base f c s H) (Lj 0) t ∧ ∀ (sc : V) (d l : Addr), ∀ (E : Ends) (H1 : Hp) (z2 z6 z7 z8 : Option V) (k : Int) (v : V) (e : PyData), Rp H1 v e → Pap 13140 30 e → Deck H1 d l → LamX.Tabs (TL' tb) H1 → (∀ o g H2, Rp H2 o g → (∀ z, g = .str z → z.length ≤ 1000000) → Rp H2 v e → Deck H2 d l → LamX.Tabs (TL' tb) H2 → E.nx (Sl sc d z2 (some v) (some (.str (tS e))) (some (.int k)) (some o) z7 z8) H2) → t E (Sl sc d z2 (some v) (some (.str (tS e))) (some (.int k)) z6 z7 z8) H1 := by
  have hu : (callerA.deeper (envOfC "law" (defScope s_law) s.heap.objs.size f (.ref c))).units + 200 < cLine := by
    have := hr.un
    omega
  have kIP := kb1 (a := "thing") T.F_is_paper fun _ _ _ _ _ _ _ => rfl
  have kPT := kb1 (a := "thing") T.F_paper_text fun _ _ _ _ _ _ _ => rfl
  have kRP := kb1 (a := "text") T.F_read_paper fun _ _ _ _ _ _ _ => rfl
  refine ⟨_, (ps_set (i := 6) c_law.nd rfl (.inr rfl) (pe_ifExp (pt_cmpR op_lt (pv 5) pe_int (nomark _)) (pe_call (ok_changed T) (hr.mono (by decide)) (by rfl) T.m_law_changed T.F_law_changed.kp T.b_law_changed .nil pass0 (pa_cons (pv 1) (pa_cons (pv 4) pa_nil)))
          (pe_call (ok_pick T) (hr.mono (by decide)) (by rfl) T.m_law_pick T.F_law_pick.kp T.b_law_pick .nil pass0 (pa_cons (pv 1) (pa_cons
            (pe_lst (pa_cons pe_non (pa_cons (pv 3) (pa_cons pe_int (pa_cons (pe_tup (pa_cons (pv 4) pa_nil)) (pa_cons pe_str (pa_cons pe_str (pa_cons pe_str (pa_cons pe_str (pa_cons pe_str (pa_cons pe_str (pa_cons pe_str (pa_cons pe_str (pa_cons pe_str (pa_cons pe_bl (pa_cons (pe_lst (pa_cons (pv 4) pa_nil)) pa_nil)))))))))))))))) pa_nil))))), ?_⟩
  intro sc d l
  intro E H1 z2 z6 z7 z8 k v e he hp Dk Tb q
  have hw := hp.w
  have hlen := txt_len e hp.p
  have et : TL.tl (tS e) = txt e := rfl
  have hl : (tS e).length ≤ 13140 := by rw [TL.len_tl, et]; omega
  refine ⟨_, rfl, _, _, rfl, rfl, _, rfl, ite2 (fun _ => ?_) (fun _ => ?_)⟩
  · exact ⟨_, rfl, _, rfl, d, l, _, rfl, Dk, hl, fun z H2 hz2 f2 D2 => q _ (.str z) H2 (.str z) (fun y hy => by injection hy with hy; rw [← hy]; omega) (he.tups (f2.tups Dk) hp.i) D2 (tabs_fr Tb Dk f2)⟩
  · refine ⟨_, rfl, _, rfl, _, rfl, by show 1 ≤ sizeLine; decide, fun p1 h1 => ⟨_, rfl, by show 1 ≤ sizeLine; decide, fun p2 h2 => ⟨by show 15 ≤ sizeLine; decide, fun a ha => ?_⟩⟩⟩
    have s1 := same_new h1 (.tup [.str (tS e)])
    have s2 := same_new h2 (.lst [.str (tS e)])
    have n2 := (Dk.same s1).new h2
    have g1 : upd (upd H1 p1 (.tup [.str (tS e)])) p2 (.lst [.str (tS e)]) p1 = some (.tup [.str (tS e)]) := s2 _ _ upd_same
    have g2 : upd (upd H1 p1 (.tup [.str (tS e)])) p2 (.lst [.str (tS e)]) p2 = some (.lst [.str (tS e)]) := upd_same
    have sA := s1.trans s2
    generalize upd (upd H1 p1 (.tup [.str (tS e)])) p2 (.lst [.str (tS e)]) = HA at ha g1 g2 sA
    have DA := Dk.same sA
    have s3 := same_new ha (.lst [.non, v, .int 7, .ref p1, .str (Str.ofString ""), .str (Str.ofString "("), .str (Str.ofString ")"), .str (Str.ofString "()"), .str (Str.ofString "' "), .str (Str.ofString "(()"), .str (Str.ofString "- 1"), .str (Str.ofString "-"), .str (Str.ofString "n"), .bl true, .ref p2])
    refine ⟨d, l, _, rfl, DA.same s3, .inl ⟨a, _, rfl, (DA.new ha).2, upd_same, (by show 1 ≤ 15; decide), (by show 15 ≤ 1000; decide), fun o ho H2 f2 D2 => ?_⟩⟩
    have fA : Fr d l HA H2 := (Fr.of s3).trans f2
    have fin : ∀ g, Any2 d l HA o g → (∀ z, g = .str z → z.length ≤ 1000000) → E.nx (Sl sc d z2 (some v) (some (.str (tS e))) (some (.int k)) (some o) z7 z8) H2 := fun g hg hs => q o g H2 (hg.fr fA DA) hs ((he.mono sA).tups (fA.tups DA) hp.i) D2 (tabs_fr (Tb.ext sA) DA fA)
    have str : ∀ x ∈ ([Str.ofString "", Str.ofString "(", Str.ofString ")", Str.ofString "()", Str.ofString "' ", Str.ofString "(()", Str.ofString "- 1", Str.ofString "-", Str.ofString "n"] : List Str), x.length ≤ 1000000 := by decide +kernel
    have hmem : o = .non ∨ o = v ∨ o = .int 7 ∨ o = .ref p1 ∨ o = .str (Str.ofString "") ∨ o = .str (Str.ofString "(") ∨ o = .str (Str.ofString ")") ∨ o = .str (Str.ofString "()") ∨ o = .str (Str.ofString "' ") ∨ o = .str (Str.ofString "(()") ∨ o = .str (Str.ofString "- 1") ∨ o = .str (Str.ofString "-") ∨ o = .str (Str.ofString "n") ∨ o = .bl true ∨ o = .ref p2 := by simpa using ho
    have one : ∀ x ∈ ([Str.ofString "", Str.ofString "(", Str.ofString ")", Str.ofString "()", Str.ofString "' ", Str.ofString "(()", Str.ofString "- 1", Str.ofString "-", Str.ofString "n"] : List Str), o = .str x → E.nx (Sl sc d z2 (some v) (some (.str (tS e))) (some (.int k)) (some o) z7 z8) H2 := fun x hx e1 => fin (.str x) (by rw [e1]; exact .pap (by simp [okI]) (.str x)) fun z hz' => by injection hz' with hz'; rw [← hz']; exact str x hx
    rcases hmem with h | h | h | h | h | h | h | h | h | h | h | h | h | h | h
    · exact fin .none (by rw [h]; exact .pap (by simp [okI]) .non) fun z hz' => nomatch hz'
    · refine fin e (by rw [h]; exact .pap hp.i (he.mono sA)) fun z hz' => ?_
      rw [hz'] at hw
      have := TL.len_tl z
      simp only [tw] at hw
      omega
    · exact fin (.int 7) (by rw [h]; exact .pap (by simp [okI]) (.int 7)) fun z hz' => nomatch hz'
    · exact fin (.tuple [.str (tS e)]) (by rw [h]; exact .pap (by simp [okI, okIA]) (.tup g1 (.cons (.str _) .nil))) fun z hz' => nomatch hz'
    · exact one _ (by simp) h
    · exact one _ (by simp) h
    · exact one _ (by simp) h
    · exact one _ (by simp) h
    · exact one _ (by simp) h
    · exact one _ (by simp) h
    · exact one _ (by simp) h
    · exact one _ (by simp) h
    · exact one _ (by simp) h
    · exact fin (.bool true) (by rw [h]; exact .bl true) fun z hz' => nomatch hz'
    · exact fin (.list [.str (tS e)]) (by rw [h]; exact .lst n2.1 n2.2 g2 (by simp [okIA, okI]) (.cons (.str _) .nil)) fun z hz' => nomatch hz'
theorem q1 (T : Facts K mg) (TX : XcI.Txt K mg C D fI) (TB : LamX.TabB base mg c tb) (hz : mg "repr" = none) (hr : Room 192 (callerA.deeper (envOfC "law" (defScope s_law) s.heap.objs.size f (.ref c)))) :
    ∃ t, PS (LX P w K mg base f c s H) (Lj 1) t ∧ ∀ (sc : V) (d l : Addr), ∀ (E : Ends) (H1 : Hp) (z2 z3 z4 z5 z7 z8 : Option V) (o : V) (g : PyData), Rp H1 o g → (∀ z, g = .str z → z.length ≤ 1000000) → E.ct (Sl sc d z2 z3 z4 z5 (some o) z7 z8) H1 → ((∀ z, g = .str z → shortT z = true) → E.nx (Sl sc d z2 z3 z4 z5 (some o) z7 z8) H1) → t E (Sl sc d z2 z3 z4 z5 (some o) z7 z8) H1 := by
  have hu : (callerA.deeper (envOfC "law" (defScope s_law) s.heap.objs.size f (.ref c))).units + 200 < cLine := by
    have := hr.un
    omega
  have kIP := kb1 (a := "thing") T.F_is_paper fun _ _ _ _ _ _ _ => rfl
  have kPT := kb1 (a := "thing") T.F_paper_text fun _ _ _ _ _ _ _ => rfl
  have kRP := kb1 (a := "text") T.F_read_paper fun _ _ _ _ _ _ _ => rfl
  refine ⟨_, (ps_if (PW.pt (pw_and (pt_val (pis (T := "str") T.z_isinstance T.z_str (pv 6))) (pw_and1 (pt_not (pt_val (pe_call (ok_is_short T) (hr.mono (by decide)) (by rfl) T.m_law_is_short T.F_law_is_short.kp T.b_law_is_short .nil pass0 (pa_cons (pv 6) pa_nil))))))) (pss_one ps_continue) pss_nil), ?_⟩
  intro sc d l
  intro E H1 z2 z3 z4 z5 z7 z8 o g hg hs qc qn
  have hgg := hg
  refine ⟨_, rfl, _, g, rfl, hg, _, rfl, ?_⟩
  cases hg with
  | str y =>
    refine iteT ⟨_, rfl, y, rfl, hs y rfl, ⟨_, rfl, ?_⟩⟩
    by_cases h : shortT y = true
    · exact ifF (by simp [h]) (qn fun z hz' => by injection hz' with hz'; rw [← hz']; exact h)
    · exact ifT (by simpa using h) qc
  | non => exact iteF (iteF (qn fun z hz' => nomatch hz'))
  | bl b => exact iteF (iteF (qn fun z hz' => nomatch hz'))
  | int n => exact iteF (iteF (qn fun z hz' => nomatch hz'))
  | lst _ _ => exact iteF (iteF (qn fun z hz' => nomatch hz'))
  | tup _ _ => exact iteF (iteF (qn fun z hz' => nomatch hz'))
  | dct _ => exact iteF (iteF (qn fun z hz' => nomatch hz'))
/-- what law's own reader left: the paper read, or nothing where none can be read -/
def Due (H : Hp) (p : Addr) (g : PyData) : Prop := (∃ t d0 v0, g = .str t ∧ Reads (TL.tl t) d0 ∧ H p = some (.tup [v0]) ∧ Rp H v0 d0) ∨ ((¬ ∃ t d0, g = .str t ∧ Reads (TL.tl t) d0) ∧ H p = some (.tup []))
theorem q2 (T : Facts K mg) (TX : XcI.Txt K mg C D fI) (TB : LamX.TabB base mg c tb) (hz : mg "repr" = none) (hr : Room 192 (callerA.deeper (envOfC "law" (defScope s_law) s.heap.objs.size f (.ref c)))) :
    ∃ t, PS (LX P w K mg base f c s H) (Lj 2) t ∧ ∀ (sc : V) (d l : Addr), ∀ (E : Ends) (H1 : Hp) (z2 z3 z4 z5 z7 z8 : Option V) (o : V) (g : PyData), Rp H1 o g → (∀ z, g = .str z → shortT z = true) → (∀ p H2, Same H1 H2 → Due H2 p g → E.nx (Sl sc d z2 z3 z4 z5 (some o) (some (.ref p)) z8) H2) → t E (Sl sc d z2 z3 z4 z5 (some o) z7 z8) H1 := by
  have hu : (callerA.deeper (envOfC "law" (defScope s_law) s.heap.objs.size f (.ref c))).units + 200 < cLine := by
    have := hr.un
    omega
  have kIP := kb1 (a := "thing") T.F_is_paper fun _ _ _ _ _ _ _ => rfl
  have kPT := kb1 (a := "thing") T.F_paper_text fun _ _ _ _ _ _ _ => rfl
  have kRP := kb1 (a := "text") T.F_read_paper fun _ _ _ _ _ _ _ => rfl
  refine ⟨_, (ps_set (i := 7) c_law.nd rfl (.inl rfl) (pe_call (ok_law_read T) (hr.mono (by decide)) (by rfl) T.m_law_read T.F_law_read.kp T.b_law_read .nil pass0 (pa_cons (pv 6) pa_nil))), ?_⟩
  intro sc d l
  intro E H1 z2 z3 z4 z5 z7 z8 o g hg hs q
  exact ⟨_, rfl, o, g, rfl, hg, hs, fun t d0 v0 H2 p ht hR s2 hp2 hv => q p H2 s2 (.inl ⟨t, d0, v0, ht, hR, hp2, hv⟩), fun hno H2 p s2 hp2 => q p H2 s2 (.inr ⟨hno, hp2⟩)⟩
theorem q3 (T : Facts K mg) (TX : XcI.Txt K mg C D fI) (TB : LamX.TabB base mg c tb) (hz : mg "repr" = none) (hr : Room 192 (callerA.deeper (envOfC "law" (defScope s_law) s.heap.objs.size f (.ref c)))) :
    ∃ t, PS (LX P w K mg base f c s H) (Lj 3) t ∧ ∀ (sc : V) (d l : Addr), ∀ (E : Ends) (H1 : Hp) (z2 z3 z4 z5 z8 : Option V) (o : V) (g : PyData) (p : Addr), Rp H1 o g → (∀ z, g = .str z → shortT z = true) → Due H1 p g → Deck H1 d l → LamX.Tabs (TL' tb) H1 → (∀ H2, LamX.ExtN H1 H2 → LamX.Tabs (TL' tb) H2 → E.nx (Sl sc d z2 z3 z4 z5 (some o) (some (.ref p)) z8) H2) → t E (Sl sc d z2 z3 z4 z5 (some o) (some (.ref p)) z8) H1 := by
  have hu : (callerA.deeper (envOfC "law" (defScope s_law) s.heap.objs.size f (.ref c))).units + 200 < cLine := by
    have := hr.un
    omega
  have kIP := kb1 (a := "thing") T.F_is_paper fun _ _ _ _ _ _ _ => rfl
  have kPT := kb1 (a := "thing") T.F_paper_text fun _ _ _ _ _ _ _ => rfl
  have kRP := kb1 (a := "text") T.F_read_paper fun _ _ _ _ _ _ _ => rfl
  obtain ⟨oc, od, kV, doc, pm, an, cdv, ct, osl, efd, lk, hcd⟩ := T.F_law_heard.ex
  have bH := T.b_law_heard
  rw [efd] at bH lk
  refine ⟨_, (ps_if (pt_not (pt_val (pe_call (ok_same T) (hr.mono (by decide)) (by rfl) T.m_law_same T.F_law_same.kp T.b_law_same .nil pass0 (pa_cons
            (LamX.pe_lamcall (T := [(tb, qLam)]) (TT := TTold C) (k := 4) (t := fun E => tCall (spReadP C) [] E (tCons (tVar 6) tNil)) (by rfl) T.m_law_heard T.F_law_heard.kp lk hcd bH c_law_heard rfl (.inl rfl) (heard_gives T TX) TB rfl (List.mem_singleton.mpr rfl) (fun p hp _ => by rw [List.mem_singleton.mp hp]; rfl) (hr.mono (by decide)) (LamX.lamS_by (by show LamX.lamSB (defScope s_law) _ = true; decide +kernel)) rfl (fun _ _ _ _ _ => rfl)
              (fun A outer s H E f' c' hr2 => pe_call (ok_read_paper T TX) hr2 (by rfl) T.m_read_paper T.F_read_paper.kp T.b_read_paper .nil (passes_call (takes_of (E := E) rfl rfl rfl rfl) fun _ _ _ _ h => h) (pa_cons (pv 6) pa_nil)))
            (pa_cons (pe_ifExp (pt_cmpR (op_neE (Nat.lt_of_succ_lt (hu_of hr))) (pv 7) (pe_tup pa_nil) (nomark _)) (pe_tup (pa_cons pe_str (pa_cons (pe_ix ix_tup (pv 7) pe_int (fun _ _ => rfl)) pa_nil))) (pe_tup (pa_cons pe_str (pa_cons pe_int (pa_cons pe_bl pa_nil))))) pa_nil)))))
          (pss_one (ps_ret pe_bl)) pss_nil), ?_⟩
  intro sc d l
  intro E H1 z2 z3 z4 z5 z8 o g p hg hs hdue Dk Tb q
  have hlen : ∀ t, g = .str t → t.length ≤ 3500 := fun t ht => by
    have h1 : t.length < 3500 ∧ (TL.tl t).count 40 < 190 := by simpa [shortT] using hs t ht
    omega
  refine ⟨Tb, fun H2 e2 Tb2 => ?_⟩
  have hg2 := K8.Rp.extN e2 hg
  refine ⟨_, rfl, o, g, rfl, hg2, hlen, fun t d0 v0 H3 ht hR s3 hv => ⟨by show 2 ≤ sizeLine; decide, fun p2 h2 => ?_⟩, fun hno dd H3 s3 hd => ⟨.int 0, ⟨rfl, dd, rfl, hd⟩, fun p2 h2 => ?_⟩⟩
  · -- told
    have s4 := same_new h2 (.tup [.str "told", v0])
    rcases hdue with ⟨t', d1, v1, ht', hR', hp1, hv1⟩ | ⟨hno, _⟩
    rotate_left
    · exact absurd ⟨t, d0, ht, hR⟩ hno
    have ed : d1 = d0 := by
      rw [ht] at ht'
      injection ht' with ht'
      rw [← ht'] at hR'
      exact hR'.uniq hR
    subst ed
    have hp4 := (s3.trans s4) _ _ (e2 _ _ hp1 fun _ z => nomatch z)
    have hv4 := (K8.Rp.extN e2 hv1).mono (s3.trans s4)
    refine ⟨_, rfl, by show 0 ≤ sizeLine; decide, fun p3 h3 => ⟨p, p3, false, rfl, rfl, .inr ⟨[v1], [], SqT.of (by rw [upd_ne (ne_of_none hp4 h3)]; exact hp4), SqT.of upd_same, .inr rfl, by simp⟩, _, rfl, iteT ?_⟩⟩
    have s5 := same_new h3 (.tup [])
    refine ⟨_, rfl, p, [v1], 0, v1, rfl, rfl, SqT.of (s5 _ _ hp4), atI_nat (j := 0) rfl, by show 2 ≤ sizeLine; decide, fun p6 h6 => ?_⟩
    have s6 := same_new h6 (.tup [.str "told", v1])
    have hw : tw d1 ≤ 100000 := by
      have hu' := hR.runL
      obtain ⟨_, r2, _⟩ := run_res tame_L hu'
      have := lexL_wsum (TL.tl t)
      have := TL.len_tl t
      have := hlen t ht
      omega
    refine ⟨_, _, .tuple [.str "told", d1], rfl, .tup (s6 _ _ (s5 _ _ upd_same)) (.cons (.str _) (.cons ((((hv.mono s4).mono s5)).mono s6) .nil)), .tup upd_same (.cons (.str _) (.cons ((hv4.mono s5).mono s6) .nil)), by simp [noD, noDA, noD_ok d1 hR.2.1], ?_, fun H8 s8 => ⟨_, rfl, ?_⟩⟩
    · have e4 : tw (.str "told") = 6 := by decide +kernel
      simp only [tw, twA] at e4 ⊢; omega
    have sA := (((s3.trans s4).trans s5).trans s6).trans s8
    exact iteF (q H8 (e2.trans (.of sA)) (Tb2.ext sA))
  · have s4 := same_new h2 (.tup [.str "text", .int 0, .bl true])
    rcases hdue with ⟨t', d1, v1, ht', hR', _, _⟩ | ⟨_, hp1⟩
    · exact absurd ⟨t', d1, ht', hR'⟩ hno
    have hp4 := (s3.trans s4) _ _ (e2 _ _ hp1 fun _ z => nomatch z)
    refine ⟨_, rfl, by show 0 ≤ sizeLine; decide, fun p3 h3 => ⟨p, p3, true, rfl, rfl, .inr ⟨[], [], SqT.of (by rw [upd_ne (ne_of_none hp4 h3)]; exact hp4), SqT.of upd_same, .inr rfl, by simp⟩, _, rfl, iteF ?_⟩⟩
    have s5 := same_new h3 (.tup [])
    refine ⟨by show 3 ≤ sizeLine; decide, fun p6 h6 => ?_⟩
    have s6 := same_new h6 (.tup [.str "text", .int 0, .bl true])
    refine ⟨_, _, .tuple [.str "text", .int 0, .bool true], rfl, .tup (s6 _ _ (s5 _ _ upd_same)) (.cons (.str _) (.cons (.int 0) (.cons (.bl true) .nil))), .tup upd_same (.cons (.str _) (.cons (.int 0) (.cons (.bl true) .nil))), by simp [noD, noDA], ?_, fun H8 s8 => ⟨_, rfl, ?_⟩⟩
    · have e4 : tw (.tuple [.str "text", .int 0, .bool true]) ≤ 500000 := by decide +kernel
      exact e4
    have sA := (((s3.trans s4).trans s5).trans s6).trans s8
    exact iteF (q H8 (e2.trans (.of sA)) (Tb2.ext sA))
theorem p6 (T : Facts K mg) (TX : XcI.Txt K mg C D fI) (TB : LamX.TabB base mg c tb) (hz : mg "repr" = none) (hr : Room 192 (callerA.deeper (envOfC "law" (defScope s_law) s.heap.objs.size f (.ref c)))) :
    ∃ t, PS (LX P w K mg base f c s H) (Li 6) t ∧ ∀ (sc : V) (d l : Addr) (E : Ends) (H1 : Hp) (z2 z5 z6 z7 z8 : Option V) (v : V) (e : PyData), Rp H1 v e → Pap 13140 30 e → Deck H1 d l → LamX.Tabs (TL' tb) H1 → (∀ H2 z5 z6 z7 z8, Rp H2 v e → Deck H2 d l → LamX.Tabs (TL' tb) H2 → E.nx (Sl sc d z2 (some v) (some (.str (tS e))) z5 z6 z7 z8) H2) → t E (Sl sc d z2 (some v) (some (.str (tS e))) z5 z6 z7 z8) H1 := by
  obtain ⟨t0, h0, r0⟩ := q0 (H := H) (P := P) (w := w) (base := base) T TX TB hz hr
  obtain ⟨t1, h1, r1⟩ := q1 (H := H) (P := P) (w := w) (base := base) T TX TB hz hr
  obtain ⟨t2, h2, r2⟩ := q2 (H := H) (P := P) (w := w) (base := base) T TX TB hz hr
  obtain ⟨t3, h3, r3⟩ := q3 (H := H) (P := P) (w := w) (base := base) T TX TB hz hr
  refine ⟨_, ps_for PassesOwn.never rfl (pi_range1 (by rfl) T.z_range (pa_cons pe_int pa_nil)) (pg_name (i := 5) c_law.nd rfl (Or.inl rfl)) (pss_cons h0 (pss_cons h1 (pss_cons h2 (pss_one h3)))), ?_⟩
  intro sc d l E H1 z2 z5 z6 z7 z8 v e he hp Dk Tb q
  refine ⟨7, rfl, by decide, by decide, ?_⟩
  refine for_range (lo := 0) (n := 7) (fun i σ H' => ∃ z5 z6 z7 z8, σ = Sl sc d z2 (some v) (some (.str (tS e))) z5 z6 z7 z8 ∧ Rp H' v e ∧ Deck H' d l ∧ LamX.Tabs (TL' tb) H') ⟨z5, z6, z7, z8, rfl, he, Dk, Tb⟩ (fun i σ H' hi h => ?_) (fun σ H' h => ?_)
  · obtain ⟨y5, y6, y7, y8, rfl, he, Dk, Tb⟩ := h
    refine r0 sc d l _ H' z2 y6 y7 y8 (0 + (i : Int)) v e he hp Dk Tb fun o g H2 hg hs he2 D2 Tb2 => ?_
    refine r1 sc d l _ H2 z2 _ _ _ y7 y8 o g hg hs ⟨_, _, _, _, rfl, he2, D2, Tb2⟩ fun hsh => ?_
    refine r2 sc d l _ H2 z2 _ _ _ y7 y8 o g hg hsh fun p H3 s3 hdue => ?_
    refine r3 sc d l _ H3 z2 _ _ _ y8 o g p (hg.mono s3) hsh hdue (D2.same s3) (Tb2.ext s3) fun H4 e4 Tb4 => ?_
    exact ⟨_, _, _, _, rfl, K8.Rp.extN e4 (he2.mono s3), (D2.same s3).extN e4, Tb4⟩
  · obtain ⟨y5, y6, y7, y8, rfl, he, Dk, Tb⟩ := h
    exact q H' y5 y6 y7 y8 he Dk Tb
end
end K8

set_option Elab.async false
set_option linter.all false
set_option maxRecDepth 100000
set_option maxHeartbeats 16000000
namespace K8
open PySem PySem.Spec PyProof.Rows L2 Pk Mt
section
variable {P : Program} {w : World} {K : PySem.W.Frag} {mg : Str → Option Value} {base : Heap} {C D fI c tb f : Addr}
theorem law_body (T : Facts K mg) (TX : XcI.Txt K mg C D fI) (TB : LamX.TabB base mg c tb) (hz : mg "repr" = none) (s : Shared) (H : Hp) (hr : Room 192 (callerA.deeper (envOfC "law" (defScope s_law) s.heap.objs.size f (.ref c)))) (a : Addr) (ns : List Int) (hS : SqL K H a (ns.map V.int)) (hl : ns.length ≤ 63) (hT : H tb = some (.tbl #[])) :
    ∃ t, PSs (LX P w K mg base f c s H) (defBody s_law) t ∧ t { nx := fun _ H' => (fun (v : V) (_ : Hp) => v = .bl true) .non H', rt := fun v _ => v = .bl true } (start LN [.ref a]) H := by
  obtain ⟨t0, h0, r0⟩ := p0 (H := H) (P := P) (w := w) (base := base) T TX TB hz hr
  obtain ⟨t1, h1, r1⟩ := p1 (H := H) (P := P) (w := w) (base := base) T TX TB hz hr
  obtain ⟨t2, h2, r2⟩ := p2 (H := H) (P := P) (w := w) (base := base) T TX TB hz hr
  obtain ⟨t3, h3, r3⟩ := p3 (H := H) (P := P) (w := w) (base := base) T TX TB hz hr
  obtain ⟨t4, h4, r4⟩ := p4 (H := H) (P := P) (w := w) (base := base) T TX TB hz hr
  obtain ⟨t5, h5, r5⟩ := p5 (H := H) (P := P) (w := w) (base := base) T TX TB hz hr
  obtain ⟨t6, h6, r6⟩ := p6 (H := H) (P := P) (w := w) (base := base) T TX TB hz hr
  refine ⟨_, pss_cons (ps_set (i := 1) c_law.nd rfl (.inl rfl) (pe_call (ok_deck T) (hr.mono (by decide)) (by rfl) T.m_law_deck T.F_law_deck.kp T.b_law_deck .nil pass0 (pa_cons (pv 0) pa_nil)))
    (pss_cons (ps_for PassesOwn.never rfl (pi_range1 (by rfl) T.z_range (pa_cons pe_int pa_nil)) (pg_name (i := 2) c_law.nd rfl (Or.inl rfl)) (pss_cons h0 (pss_cons h1 (pss_cons h2 (pss_cons h3 (pss_cons h4 (pss_cons h5 (pss_one h6))))))))
    (pss_one (ps_ret pe_bl))), ?_⟩
  refine ⟨_, rfl, a, ns, rfl, hS, hl, fun d l H1 s1 D1 hl1 => ⟨6, rfl, by decide, by decide, ?_⟩⟩
  have Tb1 : LamX.Tabs (TL' tb) H1 := fun p hp => by
    rw [List.mem_singleton.mp hp]
    exact LamX.TabS.nil (s1 _ _ hT)
  refine for_range (lo := 0) (n := 6) (fun i σ H' => ∃ z2 z3 z4 z5 z6 z7 z8, σ = Sl (.ref a) d z2 z3 z4 z5 z6 z7 z8 ∧ Deck H' d l ∧ LamX.Tabs (TL' tb) H') ⟨none, none, none, none, none, none, none, rfl, D1, Tb1⟩ (fun i σ H' hi h => ?_) (fun σ H' h => rfl)
  obtain ⟨z2, z3, z4, z5, z6, z7, z8, rfl, Dk, Tb⟩ := h
  refine r0 _ d l _ H' _ _ _ _ _ _ _ Dk Tb fun v e H2 he hp D2 T2 => ?_
  refine r1 _ d l _ H2 _ _ _ _ _ _ v e he hp D2 T2 fun v e H3 he hp hlen D3 T3 => ?_
  refine r2 _ d l _ H3 _ _ _ _ _ _ v e he hp D3 T3 fun H4 he D4 T4 => ?_
  refine r3 _ d l _ H4 _ _ _ _ _ v e he hp D4 T4 fun H5 he D5 T5 => ?_
  refine r4 _ d l _ H5 _ _ _ _ _ v e he hp hlen D5 T5 fun H6 he D6 T6 => ?_
  refine r5 _ d l _ H6 _ _ _ _ _ v e he hp D6 T6 fun H7 y5 y6 y7 y8 he D7 T7 => ?_
  refine r6 _ d l _ H7 _ _ _ _ _ v e he hp D7 T7 fun H8 y5 y6 y7 y8 he D8 T8 => ?_
  exact ⟨_, _, _, _, _, _, _, rfl, D8, T8⟩
end
end K8

set_option Elab.async false
set_option linter.all false
set_option maxRecDepth 100000
set_option maxHeartbeats 4000000
namespace K8
open PySem PySem.Spec PyProof.Rows L2
/-- the law is called where nothing is guarded: its one table, the script, and all that stands -/
theorem own_call {P : Program} {w : World} {K : PySem.W.Frag} {mg mb : Str → Option Value} {fa a c tb : Addr} {s₁ : Shared} {vs : List Value} {ns : List Int}
    (KX : K.In s₁.heap) (hns : s₁.heap.Ns mainGlobals mg) (hb : s₁.heap.Ns builtinsNs mb) (hbb : ∀ x : Str, x ≠ "__name__" → mb x = bootBuiltins x) (hlim : s₁.heap.NoLimit) (hg : s₁.gens = #[])
    (hT : s₁.heap.get? tb = some { cls := .none, data := .fields #[] }) (nT : K.lookup tb = none) (Cd : PySem.W.CodeHd s₁.heap c tb)
    (hbm : ∃ (bm : Addr) (ob : Obj), mg "__builtins__" = some (.ref bm) ∧ bm ≠ builtinsNs ∧ s₁.heap.get? bm = some ob ∧ ob.cls = .type "module" ∧ ob.dict = some builtinsNs ∧ ob.data = .plain)
    (ha : s₁.heap.get? a = some { cls := .type "list", data := .seq vs.toArray }) (hi : IntsAre vs ns) (hl : ns.length ≤ 63)
    (F : ∀ (base : Heap) (H : Hp), K.In base → base.Ns mainGlobals mg → LamX.TabB base mg c tb → Env0 P w K mg base callerA [] s₁ H → H tb = some (.tbl #[]) → SqL K H a (ns.map V.int) → codeAny (model P w) callerA (.call (.ref fa) ⟨[.ref a], []⟩) (CR CX0 [] P w H s₁ (fun v _ => v = .bl true) E0) s₁) :
    codeAny (model P w) callerA (.call (.ref fa) ⟨[.ref a], []⟩) (fun r s' => r = .ok (.ret (.bool true)) ∧ OldK s₁.heap s'.heap ∧ s'.os = s₁.os ∧ AllBare s'.gens) s₁ := by
  have rel := vals_ints hi
  have many := hi.length
  have short : ns.length ≤ sizeLine := small (by omega)
  have apart : a ≠ tb := fun z => by
    rw [z, hT] at ha
    have q : Data.fields #[] = Data.seq vs.toArray _ := congrArg Obj.data (Option.some.inj ha)
    cases q
  -- what is tracked when the law begins: its table; the script, where it is not the written part's
  classical
  let H : Hp := fun b => if b = tb then some (.tbl #[]) else if b = a ∧ K.lookup a = none then some (.frz { cls := .type "list", data := .seq vs.toArray } (.lst (ns.map V.int))) else none
  have Ht : H tb = some (.tbl #[]) := if_pos rfl
  have Hn : ∀ b, b ≠ tb → b ≠ a → H b = none := fun b h1 h2 => (if_neg h1).trans (if_neg fun z => h2 z.1)
  have Ha : K.lookup a = none → H a = some (.frz { cls := .type "list", data := .seq vs.toArray } (.lst (ns.map V.int))) := fun z => (if_neg apart).trans (if_pos ⟨rfl, z⟩)
  have Hk : ∀ o, K.lookup a = some o → H a = none := fun o z => (if_neg apart).trans (if_neg fun y => by rw [z] at y; cases y.2)
  have kinds : ∀ b u, H b = some u → (b = tb ∧ u = .tbl #[]) ∨ (b = a ∧ u = .frz { cls := .type "list", data := .seq vs.toArray } (.lst (ns.map V.int))) := fun b u e => by
    by_cases h1 : b = tb
    · subst h1
      rw [Ht] at e
      exact .inl ⟨rfl, (Option.some.inj e).symm⟩
    · by_cases h2 : b = a
      · subst h2
        cases q : K.lookup b with
        | none => rw [Ha q] at e; exact .inr ⟨rfl, (Option.some.inj e).symm⟩
        | some o => rw [Hk o q] at e; cases e
      · rw [Hn b h1 h2] at e; cases e
  have hS : SqL K H a (ns.map V.int) := by
    cases q : K.lookup a with
    | none => exact .inl (.inr ⟨_, Ha q⟩)
    | some o =>
      have e := KX a o q
      rw [ha] at e
      cases e
      exact .inr ⟨_, vs.toArray, _, q, rfl, rfl, rfl, by rw [List.size_toArray, many]; exact short, by simpa using rel⟩
  have hok : HOk P w H s₁.heap := fun b u e => by
    rcases kinds b u e with ⟨rfl, rfl⟩ | ⟨rfl, rfl⟩
    · exact hT
    · exact ⟨ha, by rw [List.length_map]; exact short, vs, _, rel, ha⟩
  -- the base: what is not tracked
  have free : ∀ {b : Addr} {o : Obj}, s₁.heap.get? b = some o → (∀ ws n, o.data ≠ .seq ws n) → o.data ≠ .fields #[] → H b = none := fun {b o} e n1 n2 => by
    cases q : H b with
    | none => rfl
    | some u =>
      rcases kinds b u q with ⟨rfl, _⟩ | ⟨rfl, _⟩
      · rw [hT] at e
        cases e
        exact (n2 rfl).elim
      · rw [ha] at e
        cases e
        exact (n1 _ _ rfl).elim
  have dictFree : ∀ {b : Addr} {o : Obj} {es : Array DictEntry} {ep : Nat}, s₁.heap.get? b = some o → o.data = .dict es ep → H b = none := fun {b o es ep} e d =>
    free e (fun ws n z => by rw [d] at z; cases z) (fun z => by rw [d] at z; cases z)
  have nsB : ∀ {b : Addr} {m : Str → Option Value}, s₁.heap.Ns b m → (hidT s₁.heap H).Ns b m := fun {b m} ⟨o, es, ep, e, d, r⟩ => ⟨o, es, ep, hidT_get e (dictFree e d), d, r⟩
  have KB : K.In (hidT s₁.heap H) := fun b o e => hidT_get (KX b o e) (by
    cases q : H b with
    | none => rfl
    | some u =>
      rcases kinds b u q with ⟨rfl, _⟩ | ⟨rfl, _⟩
      · rw [nT] at e; cases e
      · rw [Hk o e] at q; cases q)
  have MB : L2.Mod K mg (hidT s₁.heap H) := ⟨KB, nsB hns, ⟨mb, nsB hb, hbb⟩, let ⟨mc, h1, h2⟩ := hlim; ⟨mc, nsB h1, h2⟩⟩
  have TB : LamX.TabB (hidT s₁.heap H) mg c tb := by
    refine ⟨?_, ?_, fun z => ?_⟩
    · obtain ⟨o, us, file, tf, flags, tg, inF, text, tt, e1, r1, r2, r3, r4, r5, r6, r7, r8, hne⟩ := Cd
      refine ⟨o, us, file, tf, flags, tg, inF, text, tt, hidT_get e1 (free e1 (fun ws n z => ?_) fun z => ?_), r1, r2, r3, r4, r5, r6, r7, r8, hne⟩
      · rw [r2] at z; cases z
      · rw [r2] at z
        cases z
        simp at r3
    · obtain ⟨bm, ob, b1, b2, b3, b4, b5, b6⟩ := hbm
      have plain : H bm = none := free b3 (fun ws n z => by rw [b6] at z; cases z) fun z => by rw [b6] at z; cases z
      refine ⟨bm, ob, b1, b2, fun q => ?_, fun q => ?_, hidT_get b3 plain, b4, b5, b6⟩
      · obtain ⟨o, es, ep, e, hd, _⟩ := hns
        rw [q, e] at b3
        cases b3
        rw [hd] at b6
        cases b6
      · rw [q, Ht] at plain
        cases plain
    · obtain ⟨o, es, ep, e, hd, _⟩ := hns
      have := dictFree e hd
      rw [z, Ht] at this
      cases this
  have e0 : Env0 P w K mg (hidT s₁.heap H) callerA [] s₁ H := ⟨rfl, MB, fun b o e => of_hidT e, Nat.le_of_eq (hidT_size _ _), trivial, fun b z => absurd (show b ∈ ([] : List Addr) from z) (by simp), hok, .of_eq hg⟩
  refine codeAny_mono (F _ H KB (nsB hns) TB e0 Ht hS) fun r s' h => ?_
  cases r with
  | error e => exact (show False from h).elim
  | ok fl =>
    cases fl with
    | next => exact False.elim h
    | brk => exact False.elim h
    | cont => exact False.elim h
    | ret u =>
      obtain ⟨v, H', os, bare, un, hok', r', q⟩ := h
      have q : v = .bl true := q
      subst q
      obtain rfl : u = Value.bool true := r'
      obtain ⟨more, hm⟩ := un.tbls tb #[] Ht
      have hm' := hok' tb _ hm
      have same : ∀ b o, b ≠ tb → s₁.heap.get? b = some o → s'.heap.get? b = some o := fun b o nb e => by
        cases q : H b with
        | none => exact un.keep b o e q (fun z => absurd (show b ∈ ([] : List Addr) from z) (by simp)) (by simp)
        | some u =>
          rcases kinds b u q with ⟨z, _⟩ | ⟨rfl, rfl⟩
          · exact absurd z nb
          · obtain ⟨e2, _⟩ := hok' b _ (un.frzs b _ _ q)
            rw [ha] at e
            cases e
            exact e2
      refine ⟨rfl, ⟨fun b o e => ?_, fun b o e => ?_⟩, os, bare⟩
      · by_cases hb2 : b = tb
        · subst hb2
          rw [hT] at e
          cases e
          exact .inr (.inl ⟨(Cd.tab hT).isCodeTable, rfl, #[], _, rfl, hm'⟩)
        · exact .inl (same b o hb2 e)
      · by_cases hb2 : b = tb
        · subst hb2
          exact ⟨_, hm'⟩
        · exact ⟨o, same b o hb2 e⟩
theorem walk_own {l : PySem.W.OpenLaw} {q : Program} {loose : List Str} {XP : (Str → Option Value) → Heap → Prop} {YP : World → Heap → Prop} {d : DefRec} {K : Params → PySem.W.Frag} {tb : Addr}
    (hn : l.most = some 63) (hdf : d.params.defaults = []) (hY : ∀ (w : World) (h : Heap), YP w h → (K w.params).In h) (hT : ∀ (w : World) (h : Heap), YP w h → h.get? tb = some { cls := .none, data := .fields #[] })
    (F : ∀ (w : World) (mg : Str → Option Value) (fa : Addr) (h : Heap), (K w.params).In h → h.Ns mainGlobals mg → mg d.name = some (.ref fa) → ∃ (c : Addr), (K w.params).lookup tb = none ∧ PySem.W.CodeHd h c tb ∧
      ∀ (base : Heap) (s : Shared) (H : Hp) (a : Addr) (ns : List Int), (K w.params).In base → base.Ns mainGlobals mg → LamX.TabB base mg c tb → Env0 l.prog w (K w.params) mg base callerA [] s H → H tb = some (.tbl #[]) → SqL (K w.params) H a (ns.map V.int) → ns.length ≤ 63 →
        codeAny (model l.prog w) callerA (.call (.ref fa) ⟨[.ref a], []⟩) (CR CX0 [] l.prog w H s (fun v _ => v = .bl true) E0) s) :
    PySem.W.WalkO q loose XP YP l.row.toRowW d [] (fun f vs => PySem.call f vs) := by
  refine Att.attach_callB hn hdf fun w s₀ s₁ mg mb fa o pm cd doc a vs ns G Y ho hd hcd hmg hobj hints hlen hbits hg => ?_
  have KX := hY w _ Y
  obtain ⟨c, nT, Cd, run⟩ := F w mg fa _ KX G.T.g hmg
  exact own_call KX G.T.g G.T.b G.T.builtins G.T.nolimit hg (hT w _ Y) nT Cd G.T.bmain hobj hints hlen fun base H k1 k2 k3 k4 k5 k6 => run base s₁ H a ns k1 k2 k3 k4 k5 k6 hlen
end K8

set_option Elab.async false
set_option linter.all false
set_option maxRecDepth 100000
set_option maxHeartbeats 4000000
namespace K8
open PySem PySem.Spec PyProof.Rows L2
/-- a def of the top -/
def FnAt (K : PySem.W.Frag) (x : Str) (st : Stmt) : Prop := ∃ (f : Addr) (fd : FuncData), PySem.W.nsIn K mainGlobals x = some (some (.ref f)) ∧ Fun K x x st f fd
theorem fn_at {K : PySem.W.Frag} {x : Str} {st : Stmt} {f : Addr} {oc : Value} {od an : Option Addr} {osl : Array (Option Value)} {kV doc pm cdv ct : Value} (a : PySem.W.nsIn K mainGlobals x = some (some (.ref f)))
    (l : K.lookup f = some ⟨oc, od, .func (PySem.W.fnOf x x (defArgs st) (defBody st) (defScope st) .none kV doc pm an cdv ct), osl⟩) (c : PySem.W.codeIn K cdv x = true) (k : PySem.W.keepIn K (.ref f) = true) : FnAt K x st := ⟨f, _, a, fun_mk l c k⟩
theorem all_mk {l : PySem.W.OpenLaw} {w : World} {K : PySem.W.Frag} {h : Heap} {mg : Str → Option Value} {fa c C D fI fL tb : Addr} (X : K.In h) (G : h.Ns mainGlobals mg) (hfa : mg "law" = some (.ref fa))
    (i_word_of : FnAt K "word_of" s_word_of)
    (i_paper_text : FnAt K "paper_text" s_paper_text)
    (i_integer_of : FnAt K "integer_of" s_integer_of)
    (i_part_of : FnAt K "part_of" s_part_of)
    (i_paper_in : FnAt K "paper_in" s_paper_in)
    (i_read_paper : FnAt K "read_paper" s_read_paper)
    (i_is_plain_word : FnAt K "is_plain_word" s_is_plain_word)
    (i_is_paper : FnAt K "is_paper" s_is_paper)
    (i_law_draw : FnAt K "_law_draw" s_law_draw)
    (i_law_pick : FnAt K "_law_pick" s_law_pick)
    (i_law_same : FnAt K "_law_same" s_law_same)
    (i_law_deck : FnAt K "_law_deck" s_law_deck)
    (i_law_leaf : FnAt K "_law_leaf" s_law_leaf)
    (i_law_paper : FnAt K "_law_paper" s_law_paper)
    (i_law_deep : FnAt K "_law_deep" s_law_deep)
    (i_law_is_due : FnAt K "_law_is_due" s_law_is_due)
    (i_law_paper_text : FnAt K "_law_paper_text" s_law_paper_text)
    (i_law_read_word : FnAt K "_law_read_word" s_law_read_word)
    (i_law_read : FnAt K "_law_read" s_law_read)
    (i_law_bent : FnAt K "_law_bent" s_law_bent)
    (i_law_changed : FnAt K "_law_changed" s_law_changed)
    (i_law_is_short : FnAt K "_law_is_short" s_law_is_short)
    (i_law_heard : FnAt K "_law_heard" s_law_heard)
    {oc : Value} {od an : Option Addr} {osl : Array (Option Value)} {kV doc pm ct : Value} (aL : PySem.W.nsIn K mainGlobals "law" = some (some (.ref fL)))
    (lL : K.lookup fL = some ⟨oc, od, .func (PySem.W.fnOf "law" "law" (defArgs s_law) (defBody s_law) (defScope s_law) .none kV doc pm an (.ref c) ct), osl⟩) (cL : PySem.W.codeIn K (.ref c) "law" = true) (kL : PySem.W.keepIn K (.ref fL) = true)
    (hd : PySem.W.codeHdIn K c tb = true) (nT : K.lookup tb = none)
    {t_BLANK : Tok} (g_BLANK : PySem.W.nsIn K mainGlobals "BLANK" = some (some (.str (Str.ofString " ") t_BLANK)))
    {t_NONE : Tok} (g_NONE : PySem.W.nsIn K mainGlobals "NONE" = some (some (.str (Str.ofString "none") t_NONE)))
    {t_QUOTE : Tok} (g_QUOTE : PySem.W.nsIn K mainGlobals "QUOTE" = some (some (.str (Str.ofString "'") t_QUOTE)))
    {t_DIGITS : Tok} (g_DIGITS : PySem.W.nsIn K mainGlobals "DIGITS" = some (some (.str (Str.ofString "0123456789") t_DIGITS)))
    {t_MOST_DIGITS : Tok} (g_MOST_DIGITS : PySem.W.nsIn K mainGlobals "MOST_DIGITS" = some (some (.int 40 t_MOST_DIGITS)))
    (y_int : PySem.W.nsIn K mainGlobals "int" = some none)
    (y_tuple : PySem.W.nsIn K mainGlobals "tuple" = some none)
    (y_range : PySem.W.nsIn K mainGlobals "range" = some none)
    (y_isinstance : PySem.W.nsIn K mainGlobals "isinstance" = some none)
    (y_str : PySem.W.nsIn K mainGlobals "str" = some none)
    (y_len : PySem.W.nsIn K mainGlobals "len" = some none)
    (y_all : PySem.W.nsIn K mainGlobals "all" = some none)
    (y_any : PySem.W.nsIn K mainGlobals "any" = some none)
    (y_list : PySem.W.nsIn K mainGlobals "list" = some none)
    (y_bool : PySem.W.nsIn K mainGlobals "bool" = some none)
    (y_repr : PySem.W.nsIn K mainGlobals "repr" = some none)
    (y_max : PySem.W.nsIn K mainGlobals "max" = some none)
    (y_zip : PySem.W.nsIn K mainGlobals "zip" = some none)
    {nm q : Str} {N : Addr} {bs bm : List Value} {sn : List Str} {sub : List Value} {ab : Bool} {col : Option Bool} {dd : Option Addr} {m0 m1 m2 m3 m5 : Option Value} {oc1 : Value} {od1 an1 : Option Addr} {sl1 : Array (Option Value)} {dc1 pm1 cd1 ct1 : Value}
    (aC : PySem.W.nsIn K mainGlobals "InvalidText" = some (some (.ref C))) (aD : PySem.W.nsIn K mainGlobals "FlowError" = some (some (.ref D)))
    (xL : K.lookup C = some (excClassObj nm q C N bs bm true sn sub ab col dd m0 m1 m2 m3 m5 "Exception.__new__")) (ow : XcI.Own bm)
    (sa : PySem.W.findIn K (.ref C) "__setattr__" = some (some (.builtin "object.__setattr__"))) (ga : PySem.W.findIn K (.ref C) "__getattribute__" = some (some (.builtin "BaseException.__getattribute__"))) (gg : PySem.W.findIn K (.ref C) "__getattr__" = some none) (nb : PySem.W.findIn K (.ref C) "line" = some none)
    (a1 : PySem.W.findIn K (.ref C) "__init__" = some (some (.ref fI))) (t1 : PySem.W.typeIn K (.ref fI) = some (.type "function"))
    (l1 : K.lookup fI = some ⟨oc1, od1, .func (PySem.W.fnOf "__init__" "InvalidText.__init__" (XcI.iA ⟨6, 17, 6, 21⟩ ⟨6, 23, 6, 27⟩) (XcI.iB ⟨7, 8, 7, 12⟩ ⟨7, 8, 7, 17⟩ ⟨7, 20, 7, 24⟩ ⟨7, 8, 7, 24⟩) XcI.iS .none .none dc1 pm1 an1 cd1 ct1), sl1⟩) (c1 : PySem.W.codeIn K cd1 "InvalidText.__init__" = true)
    (kC : PySem.W.keepIn K (.ref C) = true) (eC : PySem.W.subIn K (.ref C) (.type "BaseException") = some true) (tC : PySem.W.typeIn K (.ref C) = some (.type "type")) (hC : PySem.W.hasDictIn K C = true) (sC : PySem.W.subIn K (.ref C) (.ref C) = some true)
    (cc : PySem.W.findIn K (.ref C) "__class__" = some (some (.builtin "object.__class__"))) (sp : PySem.W.specialIn K (.builtin "object.__class__") "__get__" = some (some (.builtin "getset_descriptor.__get__"))) (tk : PySem.W.takesIn K (.builtin "object.__class__") = some true)
    (mo : PySem.W.mroIn K C (.type "object") = some true) (kit : PySem.W.kitOne K (.ref C) (.ref D) = some true) :
    ∃ (c : Addr), K.lookup tb = none ∧ PySem.W.CodeHd h c tb ∧
      ∀ (base : Heap) (s : Shared) (H : Hp) (a : Addr) (ns : List Int), K.In base → base.Ns mainGlobals mg → LamX.TabB base mg c tb → Env0 l.prog w K mg base callerA [] s H → H tb = some (.tbl #[]) → SqL K H a (ns.map V.int) → ns.length ≤ 63 →
        codeAny (model l.prog w) callerA (.call (.ref fa) ⟨[.ref a], []⟩) (CR CX0 [] l.prog w H s (fun v _ => v = .bl true) E0) s := by
  have e := hfa.symm.trans (PySem.W.mg_of X G aL)
  cases e
  obtain ⟨f_word_of, d_word_of, a_word_of, F_word_of⟩ := i_word_of
  obtain ⟨f_paper_text, d_paper_text, a_paper_text, F_paper_text⟩ := i_paper_text
  obtain ⟨f_integer_of, d_integer_of, a_integer_of, F_integer_of⟩ := i_integer_of
  obtain ⟨f_part_of, d_part_of, a_part_of, F_part_of⟩ := i_part_of
  obtain ⟨f_paper_in, d_paper_in, a_paper_in, F_paper_in⟩ := i_paper_in
  obtain ⟨f_read_paper, d_read_paper, a_read_paper, F_read_paper⟩ := i_read_paper
  obtain ⟨f_is_plain_word, d_is_plain_word, a_is_plain_word, F_is_plain_word⟩ := i_is_plain_word
  obtain ⟨f_is_paper, d_is_paper, a_is_paper, F_is_paper⟩ := i_is_paper
  obtain ⟨f_law_draw, d_law_draw, a_law_draw, F_law_draw⟩ := i_law_draw
  obtain ⟨f_law_pick, d_law_pick, a_law_pick, F_law_pick⟩ := i_law_pick
  obtain ⟨f_law_same, d_law_same, a_law_same, F_law_same⟩ := i_law_same
  obtain ⟨f_law_deck, d_law_deck, a_law_deck, F_law_deck⟩ := i_law_deck
  obtain ⟨f_law_leaf, d_law_leaf, a_law_leaf, F_law_leaf⟩ := i_law_leaf
  obtain ⟨f_law_paper, d_law_paper, a_law_paper, F_law_paper⟩ := i_law_paper
  obtain ⟨f_law_deep, d_law_deep, a_law_deep, F_law_deep⟩ := i_law_deep
  obtain ⟨f_law_is_due, d_law_is_due, a_law_is_due, F_law_is_due⟩ := i_law_is_due
  obtain ⟨f_law_paper_text, d_law_paper_text, a_law_paper_text, F_law_paper_text⟩ := i_law_paper_text
  obtain ⟨f_law_read_word, d_law_read_word, a_law_read_word, F_law_read_word⟩ := i_law_read_word
  obtain ⟨f_law_read, d_law_read, a_law_read, F_law_read⟩ := i_law_read
  obtain ⟨f_law_bent, d_law_bent, a_law_bent, F_law_bent⟩ := i_law_bent
  obtain ⟨f_law_changed, d_law_changed, a_law_changed, F_law_changed⟩ := i_law_changed
  obtain ⟨f_law_is_short, d_law_is_short, a_law_is_short, F_law_is_short⟩ := i_law_is_short
  obtain ⟨f_law_heard, d_law_heard, a_law_heard, F_law_heard⟩ := i_law_heard
  have T : Nonempty (Facts K mg) := ⟨{
    f_word_of := f_word_of, d_word_of := d_word_of, F_word_of := F_word_of, m_word_of := PySem.W.mg_of X G a_word_of,
    f_paper_text := f_paper_text, d_paper_text := d_paper_text, F_paper_text := F_paper_text, m_paper_text := PySem.W.mg_of X G a_paper_text,
    f_integer_of := f_integer_of, d_integer_of := d_integer_of, F_integer_of := F_integer_of, m_integer_of := PySem.W.mg_of X G a_integer_of,
    f_part_of := f_part_of, d_part_of := d_part_of, F_part_of := F_part_of, m_part_of := PySem.W.mg_of X G a_part_of,
    f_paper_in := f_paper_in, d_paper_in := d_paper_in, F_paper_in := F_paper_in, m_paper_in := PySem.W.mg_of X G a_paper_in,
    f_read_paper := f_read_paper, d_read_paper := d_read_paper, F_read_paper := F_read_paper, m_read_paper := PySem.W.mg_of X G a_read_paper,
    f_is_plain_word := f_is_plain_word, d_is_plain_word := d_is_plain_word, F_is_plain_word := F_is_plain_word, m_is_plain_word := PySem.W.mg_of X G a_is_plain_word,
    f_is_paper := f_is_paper, d_is_paper := d_is_paper, F_is_paper := F_is_paper, m_is_paper := PySem.W.mg_of X G a_is_paper,
    f_law_draw := f_law_draw, d_law_draw := d_law_draw, F_law_draw := F_law_draw, m_law_draw := PySem.W.mg_of X G a_law_draw,
    f_law_pick := f_law_pick, d_law_pick := d_law_pick, F_law_pick := F_law_pick, m_law_pick := PySem.W.mg_of X G a_law_pick,
    f_law_same := f_law_same, d_law_same := d_law_same, F_law_same := F_law_same, m_law_same := PySem.W.mg_of X G a_law_same,
    f_law_deck := f_law_deck, d_law_deck := d_law_deck, F_law_deck := F_law_deck, m_law_deck := PySem.W.mg_of X G a_law_deck,
    f_law_leaf := f_law_leaf, d_law_leaf := d_law_leaf, F_law_leaf := F_law_leaf, m_law_leaf := PySem.W.mg_of X G a_law_leaf,
    f_law_paper := f_law_paper, d_law_paper := d_law_paper, F_law_paper := F_law_paper, m_law_paper := PySem.W.mg_of X G a_law_paper,
    f_law_deep := f_law_deep, d_law_deep := d_law_deep, F_law_deep := F_law_deep, m_law_deep := PySem.W.mg_of X G a_law_deep,
    f_law_is_due := f_law_is_due, d_law_is_due := d_law_is_due, F_law_is_due := F_law_is_due, m_law_is_due := PySem.W.mg_of X G a_law_is_due,
    f_law_paper_text := f_law_paper_text, d_law_paper_text := d_law_paper_text, F_law_paper_text := F_law_paper_text, m_law_paper_text := PySem.W.mg_of X G a_law_paper_text,
    f_law_read_word := f_law_read_word, d_law_read_word := d_law_read_word, F_law_read_word := F_law_read_word, m_law_read_word := PySem.W.mg_of X G a_law_read_word,
    f_law_read := f_law_read, d_law_read := d_law_read, F_law_read := F_law_read, m_law_read := PySem.W.mg_of X G a_law_read,
    f_law_bent := f_law_bent, d_law_bent := d_law_bent, F_law_bent := F_law_bent, m_law_bent := PySem.W.mg_of X G a_law_bent,
    f_law_changed := f_law_changed, d_law_changed := d_law_changed, F_law_changed := F_law_changed, m_law_changed := PySem.W.mg_of X G a_law_changed,
    f_law_is_short := f_law_is_short, d_law_is_short := d_law_is_short, F_law_is_short := F_law_is_short, m_law_is_short := PySem.W.mg_of X G a_law_is_short,
    f_law_heard := f_law_heard, d_law_heard := d_law_heard, F_law_heard := F_law_heard, m_law_heard := PySem.W.mg_of X G a_law_heard,
    f_law := fa, d_law := _, F_law := fun_mk (st := s_law) lL cL kL, m_law := PySem.W.mg_of X G aL,
    t_BLANK := t_BLANK, n_BLANK := PySem.W.mg_of X G g_BLANK,
    t_NONE := t_NONE, n_NONE := PySem.W.mg_of X G g_NONE,
    t_QUOTE := t_QUOTE, n_QUOTE := PySem.W.mg_of X G g_QUOTE,
    t_DIGITS := t_DIGITS, n_DIGITS := PySem.W.mg_of X G g_DIGITS,
    t_MOST_DIGITS := t_MOST_DIGITS, n_MOST_DIGITS := PySem.W.mg_of X G g_MOST_DIGITS,
    z_int := PySem.W.mg_none_of X G y_int,
    z_tuple := PySem.W.mg_none_of X G y_tuple,
    z_range := PySem.W.mg_none_of X G y_range,
    z_isinstance := PySem.W.mg_none_of X G y_isinstance,
    z_str := PySem.W.mg_none_of X G y_str,
    z_len := PySem.W.mg_none_of X G y_len,
    z_all := PySem.W.mg_none_of X G y_all,
    z_any := PySem.W.mg_none_of X G y_any,
    z_list := PySem.W.mg_none_of X G y_list,
    z_bool := PySem.W.mg_none_of X G y_bool,
    z_repr := PySem.W.mg_none_of X G y_repr,
    z_max := PySem.W.mg_none_of X G y_max,
    z_zip := PySem.W.mg_none_of X G y_zip }⟩
  obtain ⟨T⟩ := T
  have TX : XcI.Txt K mg C D fI :=
    { gC := PySem.W.mg_of X G aC, gD := PySem.W.mg_of X G aD, cls := ⟨nm, q, N, bs, bm, sn, sub, ab, col, dd, m0, m1, m2, m3, m5, xL, ow⟩, sa := sa, ga := ga, gg := gg, noN := nb, iC := a1, tC := t1, kC := kC, exC := eC, tyC := tC, hdC := hC,
      te := PySem.W.exm_ref eC hC tC sC, cc := cc, sp := sp, tk := tk, mo := mo, kit := kit, fn := ⟨_, _, _, _, _, _, _, _, _, _, _, _, _, _, l1, c1⟩ }
  refine ⟨c, nT, PySem.W.codeHd_of_K X hd, fun base s H a ns k1 k2 TB e0 hT hS hl => ?_⟩
  refine LamX.run_ofS (k := 192) (N := LN) (ps := ["script"]) (us := [.ref a]) (vs := [.ref a]) lL cL c_law ⟨rfl, by decide, by decide⟩ e0 (.of_eq rfl) (.cons rfl .nil) rfl fun hr => ?_
  obtain ⟨t, h1, h2⟩ := law_body (base := base) T TX TB (PySem.W.mg_none_of X G y_repr) s H hr a ns hS hl hT
  exact ⟨t, h1.nox, h2⟩
end K8

set_option Elab.async false
set_option maxRecDepth 100000
open PySem PySem.W PyProof.Rows
set_option maxHeartbeats 0 in
theorem PySem.Challenge.cw_plugcaller_k80_papers_and_their_texts_holds : PySem.Challenge.rw_plugcaller_k80_papers_and_their_texts.Holds := by
  w_on; o_law; k_head; (case hw => w_witness2)
  k_fill
  refine K8.walk_own (l := PySem.Challenge.rw_plugcaller_k80_papers_and_their_texts) (tb := 195) rfl rfl (fun w h Y => PySem.W.km_in_of Y) (fun w h Y => PySem.W.km_tabs_of Y 195 (by simp)) ?F
  case F =>
    intro w mg fa h KX G hmg
    refine' K8.all_mk (tb := 195) KX G hmg
      (K8.fn_at ?a0 ?l0 ?c0 ?k0)
      (K8.fn_at ?a1 ?l1 ?c1 ?k1)
      (K8.fn_at ?a2 ?l2 ?c2 ?k2)
      (K8.fn_at ?a3 ?l3 ?c3 ?k3)
      (K8.fn_at ?a4 ?l4 ?c4 ?k4)
      (K8.fn_at ?a5 ?l5 ?c5 ?k5)
      (K8.fn_at ?a6 ?l6 ?c6 ?k6)
      (K8.fn_at ?a7 ?l7 ?c7 ?k7)
      (K8.fn_at ?a8 ?l8 ?c8 ?k8)
      (K8.fn_at ?a9 ?l9 ?c9 ?k9)
      (K8.fn_at ?a10 ?l10 ?c10 ?k10)
      (K8.fn_at ?a11 ?l11 ?c11 ?k11)
      (K8.fn_at ?a12 ?l12 ?c12 ?k12)
      (K8.fn_at ?a13 ?l13 ?c13 ?k13)
      (K8.fn_at ?a14 ?l14 ?c14 ?k14)
      (K8.fn_at ?a15 ?l15 ?c15 ?k15)
      (K8.fn_at ?a16 ?l16 ?c16 ?k16)
      (K8.fn_at ?a17 ?l17 ?c17 ?k17)
      (K8.fn_at ?a18 ?l18 ?c18 ?k18)
      (K8.fn_at ?a19 ?l19 ?c19 ?k19)
      (K8.fn_at ?a20 ?l20 ?c20 ?k20)
      (K8.fn_at ?a21 ?l21 ?c21 ?k21)
      (K8.fn_at ?a22 ?l22 ?c22 ?k22)
      ?aL ?lL ?cL ?kL ?hd ?nT
      ?gBLANK
      ?gNONE
      ?gQUOTE
      ?gDIGITS
      ?gMOST_DIGITS
      ?yint
      ?ytuple
      ?yrange
      ?yisinstance
      ?ystr
      ?ylen
      ?yall
      ?yany
      ?ylist
      ?ybool
      ?yrepr
      ?ymax
      ?yzip
      ?xaC ?xaD ?xxL ?xow ?xsa ?xga ?xgg ?xnb ?xa1_ ?xt1_ ?xl1_ ?xc1_ ?xkC ?xeC ?xtC ?xhC ?xsC ?xcc ?xsp ?xtk ?xmo ?xkit
    (case a0 => k_is); (case l0 => k_is); (case c0 => k_is); (case k0 => k_is)
    (case a1 => k_is); (case l1 => k_is); (case c1 => k_is); (case k1 => k_is)
    (case a2 => k_is); (case l2 => k_is); (case c2 => k_is); (case k2 => k_is)
    (case a3 => k_is); (case l3 => k_is); (case c3 => k_is); (case k3 => k_is)
    (case a4 => k_is); (case l4 => k_is); (case c4 => k_is); (case k4 => k_is)
    (case a5 => k_is); (case l5 => k_is); (case c5 => k_is); (case k5 => k_is)
    (case a6 => k_is); (case l6 => k_is); (case c6 => k_is); (case k6 => k_is)
    (case a7 => k_is); (case l7 => k_is); (case c7 => k_is); (case k7 => k_is)
    (case a8 => k_is); (case l8 => k_is); (case c8 => k_is); (case k8 => k_is)
    (case a9 => k_is); (case l9 => k_is); (case c9 => k_is); (case k9 => k_is)
    (case a10 => k_is); (case l10 => k_is); (case c10 => k_is); (case k10 => k_is)
    (case a11 => k_is); (case l11 => k_is); (case c11 => k_is); (case k11 => k_is)
    (case a12 => k_is); (case l12 => k_is); (case c12 => k_is); (case k12 => k_is)
    (case a13 => k_is); (case l13 => k_is); (case c13 => k_is); (case k13 => k_is)
    (case a14 => k_is); (case l14 => k_is); (case c14 => k_is); (case k14 => k_is)
    (case a15 => k_is); (case l15 => k_is); (case c15 => k_is); (case k15 => k_is)
    (case a16 => k_is); (case l16 => k_is); (case c16 => k_is); (case k16 => k_is)
    (case a17 => k_is); (case l17 => k_is); (case c17 => k_is); (case k17 => k_is)
    (case a18 => k_is); (case l18 => k_is); (case c18 => k_is); (case k18 => k_is)
    (case a19 => k_is); (case l19 => k_is); (case c19 => k_is); (case k19 => k_is)
    (case a20 => k_is); (case l20 => k_is); (case c20 => k_is); (case k20 => k_is)
    (case a21 => k_is); (case l21 => k_is); (case c21 => k_is); (case k21 => k_is)
    (case a22 => k_is); (case l22 => k_is); (case c22 => k_is); (case k22 => k_is)
    (case aL => k_is); (case lL => k_is); (case cL => k_is); (case kL => k_is); (case hd => kernel_rfl); (case nT => kernel_rfl)
    (case gBLANK => k_is)
    (case gNONE => k_is)
    (case gQUOTE => k_is)
    (case gDIGITS => k_is)
    (case gMOST_DIGITS => k_is)
    (case yint => k_is)
    (case ytuple => k_is)
    (case yrange => k_is)
    (case yisinstance => k_is)
    (case ystr => k_is)
    (case ylen => k_is)
    (case yall => k_is)
    (case yany => k_is)
    (case ylist => k_is)
    (case ybool => k_is)
    (case yrepr => k_is)
    (case ymax => k_is)
    (case yzip => k_is)
    (case xaC => k_is)
    (case xaD => k_is)
    (case xxL => k_is)
    (case xow => exact .cons _ .end_)
    (case xsa => k_is)
    (case xga => k_is)
    (case xgg => k_is)
    (case xnb => k_is)
    (case xa1_ => k_is)
    (case xt1_ => k_is)
    (case xl1_ => k_is)
    (case xc1_ => k_is)
    (case xkC => k_is)
    (case xeC => k_is)
    (case xtC => k_is)
    (case xhC => k_is)
    (case xsC => k_is)
    (case xcc => k_is)
    (case xsp => k_is)
    (case xtk => k_is)
    (case xmo => k_is)
    (case xkit => first | kit_is | k_is | kernel_rfl)

