import PyProof.Rows.All
import HandS.ForMost
import HandS.Style
import HandS.Conv
import HandS.TupAny
import HandS.TupMul
import HandS.Deep
import HandS.Wide
import KE.SortData
import HandS.NoneIn
import KE.KIndexOf
import HandS.IsInst
import KE.GoesEnum
import KE.KRevSl
import HandS.More
import HandS.Set
import HandS.SetFor
import HandS.Strs
import KE.DatumOrd
import KE.KDictPairs
import KE.GoesZip
import KE.GoesMore
import KE.KDictZip
import PyProof.RangeIter
import HandS.ListItems
import HandS.DictTup
import PyProof.Transfer
import HandS.Zip
import KE.GoesComp
import KE.GoesOver
import KE.KItemsList
import PyProof.CollectWalk
import PyProof.TupleOfGen
import KE.KEqDict
import HandS.DictComp
import Wide.All
import OpenK.AllK
import Wide.FinOn
import PySem.Challenge.RW_heldapart_k32_whole_rows_of_functions
set_option Elab.async false
set_option linter.all false
set_option maxRecDepth 100000
/-! Dv0: what makes tuples, told with the object that is made: it has no dict of its own. -/
namespace L2
open PySem PySem.Spec PyProof.Rows
section
variable {X : Cx}
/-- a tuple's object as it is made -/
def tupO (its : List Value) : Obj := { cls := .type "tuple", data := .seq its.toArray }
abbrev NewT (H : Hp) (xs : List V) (Q : VK) : Prop := ∀ (p : Addr) (o : Obj), o.dict = none → H p = none → Q (.ref p) (upd H p (.frz o (.tup xs)))
theorem newT {pins : List (Addr × Obj)} {σ : L2.St} {H : Hp} {s : Shared} {xs : List V} {its : List Value} {Q : VK} (I : Inv X pins σ H s) (rv : Vals xs its) (hz : xs.length ≤ sizeLine) (q : NewT H xs Q) :
    EP X pins σ Q (.ref s.heap.objs.size) { s with heap := s.heap.push (tupO its) } := by
  have J : Inv X pins σ (upd H s.heap.objs.size (.frz (tupO its) (.tup xs))) { s with heap := s.heap.push (tupO its) } :=
    I.laid (t' := s.toks) (o := .frz (tupO its) (.tup xs)) (fun b u e => Heap.get?_push_of_some (tupO its) e) (Nat.le_refl _) ⟨Heap.get?_push_size s.heap (o := tupO its) rfl, hz, its, rv, IsTup.new s.heap its.toArray⟩
  exact ⟨.ref s.heap.objs.size, _, J, rfl, q _ _ rfl (I.hok.fresh (Nat.le_refl _))⟩
def tTupF (t : TA) : TE := fun σ H Q => t σ H fun xs H1 => xs.length ≤ sizeLine ∧ NewT H1 xs Q
theorem pe_tupF {es : List PySem.Expr} {t : TA} {k : Nat} {pos : Pos} (h : PA X es t) : PE X (.Tuple es k pos) (tTupF t) := by
  refine ⟨fun pins s σ H Q I hq => wpAny_Tuple_spliced (thn (h.run pos pins s σ H _ I hq) ?_)⟩
  rintro us s1 ⟨xs, H1, I1, rv, z, q⟩
  exact ⟨by rw [← rv.length]; exact z, newT I1 rv z q⟩
theorem call_tupF : CallR X (.type "tuple") (fun xs H Q => ∃ (p : Addr) (ys : List V), xs = [.ref p] ∧ ((SqL X.K H p ys ∧ NewT H ys Q) ∨ (SqT X.K H p ys ∧ Q (.ref p) H))) := by
  intro pins s σ H xs us Q I r h
  obtain ⟨p, ys, rfl, ⟨hq, q⟩ | ⟨hq, q⟩⟩ := h
  · rw [Vals.ref1 r]
    obtain ⟨its, rv, pl, hz⟩ := I.list hq
    have hl := rv.length
    refine call_tuple_list pl.isList (fun h2 kp => ?_) (by simp only [List.size_toArray] <;> omega)
    exact newT (I.kept (t' := s.toks) kp) rv hz q
  · rw [Vals.ref1 r]
    obtain ⟨its, _, pt, _⟩ := I.tuple hq
    exact call_tuple_same pt ⟨.ref p, H, I, rfl, q⟩
theorem op_catF : OpR X (binaryOp .Add) (fun x y H Q => ∃ (a b : Addr) (xs ys : List V), x = .ref a ∧ y = .ref b ∧ SqT X.K H a xs ∧ SqT X.K H b ys ∧ xs.length + ys.length ≤ sizeLine ∧
    (xs = [] → Q (.ref b) H) ∧ (xs ≠ [] → ys = [] → Q (.ref a) H) ∧ (xs ≠ [] → ys ≠ [] → NewT H (xs ++ ys) Q)) := by
  intro pins s σ H x y v u Q I rx ry h
  obtain ⟨a, b, xs, ys, rfl, rfl, ha, hb, hz, q0, q1, q2⟩ := h
  by_cases e : xs = []
  · exact op_catA pins s σ H _ _ v u Q I rx ry ⟨a, b, xs, ys, rfl, rfl, ha, hb, hz, q0, fun n => absurd e n, fun n => absurd e n⟩
  · cases rx
    cases ry
    obtain ⟨ia, ra, pa, _⟩ := I.tuple ha
    obtain ⟨ib, rb, pb, _⟩ := I.tuple hb
    refine HT.cat_tup pa pb (fun z => e (ra.nil_iff.mp z)) (fun z => ⟨.ref a, H, I, rfl, q1 e (rb.nil_iff.mp z)⟩) (fun z => ?_) (by have h1 := ra.length; have h2 := rb.length; omega)
    exact newT I (ra.append rb) (by rw [List.length_append]; exact hz) (q2 e fun w => z (rb.nil_iff.mpr w))
theorem sl_tupF : SlR X (fun x lo hi H Q => ∃ (a : Addr) (xs : List V), x = .ref a ∧ SqT X.K H a xs ∧
    (HT.sIx xs.length 0 lo = 0 ∧ HT.sIx xs.length xs.length hi = xs.length → Q (.ref a) H) ∧ (¬ (HT.sIx xs.length 0 lo = 0 ∧ HT.sIx xs.length xs.length hi = xs.length) → NewT H (cutV xs lo hi) Q)) := by
  intro pins s σ H x v vl vu lo hi sl Q I rx hs pl pu h
  obtain ⟨a, xs, rfl, hx, q1, q2⟩ := h
  by_cases hw : HT.sIx xs.length 0 lo = 0 ∧ HT.sIx xs.length xs.length hi = xs.length
  · exact sl_tupA pins s σ H _ v vl vu lo hi sl Q I rx hs pl pu ⟨a, xs, rfl, hx, q1, fun n => absurd hw n⟩
  · cases rx
    obtain ⟨its, rv, pt, hz⟩ := I.tuple hx
    have hl : its.toArray.size = xs.length := by rw [List.size_toArray, ← rv.length]
    refine ⟨"tuple", _, PyProof.Rows.slot_tuple_getitem.lookup, pt.typeIs, HT.getItem_tuple_cut pt hs pl pu (by rw [hl]; exact hw) ?_ (by rw [hl]; exact hz)⟩
    rw [hl]
    exact newT I ((rv.drop _).take _) (Nat.le_trans (cutV_length xs lo hi) hz) (q2 hw)
/-- t * k, of a tuple with an item and k from 2 on -/
theorem op_repF : OpR X (binaryOp .Mult) (fun x y H Q => ∃ (l : Addr) (k : Int) (xs : List V), x = .ref l ∧ y = .int k ∧ SqT X.K H l xs ∧ xs ≠ [] ∧ 2 ≤ k ∧ k ≤ 1000 ∧ xs.length ≤ 1000 ∧ NewT H (List.replicate k.toNat xs).flatten Q) := by
  intro pins s σ H x y v u Q I rx ry h
  obtain ⟨l, k, xs, rfl, rfl, hT, hne, h1, h2, hz, q⟩ := h
  cases rx
  obtain ⟨t, rfl⟩ := ry
  obtain ⟨its, rv, ⟨⟨cl, dd, da, sl⟩, ho, hc, n, hd⟩, _⟩ := I.tuple hT
  simp only at hc hd
  subst hc hd
  have le : its.length = xs.length := rv.length.symm
  have ie : its.toArray.isEmpty = false := by
    cases its with
    | nil => exact absurd (List.eq_nil_of_length_eq_zero le.symm) hne
    | cons a b => rfl
  have sz : its.toArray.size = xs.length := by rw [List.size_toArray, le]
  have big : ((its.toArray.size : Nat) : Int) * k ≤ 1000 * 1000 := by
    rw [sz]
    exact Int.le_trans (Int.mul_le_mul_of_nonneg_right (show ((xs.length : Nat) : Int) ≤ 1000 by omega) (by omega)) (by omega)
  have nb : k.toNat * xs.length ≤ 1000 * 1000 := Nat.mul_le_mul (by omega) hz
  have fl : (List.replicate k.toNat its).flatten.length ≤ sizeLine := by rw [PyProof.Rows.lm_len_rep_flat, le, sizeLine_eq]; omega
  have c0 : (decide (k < -(2 ^ 63)) || decide (k ≥ 2 ^ 63)) = false := Bool.or_eq_false_iff.mpr ⟨decide_eq_false (by omega), decide_eq_false (by omega)⟩
  have c1 : (its.toArray.isEmpty || k == 1) = false := Bool.or_eq_false_iff.mpr ⟨ie, beq_eq_false_iff_ne.mpr (by omega)⟩
  have c2 : (decide (k ≤ 0) || its.toArray.isEmpty) = false := Bool.or_eq_false_iff.mpr ⟨decide_eq_false (by omega), ie⟩
  have c4 : Builtin.Tuple.tupleTooMany (((its.toArray.size : Nat) : Int) * k) = false := by unfold Builtin.Tuple.tupleTooMany; rw [sizeLine_eq]; exact decide_eq_false (by omega)
  refine wpAny_binaryOp_repeat_ref (T := "tuple") (U := "int") (by decide) ⟨_, ho, rfl⟩ (fun s' => typeIs_int s' k t) noFill_tuple_mul F.fills_int_mul F.slot_int_rmul repeat_tuple F.slot_int_index.lookup ?_
  refine call_meets F.slot_int_rmul (typeIs_int s k t) F.entry_int_rmul (F.args_int_rmul_2 _ _) (int_rmul_tuple k t l its.toArray n dd sl) ⟨ho, rfl, ⟨_, ho, rfl⟩, ?_⟩
  refine call_meets F.slot_tuple_mul ⟨_, ho, rfl⟩ F.entry_tuple_mul (F.args_tuple_mul_2 _ _) (tuple_mulW l its.toArray n dd sl k t c0 c1 c2 (by omega) c4 (by rw [size_rep, List.size_toArray]; exact fl)) ⟨ho, ?_⟩
  rw [size_rep]
  exact newT I (rv.rep k.toNat) (by rw [PyProof.Rows.lm_len_rep_flat, sizeLine_eq]; omega) q
end
end L2

/-! Dv1: values as data (D), the mutable things by address (GH), how they lie in the layer's abstract heap, lifted readings. -/
namespace Dv
open PySem PySem.Spec L2
open PyProof.Rows hiding St

/-- a value: what never changes is told by what it holds, a thing that may change by its address -/
inductive D where
  | non | bl (b : Bool) | int (i : Int) | str (x : Str) | ty (n : String) | ref (a : Addr)
  | tup (ds : List D) | lst (ds : List D) | dct (kvs : List (Key × D))
  /-- a tuple that a walk gives, only to be taken apart -/
  | pr (ds : List D)
/-- a thing that may change -/
inductive MO where
  | lst (ds : List D) | dct (kvs : List (Key × D))
  /-- a dict while it is walked -/
  | fct (kvs : List (Key × D))
abbrev GH := Addr → Option MO
/-- the things known by address; the deck's address, where one is hidden -/
structure GS where
  g : GH
  o : Option Addr
def GS.set (S : GS) (p : Addr) (m : MO) : GS := { S with g := fun b => if b = p then some m else S.g b }
def GS.del (S : GS) (p : Addr) : GS := { S with g := fun b => if b = p then none else S.g b }
theorem GS.set_same {S : GS} {p : Addr} {m : MO} : (S.set p m).g p = some m := if_pos rfl
theorem GS.set_ne {S : GS} {p q : Addr} {m : MO} (h : q ≠ p) : (S.set p m).g q = S.g q := if_neg h
theorem GS.set_o {S : GS} {p : Addr} {m : MO} : (S.set p m).o = S.o := rfl
theorem GS.set_set {S : GS} {p : Addr} {m n : MO} : (S.set p m).set p n = S.set p n := by
  unfold GS.set
  congr 1
  funext b
  by_cases h : b = p
  · simp [h]
  · simp [h]

/-- a tuple without a dict of its own -/
def TpT (K : PySem.W.Frag) (H : Hp) (a : Addr) (vs : List V) : Prop :=
  (∃ o : Obj, H a = some (.frz o (.tup vs)) ∧ o.dict = none) ∨ ∃ (o : Obj) (its : Array Value) (n : Nat), K.lookup a = some o ∧ o.dict = none ∧ o.cls = .type "tuple" ∧ o.data = .seq its n ∧ its.size ≤ sizeLine ∧ Vals vs its.toList
theorem TpT.sq {K : PySem.W.Frag} {H : Hp} {a : Addr} {vs : List V} (h : TpT K H a vs) : SqT K H a vs := by
  rcases h with ⟨o, h, _⟩ | ⟨o, its, n, h1, _, h2⟩
  · exact .inl (.inr ⟨o, h⟩)
  · exact .inr ⟨o, its, n, h1, h2⟩
mutual
inductive Den (K : PySem.W.Frag) (H : Hp) : D → V → Prop
  | non : Den K H .non .non
  | bl (b : Bool) : Den K H (.bl b) (.bl b)
  | int (i : Int) : Den K H (.int i) (.int i)
  | str (x : Str) : Den K H (.str x) (.str x)
  | ty (n : String) : Den K H (.ty n) (.ty n)
  | ref (a : Addr) : Den K H (.ref a) (.ref a)
  | tup {a : Addr} {vs : List V} {ds : List D} : TpT K H a vs → DenL K H ds vs → Den K H (.tup ds) (.ref a)
  | pr {a : Addr} {vs : List V} {ds : List D} : SqT K H a vs → DenL K H ds vs → Den K H (.pr ds) (.ref a)
  | lst {a : Addr} {o : Obj} {vs : List V} {ds : List D} : H a = some (.frz o (.lst vs)) → DenL K H ds vs → Den K H (.lst ds) (.ref a)
  | dct {a : Addr} {o : Obj} {ks : List (Key × V)} {kvs : List (Key × D)} : H a = some (.frz o (.dK ks)) → DenK K H kvs ks → Den K H (.dct kvs) (.ref a)
inductive DenL (K : PySem.W.Frag) (H : Hp) : List D → List V → Prop
  | nil : DenL K H [] []
  | cons {d : D} {v : V} {ds : List D} {vs : List V} : Den K H d v → DenL K H ds vs → DenL K H (d :: ds) (v :: vs)
inductive DenK (K : PySem.W.Frag) (H : Hp) : List (Key × D) → List (Key × V) → Prop
  | nil : DenK K H [] []
  | cons {k : Key} {d : D} {v : V} {ds : List (Key × D)} {vs : List (Key × V)} : Den K H d v → DenK K H ds vs → DenK K H ((k, d) :: ds) ((k, v) :: vs)
end

/-- what never changes is as it was -/
structure Kp (H H' : Hp) : Prop where
  t : ∀ b xs, H b = some (.tup xs) → H' b = some (.tup xs)
  f : ∀ b o u, H b = some (.frz o u) → H' b = some (.frz o u)
theorem Kp.refl (H : Hp) : Kp H H := ⟨fun _ _ h => h, fun _ _ _ h => h⟩
theorem Kp.trans {H H1 H2 : Hp} (a : Kp H H1) (b : Kp H1 H2) : Kp H H2 := ⟨fun c x h => b.t c x (a.t c x h), fun c o u h => b.f c o u (a.f c o u h)⟩
theorem Kp.sqT {K : PySem.W.Frag} {H H' : Hp} {a : Addr} {vs : List V} (k : Kp H H') (h : SqT K H a vs) : SqT K H' a vs := by
  rcases h with (h | ⟨o, h⟩) | h
  · exact .inl (.inl (k.t _ _ h))
  · exact .inl (.inr ⟨o, k.f _ _ _ h⟩)
  · exact .inr h
theorem Kp.tpT {K : PySem.W.Frag} {H H' : Hp} {a : Addr} {vs : List V} (k : Kp H H') (h : TpT K H a vs) : TpT K H' a vs := by
  rcases h with ⟨o, h, d⟩ | h
  · exact .inl ⟨o, k.f _ _ _ h, d⟩
  · exact .inr h
/-- a new thing, or a change of a thing that may change -/
theorem Kp.new {H : Hp} {p : Addr} {o : HO} (h : H p = none) : Kp H (upd H p o) :=
  ⟨fun b x e => by rw [upd_ne (ne_of_none e h)]; exact e, fun b x u e => by rw [upd_ne (ne_of_none e h)]; exact e⟩
theorem Kp.lst {H : Hp} {p : Addr} {vs : List V} {o : HO} (h : H p = some (.lst vs)) : Kp H (upd H p o) :=
  ⟨fun b x e => by rw [upd_ne (ne_of e h (by intro z; cases z))]; exact e, fun b x u e => by rw [upd_ne (ne_of e h (by intro z; cases z))]; exact e⟩
theorem Kp.dct {H : Hp} {p : Addr} {vs : List (Key × V)} {o : HO} (h : H p = some (.dK vs)) : Kp H (upd H p o) :=
  ⟨fun b x e => by rw [upd_ne (ne_of e h (by intro z; cases z))]; exact e, fun b x u e => by rw [upd_ne (ne_of e h (by intro z; cases z))]; exact e⟩

section
variable {K : PySem.W.Frag} {H H' : Hp}
mutual
theorem Den.mono (k : Kp H H') : ∀ (d : D) (v : V), Den K H d v → Den K H' d v
  | .non, _, h => by cases h; exact .non
  | .bl _, _, h => by cases h; exact .bl _
  | .int _, _, h => by cases h; exact .int _
  | .str _, _, h => by cases h; exact .str _
  | .ty _, _, h => by cases h; exact .ty _
  | .ref _, _, h => by cases h; exact .ref _
  | .tup ds, _, h => by
    cases h with
    | tup h1 h2 => exact .tup (k.tpT h1) (DenL.mono k ds _ h2)
  | .pr ds, _, h => by
    cases h with
    | pr h1 h2 => exact .pr (k.sqT h1) (DenL.mono k ds _ h2)
  | .lst ds, _, h => by
    cases h with
    | lst h1 h2 => exact .lst (k.f _ _ _ h1) (DenL.mono k ds _ h2)
  | .dct ds, _, h => by
    cases h with
    | dct h1 h2 => exact .dct (k.f _ _ _ h1) (DenK.mono k ds _ h2)
theorem DenL.mono (k : Kp H H') : ∀ (ds : List D) (vs : List V), DenL K H ds vs → DenL K H' ds vs
  | [], _, h => by cases h; exact .nil
  | d :: ds, _, h => by
    cases h with
    | cons h1 h2 => exact .cons (Den.mono k d _ h1) (DenL.mono k ds _ h2)
theorem DenK.mono (k : Kp H H') : ∀ (ds : List (Key × D)) (vs : List (Key × V)), DenK K H ds vs → DenK K H' ds vs
  | [], _, h => by cases h; exact .nil
  | (_, d) :: ds, _, h => by
    cases h with
    | cons h1 h2 => exact .cons (Den.mono k d _ h1) (DenK.mono k ds _ h2)
end
theorem Den.mn {d : D} {v : V} (h : Den K H d v) (k : Kp H H') : Den K H' d v := Den.mono k d v h
theorem DenL.mn {d : List D} {v : List V} (h : DenL K H d v) (k : Kp H H') : DenL K H' d v := DenL.mono k d v h
theorem DenK.mn {d : List (Key × D)} {v : List (Key × V)} (h : DenK K H d v) (k : Kp H H') : DenK K H' d v := DenK.mono k d v h

theorem DenL.length : ∀ {ds : List D} {vs : List V}, DenL K H ds vs → ds.length = vs.length
  | [], _, h => by cases h; rfl
  | _ :: _, _, h => by
    cases h with
    | cons _ h2 => simp [DenL.length h2]
theorem DenL.append : ∀ {ds es : List D} {vs us : List V}, DenL K H ds vs → DenL K H es us → DenL K H (ds ++ es) (vs ++ us)
  | [], _, _, _, h, h' => by cases h; exact h'
  | _ :: _, _, _, _, h, h' => by
    cases h with
    | cons h1 h2 => exact .cons h1 (DenL.append h2 h')
theorem DenL.one {d : D} {v : V} (h : Den K H d v) : DenL K H [d] [v] := .cons h .nil
theorem DenL.get : ∀ {ds : List D} {vs : List V} {i : Nat} {d : D}, DenL K H ds vs → ds[i]? = some d → ∃ v, vs[i]? = some v ∧ Den K H d v
  | [], _, _, _, _, e => by simp at e
  | d :: ds, _, 0, _, h, e => by
    cases h with
    | cons h1 h2 => simp at e; subst e; exact ⟨_, rfl, h1⟩
  | d :: ds, _, i + 1, _, h, e => by
    cases h with
    | cons h1 h2 =>
      obtain ⟨v, e1, e2⟩ := DenL.get (i := i) h2 (by simpa using e)
      exact ⟨v, by simpa using e1, e2⟩
theorem DenL.drop : ∀ {ds : List D} {vs : List V} (n : Nat), DenL K H ds vs → DenL K H (ds.drop n) (vs.drop n)
  | _, _, 0, h => h
  | [], _, n + 1, h => by cases h; exact .nil
  | _ :: _, _, n + 1, h => by
    cases h with
    | cons _ h2 => exact DenL.drop n h2
theorem DenL.take : ∀ {ds : List D} {vs : List V} (n : Nat), DenL K H ds vs → DenL K H (ds.take n) (vs.take n)
  | _, _, 0, h => .nil
  | [], _, n + 1, h => by cases h; exact .nil
  | _ :: _, _, n + 1, h => by
    cases h with
    | cons h1 h2 => exact .cons h1 (DenL.take n h2)
theorem DenL.set {d : D} {v : V} (h : Den K H d v) : ∀ {ds : List D} {vs : List V} (i : Nat), DenL K H ds vs → DenL K H (ds.set i d) (vs.set i v)
  | [], _, _, q => by cases q; exact .nil
  | _ :: _, _, 0, q => by
    cases q with
    | cons _ h2 => exact .cons h h2
  | _ :: _, _, i + 1, q => by
    cases q with
    | cons h1 h2 => exact .cons h1 (DenL.set h i h2)
theorem DenL.eraseIdx : ∀ {ds : List D} {vs : List V} (i : Nat), DenL K H ds vs → DenL K H (ds.eraseIdx i) (vs.eraseIdx i)
  | [], _, _, q => by cases q; exact .nil
  | _ :: _, _, 0, q => by
    cases q with
    | cons _ h2 => exact h2
  | _ :: _, _, i + 1, q => by
    cases q with
    | cons h1 h2 => exact .cons h1 (DenL.eraseIdx i h2)
theorem DenL.dropLast {ds : List D} {vs : List V} (h : DenL K H ds vs) : DenL K H ds.dropLast vs.dropLast := by
  rw [List.dropLast_eq_take, List.dropLast_eq_take, h.length]
  exact h.take _
theorem DenL.reverse : ∀ {ds : List D} {vs : List V}, DenL K H ds vs → DenL K H ds.reverse vs.reverse
  | [], _, h => by cases h; exact .nil
  | _ :: _, _, h => by
    cases h with
    | cons h1 h2 =>
      rw [List.reverse_cons, List.reverse_cons]
      exact (DenL.reverse h2).append (.one h1)
theorem DenK.length : ∀ {ds : List (Key × D)} {vs : List (Key × V)}, DenK K H ds vs → ds.length = vs.length
  | [], _, h => by cases h; rfl
  | _ :: _, _, h => by
    cases h with
    | cons _ h2 => simp [DenK.length h2]

/-! ### a dict's pairs -/
def look (k : Key) : List (Key × D) → Option D
  | [] => none
  | (j, d) :: r => if j = k then some d else look k r
def has (k : Key) (l : List (Key × D)) : Bool := (look k l).isSome
/-- in its place, or at the end -/
def put (k : Key) (d : D) (l : List (Key × D)) : List (Key × D) :=
  if has k l = true then l.map (fun p => if p.1 = k then (p.1, d) else p) else l ++ [(k, d)]
theorem DenK.look {k : Key} : ∀ {ds : List (Key × D)} {vs : List (Key × V)}, DenK K H ds vs → (∀ d, look k ds = some d → ∃ v, valV vs k = some v ∧ Den K H d v) ∧ (Dv.look k ds = none → valV vs k = none)
  | [], _, h => by cases h; exact ⟨fun _ e => (by cases e), fun _ => rfl⟩
  | (j, e) :: r, _, h => by
    cases h with
    | cons h1 h2 =>
      obtain ⟨p, q⟩ := DenK.look (k := k) h2
      by_cases hj : j = k
      · refine ⟨fun d e => ?_, fun e => ?_⟩
        · rw [Dv.look, if_pos hj] at e
          cases e
          exact ⟨_, valV_pos hj, h1⟩
        · rw [Dv.look, if_pos hj] at e
          cases e
      · refine ⟨fun d e => ?_, fun e => ?_⟩
        · rw [Dv.look, if_neg hj] at e
          obtain ⟨v, e1, e2⟩ := p d e
          exact ⟨v, (valV_neg hj).trans e1, e2⟩
        · rw [Dv.look, if_neg hj] at e
          exact (valV_neg hj).trans (q e)
theorem DenK.has {k : Key} {ds : List (Key × D)} {vs : List (Key × V)} (h : DenK K H ds vs) : Dv.has k ds = (valV vs k).isSome := by
  unfold Dv.has
  cases e : Dv.look k ds with
  | none => rw [h.look.2 e]; rfl
  | some d =>
    obtain ⟨v, e1, _⟩ := h.look.1 d e
    rw [e1]
    rfl
theorem DenK.repl {k : Key} {d : D} {v : V} (q : Den K H d v) : ∀ {ds : List (Key × D)} {vs : List (Key × V)}, DenK K H ds vs →
    DenK K H (ds.map fun p => if p.1 = k then (p.1, d) else p) (vs.map fun p => if p.1 = k then (p.1, v) else p)
  | [], _, h => by cases h; exact .nil
  | (j, e) :: r, _, h => by
    cases h with
    | cons h1 h2 =>
      rw [List.map_cons, List.map_cons]
      by_cases hj : j = k
      · rw [if_pos hj, if_pos hj]
        exact .cons q (DenK.repl q h2)
      · rw [if_neg hj, if_neg hj]
        exact .cons h1 (DenK.repl q h2)
theorem DenK.append : ∀ {ds es : List (Key × D)} {vs us : List (Key × V)}, DenK K H ds vs → DenK K H es us → DenK K H (ds ++ es) (vs ++ us)
  | [], _, _, _, h, h' => by cases h; exact h'
  | _ :: _, _, _, _, h, h' => by
    cases h with
    | cons h1 h2 => exact .cons h1 (DenK.append h2 h')
theorem DenK.put {k : Key} {d : D} {v : V} {ds : List (Key × D)} {vs : List (Key × V)} (q : Den K H d v) (h : DenK K H ds vs) : DenK K H (Dv.put k d ds) (putK vs k v) := by
  unfold Dv.put putK
  rw [h.has, valV_any]
  split
  · exact h.repl q
  · exact h.append (.cons q .nil)
theorem length_put (k : Key) (d : D) (l : List (Key × D)) : (put k d l).length ≤ l.length + 1 := by
  unfold put
  split
  · rw [List.length_map]; omega
  · rw [List.length_append]; simp
end

/-! ### the things by address -/
section
variable (K : PySem.W.Frag) (DI : Addr → GH → Prop)
def RepM (H : Hp) (a : Addr) : MO → Prop
  | .lst ds => ∃ vs, H a = some (.lst vs) ∧ DenL K H ds vs
  | .dct kvs => ∃ ks, H a = some (.dK ks) ∧ DenK K H kvs ks
  | .fct kvs => ∃ o ks, H a = some (.frz o (.dK ks)) ∧ DenK K H kvs ks
/-- F: what stands beside, as it is -/
structure Rel (F : Hp) (S : GS) (H : Hp) : Prop where
  rep : ∀ a m, S.g a = some m → RepM K H a m
  hid : ∀ dk, S.o = some dk → ∃ G, DI dk G ∧ (∀ a m, G a = some m → RepM K H a m) ∧ (∀ a m, S.g a = some m → G a = none) ∧ ∀ a o, F a = some o → G a = none
  frm : ∀ a o, F a = some o → H a = some o ∧ S.g a = none
/-- the names -/
abbrev Env := List (Option D)
structure EnvR (H : Hp) (ρ : Env) (σ : St) : Prop where
  len : ρ.length = σ.length
  at_ : ∀ (i : Nat) (d : D), ρ[i]? = some (some d) → ∃ v, σ[i]? = some (some v) ∧ Den K H d v
end
section
variable {K : PySem.W.Frag} {DI : Addr → GH → Prop} {F H H' : Hp} {S : GS}
theorem RepM.mono {a : Addr} {m : MO} (r : RepM K H a m) (k : Kp H H') (h : H' a = H a) : RepM K H' a m := by
  cases m with
  | lst ds =>
    obtain ⟨vs, e, d⟩ := r
    exact ⟨vs, h.trans e, d.mn k⟩
  | dct kvs =>
    obtain ⟨vs, e, d⟩ := r
    exact ⟨vs, h.trans e, d.mn k⟩
  | fct kvs =>
    obtain ⟨o, vs, e, d⟩ := r
    exact ⟨o, vs, h.trans e, d.mn k⟩
theorem RepM.some {a : Addr} {m : MO} (r : RepM K H a m) : H a ≠ none := by
  cases m with
  | lst ds => obtain ⟨vs, e, d⟩ := r; rw [e]; simp
  | dct ds => obtain ⟨vs, e, d⟩ := r; rw [e]; simp
  | fct ds => obtain ⟨_, vs, e, d⟩ := r; rw [e]; simp
theorem EnvR.mn {ρ : Env} {σ : St} (e : EnvR K H ρ σ) (k : Kp H H') : EnvR K H' ρ σ :=
  ⟨e.len, fun i d h => let ⟨v, h1, h2⟩ := e.at_ i d h; ⟨v, h1, h2.mn k⟩⟩
theorem EnvR.set {ρ : Env} {σ : St} {i : Nat} {d : D} {v : V} (e : EnvR K H ρ σ) (h : Den K H d v) : EnvR K H (ρ.set i (.some d)) (σ.set i (.some v)) := by
  refine ⟨by simp [e.len], fun j x hx => ?_⟩
  by_cases hj : i = j
  · subst hj
    by_cases hl : i < ρ.length
    · rw [List.getElem?_set_self hl] at hx
      cases hx
      exact ⟨v, List.getElem?_set_self (by rw [← e.len]; exact hl), h⟩
    · rw [List.getElem?_eq_none (by rw [List.length_set]; omega)] at hx
      cases hx
  · rw [List.getElem?_set_ne hj] at hx ⊢
    exact e.at_ j x hx
/-- nothing that is known by its address has changed -/
theorem Rel.keep (r : Rel K DI F S H) (k : Kp H H') (h : ∀ a, H a ≠ none → H' a = H a) : Rel K DI F S H' where
  rep := fun a m e => (r.rep a m e).mono k (h a (r.rep a m e).some)
  hid := fun dk e => by
    obtain ⟨G, h1, h2, h3, h4⟩ := r.hid dk e
    exact ⟨G, h1, fun a m q => (h2 a m q).mono k (h a (h2 a m q).some), h3, h4⟩
  frm := fun a o e => by
    obtain ⟨h1, h2⟩ := r.frm a o e
    exact ⟨(h a (by rw [h1]; simp)).trans h1, h2⟩
theorem Rel.new {p : Addr} {o : HO} (r : Rel K DI F S H) (h : H p = none) : Rel K DI F S (upd H p o) :=
  r.keep (.new h) fun a q => upd_ne (fun e => q (by rw [e]; exact h))
theorem Rel.free {p : Addr} (r : Rel K DI F S H) (h : H p = none) : S.g p = none := by
  cases e : S.g p with
  | none => rfl
  | some m => exact absurd h (r.rep p m e).some
/-- the thing at p is another one, or new -/
theorem Rel.set {p : Addr} {m : MO} {o : HO} (r : Rel K DI F S H) (k : Kp H (upd H p o)) (hn : H p = none ∨ ∃ m, S.g p = some m) (new : RepM K (upd H p o) p m) : Rel K DI F (S.set p m) (upd H p o) where
  rep := fun a m' e => by
    by_cases ha : a = p
    · subst ha
      rw [GS.set_same] at e
      cases e
      exact new
    · rw [GS.set_ne ha] at e
      exact (r.rep a m' e).mono k (upd_ne ha)
  hid := fun dk e => by
    obtain ⟨G, h1, h2, h3, h4⟩ := r.hid dk e
    have hp : G p = none := by
      rcases hn with hn | ⟨m', hn⟩
      · cases q : G p with
        | none => rfl
        | some m' => exact absurd hn (h2 p m' q).some
      · exact h3 p m' hn
    refine ⟨G, h1, fun a m' q => (h2 a m' q).mono k (upd_ne (fun e => by rw [e, hp] at q; cases q)), fun a m' q => ?_, h4⟩
    by_cases ha : a = p
    · rw [ha]; exact hp
    · rw [GS.set_ne ha] at q
      exact h3 a m' q
  frm := fun a o' e => by
    obtain ⟨h1, h2⟩ := r.frm a o' e
    have ha : a ≠ p := by
      rintro rfl
      rcases hn with hn | ⟨m', hn⟩
      · rw [h1] at hn; cases hn
      · rw [h2] at hn; cases hn
    exact ⟨by rw [upd_ne ha]; exact h1, by rw [GS.set_ne ha]; exact h2⟩
/-- less is known -/
theorem Rel.less {S' : GS} (r : Rel K DI F S H) (h : ∀ a m, S'.g a = some m → S.g a = some m) (ho : S'.o = S.o) : Rel K DI F S' H :=
  ⟨fun a m e => r.rep a m (h a m e), fun dk e => let ⟨G, h1, h2, h3, h4⟩ := r.hid dk (ho ▸ e); ⟨G, h1, h2, fun a m q => h3 a m (h a m q), h4⟩, fun a o e => by
    obtain ⟨h1, h2⟩ := r.frm a o e
    refine ⟨h1, ?_⟩
    cases q : S'.g a with
    | none => rfl
    | some m => rw [h a m q] at h2; cases h2⟩
/-- one thing more that stands beside -/
theorem Rel.beside {p : Addr} {o : HO} (r : Rel K DI F S H) (h : H p = none) : Rel K DI (upd F p o) S (upd H p o) := by
  have r' := r.new (o := o) h
  refine ⟨r'.rep, fun dk e => ?_, fun a o' e => ?_⟩
  · obtain ⟨G, h1, h2, h3, h4⟩ := r.hid dk e
    have k : Kp H (upd H p o) := .new h
    have hp : G p = none := by
      cases q : G p with
      | none => rfl
      | some m' => exact absurd h (h2 p m' q).some
    refine ⟨G, h1, fun a m q => (h2 a m q).mono k (upd_ne (fun e => by rw [e, hp] at q; cases q)), h3, fun a o' q => ?_⟩
    by_cases ha : a = p
    · rw [ha]; exact hp
    · rw [upd_ne ha] at q
      exact h4 a o' q
  · by_cases ha : a = p
    · subst ha
      rw [upd_same] at e
      cases e
      exact ⟨upd_same, r.free h⟩
    · rw [upd_ne ha] at e
      exact r'.frm a o' e
/-- what stands beside is another thing now -/
theorem Rel.turn {p : Addr} {o u : HO} (r : Rel K DI F S H) (hF : F p = some u) (k : Kp H (upd H p o)) : Rel K DI (upd F p o) S (upd H p o) := by
  have hp := r.frm p u hF
  refine ⟨fun a m e => (r.rep a m e).mono k (upd_ne (fun z => by rw [z, hp.2] at e; cases e)), fun dk e => ?_, fun a o' e => ?_⟩
  · obtain ⟨G, h1, h2, h3, h4⟩ := r.hid dk e
    have hg := h4 p u hF
    refine ⟨G, h1, fun a m q => (h2 a m q).mono k (upd_ne (fun z => by rw [z, hg] at q; cases q)), h3, fun a o' q => ?_⟩
    by_cases ha : a = p
    · rw [ha]; exact hg
    · rw [upd_ne ha] at q
      exact h4 a o' q
  · by_cases ha : a = p
    · subst ha
      rw [upd_same] at e
      cases e
      exact ⟨upd_same, hp.2⟩
    · rw [upd_ne ha] at e
      obtain ⟨h1, h2⟩ := r.frm a o' e
      exact ⟨by rw [upd_ne ha]; exact h1, h2⟩
/-- what stood beside may be left -/
theorem Rel.alone {F' : Hp} (r : Rel K DI F S H) (h : ∀ a o, F' a = some o → F a = some o) : Rel K DI F' S H :=
  ⟨r.rep, fun dk e => let ⟨G, h1, h2, h3, h4⟩ := r.hid dk e; ⟨G, h1, h2, h3, fun a o q => h4 a o (h a o q)⟩, fun a o e => r.frm a o (h a o e)⟩
end

/-! ### readings -/
abbrev W := Env → GS → (D → GS → Prop) → Prop
abbrev WA := Env → GS → (List D → GS → Prop) → Prop
abbrev WT := Env → GS → (Bool → GS → Prop) → Prop
/-- an operation on values -/
abbrev W1 := D → GS → (D → GS → Prop) → Prop
abbrev W2 := D → D → GS → (D → GS → Prop) → Prop
abbrev WF := List D → GS → (D → GS → Prop) → Prop
section
variable (K : PySem.W.Frag) (DI : Addr → GH → Prop)
section
variable (F : Hp)
def Fin (H : Hp) (R : D → GS → Prop) (Q : VK) : Prop := ∀ d S v H', R d S → Rel K DI F S H' → Kp H H' → Den K H' d v → Q v H'
def FinA (H : Hp) (R : List D → GS → Prop) (Q : List V → Hp → Prop) : Prop := ∀ d S v H', R d S → Rel K DI F S H' → Kp H H' → DenL K H' d v → Q v H'
def FinT (H : Hp) (R : Bool → GS → Prop) (Q : Bool → Hp → Prop) : Prop := ∀ b S H', R b S → Rel K DI F S H' → Kp H H' → Q b H'
def FinU (H : Hp) (R : GS → Prop) (Q : Hp → Prop) : Prop := ∀ S H', R S → Rel K DI F S H' → Kp H H' → Q H'
end
def lft (w : W) : TE := fun σ H Q => ∃ F ρ S R, Rel K DI F S H ∧ EnvR K H ρ σ ∧ w ρ S R ∧ Fin K DI F H R Q
def lftA (w : WA) : TA := fun σ H Q => ∃ F ρ S R, Rel K DI F S H ∧ EnvR K H ρ σ ∧ w ρ S R ∧ FinA K DI F H R Q
def lftT (w : WT) : TT := fun σ H Q => ∃ F ρ S R, Rel K DI F S H ∧ EnvR K H ρ σ ∧ w ρ S R ∧ FinT K DI F H R Q
def lft1 (w : W1) : V → Hp → VK → Prop := fun x H Q => ∃ F d S R, Rel K DI F S H ∧ Den K H d x ∧ w d S R ∧ Fin K DI F H R Q
def lft2 (w : W2) : R2 := fun x y H Q => ∃ F d e S R, Rel K DI F S H ∧ Den K H d x ∧ Den K H e y ∧ w d e S R ∧ Fin K DI F H R Q
def lftF (w : WF) : List V → Hp → VK → Prop := fun xs H Q => ∃ F ds S R, Rel K DI F S H ∧ DenL K H ds xs ∧ w ds S R ∧ Fin K DI F H R Q
def lftM (w : D → WF) : V → List V → Hp → VK → Prop := fun x xs H Q => ∃ F d ds S R, Rel K DI F S H ∧ Den K H d x ∧ DenL K H ds xs ∧ w d ds S R ∧ Fin K DI F H R Q
end
section
variable {K : PySem.W.Frag} {DI : Addr → GH → Prop} {F H H' : Hp}
theorem Fin.up {R : D → GS → Prop} {Q : VK} (f : Fin K DI F H R Q) (k : Kp H H') : Fin K DI F H' R Q := fun d S v H2 r rel kp den => f d S v H2 r rel (k.trans kp) den
theorem FinA.up {R : List D → GS → Prop} {Q : List V → Hp → Prop} (f : FinA K DI F H R Q) (k : Kp H H') : FinA K DI F H' R Q := fun d S v H2 r rel kp den => f d S v H2 r rel (k.trans kp) den
theorem FinT.up {R : Bool → GS → Prop} {Q : Bool → Hp → Prop} (f : FinT K DI F H R Q) (k : Kp H H') : FinT K DI F H' R Q := fun b S H2 r rel kp => f b S H2 r rel (k.trans kp)
/-- the same heap -/
theorem Fin.at0 {R : D → GS → Prop} {Q : VK} {S : GS} {d : D} {v : V} (f : Fin K DI F H R Q) (r : R d S) (rel : Rel K DI F S H) (den : Den K H d v) : Q v H := f d S v H r rel (.refl H) den
end
end Dv

namespace L2
theorem PE.imp {X : Cx} {e : PySem.Expr} {t u : TE} (h : PE X e t) (i : ∀ σ H Q, u σ H Q → t σ H Q) : PE X e u := ⟨fun pins s σ H Q I q => h.run pins s σ H Q I (i _ _ _ q)⟩
theorem PT.imp {X : Cx} {e : PySem.Expr} {t u : TT} (h : PT X e t) (i : ∀ σ H Q, u σ H Q → t σ H Q) : PT X e u := ⟨fun pins s σ H Q I q => h.run pins s σ H Q I (i _ _ _ q)⟩
theorem PW.imp {X : Cx} {e : PySem.Expr} {t u : TT} (h : PW X e t) (i : ∀ σ H Q, u σ H Q → t σ H Q) : PW X e u := ⟨fun wh pins s σ H Q I q => h.run wh pins s σ H Q I (i _ _ _ q)⟩
theorem PA.imp {X : Cx} {e : List PySem.Expr} {t u : TA} (h : PA X e t) (i : ∀ σ H Q, u σ H Q → t σ H Q) : PA X e u := ⟨fun pos pins s σ H Q I q => h.run pos pins s σ H Q I (i _ _ _ q)⟩
theorem PS.imp {X : Cx} {e : PySem.Stmt} {t u : TS} (h : PS X e t) (i : ∀ E σ H, u E σ H → t E σ H) : PS X e u := ⟨fun pins s σ H E I q => h.run pins s σ H E I (i _ _ _ q)⟩
theorem PSs.imp {X : Cx} {e : List PySem.Stmt} {t u : TS} (h : PSs X e t) (i : ∀ E σ H, u E σ H → t E σ H) : PSs X e u := ⟨fun pins s σ H E I q => h.run pins s σ H E I (i _ _ _ q)⟩
theorem OpR.imp {X : Cx} {f : PySem.Value → PySem.Value → PySem.Sem PySem.Value} {r q : R2} (h : OpR X f r) (i : ∀ x y H Q, q x y H Q → r x y H Q) : OpR X f q := fun pins s σ H x y v u Q I rx ry z => h pins s σ H x y v u Q I rx ry (i _ _ _ _ z)
theorem CallR.imp {X : Cx} {f : PySem.Value} {r q : List V → Hp → VK → Prop} (h : CallR X f r) (i : ∀ x H Q, q x H Q → r x H Q) : CallR X f q := fun pins s σ H xs us Q I rx z => h pins s σ H xs us Q I rx (i _ _ _ z)
theorem MtR.imp {X : Cx} {id : String} {r q : V → List V → Hp → VK → Prop} (h : MtR X id r) (i : ∀ x xs H Q, q x xs H Q → r x xs H Q) : MtR X id q := fun pins s σ H x xs v us Q I rx rs z => h pins s σ H x xs v us Q I rx rs (i _ _ _ _ z)
theorem IxR.imp {X : Cx} {r q : R2} (h : IxR X r) (i : ∀ x y H Q, q x y H Q → r x y H Q) : IxR X q := fun value slice pins s σ H x y v u Q I rx ry z hs => h value slice pins s σ H x y v u Q I rx ry (i _ _ _ _ z) hs
end L2

/-! Dv2: names, constants, operators, comparisons, truth, subscripts, displays, by data. -/
namespace Dv
open PySem PySem.Spec L2
open PyProof.Rows hiding St

/-! ### data for == and repr -/
mutual
def dat : D → PyData
  | .non => .none
  | .bl b => .bool b
  | .int i => .int i
  | .str x => .str x
  | .ty _ => .none
  | .ref _ => .none
  | .pr _ => .none
  | .tup ds => .tuple (datL ds)
  | .lst ds => .list (datL ds)
  | .dct kvs => .dict (datK kvs)
def datL : List D → List PyData
  | [] => []
  | d :: ds => dat d :: datL ds
def datK : List (Key × D) → List (PyData × PyData)
  | [] => []
  | (k, d) :: ds => ((match k with | .inl i => .int i | .inr x => .str x), dat d) :: datK ds
end
mutual
/-- nothing that stands by its address -/
def pure? : D → Bool
  | .non => true
  | .bl _ => true
  | .int _ => true
  | .str _ => true
  | .ty _ => false
  | .ref _ => false
  | .pr _ => false
  | .tup ds => pureL ds
  | .lst ds => pureL ds
  | .dct kvs => pureK kvs
def pureL : List D → Bool
  | [] => true
  | d :: ds => pure? d && pureL ds
def pureK : List (Key × D) → Bool
  | [] => true
  | (_, d) :: ds => pure? d && pureK ds
end
mutual
/-- no dict within, texts of plain signs -/
def nod? : D → Bool
  | .non => true
  | .bl _ => true
  | .int _ => true
  | .str x => PyData.strOk x
  | .ty _ => true
  | .ref _ => true
  | .pr _ => true
  | .tup ds => nodL ds
  | .lst ds => nodL ds
  | .dct _ => false
def nodL : List D → Bool
  | [] => true
  | d :: ds => nod? d && nodL ds
end
mutual
def dep : D → Nat
  | .non => 0
  | .bl _ => 0
  | .int _ => 0
  | .str _ => 0
  | .ty _ => 0
  | .ref _ => 0
  | .pr _ => 0
  | .tup ds => depL ds + 1
  | .lst ds => depL ds + 1
  | .dct kvs => depK kvs + 1
def depL : List D → Nat
  | [] => 0
  | d :: ds => max (dep d) (depL ds)
def depK : List (Key × D) → Nat
  | [] => 0
  | (_, d) :: ds => max (dep d) (depK ds)
end
mutual
theorem depth_dat : ∀ d : D, (dat d).depth = dep d
  | .non => by simp [dat, dep, PyData.depth]
  | .bl _ => by simp [dat, dep, PyData.depth]
  | .int _ => by simp [dat, dep, PyData.depth]
  | .str _ => by simp [dat, dep, PyData.depth]
  | .ty _ => by simp [dat, dep, PyData.depth]
  | .ref _ => by simp [dat, dep, PyData.depth]
  | .pr _ => by simp [dat, dep, PyData.depth]
  | .tup ds => by simp [dat, dep, PyData.depth, depth_datL ds]
  | .lst ds => by simp [dat, dep, PyData.depth, depth_datL ds]
  | .dct ds => by simp [dat, dep, PyData.depth, depth_datK ds]
theorem depth_datL : ∀ ds : List D, PyData.depthAll (datL ds) = depL ds
  | [] => by simp [datL, depL, PyData.depthAll]
  | d :: ds => by simp [datL, depL, PyData.depthAll, depth_dat d, depth_datL ds]
theorem depth_datK : ∀ ds : List (Key × D), PyData.depthKv (datK ds) = depK ds
  | [] => by simp [datK, depK, PyData.depthKv]
  | (k, d) :: ds => by
    cases k <;> simp [datK, depK, PyData.depthKv, PyData.depth, depth_dat d, depth_datK ds]
end
mutual
theorem lay_dat : ∀ d : D, nod? d = true → (dat d).canLay0 = true
  | .non, _ => by simp [dat, PyData.canLay0]
  | .bl _, _ => by simp [dat, PyData.canLay0]
  | .int _, _ => by simp [dat, PyData.canLay0]
  | .str x, h => by simpa [dat, PyData.canLay0, nod?] using h
  | .ty _, _ => by simp [dat, PyData.canLay0]
  | .ref _, _ => by simp [dat, PyData.canLay0]
  | .pr _, _ => by simp [dat, PyData.canLay0]
  | .tup ds, h => by simp [dat, PyData.canLay0, lay_datL ds (by simpa [nod?] using h)]
  | .lst ds, h => by simp [dat, PyData.canLay0, lay_datL ds (by simpa [nod?] using h)]
  | .dct ds, h => by simp [nod?] at h
theorem lay_datL : ∀ ds : List D, nodL ds = true → PyData.canLayAll0 (datL ds) = true
  | [], _ => by simp [datL, PyData.canLayAll0]
  | d :: ds, h => by
    have h' : nod? d = true ∧ nodL ds = true := by simpa [nodL] using h
    simp [datL, PyData.canLayAll0, lay_dat d h'.1, lay_datL ds h'.2]
end
/-- may be compared: all told by what it holds, no dict, not too deep -/
def cmp? (d : D) : Bool := pure? d && (nod? d && decide (dep d ≤ 64))
theorem cmp_shaped {d : D} (h : cmp? d = true) : SeqAt.shaped (dat d) = true := by
  unfold cmp? at h
  simp only [Bool.and_eq_true, decide_eq_true_eq] at h
  unfold SeqAt.shaped
  rw [lay_dat d h.2.1, depth_dat, Bool.true_and]
  exact decide_eq_true h.2.2
def eqb (x y : D) : Bool := PyData.eqv (dat x) (dat y)

section
variable {K : PySem.W.Frag} {H : Hp}
mutual
theorem Den.dp : ∀ (d : D) (v : V), pure? d = true → nod? d = true → Den K H d v → Dp K H v (dat d)
  | .non, _, _, _, h => by cases h; rw [dat]; exact .non
  | .bl _, _, _, _, h => by cases h; rw [dat]; exact .bl _
  | .int _, _, _, _, h => by cases h; rw [dat]; exact .int _
  | .str _, _, _, _, h => by cases h; rw [dat]; exact .str _
  | .ty _, _, p, _, _ => by simp [pure?] at p
  | .ref _, _, p, _, _ => by simp [pure?] at p
  | .pr _, _, p, _, _ => by simp [pure?] at p
  | .tup ds, _, p, q, h => by
    cases h with
    | tup h1 h2 =>
      rw [dat]
      exact .tup h1.sq (DenL.dp ds _ (by simpa [pure?] using p) (by simpa [nod?] using q) h2)
  | .lst ds, _, p, q, h => by
    cases h with
    | lst h1 h2 =>
      rw [dat]
      exact .lst (.inl (.inr ⟨_, h1⟩)) (DenL.dp ds _ (by simpa [pure?] using p) (by simpa [nod?] using q) h2)
  | .dct ds, _, _, q, _ => by simp [nod?] at q
theorem DenL.dp : ∀ (ds : List D) (vs : List V), pureL ds = true → nodL ds = true → DenL K H ds vs → DpAll K H vs (datL ds)
  | [], _, _, _, h => by cases h; rw [datL]; exact .nil
  | d :: ds, _, p, q, h => by
    have p' : pure? d = true ∧ pureL ds = true := by simpa [pureL] using p
    have q' : nod? d = true ∧ nodL ds = true := by simpa [nodL] using q
    cases h with
    | cons h1 h2 =>
      rw [datL]
      exact .cons (Den.dp d _ p'.1 q'.1 h1) (DenL.dp ds _ p'.2 q'.2 h2)
end
end

/-! ### what a value holds, where it is told by its address -/
/-- the list at an address, as it stands -/
def snap (S : GS) : D → D
  | .ref p => match S.g p with
    | some (.lst ds) => .lst ds
    | some (.dct kvs) => .dct kvs
    | some (.fct kvs) => .dct kvs
    | none => .ref p
  | d => d
def asL (S : GS) : D → Option (List D)
  | .lst ds => some ds
  | .ref p => match S.g p with
    | some (.lst ds) => some ds
    | _ => none
  | _ => none
def asQ (S : GS) : D → Option (List D)
  | .tup ds => some ds
  | .pr ds => some ds
  | d => asL S d
def asK (S : GS) : D → Option (List (Key × D))
  | .dct ds => some ds
  | .ref p => match S.g p with
    | some (.dct ds) => some ds
    | some (.fct ds) => some ds
    | _ => none
  | _ => none
def keyOf : D → Option Key
  | .int i => some (.inl i)
  | .str x => some (.inr x)
  | _ => none
section
variable {K : PySem.W.Frag} {DI : Addr → GH → Prop} {F H : Hp} {S : GS}
theorem asL_ok {d : D} {ds : List D} {v : V} (r : Rel K DI F S H) (h : Den K H d v) (e : asL S d = some ds) : ∃ a vs, v = .ref a ∧ Rd H a (.lst vs) ∧ DenL K H ds vs := by
  cases h with
  | lst h1 h2 =>
    cases e
    exact ⟨_, _, rfl, .inr ⟨_, h1⟩, h2⟩
  | ref a =>
    unfold asL at e
    cases q : S.g a with
    | none => simp [q] at e
    | some m =>
      cases m with
      | dct _ => simp [q] at e
      | fct _ => simp [q] at e
      | lst es =>
        simp [q] at e
        subst e
        obtain ⟨vs, e1, e2⟩ := r.rep a _ q
        exact ⟨_, _, rfl, .inl e1, e2⟩
  | _ => cases e
theorem asQ_ok {d : D} {ds : List D} {v : V} (r : Rel K DI F S H) (h : Den K H d v) (e : asQ S d = some ds) : ∃ a vs, v = .ref a ∧ (SqL K H a vs ∨ SqT K H a vs) ∧ DenL K H ds vs := by
  cases h with
  | tup h1 h2 =>
    cases e
    exact ⟨_, _, rfl, .inr h1.sq, h2⟩
  | pr h1 h2 =>
    cases e
    exact ⟨_, _, rfl, .inr h1, h2⟩
  | lst h1 h2 =>
    obtain ⟨a, vs, e1, e2, e3⟩ := asL_ok r (.lst h1 h2) e
    exact ⟨a, vs, e1, .inl (.inl e2), e3⟩
  | ref p =>
    obtain ⟨a, vs, e1, e2, e3⟩ := asL_ok r (.ref p) e
    exact ⟨a, vs, e1, .inl (.inl e2), e3⟩
  | _ => cases e
theorem asK_ok {d : D} {ds : List (Key × D)} {v : V} (r : Rel K DI F S H) (h : Den K H d v) (e : asK S d = some ds) : ∃ a vs, v = .ref a ∧ Rd H a (.dK vs) ∧ DenK K H ds vs := by
  cases h with
  | dct h1 h2 =>
    cases e
    exact ⟨_, _, rfl, .inr ⟨_, h1⟩, h2⟩
  | ref a =>
    unfold asK at e
    cases q : S.g a with
    | none => simp [q] at e
    | some m =>
      cases m with
      | lst _ => simp [q] at e
      | dct es =>
        simp [q] at e
        subst e
        obtain ⟨vs, e1, e2⟩ := r.rep a _ q
        exact ⟨_, _, rfl, .inl e1, e2⟩
      | fct es =>
        simp [q] at e
        subst e
        obtain ⟨o, vs, e1, e2⟩ := r.rep a _ q
        exact ⟨_, _, rfl, .inr ⟨o, e1⟩, e2⟩
  | _ => cases e
theorem keyOf_ok {d : D} {k : Key} {v : V} (h : Den K H d v) (e : keyOf d = some k) : v = kV k := by
  cases h <;> first | (cases e; rfl) | cases e
/-- the value as it stands, for == and repr -/
theorem snap_dp {d : D} {v : V} (r : Rel K DI F S H) (h : Den K H d v) (p : pure? (snap S d) = true) (q : nod? (snap S d) = true) : Dp K H v (dat (snap S d)) := by
  cases h with
  | ref a =>
    unfold snap at p q ⊢
    cases e : S.g a with
    | none => simp [e, pure?] at p
    | some m =>
      cases m with
      | dct _ => simp [e, nod?] at q
      | fct _ => simp [e, nod?] at q
      | lst es =>
        simp [e, pure?] at p
        simp [e, nod?] at q
        obtain ⟨vs, e1, e2⟩ := r.rep a _ e
        simp only [e, dat]
        exact .lst (.inl (.inl e1)) (DenL.dp es _ p q e2)
  | non => exact Den.dp _ _ p q .non
  | bl b => exact Den.dp _ _ p q (.bl b)
  | int b => exact Den.dp _ _ p q (.int b)
  | str b => exact Den.dp _ _ p q (.str b)
  | ty b => exact Den.dp _ _ p q (.ty b)
  | tup h1 h2 => exact Den.dp _ _ p q (.tup h1 h2)
  | pr h1 h2 => exact Den.dp _ _ p q (.pr h1 h2)
  | lst h1 h2 => exact Den.dp _ _ p q (.lst h1 h2)
  | dct h1 h2 => exact Den.dp _ _ p q (.dct h1 h2)
end

/-! ### locking what is new -/
/-- the wish holds, or it does once the thing at some address is locked -/
def LQ (Q : VK) : VK := fun v H => Q v H ∨ ∃ p u, H p = some u ∧ Mut (some u) ∧ ∀ od, Q v (upd H p (.frz od u))
theorem LQ.ep {X : Cx} {pins : List (Addr × Obj)} {σ : L2.St} {Q : VK} {u : Value} {s : Shared} (h : EP X pins σ (LQ Q) u s) : EP X pins σ Q u s := by
  obtain ⟨v, H, I, r, q⟩ := h
  rcases q with q | ⟨p, o, hp, mu, q⟩
  · exact ⟨v, H, I, r, q⟩
  · obtain ⟨od, I2⟩ := I.lock hp mu
    exact ⟨v, _, I2, r, q od⟩
theorem opLQ {X : Cx} {f : Value → Value → Sem Value} {r : R2} (h : OpR X f r) : OpR X f (fun x y H Q => r x y H (LQ Q)) := fun pins s σ H x y v u Q I rx ry z => thn (h pins s σ H x y v u (LQ Q) I rx ry z) fun _ _ q => LQ.ep q
theorem callLQ {X : Cx} {f : Value} {r : List V → Hp → VK → Prop} (h : CallR X f r) : CallR X f (fun x H Q => r x H (LQ Q)) := fun pins s σ H x us Q I rx z => thn (h pins s σ H x us (LQ Q) I rx z) fun _ _ q => LQ.ep q
theorem mtLQ {X : Cx} {id : String} {r : V → List V → Hp → VK → Prop} (h : MtR X id r) : MtR X id (fun x xs H Q => r x xs H (LQ Q)) := fun pins s σ H x xs v us Q I rx rs z => thn (h pins s σ H x xs v us (LQ Q) I rx rs z) fun _ _ q => LQ.ep q
theorem peLQ {X : Cx} {e : Expr} {t : TE} (h : PE X e t) : PE X e (fun σ H Q => t σ H (LQ Q)) := ⟨fun pins s σ H Q I z => thn (h.run pins s σ H (LQ Q) I z) fun _ _ q => LQ.ep q⟩
section
variable {K : PySem.W.Frag} {DI : Addr → GH → Prop} {F H H' : Hp} {S : GS}
theorem Kp.frz {p : Addr} {u : HO} {od : Obj} (h : H p = some u) (mu : Mut (some u)) : Kp H (upd H p (.frz od u)) :=
  ⟨fun b x e => by rw [upd_ne (fun z => by rw [z, h] at e; cases e; exact mu)]; exact e, fun b x o e => by rw [upd_ne (fun z => by rw [z, h] at e; cases e; exact mu)]; exact e⟩
/-- a new list, locked -/
theorem Fin.lst {R : D → GS → Prop} {Q : VK} {ds : List D} {vs : List V} {p : Addr} (f : Fin K DI F H R Q) (r : R (.lst ds) S) (rel : Rel K DI F S H') (k : Kp H H') (den : DenL K H' ds vs) (hp : H' p = none) : LQ Q (.ref p) (upd H' p (.lst vs)) := by
  refine .inr ⟨p, .lst vs, upd_same, trivial, fun od => ?_⟩
  have e : upd (upd H' p (.lst vs)) p (.frz od (.lst vs)) = upd H' p (.frz od (.lst vs)) := upd_upd
  rw [e]
  have kn : Kp H' (upd H' p (.frz od (.lst vs))) := .new hp
  exact f _ S _ _ r (rel.new hp) (k.trans kn) (.lst upd_same (den.mn kn))
theorem Fin.dct {R : D → GS → Prop} {Q : VK} {ds : List (Key × D)} {vs : List (Key × V)} {p : Addr} (f : Fin K DI F H R Q) (r : R (.dct ds) S) (rel : Rel K DI F S H') (k : Kp H H') (den : DenK K H' ds vs) (hp : H' p = none) : LQ Q (.ref p) (upd H' p (.dK vs)) := by
  refine .inr ⟨p, .dK vs, upd_same, trivial, fun od => ?_⟩
  have e : upd (upd H' p (.dK vs)) p (.frz od (.dK vs)) = upd H' p (.frz od (.dK vs)) := upd_upd
  rw [e]
  have kn : Kp H' (upd H' p (.frz od (.dK vs))) := .new hp
  exact f _ S _ _ r (rel.new hp) (k.trans kn) (.dct upd_same (den.mn kn))
theorem Fin.tup {R : D → GS → Prop} {Q : VK} {ds : List D} {vs : List V} {p : Addr} (f : Fin K DI F H R Q) (r : R (.tup ds) S) (rel : Rel K DI F S H') (k : Kp H H') (den : DenL K H' ds vs) {o : Obj} (od : o.dict = none) (hp : H' p = none) : Q (.ref p) (upd H' p (.frz o (.tup vs))) := by
  have kn : Kp H' (upd H' p (.frz o (.tup vs))) := .new hp
  exact f _ S _ _ r (rel.new hp) (k.trans kn) (.tup (.inl ⟨o, upd_same, od⟩) (den.mn kn))
/-- a new list, known by its address -/
theorem Fin.newL {R : D → GS → Prop} {Q : VK} {ds : List D} {vs : List V} {p : Addr} (f : Fin K DI F H R Q) (r : R (.ref p) (S.set p (.lst ds))) (rel : Rel K DI F S H') (k : Kp H H') (den : DenL K H' ds vs) (hp : H' p = none) : Q (.ref p) (upd H' p (.lst vs)) := by
  have kn : Kp H' (upd H' p (.lst vs)) := .new hp
  exact f _ _ _ _ r (rel.set kn (.inl hp) ⟨vs, upd_same, den.mn kn⟩) (k.trans kn) (.ref p)
theorem Fin.newD {R : D → GS → Prop} {Q : VK} {ds : List (Key × D)} {vs : List (Key × V)} {p : Addr} (f : Fin K DI F H R Q) (r : R (.ref p) (S.set p (.dct ds))) (rel : Rel K DI F S H') (k : Kp H H') (den : DenK K H' ds vs) (hp : H' p = none) : Q (.ref p) (upd H' p (.dK vs)) := by
  have kn : Kp H' (upd H' p (.dK vs)) := .new hp
  exact f _ _ _ _ r (rel.set kn (.inl hp) ⟨vs, upd_same, den.mn kn⟩) (k.trans kn) (.ref p)
end

/-! ### names, constants -/
def wVar (i : Nat) : W := fun ρ S Q => match ρ[i]? with
  | some (some d) => Q d S
  | _ => False
def wC (d : D) : W := fun _ S Q => Q d S
section
variable {X : Cx} {DI : Addr → GH → Prop}
theorem de_var {i : Nat} {e : Expr} (h : PE X e (tVar i)) : PE X e (lft X.K DI (wVar i)) := h.imp fun σ H Q q => by
  obtain ⟨F, ρ, S, R, rel, env, w, f⟩ := q
  unfold wVar at w
  cases e : ρ[i]? with
  | none => simp [e] at w
  | some o =>
    cases o with
    | none => simp [e] at w
    | some d =>
      simp [e] at w
      obtain ⟨v, e1, e2⟩ := env.at_ i d e
      exact ⟨v, e1, f.at0 w rel e2⟩
theorem de_c {e : Expr} {d : D} {v : V} (h : PE X e (tC v)) (den : ∀ H, Den X.K H d v) : PE X e (lft X.K DI (wC d)) := h.imp fun σ H Q q => by
  obtain ⟨F, ρ, S, R, rel, env, w, f⟩ := q
  exact f.at0 w rel (den H)

/-! ### two values -/
def wOp (op : W2) (a b : W) : W := fun ρ S Q => a ρ S fun x S1 => b ρ S1 fun y S2 => op x y S2 Q
def wUn (op : W1) (a : W) : W := fun ρ S Q => a ρ S fun x S1 => op x S1 Q
theorem tOp_of {wa wb : W} {op : W2} {σ : L2.St} {H : Hp} {Q : VK} (h : lft X.K DI (wOp op wa wb) σ H Q) : tOp (lft2 X.K DI op) (lft X.K DI wa) (lft X.K DI wb) σ H Q := by
  obtain ⟨F, ρ, S, R, rel, env, w, f⟩ := h
  refine ⟨F, ρ, S, _, rel, env, w, fun x S1 v H1 q1 rel1 k1 d1 => ?_⟩
  refine ⟨F, ρ, S1, _, rel1, env.mn k1, q1, fun y S2 u H2 q2 rel2 k2 d2 => ?_⟩
  exact ⟨F, x, y, S2, R, rel2, d1.mn k2, d2, q2, f.up (k1.trans k2)⟩
theorem de_op {op : Operator} {w2 : W2} {a b : Expr} {wa wb : W} {pos : Pos} (ho : OpR X (binaryOp op) (lft2 X.K DI w2)) (ha : PE X a (lft X.K DI wa)) (hb : PE X b (lft X.K DI wb)) : PE X (.BinOp a op b pos) (lft X.K DI (wOp w2 wa wb)) :=
  (pe_op ho ha hb).imp fun _ _ _ q => tOp_of q
theorem de_cmp {op : CmpOp} {w2 : W2} {a b : Expr} {wa wb : W} {pos : Pos} (ho : OpR X (compareOp op) (lft2 X.K DI w2)) (ha : PE X a (lft X.K DI wa)) (hb : PE X b (lft X.K DI wb)) (hm : behindInMarks op b = false) : PE X (.Compare a [op] [b] pos) (lft X.K DI (wOp w2 wa wb)) :=
  (pe_cmpR ho ha hb hm).imp fun _ _ _ q => tOp_of q
theorem de_ix {w2 : W2} {a b : Expr} {wa wb : W} {pos : Pos} (ho : IxR X (lft2 X.K DI w2)) (ha : PE X a (lft X.K DI wa)) (hb : PE X b (lft X.K DI wb)) (hs : PlainIx b) : PE X (.Subscript a b pos) (lft X.K DI (wOp w2 wa wb)) :=
  (pe_ix ho ha hb hs).imp fun _ _ _ q => tOp_of q
theorem de_un {op : UnaryOp} {w1 : W1} {a : Expr} {wa : W} {pos : Pos} (ho : UnR X (unaryOp op) (lft1 X.K DI w1)) (ha : PE X a (lft X.K DI wa)) : PE X (.UnaryOp op a pos) (lft X.K DI (wUn w1 wa)) :=
  (pe_un ho ha).imp fun σ H Q q => by
    obtain ⟨F, ρ, S, R, rel, env, w, f⟩ := q
    exact ⟨F, ρ, S, _, rel, env, w, fun x S1 v H1 q1 rel1 k1 d1 => ⟨F, x, S1, R, rel1, d1, q1, f.up k1⟩⟩

/-! ### the operators -/
def oAdd : W2 := fun x y S Q => match x, y with
  | .int i, .int j => Q (.int (i + j)) S
  | .str i, .str j => i.length + j.length ≤ sizeLine ∧ Q (.str (i ++ j)) S
  | .tup xs, .tup ys => xs.length + ys.length ≤ sizeLine ∧ Q (.tup (xs ++ ys)) S
  | x, y => match asL S x, asL S y with
    | some xs, some ys => xs.length + ys.length ≤ sizeLine ∧ Q (.lst (xs ++ ys)) S
    | _, _ => False
theorem op_catR : OpR X (binaryOp .Add) (fun x y H Q => ∃ l b xs zs, x = .ref l ∧ y = .ref b ∧ Rd H l (.lst xs) ∧ Rd H b (.lst zs) ∧ xs.length + zs.length ≤ sizeLine ∧ ∀ p, H p = none → Q (.ref p) (upd H p (.lst (xs ++ zs)))) := by
  intro pins s σ H x y v u Q I rx ry h
  obtain ⟨l, b, xs, zs, rfl, rfl, h1, h2, hz, q⟩ := h
  cases rx
  cases ry
  obtain ⟨_, its, n, r, e⟩ := h1.ok I.hok
  obtain ⟨_, its2, n2, r2, e2⟩ := h2.ok I.hok
  have l1 := r.length
  have l2 := r2.length
  refine PySem.P.add_list e e2 ?_ (by simp only [List.size_toArray]; omega)
  rw [show its.toArray ++ its2.toArray = (its ++ its2).toArray by simp]
  exact ⟨.ref s.heap.objs.size, _, I.lnew (t' := s.toks) (r.append r2) (by rw [List.length_append]; omega), rfl, q _ I.fresh⟩
theorem Den.tupV {K : PySem.W.Frag} {H : Hp} {ds : List D} {v : V} (h : Den K H (.tup ds) v) : ∃ a vs, v = .ref a ∧ TpT K H a vs ∧ DenL K H ds vs := by
  cases h with
  | tup h1 h2 => exact ⟨_, _, rfl, h1, h2⟩
theorem Den.intV {K : PySem.W.Frag} {H : Hp} {i : Int} {v : V} (h : Den K H (.int i) v) : v = .int i := by cases h; rfl
theorem Den.strV {K : PySem.W.Frag} {H : Hp} {i : Str} {v : V} (h : Den K H (.str i) v) : v = .str i := by cases h; rfl
theorem dop_add : OpR X (binaryOp .Add) (lft2 X.K DI oAdd) := by
  refine OpR.imp (op_add.or (op_add_str.or (op_catF.or (opLQ op_catR)))) fun v u H Q h => ?_
  obtain ⟨F, x, y, S, R, rel, d1, d2, w, f⟩ := h
  unfold oAdd at w
  split at w
  · cases d1
    cases d2
    exact .inl ⟨_, _, rfl, rfl, f.at0 w rel (.int _)⟩
  · cases d1
    cases d2
    exact .inr (.inl ⟨_, _, rfl, rfl, w.1, f.at0 w.2 rel (.str _)⟩)
  · obtain ⟨a, vs, rfl, t1, e1⟩ := d1.tupV
    obtain ⟨b, us, rfl, t2, e2⟩ := d2.tupV
    have l1 := e1.length
    have l2 := e2.length
    refine .inr (.inr (.inl ⟨a, b, vs, us, rfl, rfl, t1.sq, t2.sq, by omega, fun e => ?_, fun _ e => ?_, fun _ _ p o od hp => ?_⟩))
    · subst e
      cases e1
      exact f.at0 w.2 rel (.tup t2 e2)
    · subst e
      cases e2
      rw [List.append_nil] at w
      exact f.at0 w.2 rel (.tup t1 e1)
    · exact f.tup w.2 rel (.refl H) (e1.append e2) od hp
  · split at w
    · rename_i xs ys q1 q2
      obtain ⟨a, vs, rfl, t1, e1⟩ := asL_ok rel d1 q1
      obtain ⟨b, us, rfl, t2, e2⟩ := asL_ok rel d2 q2
      have l1 := e1.length
      have l2 := e2.length
      exact .inr (.inr (.inr ⟨a, b, vs, us, rfl, rfl, t1, t2, by omega, fun p hp => f.lst w.2 rel (.refl H) (e1.append e2) hp⟩))
    · exact w.elim
def oInt (C : Int → Int → Prop) (g : Int → Int → D) : W2 := fun x y S Q => match x, y with
  | .int i, .int j => C i j ∧ Q (g i j) S
  | _, _ => False
theorem dop_int {fn : Value → Value → Sem Value} {C : Int → Int → Prop} {g : Int → Int → V} {g' : Int → Int → D} (h : OpR X fn (rI C g)) (hg : ∀ H i j, Den X.K H (g' i j) (g i j)) : OpR X fn (lft2 X.K DI (oInt C g')) := by
  refine h.imp fun v u H Q h => ?_
  obtain ⟨F, x, y, S, R, rel, d1, d2, w, f⟩ := h
  unfold oInt at w
  split at w
  · cases d1
    cases d2
    exact ⟨_, _, rfl, rfl, w.1, f.at0 w.2 rel (hg H _ _)⟩
  · exact w.elim
def oInt0 (g : Int → Int → D) : W2 := fun x y S Q => match x, y with
  | .int i, .int j => Q (g i j) S
  | _, _ => False
theorem dop_int0 {fn : Value → Value → Sem Value} {g : Int → Int → V} {g' : Int → Int → D} (h : OpR X fn (rI0 g)) (hg : ∀ H i j, Den X.K H (g' i j) (g i j)) : OpR X fn (lft2 X.K DI (oInt0 g')) := by
  refine h.imp fun v u H Q h => ?_
  obtain ⟨F, x, y, S, R, rel, d1, d2, w, f⟩ := h
  unfold oInt0 at w
  split at w
  · cases d1
    cases d2
    exact ⟨_, _, rfl, rfl, f.at0 w rel (hg H _ _)⟩
  · exact w.elim
def oSub : W2 := oInt0 fun i j => .int (i - j)
theorem dop_sub : OpR X (binaryOp .Sub) (lft2 X.K DI oSub) := dop_int0 op_sub fun _ _ _ => .int _
def oMod : W2 := oInt (fun _ j => 0 < j) fun i j => .int (i % j)
theorem dop_mod : OpR X (binaryOp .Mod) (lft2 X.K DI oMod) := dop_int op_mod fun _ _ _ => .int _
def oFdiv : W2 := oInt CDiv fun i j => .int (i / j)
theorem dop_fdiv : OpR X (binaryOp .FloorDiv) (lft2 X.K DI oFdiv) := dop_int op_fdiv fun _ _ _ => .int _
def oPow : W2 := oInt CPow fun i j => .int (i ^ j.toNat)
theorem dop_pow : OpR X (binaryOp .Pow) (lft2 X.K DI oPow) := dop_int op_pow fun _ _ _ => .int _
/-- a product of two ints: one of them small, or both below a bound -/
def CMulA (i j : Int) : Prop := CMul i j ∨ L2.CMulW i j
def isRef : D → Bool
  | .ref _ => true
  | .pr _ => true
  | _ => false
def oMul : W2 := fun x y S Q => match x, y with
  | .int i, .int j => CMulA i j ∧ Q (.int (i * j)) S
  | .tup xs, .int k => xs ≠ [] ∧ 2 ≤ k ∧ k ≤ 1000 ∧ xs.length ≤ 1000 ∧ Q (.tup (List.replicate k.toNat xs).flatten) S
  | x, .int k => match asL S x with
    | some xs => -(2 ^ 63) ≤ k ∧ k < 2 ^ 63 ∧ xs.length * k.toNat ≤ sizeLine ∧ isRef x = true ∧ Q (.lst (List.replicate k.toNat xs).flatten) S
    | none => False
  | _, _ => False
end
end Dv

/-! Dv3: comparisons, truth, tests, arguments, displays, built-in calls and methods, by data. -/
namespace Dv
open PySem PySem.Spec L2
open PyProof.Rows hiding St

section
variable {X : Cx} {DI : Addr → GH → Prop}

theorem dop_mul : OpR X (binaryOp .Mult) (lft2 X.K DI oMul) := by
  refine OpR.imp (op_mul.or (op_mulW.or (op_repF.or (opLQ op_rep)))) fun v u H Q h => ?_
  obtain ⟨F, x, y, S, R, rel, d1, d2, w, f⟩ := h
  unfold oMul at w
  split at w
  · cases d1
    cases d2
    rcases w.1 with c | c
    · exact .inl ⟨_, _, rfl, rfl, c, f.at0 w.2 rel (.int _)⟩
    · exact .inr (.inl ⟨_, _, rfl, rfl, c, f.at0 w.2 rel (.int _)⟩)
  · rename_i xs k
    obtain ⟨a, vs, rfl, t1, e1⟩ := d1.tupV
    cases d2
    obtain ⟨h0, h1, h2, h3, r⟩ := w
    have l1 := e1.length
    have hne : vs ≠ [] := fun e => h0 (List.eq_nil_of_length_eq_zero (by rw [l1, e]; rfl))
    have rep : ∀ n : Nat, DenL X.K H (List.replicate n xs).flatten (List.replicate n vs).flatten := by
      intro n
      induction n with
      | zero => exact .nil
      | succ n ih =>
        rw [List.replicate_succ, List.flatten_cons, List.replicate_succ, List.flatten_cons]
        exact e1.append ih
    exact .inr (.inr (.inl ⟨a, k, vs, rfl, rfl, t1.sq, hne, h1, h2, by omega, fun p o od hp => f.tup r rel (.refl H) (rep _) od hp⟩))
  · rename_i k _ _
    split at w
    · rename_i xs q1
      cases d2
      -- a list of one's own, not locked
      cases d1 with
      | ref a =>
        unfold asL at q1
        cases q : S.g a with
        | none => simp [q] at q1
        | some m =>
          cases m with
          | dct _ => simp [q] at q1
          | fct _ => simp [q] at q1
          | lst es =>
            simp [q] at q1
            subst q1
            obtain ⟨vs, e1, e2⟩ := rel.rep a _ q
            obtain ⟨h1, h2, h3, _, r⟩ := w
            have l1 := e2.length
            have rep : ∀ n : Nat, DenL X.K H (List.replicate n es).flatten (List.replicate n vs).flatten := by
              intro n
              induction n with
              | zero => exact .nil
              | succ n ih =>
                rw [List.replicate_succ, List.flatten_cons, List.replicate_succ, List.flatten_cons]
                exact e2.append ih
            exact .inr (.inr (.inr ⟨a, k, vs, rfl, rfl, e1, h1, h2, by rw [← l1]; exact h3, fun p hp => f.lst r rel (.refl H) (rep _) hp⟩))
      | lst h1 h2 => exact absurd w.2.2.2.1 (by simp [isRef])
      | _ => cases q1
    · exact w.elim
  · exact w.elim

/-! ### comparisons -/
def oOrd (gi : Int → Int → Bool) (gs : Str → Str → Bool) : W2 := fun x y S Q => match x, y with
  | .int i, .int j => Q (.bl (gi i j)) S
  | .str i, .str j => Q (.bl (gs i j)) S
  | _, _ => False
theorem dop_ord {fn : Value → Value → Sem Value} {gi : Int → Int → Bool} {gs : Str → Str → Bool} (h1 : OpR X fn (rI0 fun i j => .bl (gi i j)))
    (h2 : OpR X fn (fun x y H Q => ∃ i j, x = .str i ∧ y = .str j ∧ Q (.bl (gs i j)) H)) : OpR X fn (lft2 X.K DI (oOrd gi gs)) := by
  refine OpR.imp (h1.or h2) fun v u H Q h => ?_
  obtain ⟨F, x, y, S, R, rel, d1, d2, w, f⟩ := h
  unfold oOrd at w
  split at w
  · cases d1
    cases d2
    exact .inl ⟨_, _, rfl, rfl, f.at0 w rel (.bl _)⟩
  · cases d1
    cases d2
    exact .inr ⟨_, _, rfl, rfl, f.at0 w rel (.bl _)⟩
  · exact w.elim
def ltS (i j : Str) : Bool := decide (i.cps.toList < j.cps.toList)
def oLt : W2 := oOrd (fun i j => decide (i < j)) fun i j => ltS i j
def oLe : W2 := oOrd (fun i j => decide (i ≤ j)) fun i j => !ltS j i
def oGt : W2 := oOrd (fun i j => decide (j < i)) fun i j => ltS j i
def oGe : W2 := oOrd (fun i j => decide (j ≤ i)) fun i j => !ltS i j
theorem dop_lt : OpR X (compareOp .Lt) (lft2 X.K DI oLt) := dop_ord op_lt op_lt_str
theorem dop_le : OpR X (compareOp .LtE) (lft2 X.K DI oLe) := dop_ord op_le op_le_str
theorem dop_gt : OpR X (compareOp .Gt) (lft2 X.K DI oGt) := dop_ord op_gt op_gt_str
theorem dop_ge : OpR X (compareOp .GtE) (lft2 X.K DI oGe) := dop_ord op_ge op_ge_str

def oEq : W2 := fun x y S Q => match x, y with
  | .int i, .int j => Q (.bl (decide (i = j))) S
  | .str i, .str j => Q (.bl (decide (i = j))) S
  | x, y => cmp? (snap S x) = true ∧ cmp? (snap S y) = true ∧ Q (.bl (eqb (snap S x) (snap S y))) S
def oNe : W2 := fun x y S Q => match x, y with
  | .int i, .int j => Q (.bl (!decide (i = j))) S
  | .str i, .str j => Q (.bl (!decide (i = j))) S
  | x, y => cmp? (snap S x) = true ∧ cmp? (snap S y) = true ∧ Q (.bl (!eqb (snap S x) (snap S y))) S
theorem cmp_parts {d : D} (h : cmp? d = true) : pure? d = true ∧ nod? d = true := by
  unfold cmp? at h
  simp only [Bool.and_eq_true, decide_eq_true_eq] at h
  exact ⟨h.1, h.2.1⟩
theorem dop_eq (hu : X.A.units + 64 < cLine) : OpR X (compareOp .Eq) (lft2 X.K DI oEq) := by
  refine OpR.imp (op_eq.or (op_eqD hu)) fun v u H Q h => ?_
  obtain ⟨F, x, y, S, R, rel, d1, d2, w, f⟩ := h
  unfold oEq at w
  split at w
  · rename_i i j
    cases d1
    cases d2
    refine .inl ⟨rfl, ?_⟩
    rw [show decide (V.int i = V.int j) = decide (i = j) by simp]
    exact f.at0 w rel (.bl _)
  · rename_i i j
    cases d1
    cases d2
    refine .inl ⟨rfl, ?_⟩
    rw [show decide (V.str i = V.str j) = decide (i = j) by simp]
    exact f.at0 w rel (.bl _)
  · obtain ⟨c1, c2, w⟩ := w
    exact .inr ⟨_, _, snap_dp rel d1 (cmp_parts c1).1 (cmp_parts c1).2, snap_dp rel d2 (cmp_parts c2).1 (cmp_parts c2).2, cmp_shaped c1, cmp_shaped c2, f.at0 w rel (.bl _)⟩
theorem dop_ne (hu : X.A.units + 64 < cLine) : OpR X (compareOp .NotEq) (lft2 X.K DI oNe) := by
  refine OpR.imp (op_ne.or (op_neD hu)) fun v u H Q h => ?_
  obtain ⟨F, x, y, S, R, rel, d1, d2, w, f⟩ := h
  unfold oNe at w
  split at w
  · rename_i i j
    cases d1
    cases d2
    refine .inl ⟨rfl, ?_⟩
    rw [show decide (V.int i = V.int j) = decide (i = j) by simp]
    exact f.at0 w rel (.bl _)
  · rename_i i j
    cases d1
    cases d2
    refine .inl ⟨rfl, ?_⟩
    rw [show decide (V.str i = V.str j) = decide (i = j) by simp]
    exact f.at0 w rel (.bl _)
  · obtain ⟨c1, c2, w⟩ := w
    exact .inr ⟨_, _, snap_dp rel d1 (cmp_parts c1).1 (cmp_parts c1).2, snap_dp rel d2 (cmp_parts c2).1 (cmp_parts c2).2, cmp_shaped c1, cmp_shaped c2, f.at0 w rel (.bl _)⟩

/-- is: beside None, or two bools -/
def isNon : D → Bool
  | .non => true
  | _ => false
def oIs : W2 := fun x y S Q => match x, y with
  | x, .non => Q (.bl (isNon x)) S
  | .bl a, .bl b => Q (.bl (decide (a = b))) S
  | _, _ => False
def oIsNot : W2 := fun x y S Q => match x, y with
  | x, .non => Q (.bl (!isNon x)) S
  | .bl a, .bl b => Q (.bl (!decide (a = b))) S
  | _, _ => False
theorem Den.isNon {K : PySem.W.Frag} {H : Hp} {d : D} {v : V} (h : Den K H d v) : decide (v = V.non) = isNon d := by
  cases h <;> simp [Dv.isNon]
theorem dop_is : OpR X (compareOp .Is) (lft2 X.K DI oIs) := by
  refine OpR.imp (op_isN.or op_isBl) fun v u H Q h => ?_
  obtain ⟨F, x, y, S, R, rel, d1, d2, w, f⟩ := h
  unfold oIs at w
  split at w
  · cases d2
    refine .inl ⟨rfl, ?_⟩
    rw [d1.isNon]
    exact f.at0 w rel (.bl _)
  · cases d1
    cases d2
    exact .inr ⟨_, _, rfl, rfl, f.at0 w rel (.bl _)⟩
  · exact w.elim
theorem dop_isNot : OpR X (compareOp .IsNot) (lft2 X.K DI oIsNot) := by
  refine OpR.imp (op_notN.or op_notBl) fun v u H Q h => ?_
  obtain ⟨F, x, y, S, R, rel, d1, d2, w, f⟩ := h
  unfold oIsNot at w
  split at w
  · cases d2
    refine .inl ⟨rfl, ?_⟩
    rw [d1.isNon]
    exact f.at0 w rel (.bl _)
  · cases d1
    cases d2
    exact .inr ⟨_, _, rfl, rfl, f.at0 w rel (.bl _)⟩
  · exact w.elim

/-- in: a text in a text, a key in a dict, a value in a list or tuple -/
def inStr (x y : Str) : Bool := match x.cps.toList with
  | [c] => decide (c ∈ y.cps.toList)
  | _ => !(Builtin.Str.occurrences y x 0 y.length 1).isEmpty
def oInG (fl : Bool → Bool) : W2 := fun x y S Q => match x, y with
  | .str i, .str j => Q (.bl (fl (inStr i j))) S
  | x, y => match asQ S y with
    | some ds => cmp? (snap S x) = true ∧ pureL ds = true ∧ nodL ds = true ∧ Q (.bl (fl (ds.any fun z => eqb z (snap S x)))) S
    | none => match asK S y, keyOf x with
      | some kvs, some k => Q (.bl (fl (has k kvs))) S
      | _, _ => False
def oIn : W2 := oInG id
def oNotIn : W2 := oInG (!·)
def rInG (K : PySem.W.Frag) (fl : Bool → Bool) : R2 := fun x y H Q => ∃ d ds, Dp K H x d ∧ (Dp K H y (.list ds) ∨ Dp K H y (.tuple ds)) ∧ SeqAt.shaped d = true ∧ PyData.canLayAll0 ds = true ∧ Q (.bl (fl (ds.any fun z => PyData.eqv z d))) H
theorem op_inT (hu : X.A.units + 65 < cLine) : OpR X (compareOp .In) (rInG X.K id) := by
  intro pins s σ H x y v u Q I rx ry h
  obtain ⟨d, ds, hd, he, sd, se, q⟩ := h
  obtain ⟨as, r1⟩ := Dp.reads I d x v hd rx
  rcases he with he | he
  · obtain ⟨bs, r2⟩ := Dp.reads I (.list ds) y u he ry
    exact SeqAt.in_list_reads r2 r1 se (SeqAt.canLay_of_shaped sd) (PyProof.Rows.room_in_shaped sd hu) ⟨.bl _, H, I, rfl, q⟩
  · obtain ⟨bs, r2⟩ := Dp.reads I (.tuple ds) y u he ry
    exact SeqAt.in_tuple_reads r2 r1 se (SeqAt.canLay_of_shaped sd) (PyProof.Rows.room_in_shaped sd hu) ⟨.bl _, H, I, rfl, q⟩
theorem op_notInT (hu : X.A.units + 65 < cLine) : OpR X (compareOp .NotIn) (rInG X.K (!·)) := by
  intro pins s σ H x y v u Q I rx ry h
  obtain ⟨d, ds, hd, he, sd, se, q⟩ := h
  obtain ⟨as, r1⟩ := Dp.reads I d x v hd rx
  rcases he with he | he
  · obtain ⟨bs, r2⟩ := Dp.reads I (.list ds) y u he ry
    exact SeqAt.notIn_list_reads r2 r1 se (SeqAt.canLay_of_shaped sd) (PyProof.Rows.room_in_shaped sd hu) ⟨.bl _, H, I, rfl, q⟩
  · obtain ⟨bs, r2⟩ := Dp.reads I (.tuple ds) y u he ry
    exact SeqAt.notIn_tuple_reads r2 r1 se (SeqAt.canLay_of_shaped sd) (PyProof.Rows.room_in_shaped sd hu) ⟨.bl _, H, I, rfl, q⟩
def rInK (fl : Bool → Bool) : R2 := fun y x H Q => ∃ a o, x = .ref a ∧ DGet H a y o ∧ Q (.bl (fl o.isSome)) H
theorem op_inK (hu : X.A.units + 1 < cLine) : OpR X (compareOp .In) (rInK id) := by
  intro pins s σ H x y v u Q I rx ry h
  obtain ⟨a, o, rfl, g, q⟩ := h
  cases ry
  exact d_in hu I g rx fun s' I' => ⟨.bl _, H, I', rfl, q⟩
theorem op_notInK (hu : X.A.units + 1 < cLine) : OpR X (compareOp .NotIn) (rInK (!·)) := by
  intro pins s σ H x y v u Q I rx ry h
  obtain ⟨a, o, rfl, g, q⟩ := h
  cases ry
  exact d_notIn hu I g rx fun s' I' => ⟨.bl _, H, I', rfl, q⟩
theorem DenL.seq {K : PySem.W.Frag} {F H : Hp} {S : GS} {d : D} {v : V} {ds : List D} (rel : Rel K DI F S H) (h : Den K H d v) (e : asQ S d = some ds) (p : pureL ds = true) (q : nodL ds = true) : Dp K H v (.list (datL ds)) ∨ Dp K H v (.tuple (datL ds)) := by
  obtain ⟨a, vs, rfl, t, den⟩ := asQ_ok rel h e
  rcases t with t | t
  · exact .inl (.lst t (DenL.dp _ _ p q den))
  · exact .inr (.tup t (DenL.dp _ _ p q den))
theorem datL_any (x : D) : ∀ ds : List D, ((datL ds).any fun z => PyData.eqv z (dat x)) = ds.any fun z => eqb z x
  | [] => by simp [datL]
  | d :: ds => by simp [datL, datL_any x ds, eqb]
theorem Den.get {K : PySem.W.Frag} {F H : Hp} {S : GS} {d y : D} {v u : V} {kvs : List (Key × D)} {k : Key} (rel : Rel K DI F S H) (h : Den K H d v) (hy : Den K H y u) (e : asK S d = some kvs) (ek : keyOf y = some k) :
    ∃ a o, v = .ref a ∧ DGet H a u o ∧ o.isSome = has k kvs ∧ ∀ x, look k kvs = some x → ∃ z, o = some z ∧ Den K H x z := by
  obtain ⟨a, vs, rfl, t, den⟩ := asK_ok rel h e
  refine ⟨a, valV vs k, rfl, .inl ⟨vs, k, t, keyOf_ok hy ek, rfl⟩, den.has.symm, fun x hx => ?_⟩
  obtain ⟨z, e1, e2⟩ := den.look.1 x hx
  exact ⟨z, e1, e2⟩
theorem dop_inG {fn : Value → Value → Sem Value} {fl : Bool → Bool} (h1 : OpR X fn (fun x y H Q => ∃ (c : Nat) (z : Str), x = .str ⟨#[c]⟩ ∧ y = .str z ∧ Q (.bl (fl (decide (c ∈ z.cps.toList)))) H))
    (h2 : OpR X fn (fun x y H Q => ∃ i j, x = .str i ∧ y = .str j ∧ Q (.bl (fl (!(Builtin.Str.occurrences j i 0 j.length 1).isEmpty))) H)) (h3 : OpR X fn (rInG X.K fl)) (h4 : OpR X fn (rInK fl)) : OpR X fn (lft2 X.K DI (oInG fl)) := by
  refine OpR.imp (h1.or (h2.or (h3.or h4))) fun v u H Q h => ?_
  obtain ⟨F, x, y, S, R, rel, d1, d2, w, f⟩ := h
  unfold oInG at w
  split at w
  · rename_i i j
    cases d1
    cases d2
    unfold inStr at w
    split at w
    · rename_i c e
      refine .inl ⟨c, j, ?_, rfl, f.at0 w rel (.bl _)⟩
      have e2 : i = ⟨#[c]⟩ := Str.ext' (Array.toList_inj.mp e)
      rw [e2]
    · exact .inr (.inl ⟨i, j, rfl, rfl, f.at0 w rel (.bl _)⟩)
  · split at w
    · rename_i ds e
      obtain ⟨c1, c2, c3, w⟩ := w
      refine .inr (.inr (.inl ⟨_, datL ds, snap_dp rel d1 (cmp_parts c1).1 (cmp_parts c1).2, DenL.seq rel d2 e c2 c3, cmp_shaped c1, lay_datL ds c3, ?_⟩))
      rw [datL_any]
      exact f.at0 w rel (.bl _)
    · split at w
      · rename_i kvs k ek e
        obtain ⟨a, o, rfl, g, es, _⟩ := Den.get rel d2 d1 ek e
        refine .inr (.inr (.inr ⟨a, o, rfl, g, ?_⟩))
        rw [es]
        exact f.at0 w rel (.bl _)
      · exact w.elim
theorem dop_in (hu : X.A.units + 65 < cLine) : OpR X (compareOp .In) (lft2 X.K DI oIn) := dop_inG op_in_sign op_in_str (op_inT hu) (op_inK (by omega))
theorem dop_notIn (hu : X.A.units + 65 < cLine) : OpR X (compareOp .NotIn) (lft2 X.K DI oNotIn) := dop_inG op_notIn_sign op_notin_str (op_notInT hu) (op_notInK (by omega))

/-! ### a[i] -/
def oIx : W2 := fun x y S Q => match x, y with
  | .str z, .int i => z.length ≤ sizeLine ∧ match atI z.cps.toList i with
    | some c => Q (.str ⟨#[c]⟩) S
    | none => False
  | x, y => match asQ S x, y with
    | some ds, .int i => match atI ds i with
      | some d => Q d S
      | none => False
    | _, y => match asK S x, keyOf y with
      | some kvs, some k => match look k kvs with
        | some d => Q d S
        | none => False
      | _, _ => False
theorem DenL.atI {K : PySem.W.Frag} {H : Hp} {ds : List D} {vs : List V} {i : Int} {d : D} (h : DenL K H ds vs) (e : L2.atI ds i = some d) : ∃ v, L2.atI vs i = some v ∧ Den K H d v := by
  unfold L2.atI at e ⊢
  rw [← h.length]
  cases q : ixN ds.length i with
  | none => rw [q] at e; cases e
  | some j =>
    rw [q] at e
    obtain ⟨v, e1, e2⟩ := h.get (i := j) (d := d) e
    exact ⟨v, e1, e2⟩
theorem ix_dictK (hu : X.A.units + 1 < cLine) : IxR X (fun x y H Q => ∃ a v, x = .ref a ∧ DGet H a y (some v) ∧ Q v H) := by
  intro value slice pins s σ H x y v u Q I rx ry h hs
  obtain ⟨a, z, rfl, g, q⟩ := h
  cases rx
  exact tail_any (dict_typeIs I g) PySem.F.slot_dict_getitem.lookup (d_getItem hu I g ry fun w' s' I' r' => ⟨z, H, I', r', q⟩) hs
theorem dix (hu : X.A.units + 1 < cLine) : IxR X (lft2 X.K DI oIx) := by
  refine IxR.imp (ix_list.or (ix_tup.or (ix_str.or (ix_dictK hu)))) fun v u H Q h => ?_
  obtain ⟨F, x, y, S, R, rel, d1, d2, w, f⟩ := h
  unfold oIx at w
  split at w
  · rename_i z i
    cases d1
    cases d2
    obtain ⟨hz, w⟩ := w
    split at w
    · rename_i c e
      exact .inr (.inr (.inl ⟨z, i, c, rfl, rfl, hz, e, f.at0 w rel (.str _)⟩))
    · exact w.elim
  · split at w
    · rename_i ds i e1 _
      split at w
      · rename_i d e
        obtain ⟨a, vs, rfl, t, den⟩ := asQ_ok rel d1 e1
        cases d2
        obtain ⟨z, e2, e3⟩ := den.atI e
        rcases t with t | t
        · exact .inl ⟨a, vs, i, z, rfl, rfl, t, e2, f.at0 w rel e3⟩
        · exact .inr (.inl ⟨a, vs, i, z, rfl, rfl, t, e2, f.at0 w rel e3⟩)
      · exact w.elim
    · split at w
      · rename_i kvs k ek e
        split at w
        · rename_i d el
          obtain ⟨a, o, rfl, g, _, hl⟩ := Den.get rel d1 d2 ek e
          obtain ⟨z, rfl, dz⟩ := hl d el
          exact .inr (.inr (.inr ⟨a, z, rfl, g, f.at0 w rel dz⟩))
        · exact w.elim
      · exact w.elim

/-! ### slices -/
def cutD (xs : List D) (lo hi : Option Int) : List D := (xs.drop (HT.sIx xs.length 0 lo)).take (HT.sIx xs.length xs.length hi - HT.sIx xs.length 0 lo)
abbrev WO := Env → GS → (Option Int → GS → Prop) → Prop
def wNoPart : WO := fun _ S Q => Q none S
def wPart (w : W) : WO := fun ρ S Q => w ρ S fun d S' => match d with
  | .int i => Q (some i) S'
  | _ => False
def wSlice (a : W) (l h : WO) : W := fun ρ S Q => a ρ S fun x S1 => l ρ S1 fun lo S2 => h ρ S2 fun hi S3 => match x with
  | .str z => z.length ≤ sizeLine ∧ Q (.str (cutS z lo hi)) S3
  | .tup ds => Q (.tup (cutD ds lo hi)) S3
  | x => match asL S3 x with
    | some ds => Q (.lst (cutD ds lo hi)) S3
    | none => False
def lftO (K : PySem.W.Frag) (DI : Addr → GH → Prop) (w : WO) : TO := fun σ H Q => ∃ F ρ S R, Rel K DI F S H ∧ EnvR K H ρ σ ∧ w ρ S R ∧ ∀ o S' H', R o S' → Rel K DI F S' H' → Kp H H' → Q o H'
theorem do_none : PO X none (lftO X.K DI wNoPart) := ⟨fun pins s σ H Q I h => by
  obtain ⟨F, ρ, S, R, rel, env, w, f⟩ := h
  exact po_none.run pins s σ H Q I (f _ _ _ w rel (.refl H))⟩
theorem do_some {e : Expr} {w : W} (h : PE X e (lft X.K DI w)) : PO X (some e) (lftO X.K DI (wPart w)) := ⟨fun pins s σ H Q I q => by
  obtain ⟨F, ρ, S, R, rel, env, w, f⟩ := q
  refine (po_some h).run pins s σ H Q I ⟨F, ρ, S, _, rel, env, w, fun d S' v H' q rel' k den => ?_⟩
  cases d with
  | int i =>
    cases den
    exact ⟨i, rfl, f _ _ _ q rel' k⟩
  | _ => exact q.elim⟩
theorem sl_listR : SlR X (fun x lo hi H Q => ∃ a xs, x = .ref a ∧ Rd H a (.lst xs) ∧ ∀ p, H p = none → Q (.ref p) (upd H p (.lst (cutV xs lo hi)))) := by
  intro pins s σ H x v vl vu lo hi sl Q I rx hs pl pu h
  obtain ⟨a, xs, e, t, q⟩ := h
  exact sl_list pins s σ H x v vl vu lo hi sl Q I rx hs pl pu ⟨a, xs, e, .inl t, q⟩
theorem slLQ {r : V → Option Int → Option Int → Hp → VK → Prop} (h : SlR X r) : SlR X (fun x lo hi H Q => r x lo hi H (LQ Q)) := fun pins s σ H x v vl vu lo hi sl Q I rx hs pl pu z => by
  obtain ⟨T, id, h1, h2, h3⟩ := h pins s σ H x v vl vu lo hi sl (LQ Q) I rx hs pl pu z
  exact ⟨T, id, h1, h2, thn h3 fun _ _ q => LQ.ep q⟩
theorem DenL.cut {K : PySem.W.Frag} {H : Hp} {ds : List D} {vs : List V} (h : DenL K H ds vs) (lo hi : Option Int) : DenL K H (cutD ds lo hi) (cutV vs lo hi) := by
  unfold cutD cutV
  rw [h.length]
  exact (h.drop _).take _
theorem de_slice {e : Expr} {lo hi : Option Expr} {wa : W} {wl wh : WO} {p2 pos : Pos} (he : PE X e (lft X.K DI wa)) (hl : PO X lo (lftO X.K DI wl)) (hh : PO X hi (lftO X.K DI wh)) : PE X (.Subscript e (.Slice lo hi none p2) pos) (lft X.K DI (wSlice wa wl wh)) := by
  refine (pe_slice (sl_str.or (sl_tupF.or (slLQ sl_listR))) he hl hh).imp fun σ H Q h => ?_
  obtain ⟨F, ρ, S, R, rel, env, w, f⟩ := h
  refine ⟨F, ρ, S, _, rel, env, w, fun x S1 v H1 q1 rel1 k1 d1 => ?_⟩
  refine ⟨F, ρ, S1, _, rel1, env.mn k1, q1, fun lo S2 H2 q2 rel2 k2 => ?_⟩
  refine ⟨F, ρ, S2, _, rel2, env.mn (k1.trans k2), q2, fun hi S3 H3 q3 rel3 k3 => ?_⟩
  have kk := k1.trans (k2.trans k3)
  have dx : Den X.K H3 x v := d1.mn (k2.trans k3)
  clear d1
  split at q3
  · cases dx
    exact .inl ⟨_, rfl, q3.1, f _ _ _ _ q3.2 rel3 kk (.str _)⟩
  · obtain ⟨a, vs, rfl, t, den⟩ := dx.tupV
    refine .inr (.inl ⟨a, vs, rfl, t.sq, fun e => ?_, fun _ p o od hp => (f.up kk).tup q3 rel3 (.refl _) (den.cut lo hi) od hp⟩)
    have e2 : cutV vs lo hi = vs := by
      unfold cutV
      rw [e.1, e.2]
      simp
    have q4 := den.cut lo hi
    rw [e2] at q4
    exact f _ _ _ _ q3 rel3 kk (.tup t q4)
  · split at q3
    · rename_i ds e
      obtain ⟨a, vs, rfl, t, den⟩ := asL_ok rel3 dx e
      exact .inr (.inr ⟨a, vs, rfl, t, fun p hp => (f.up kk).lst q3 rel3 (.refl _) (den.cut lo hi) hp⟩)
    · exact q3.elim

/-! ### truth and tests -/
def truD (S : GS) : D → Option Bool
  | .non => some false
  | .bl b => some b
  | .int i => some (i != 0)
  | .str x => if x.length ≤ sizeLine then some ((x.length : Int) != 0) else none
  | .tup ds => some (!ds.isEmpty)
  | .lst ds => some (!ds.isEmpty)
  | .ref p => match S.g p with
    | some (.lst ds) => some (!ds.isEmpty)
    | some (.dct ds) => some (!ds.isEmpty)
    | _ => none
  | _ => none
def wTru (w : W) : WT := fun ρ S Q => w ρ S fun d S' => match truD S' d with
  | some b => Q b S'
  | none => False
/-- a value that is a bool -/
def wB (w : W) : WT := fun ρ S Q => w ρ S fun d S' => match d with
  | .bl b => Q b S'
  | _ => False
theorem DenL.isEmpty {K : PySem.W.Frag} {H : Hp} {ds : List D} {vs : List V} (h : DenL K H ds vs) : ds.isEmpty = vs.isEmpty := by cases h <;> rfl
theorem DenK.isEmpty {K : PySem.W.Frag} {H : Hp} {ds : List (Key × D)} {vs : List (Key × V)} (h : DenK K H ds vs) : ds.isEmpty = vs.isEmpty := by cases h <;> rfl
theorem truD_ok {K : PySem.W.Frag} {F H : Hp} {S : GS} {d : D} {v : V} {b : Bool} (rel : Rel K DI F S H) (h : Den K H d v) (e : truD S d = some b) : TruV K v H b := by
  cases h with
  | non => cases e; rfl
  | bl b => cases e; rfl
  | int i => cases e; rfl
  | str x =>
    simp only [truD] at e
    split at e
    · cases e
      exact ⟨by assumption, rfl⟩
    · cases e
  | tup h1 h2 =>
    cases e
    rw [h2.isEmpty]
    exact .inr (.inl ⟨_, h1.sq, rfl⟩)
  | pr h1 h2 => cases e
  | lst h1 h2 =>
    cases e
    rw [h2.isEmpty]
    exact .inl ⟨_, .inl (.inr ⟨_, h1⟩), rfl⟩
  | ref p =>
    simp only [truD] at e
    split at e <;> rename_i q
    · cases e
      obtain ⟨vs, e1, e2⟩ := rel.rep _ _ q
      rw [e2.isEmpty]
      exact .inl ⟨_, .inl (.inl e1), rfl⟩
    · cases e
      obtain ⟨vs, e1, e2⟩ := rel.rep _ _ q
      rw [e2.isEmpty]
      exact .inr (.inr ⟨_, e1, rfl⟩)
    · cases e
  | _ => cases e
theorem dt_tru {e : Expr} {w : W} (h : PE X e (lft X.K DI w)) (he : ∀ whole, isTrue e X.env whole = (do let v ← whole; standAt e.pos; holding [v] (truthy v))) : PT X e (lftT X.K DI (wTru w)) := (pt_truth h he).imp fun σ H Q q => by
  obtain ⟨F, ρ, S, R, rel, env, w, f⟩ := q
  refine ⟨F, ρ, S, _, rel, env, w, fun d S' v H' q rel' k den => ?_⟩
  split at q
  · rename_i b e
    exact ⟨b, truD_ok rel' den e, f _ _ _ q rel' k⟩
  · exact q.elim
theorem wB_of {w : W} {σ : L2.St} {H : Hp} {Q : Bool → Hp → Prop} (h : lftT X.K DI (wB w) σ H Q) : lft X.K DI w σ H fun x H' => ∃ c, x = .bl c ∧ Q c H' := by
  obtain ⟨F, ρ, S, R, rel, env, w, f⟩ := h
  refine ⟨F, ρ, S, _, rel, env, w, fun d S' v H' q rel' k den => ?_⟩
  cases d with
  | bl b =>
    cases den
    exact ⟨b, rfl, f _ _ _ q rel' k⟩
  | _ => exact q.elim
theorem dt_cmp {op : CmpOp} {w2 : W2} {a b : Expr} {wa wb : W} {pos : Pos} (ho : OpR X (compareOp op) (lft2 X.K DI w2)) (ha : PE X a (lft X.K DI wa)) (hb : PE X b (lft X.K DI wb)) (hm : behindInMarks op b = false) : PT X (.Compare a [op] [b] pos) (lftT X.K DI (wB (wOp w2 wa wb))) :=
  (pt_cmpR ho ha hb hm).imp fun σ H Q q => tOp_of (wB_of q)
def wChain (o1 o2 : W2) (a b c : W) : W := fun ρ S Q => a ρ S fun x S1 => b ρ S1 fun y S2 => o1 x y S2 fun z S3 => match z with
  | .bl true => c ρ S3 fun u S4 => o2 y u S4 Q
  | .bl false => Q (.bl false) S3
  | _ => False
theorem chain_of {o1 o2 : W2} {wa wb wc : W} {σ : L2.St} {H : Hp} {Q : VK} (h : lft X.K DI (wChain o1 o2 wa wb wc) σ H Q) : tChain (lft2 X.K DI o1) (lft2 X.K DI o2) (lft X.K DI wa) (lft X.K DI wb) (lft X.K DI wc) σ H Q := by
  obtain ⟨F, ρ, S, R, rel, env, w, f⟩ := h
  refine ⟨F, ρ, S, _, rel, env, w, fun x S1 v H1 q1 rel1 k1 d1 => ?_⟩
  refine ⟨F, ρ, S1, _, rel1, env.mn k1, q1, fun y S2 u H2 q2 rel2 k2 d2 => ?_⟩
  refine ⟨F, x, y, S2, _, rel2, d1.mn k2, d2, q2, fun z S3 v3 H3 q3 rel3 k3 d3 => ?_⟩
  have k13 := k1.trans (k2.trans k3)
  cases z with
  | bl b =>
    cases d3
    cases b with
    | true =>
      refine ⟨true, rfl, ?_⟩
      rw [if_pos rfl]
      refine ⟨F, ρ, S3, _, rel3, env.mn k13, q3, fun u4 S4 v4 H4 q4 rel4 k4 d4 => ?_⟩
      exact ⟨F, y, u4, S4, R, rel4, d2.mn (k3.trans k4), d4, q4, f.up (k13.trans k4)⟩
    | false =>
      refine ⟨false, rfl, ?_⟩
      rw [if_neg (by decide)]
      exact f _ _ _ _ q3 rel3 k13 (.bl false)
  | _ => exact q3.elim
def wAnd (a b : WT) : WT := fun ρ S Q => a ρ S fun c S1 => if c = true then b ρ S1 Q else Q false S1
def wOr (a b : WT) : WT := fun ρ S Q => a ρ S fun c S1 => if c = true then Q true S1 else b ρ S1 Q
def wNot (a : WT) : WT := fun ρ S Q => a ρ S fun c S1 => Q (!c) S1
theorem and_of {wa wb : WT} {σ : L2.St} {H : Hp} {Q : Bool → Hp → Prop} (h : lftT X.K DI (wAnd wa wb) σ H Q) : tAnd (lftT X.K DI wa) (lftT X.K DI wb) σ H Q := by
  obtain ⟨F, ρ, S, R, rel, env, w, f⟩ := h
  refine ⟨F, ρ, S, _, rel, env, w, fun c S1 H1 q1 rel1 k1 => ?_⟩
  cases c with
  | true =>
    rw [if_pos rfl] at q1 ⊢
    exact ⟨F, ρ, S1, _, rel1, env.mn k1, q1, f.up k1⟩
  | false =>
    rw [if_neg (by decide)] at q1 ⊢
    exact f _ _ _ q1 rel1 k1
theorem or_of {wa wb : WT} {σ : L2.St} {H : Hp} {Q : Bool → Hp → Prop} (h : lftT X.K DI (wOr wa wb) σ H Q) : tOr (lftT X.K DI wa) (lftT X.K DI wb) σ H Q := by
  obtain ⟨F, ρ, S, R, rel, env, w, f⟩ := h
  refine ⟨F, ρ, S, _, rel, env, w, fun c S1 H1 q1 rel1 k1 => ?_⟩
  cases c with
  | true =>
    rw [if_pos rfl] at q1 ⊢
    exact f _ _ _ q1 rel1 k1
  | false =>
    rw [if_neg (by decide)] at q1 ⊢
    exact ⟨F, ρ, S1, _, rel1, env.mn k1, q1, f.up k1⟩
theorem not_of {wa : WT} {σ : L2.St} {H : Hp} {Q : Bool → Hp → Prop} (h : lftT X.K DI (wNot wa) σ H Q) : tNot (lftT X.K DI wa) σ H Q := by
  obtain ⟨F, ρ, S, R, rel, env, w, f⟩ := h
  exact ⟨F, ρ, S, _, rel, env, w, fun c S1 H1 q1 rel1 k1 => f _ _ _ q1 rel1 k1⟩
/-- .. as values -/
def wAndV (a b : W) : W := fun ρ S Q => a ρ S fun x S1 => match x with
  | .bl true => b ρ S1 Q
  | .bl false => Q (.bl false) S1
  | _ => False
def wOrV (a b : W) : W := fun ρ S Q => a ρ S fun x S1 => match x with
  | .bl false => b ρ S1 Q
  | .bl true => Q (.bl true) S1
  | _ => False
def wNotV (a : WT) : W := fun ρ S Q => a ρ S fun c S1 => Q (.bl (!c)) S1
theorem andV_of {wa wb : W} {σ : L2.St} {H : Hp} {Q : VK} (h : lft X.K DI (wAndV wa wb) σ H Q) : tAndV (lft X.K DI wa) (lft X.K DI wb) σ H Q := by
  obtain ⟨F, ρ, S, R, rel, env, w, f⟩ := h
  refine ⟨F, ρ, S, _, rel, env, w, fun x S1 v H1 q1 rel1 k1 d1 => ?_⟩
  cases x with
  | bl c =>
    cases d1
    refine ⟨c, rfl, ?_⟩
    cases c with
    | true =>
      rw [if_pos rfl]
      exact ⟨F, ρ, S1, _, rel1, env.mn k1, q1, f.up k1⟩
    | false =>
      rw [if_neg (by decide)]
      exact f _ _ _ _ q1 rel1 k1 (.bl false)
  | _ => exact q1.elim
theorem orV_of {wa wb : W} {σ : L2.St} {H : Hp} {Q : VK} (h : lft X.K DI (wOrV wa wb) σ H Q) : tOrV (lft X.K DI wa) (lft X.K DI wb) σ H Q := by
  obtain ⟨F, ρ, S, R, rel, env, w, f⟩ := h
  refine ⟨F, ρ, S, _, rel, env, w, fun x S1 v H1 q1 rel1 k1 d1 => ?_⟩
  cases x with
  | bl c =>
    cases d1
    refine ⟨c, rfl, ?_⟩
    cases c with
    | true =>
      rw [if_pos rfl]
      exact f _ _ _ _ q1 rel1 k1 (.bl true)
    | false =>
      rw [if_neg (by decide)]
      exact ⟨F, ρ, S1, _, rel1, env.mn k1, q1, f.up k1⟩
  | _ => exact q1.elim
def wIf (c : WT) (a b : W) : W := fun ρ S Q => c ρ S fun t S1 => if t = true then a ρ S1 Q else b ρ S1 Q
theorem if_of {wc : WT} {wa wb : W} {σ : L2.St} {H : Hp} {Q : VK} (h : lft X.K DI (wIf wc wa wb) σ H Q) : tIf (lftT X.K DI wc) (lft X.K DI wa) (lft X.K DI wb) σ H Q := by
  obtain ⟨F, ρ, S, R, rel, env, w, f⟩ := h
  refine ⟨F, ρ, S, _, rel, env, w, fun c S1 H1 q1 rel1 k1 => ?_⟩
  cases c with
  | true =>
    rw [if_pos rfl] at q1 ⊢
    exact ⟨F, ρ, S1, _, rel1, env.mn k1, q1, f.up k1⟩
  | false =>
    rw [if_neg (by decide)] at q1 ⊢
    exact ⟨F, ρ, S1, _, rel1, env.mn k1, q1, f.up k1⟩

/-! ### arguments, displays -/
def wNil : WA := fun _ S Q => Q [] S
def wCons (a : W) (r : WA) : WA := fun ρ S Q => a ρ S fun x S1 => r ρ S1 fun xs S2 => Q (x :: xs) S2
theorem da_nil : PA X [] (lftA X.K DI wNil) := pa_nil.imp fun σ H Q q => by
  obtain ⟨F, ρ, S, R, rel, env, w, f⟩ := q
  exact f _ _ _ _ w rel (.refl H) .nil
theorem da_cons {e : Expr} {es : List Expr} {a : W} {r : WA} (ha : PE X e (lft X.K DI a)) (hr : PA X es (lftA X.K DI r)) (hs : starEach (e :: es) X.env = (false, eval e X.env) :: starEach es X.env) : PA X (e :: es) (lftA X.K DI (wCons a r)) :=
  (pa_cons ha hr hs).imp fun σ H Q q => by
    obtain ⟨F, ρ, S, R, rel, env, w, f⟩ := q
    refine ⟨F, ρ, S, _, rel, env, w, fun x S1 v H1 q1 rel1 k1 d1 => ?_⟩
    refine ⟨F, ρ, S1, _, rel1, env.mn k1, q1, fun xs S2 vs H2 q2 rel2 k2 d2 => ?_⟩
    exact f _ _ _ _ q2 rel2 (k1.trans k2) (.cons (d1.mn k2) d2)
def wTup (a : WA) : W := fun ρ S Q => a ρ S fun xs S1 => xs.length ≤ sizeLine ∧ Q (.tup xs) S1
def wLst (a : WA) : W := fun ρ S Q => a ρ S fun xs S1 => xs.length ≤ sizeLine ∧ Q (.lst xs) S1
def wLstN (a : WA) : W := fun ρ S Q => a ρ S fun xs S1 => xs.length ≤ sizeLine ∧ ∀ p, S1.g p = none → Q (.ref p) (S1.set p (.lst xs))
theorem de_tup {es : List Expr} {x1 : Nat} {pos : Pos} {a : WA} (h : PA X es (lftA X.K DI a)) : PE X (.Tuple es x1 pos) (lft X.K DI (wTup a)) := (pe_tupF h).imp fun σ H Q q => by
  obtain ⟨F, ρ, S, R, rel, env, w, f⟩ := q
  refine ⟨F, ρ, S, _, rel, env, w, fun xs S1 vs H1 q1 rel1 k1 d1 => ⟨by rw [← d1.length]; exact q1.1, fun p o od hp => (f.up k1).tup q1.2 rel1 (.refl _) d1 od hp⟩⟩
theorem de_lst {es : List Expr} {pos : Pos} {a : WA} (h : PA X es (lftA X.K DI a)) : PE X (.List es pos) (lft X.K DI (wLst a)) := (peLQ (pe_lst h)).imp fun σ H Q q => by
  obtain ⟨F, ρ, S, R, rel, env, w, f⟩ := q
  refine ⟨F, ρ, S, _, rel, env, w, fun xs S1 vs H1 q1 rel1 k1 d1 => ⟨by rw [← d1.length]; exact q1.1, fun p hp => (f.up k1).lst q1.2 rel1 (.refl _) d1 hp⟩⟩
theorem de_lstN {es : List Expr} {pos : Pos} {a : WA} (h : PA X es (lftA X.K DI a)) : PE X (.List es pos) (lft X.K DI (wLstN a)) := (pe_lst h).imp fun σ H Q q => by
  obtain ⟨F, ρ, S, R, rel, env, w, f⟩ := q
  refine ⟨F, ρ, S, _, rel, env, w, fun xs S1 vs H1 q1 rel1 k1 d1 => ⟨by rw [← d1.length]; exact q1.1, fun p hp => (f.up k1).newL (q1.2 p (rel1.free hp)) rel1 (.refl _) d1 hp⟩⟩
end
end Dv

/-! Dv4: statements, targets, loops, comprehensions, by data. -/
namespace Dv
open PySem PySem.Spec L2
open PyProof.Rows hiding St

structure WEnds where
  nx : Env → GS → Prop
  rt : D → GS → Prop
  bk : Env → GS → Prop := fun _ _ => False
  ct : Env → GS → Prop := fun _ _ => False
abbrev WS := WEnds → Env → GS → Prop
section
variable (K : PySem.W.Frag) (DI : Addr → GH → Prop)
structure FinS (F H : Hp) (R : WEnds) (E : Ends) : Prop where
  nx : ∀ ρ S σ H', R.nx ρ S → Rel K DI F S H' → Kp H H' → EnvR K H' ρ σ → E.nx σ H'
  rt : ∀ d S v H', R.rt d S → Rel K DI F S H' → Kp H H' → Den K H' d v → E.rt v H'
  bk : ∀ ρ S σ H', R.bk ρ S → Rel K DI F S H' → Kp H H' → EnvR K H' ρ σ → E.bk σ H'
  ct : ∀ ρ S σ H', R.ct ρ S → Rel K DI F S H' → Kp H H' → EnvR K H' ρ σ → E.ct σ H'
def lftS (w : WS) : TS := fun E σ H => ∃ F ρ S R, Rel K DI F S H ∧ EnvR K H ρ σ ∧ w R ρ S ∧ FinS K DI F H R E
/-- a target: what it stores -/
abbrev WG := D → Env → GS → (Env → GS → Prop) → Prop
abbrev WGs := List D → Env → GS → (Env → GS → Prop) → Prop
def lftG (w : WG) : TG := fun v σ H Q => ∃ F d ρ S R, Rel K DI F S H ∧ EnvR K H ρ σ ∧ Den K H d v ∧ w d ρ S R ∧ ∀ ρ' S' σ' H', R ρ' S' → Rel K DI F S' H' → Kp H H' → EnvR K H' ρ' σ' → Q σ' H'
def lftGs (w : WGs) : TGs := fun vs σ H Q => ∃ F ds ρ S R, Rel K DI F S H ∧ EnvR K H ρ σ ∧ DenL K H ds vs ∧ w ds ρ S R ∧ ∀ ρ' S' σ' H', R ρ' S' → Rel K DI F S' H' → Kp H H' → EnvR K H' ρ' σ' → Q σ' H'
end
end Dv
namespace L2
theorem PG.imp {X : Cx} {e : PySem.Expr} {t u : TG} (h : PG X e t) (i : ∀ v σ H Q, u v σ H Q → t v σ H Q) : PG X e u := ⟨fun pins s σ H v w Q I r q => h.run pins s σ H v w Q I r (i _ _ _ _ q)⟩
theorem PGs.imp {X : Cx} {e : List PySem.Expr} {t u : TGs} (h : PGs X e t) (i : ∀ v σ H Q, u v σ H Q → t v σ H Q) : PGs X e u := ⟨fun pins s σ H v w Q I r q => h.run pins s σ H v w Q I r (i _ _ _ _ q)⟩
theorem PI.imp {X : Cx} {tg e : PySem.Expr} {t u : TI} (h : PI X tg e t) (i : ∀ σ H Q, u σ H Q → t σ H Q) : PI X tg e u := ⟨fun pins s σ H Q I q => h.run pins s σ H Q I (i _ _ _ q)⟩
end L2
namespace Dv
open PySem PySem.Spec L2
open PyProof.Rows hiding St
section
variable {K : PySem.W.Frag} {DI : Addr → GH → Prop} {F H H' : Hp}
theorem FinS.up {R : WEnds} {E : Ends} (f : FinS K DI F H R E) (k : Kp H H') : FinS K DI F H' R E :=
  ⟨fun ρ S σ H2 r rel kp env => f.nx ρ S σ H2 r rel (k.trans kp) env, fun d S v H2 r rel kp env => f.rt d S v H2 r rel (k.trans kp) env,
   fun ρ S σ H2 r rel kp env => f.bk ρ S σ H2 r rel (k.trans kp) env, fun ρ S σ H2 r rel kp env => f.ct ρ S σ H2 r rel (k.trans kp) env⟩
end
section
variable {X : Cx} {DI : Addr → GH → Prop}

/-! ### blocks -/
def wSkip : WS := fun R ρ S => R.nx ρ S
def wSeq (a b : WS) : WS := fun R ρ S => a { R with nx := b R } ρ S
theorem dss_nil : PSs X [] (lftS X.K DI wSkip) := pss_nil.imp fun E σ H q => by
  obtain ⟨F, ρ, S, R, rel, env, w, f⟩ := q
  exact f.nx _ _ _ _ w rel (.refl H) env
theorem dss_cons {st : Stmt} {sts : List Stmt} {a b : WS} (ha : PS X st (lftS X.K DI a)) (hb : PSs X sts (lftS X.K DI b)) : PSs X (st :: sts) (lftS X.K DI (wSeq a b)) :=
  (pss_cons ha hb).imp fun E σ H q => by
    obtain ⟨F, ρ, S, R, rel, env, w, f⟩ := q
    refine ⟨F, ρ, S, _, rel, env, w, ⟨fun ρ' S' σ' H' r rel' k env' => ⟨F, ρ', S', R, rel', env', r, f.up k⟩, f.rt, f.bk, f.ct⟩⟩
def wBrk : WS := fun R ρ S => R.bk ρ S
def wCnt : WS := fun R ρ S => R.ct ρ S
def wNever : WS := fun _ _ _ => False
theorem ds_pass {pos : Pos} : PS X (.Pass pos) (lftS X.K DI wSkip) := ps_pass.imp fun E σ H q => by
  obtain ⟨F, ρ, S, R, rel, env, w, f⟩ := q
  exact f.nx _ _ _ _ w rel (.refl H) env
theorem ds_brk {pos : Pos} : PS X (.Break pos) (lftS X.K DI wBrk) := ps_break.imp fun E σ H q => by
  obtain ⟨F, ρ, S, R, rel, env, w, f⟩ := q
  exact f.bk _ _ _ _ w rel (.refl H) env
theorem ds_cnt {pos : Pos} : PS X (.Continue pos) (lftS X.K DI wCnt) := ps_continue.imp fun E σ H q => by
  obtain ⟨F, ρ, S, R, rel, env, w, f⟩ := q
  exact f.ct _ _ _ _ w rel (.refl H) env
theorem ds_never {st : Stmt} : PS X st (lftS X.K DI wNever) := ps_never.imp fun E σ H q => by
  obtain ⟨F, ρ, S, R, rel, env, w, f⟩ := q
  exact w
def wExpr (a : W) : WS := fun R ρ S => a ρ S fun _ S1 => R.nx ρ S1
theorem ds_expr {e : Expr} {a : W} {pos : Pos} (h : PE X e (lft X.K DI a)) (hs : swapsWith e none pos.line X.env = pure false) : PS X (.Expr e pos) (lftS X.K DI (wExpr a)) :=
  (ps_expr h hs).imp fun E σ H q => by
    obtain ⟨F, ρ, S, R, rel, env, w, f⟩ := q
    exact ⟨F, ρ, S, _, rel, env, w, fun d S1 v H1 r rel1 k den => f.nx _ _ _ _ r rel1 k (env.mn k)⟩
/-- what is given back: as it is, or with things that are known by address alone from now on told by what they hold -/
def wRet (a : W) : WS := fun R ρ S => a ρ S R.rt
theorem ds_ret {e : Expr} {a : W} {pos : Pos} (h : PE X e (lft X.K DI a)) : PS X (.Return (some e) pos) (lftS X.K DI (wRet a)) :=
  (ps_ret h).imp fun E σ H q => by
    obtain ⟨F, ρ, S, R, rel, env, w, f⟩ := q
    exact ⟨F, ρ, S, _, rel, env, w, fun d S1 v H1 r rel1 k den => f.rt _ _ _ _ r rel1 k den⟩
def wRetN : WS := fun R _ S => R.rt .non S
theorem ds_retN {pos : Pos} : PS X (.Return none pos) (lftS X.K DI wRetN) := ps_retN.imp fun E σ H q => by
  obtain ⟨F, ρ, S, R, rel, env, w, f⟩ := q
  exact f.rt _ _ _ _ w rel (.refl H) .non
def wIfS (c : WT) (a b : WS) : WS := fun R ρ S => c ρ S fun t S1 => if t = true then a R ρ S1 else b R ρ S1
theorem ds_if {c : Expr} {a b : List Stmt} {wc : WT} {wa wb : WS} {pos : Pos} (hc : PT X c (lftT X.K DI wc)) (ha : PSs X a (lftS X.K DI wa)) (hb : PSs X b (lftS X.K DI wb)) : PS X (.If c a b pos) (lftS X.K DI (wIfS wc wa wb)) :=
  (ps_if hc ha hb).imp fun E σ H q => by
    obtain ⟨F, ρ, S, R, rel, env, w, f⟩ := q
    refine ⟨F, ρ, S, _, rel, env, w, fun t S1 H1 r rel1 k => ?_⟩
    cases t with
    | true =>
      rw [if_pos rfl] at r ⊢
      exact ⟨F, ρ, S1, R, rel1, env.mn k, r, f.up k⟩
    | false =>
      rw [if_neg (by decide)] at r ⊢
      exact ⟨F, ρ, S1, R, rel1, env.mn k, r, f.up k⟩

/-! ### targets -/
def gN (i : Nat) : WG := fun d ρ S Q => Q (ρ.set i (some d)) S
theorem dg_name {i : Nat} {x : Str} {pos : Pos} (hN : X.N.Nodup) (hi : X.N[i]? = some x) (hx : Loc X.env.scope x) (hf : X.fn x = true ∨ X.env.scope.names.lookup x = some .local) : PG X (.Name x pos) (lftG X.K DI (gN i)) :=
  (pg_name hN hi hx hf).imp fun v σ H Q q => by
    obtain ⟨F, d, ρ, S, R, rel, env, den, w, f⟩ := q
    exact f _ _ _ _ w rel (.refl H) (env.set den)
def gsNil : WGs := fun ds ρ S Q => ds = [] ∧ Q ρ S
def gsCons (g : WG) (r : WGs) : WGs := fun ds ρ S Q => match ds with
  | [] => False
  | d :: ds => g d ρ S fun ρ' S' => r ds ρ' S' Q
theorem dgs_nil : PGs X [] (lftGs X.K DI gsNil) := pgs_nil.imp fun v σ H Q q => by
  obtain ⟨F, d, ρ, S, R, rel, env, den, w, f⟩ := q
  obtain ⟨rfl, w⟩ := w
  cases den
  exact ⟨rfl, f _ _ _ _ w rel (.refl H) env⟩
theorem dgs_cons {e : Expr} {es : List Expr} {g : WG} {r : WGs} (h1 : PG X e (lftG X.K DI g)) (h2 : PGs X es (lftGs X.K DI r)) (hs : (assignEach (e :: es) X.env).map (·.2) = assign e X.env :: (assignEach es X.env).map (·.2)) : PGs X (e :: es) (lftGs X.K DI (gsCons g r)) :=
  (pgs_cons h1 h2 hs).imp fun v σ H Q q => by
    obtain ⟨F, ds, ρ, S, R, rel, env, den, w, f⟩ := q
    cases den with
    | nil => exact w.elim
    | cons d1 d2 =>
      refine ⟨_, _, rfl, F, _, ρ, S, _, rel, env, d1, w, fun ρ' S' σ' H' r rel' k env' => ?_⟩
      exact ⟨F, _, ρ', S', R, rel', env', d2.mn k, r, fun ρ2 S2 σ2 H2 r2 rel2 k2 env2 => f _ _ _ _ r2 rel2 (k.trans k2) env2⟩
/-- (a, b, ..) = a tuple, or a list of that length -/
def gT (n : Nat) (r : WGs) : WG := fun d ρ S Q => match d with
  | .tup ds => ds.length = n ∧ r ds ρ S Q
  | .pr ds => ds.length = n ∧ r ds ρ S Q
  | _ => False
theorem dg_tup {es : List Expr} {k n : Nat} {r : WGs} {pos : Pos} (hc : X.calm = true) (h : PGs X es (lftGs X.K DI r)) (hn : (assignEach es X.env).length = n) (hst : (assignEach es X.env).findIdx? (·.1) = none) : PG X (.Tuple es k pos) (lftG X.K DI (gT n r)) :=
  (pg_tup hc h hn hst).imp fun v σ H Q q => by
    obtain ⟨F, d, ρ, S, R, rel, env, den, w, f⟩ := q
    unfold gT at w
    split at w
    · obtain ⟨a, vs, rfl, t, dl⟩ := den.tupV
      exact ⟨a, vs, rfl, t.sq, by rw [← dl.length]; exact w.1, F, _, ρ, S, R, rel, env, dl, w.2, f⟩
    · cases den with
      | pr t dl => exact ⟨_, _, rfl, t, by rw [← dl.length]; exact w.1, F, _, ρ, S, R, rel, env, dl, w.2, f⟩
    · exact w.elim
/-- o[i] = v -/
abbrev W3 := D → D → D → GS → (GS → Prop) → Prop
def lft3 (K : PySem.W.Frag) (DI : Addr → GH → Prop) (w : W3) : TSet := fun o i v H Q => ∃ F a b d S R, Rel K DI F S H ∧ Den K H a o ∧ Den K H b i ∧ Den K H d v ∧ w a b d S R ∧ ∀ S' H', R S' → Rel K DI F S' H' → Kp H H' → Q H'
def oSet : W3 := fun o i v S Q => match o with
  | .ref p => match S.g p with
    | some (.lst ds) => match i with
      | .int k => match ixN ds.length k with
        | some j => Q (S.set p (.lst (ds.set j v)))
        | none => False
      | _ => False
    | some (.dct kvs) => match keyOf i with
      | some k => kvs.length < sizeLine ∧ Q (S.set p (.dct (put k v kvs)))
      | none => False
    | _ => False
  | _ => False
theorem set_dictK (hu : X.A.units + 1 < cLine) : PSet X (fun o i v H Q => ∃ a H', o = .ref a ∧ DPut H a i v H' ∧ Q H') := by
  intro pins s σ H o i v ov iv u Q I ro ri rv h
  obtain ⟨a, H', rfl, g, q⟩ := h
  cases ro
  exact d_setItem hu I g ri rv fun s' I' => ⟨H', I', q⟩
theorem psetOr {r r' : TSet} (h : PSet X r) (h' : PSet X r') : PSet X (fun o i v H Q => r o i v H Q ∨ r' o i v H Q) := by
  intro pins s σ H o i v ov iv u Q I ro ri rv q
  rcases q with q | q
  · exact h pins s σ H o i v ov iv u Q I ro ri rv q
  · exact h' pins s σ H o i v ov iv u Q I ro ri rv q
theorem psetImp {r r' : TSet} (h : PSet X r) (i : ∀ a b c H Q, r' a b c H Q → r a b c H Q) : PSet X r' := fun pins s σ H o j v ov iv u Q I ro ri rv q => h pins s σ H o j v ov iv u Q I ro ri rv (i _ _ _ _ _ q)
theorem dset (hu : X.A.units + 1 < cLine) : PSet X (lft3 X.K DI oSet) := by
  refine psetImp (psetOr set_list (set_dictK hu)) fun o i v H Q h => ?_
  obtain ⟨F, a, b, d, S, R, rel, da, db, dd, w, f⟩ := h
  unfold oSet at w
  split at w
  · cases da
    rename_i p
    split at w
    · rename_i ds e
      split at w
      · rename_i k
        split at w
        · rename_i j ej
          cases db
          obtain ⟨vs, e1, e2⟩ := rel.rep _ _ e
          have kk : Kp H (upd H p (.lst (vs.set j v))) := .lst e1
          exact .inl ⟨p, vs, k, j, rfl, rfl, e1, by rw [← e2.length]; exact ej, f _ _ w (rel.set kk (.inr ⟨_, e⟩) ⟨_, upd_same, (DenL.set dd j e2).mn kk⟩) kk⟩
        · exact w.elim
      · exact w.elim
    · rename_i kvs e
      split at w
      · rename_i k ek
        obtain ⟨vs, e1, e2⟩ := rel.rep _ _ e
        have kk : Kp H (upd H p (.dK (putK vs k v))) := .dct e1
        refine .inr ⟨p, _, rfl, .inl ⟨vs, k, e1, keyOf_ok db ek, by rw [← e2.length]; exact w.1, rfl⟩, f _ _ w.2 (rel.set kk (.inr ⟨_, e⟩) ⟨_, upd_same, (e2.put dd).mn kk⟩) kk⟩
      · exact w.elim
    · exact w.elim
  · exact w.elim
def gS (a b : W) : WG := fun d ρ S Q => a ρ S fun o S1 => b ρ S1 fun i S2 => oSet o i d S2 fun S3 => Q ρ S3
theorem dg_sub {o i : Expr} {a b : W} {pos : Pos} (hu : X.A.units + 1 < cLine) (ho : PE X o (lft X.K DI a)) (hi : PE X i (lft X.K DI b))
    (ha : ∀ v, assign (.Subscript o i pos) X.env v = (do
      let ov ← holding [v] (eval o X.env)
      let iv ← holding [v, ov] (eval i X.env)
      standAt pos
      holding [v, ov, iv] (setItem ov iv v)
      release [v, ov, iv] [])) : PG X (.Subscript o i pos) (lftG X.K DI (gS a b)) :=
  (pg_sub ho hi (dset (DI := DI) hu) ha).imp fun v σ H Q q => by
    obtain ⟨F, d, ρ, S, R, rel, env, den, w, f⟩ := q
    refine ⟨F, ρ, S, _, rel, env, w, fun x S1 v1 H1 q1 rel1 k1 d1 => ?_⟩
    refine ⟨F, ρ, S1, _, rel1, env.mn k1, q1, fun y S2 v2 H2 q2 rel2 k2 d2 => ?_⟩
    refine ⟨F, x, y, d, S2, _, rel2, d1.mn k2, d2, den.mn (k1.trans k2), q2, fun S3 H3 q3 rel3 k3 => ?_⟩
    exact f _ _ _ _ q3 rel3 (k1.trans (k2.trans k3)) (env.mn (k1.trans (k2.trans k3)))
def wAsg (a : W) (g : WG) : WS := fun R ρ S => a ρ S fun d S1 => g d ρ S1 R.nx
theorem asg_of {a : W} {g : WG} {E : Ends} {σ : L2.St} {H : Hp} (q : lftS X.K DI (wAsg a g) E σ H) : tAsg (lft X.K DI a) (lftG X.K DI g) E σ H := by
  obtain ⟨F, ρ, S, R, rel, env, w, f⟩ := q
  refine ⟨F, ρ, S, _, rel, env, w, fun d S1 v H1 q1 rel1 k1 d1 => ?_⟩
  exact ⟨F, d, ρ, S1, _, rel1, env.mn k1, d1, q1, fun ρ' S' σ' H' r rel' k env' => f.nx _ _ _ _ r rel' (k1.trans k) env'⟩
theorem ds_asg {tg e : Expr} {a : W} {g : WG} {pos : Pos} (he : PE X e (lft X.K DI a)) (hg : PG X tg (lftG X.K DI g)) (hs : swapsWithSole [tg] e pos.line X.env = pure false) (hw : swappedStores [tg] e X.env = pure none)
    (h1 : (assignEach [tg] X.env).map (·.2) = [assign tg X.env]) : PS X (.Assign [tg] e pos) (lftS X.K DI (wAsg a g)) := (ps_asg he hg hs hw h1).imp fun E σ H q => asg_of q
theorem ds_set {i : Nat} {x : Str} {e : Expr} {a : W} {pos pos' : Pos} (hN : X.N.Nodup) (hi : X.N[i]? = some x) (hx : Loc X.env.scope x) (he : PE X e (lft X.K DI a)) (hs : swapsWith e (some (.Name x pos')) pos.line X.env = pure false) (hf : X.fn x = true ∨ X.env.scope.names.lookup x = some .local) :
    PS X (.Assign [.Name x pos'] e pos) (lftS X.K DI (wAsg a (gN i))) :=
  (ps_set hN hi hx he hs hf).imp fun E σ H q => by
    obtain ⟨F, ρ, S, R, rel, env, w, f⟩ := q
    exact ⟨F, ρ, S, _, rel, env, w, fun d S1 v H1 q1 rel1 k1 d1 => f.nx _ _ _ _ q1 rel1 k1 ((env.mn k1).set d1)⟩
/-- a, b = x, y -/
def wPar (i j : Nat) (a : WA) : WS := fun R ρ S => a ρ S fun ds S1 => match ds with
  | [x, y] => R.nx ((ρ.set i (some x)).set j (some y)) S1
  | _ => False
theorem ds_par {i j : Nat} {x y : Str} {a b : Expr} {wa : WA} {px py pt pos : Pos} {kt k2 : Nat} {pt2 : Pos} (hc : X.calm = true) (hN : X.N.Nodup) (hi : X.N[i]? = some x) (hj : X.N[j]? = some y) (hij : i ≠ j)
    (hx : X.env.scope.names.lookup x = some .local) (hy : X.env.scope.names.lookup y = some .local) (ha : PA X [a, b] (lftA X.K DI wa))
    (hw : swappedStores [.Tuple [.Name x px, .Name y py] kt pt] (.Tuple [a, b] k2 pt2) X.env = pure (some [x, y]))
    (hs : swapsWithSole [.Tuple [.Name x px, .Name y py] kt pt] (.Tuple [a, b] k2 pt2) pos.line X.env = pure false) :
    PS X (.Assign [.Tuple [.Name x px, .Name y py] kt pt] (.Tuple [a, b] k2 pt2) pos) (lftS X.K DI (wPar i j wa)) :=
  (ps_par hc hN hi hj hij hx hy ha hw hs).imp fun E σ H q => by
    obtain ⟨F, ρ, S, R, rel, env, w, f⟩ := q
    refine ⟨F, ρ, S, _, rel, env, w, fun ds S1 vs H1 q1 rel1 k1 d1 => ?_⟩
    split at q1
    · cases d1 with
      | cons e1 r1 =>
        cases r1 with
        | cons e2 r2 =>
          cases r2
          exact ⟨_, _, rfl, f.nx _ _ _ _ q1 rel1 k1 (((env.mn k1).set e1).set e2)⟩
    · exact q1.elim
def wPar3 (i j l : Nat) (a : WA) : WS := fun R ρ S => a ρ S fun ds S1 => match ds with
  | [x, y, z] => R.nx (((ρ.set i (some x)).set j (some y)).set l (some z)) S1
  | _ => False
theorem ds_par3 {i j l : Nat} {x y z : Str} {a b c : Expr} {wa : WA} {px py pz pt pos : Pos} {kt k2 : Nat} {pt2 : Pos} (hc : X.calm = true) (hN : X.N.Nodup) (hi : X.N[i]? = some x) (hj : X.N[j]? = some y) (hl : X.N[l]? = some z) (hij : i ≠ j) (hil : i ≠ l) (hjl : j ≠ l)
    (hx : X.env.scope.names.lookup x = some .local) (hy : X.env.scope.names.lookup y = some .local) (hz : X.env.scope.names.lookup z = some .local) (ha : PA X [a, b, c] (lftA X.K DI wa))
    (hw : swappedStores [.Tuple [.Name x px, .Name y py, .Name z pz] kt pt] (.Tuple [a, b, c] k2 pt2) X.env = pure (some [x, y, z]))
    (hs : swapsWithSole [.Tuple [.Name x px, .Name y py, .Name z pz] kt pt] (.Tuple [a, b, c] k2 pt2) pos.line X.env = pure false) :
    PS X (.Assign [.Tuple [.Name x px, .Name y py, .Name z pz] kt pt] (.Tuple [a, b, c] k2 pt2) pos) (lftS X.K DI (wPar3 i j l wa)) :=
  (ps_par3 hc hN hi hj hl hij hil hjl hx hy hz ha hw hs).imp fun E σ H q => by
    obtain ⟨F, ρ, S, R, rel, env, w, f⟩ := q
    refine ⟨F, ρ, S, _, rel, env, w, fun ds S1 vs H1 q1 rel1 k1 d1 => ?_⟩
    split at q1
    · cases d1 with
      | cons e1 r1 =>
        cases r1 with
        | cons e2 r2 =>
          cases r2 with
          | cons e3 r3 =>
            cases r3
            exact ⟨_, _, _, rfl, f.nx _ _ _ _ q1 rel1 k1 ((((env.mn k1).set e1).set e2).set e3)⟩
    · exact q1.elim

/-! ### while -/
def wWhile (c : WT) (b : WS) : WS := fun R ρ S => ∃ P : Nat → Env → GS → Prop, (∃ m, P m ρ S) ∧ ∀ m ρ S, P m ρ S → c ρ S fun t S1 =>
  if t = true then b { R with nx := fun ρ' S' => ∃ m', m' < m ∧ P m' ρ' S', ct := fun ρ' S' => ∃ m', m' < m ∧ P m' ρ' S', bk := R.nx } ρ S1 else R.nx ρ S1
theorem ds_while {c : Expr} {body : List Stmt} {wc : WT} {wb : WS} {pos : Pos} (hp : PassesOwn (model X.prog X.w) X.A X.env X.xe) (hc : PT X c (lftT X.K DI wc)) (hb : PSs X body (lftS X.K DI wb)) : PS X (.While c body [] pos) (lftS X.K DI (wWhile wc wb)) :=
  (ps_while hp hc hb).imp fun E σ H q => by
    obtain ⟨F, ρ, S, R, rel, env, ⟨P, ⟨m0, p0⟩, step⟩, f⟩ := q
    refine ⟨fun m σ' H' => ∃ ρ' S', Rel X.K DI F S' H' ∧ EnvR X.K H' ρ' σ' ∧ Kp H H' ∧ P m ρ' S', ⟨m0, ρ, S, rel, env, .refl H, p0⟩, fun m σ1 H1 h => ?_⟩
    obtain ⟨ρ1, S1, rel1, env1, k1, p1⟩ := h
    refine ⟨F, ρ1, S1, _, rel1, env1, step m ρ1 S1 p1, fun t S2 H2 r rel2 k2 => ?_⟩
    have k12 := k1.trans k2
    cases t with
    | true =>
      rw [if_pos rfl] at r
      refine ⟨fun σ' H' => ∃ m', m' < m ∧ ∃ ρ' S', Rel X.K DI F S' H' ∧ EnvR X.K H' ρ' σ' ∧ Kp H H' ∧ P m' ρ' S', fun σ' H' h => h, ?_⟩
      refine ⟨F, ρ1, S2, _, rel2, env1.mn k2, r, ⟨fun ρ' S' σ' H' ⟨m', hm, p'⟩ rel' k' env' => ⟨m', hm, ρ', S', rel', env', k12.trans k', p'⟩, fun d S' v H' r' rel' k' den => f.rt _ _ _ _ r' rel' (k12.trans k') den,
        fun ρ' S' σ' H' r' rel' k' env' => f.nx _ _ _ _ r' rel' (k12.trans k') env', fun ρ' S' σ' H' ⟨m', hm, p'⟩ rel' k' env' => ⟨m', hm, ρ', S', rel', env', k12.trans k', p'⟩⟩⟩
    | false =>
      rw [if_neg (by decide)] at r
      exact f.nx _ _ _ _ r rel2 k12 (env1.mn k2)
end
end Dv

/-! Dv5: what is walked, for, list comprehensions, by data. -/
namespace Dv
open PySem PySem.Spec L2
open PyProof.Rows hiding St

/-- lists by address that a walk wants as they stand -/
abbrev Gd := List (Addr × List D)
def gdOk : Gd → GS → Prop
  | [], _ => True
  | (p, ds) :: r, S => S.g p = some (.lst ds) ∧ gdOk r S
abbrev WI := Env → GS → (List D → Gd → GS → Prop) → Prop
structure ItOk (K : PySem.W.Frag) (DI : Addr → GH → Prop) (H1 : Hp) (J : It) (ds : List D) (gd : Gd) : Prop where
  go : ∀ F i H S d, ds[i]? = some d → Rel K DI F S H → Kp H1 H → gdOk gd S → J.go i H
  yld : ∀ F i H S d x H', ds[i]? = some d → Rel K DI F S H → Kp H1 H → gdOk gd S → J.yld i H x H' → Rel K DI F S H' ∧ Kp H H' ∧ Den K H' d x
  stop : ∀ F i H S, ds.length ≤ i → Rel K DI F S H → Kp H1 H → gdOk gd S → J.stop i H
def lftI (K : PySem.W.Frag) (DI : Addr → GH → Prop) (w : WI) : TI := fun σ H R => ∃ F ρ S R', Rel K DI F S H ∧ EnvR K H ρ σ ∧ w ρ S R' ∧
  ∀ ds gd S' H1 J, R' ds gd S' → Rel K DI F S' H1 → Kp H H1 → ItOk K DI H1 J ds gd → R J H1
def kD : Key → D
  | .inl i => .int i
  | .inr x => .str x
theorem kD_den {K : PySem.W.Frag} {H : Hp} (k : Key) : Den K H (kD k) (kV k) := by
  cases k
  · exact .int _
  · exact .str _

section
variable {K : PySem.W.Frag} {DI : Addr → GH → Prop} {F H : Hp}
theorem DenL.none_of {ds : List D} {vs : List V} {i : Nat} (h : DenL K H ds vs) (e : ds.length ≤ i) : vs.length ≤ i := by rw [← h.length]; exact e
/-- a tuple -/
theorem it_tup {a : Addr} {vs : List V} {ds : List D} (t : SqT K H a vs) (d : DenL K H ds vs) : ItOk K DI H (Itt K a) ds [] where
  go := fun F i H' S x e rel k g => by
    obtain ⟨v, e1, e2⟩ := d.get e
    exact ⟨vs, v, k.sqT t, e1⟩
  yld := fun F i H' S x v H2 e rel k g y => by
    obtain ⟨rfl, y⟩ := y
    obtain ⟨v', e1, e2⟩ := d.get e
    have q := y vs (k.sqT t)
    rw [e1] at q
    cases q
    exact ⟨rel, .refl _, e2.mn k⟩
  stop := fun F i H' S e rel k g => ⟨vs, k.sqT t, d.none_of e⟩
/-- a list that is locked -/
theorem it_frz {a : Addr} {o : Obj} {vs : List V} {ds : List D} (t : H a = some (.frz o (.lst vs))) (d : DenL K H ds vs) : ItOk K DI H (Itl K a) ds [] where
  go := fun F i H' S x e rel k g => by
    obtain ⟨v, e1, e2⟩ := d.get e
    exact ⟨vs, v, .inl (.inr ⟨o, k.f _ _ _ t⟩), e1⟩
  yld := fun F i H' S x v H2 e rel k g y => by
    obtain ⟨rfl, y⟩ := y
    obtain ⟨v', e1, e2⟩ := d.get e
    have q := y vs (.inl (.inr ⟨o, k.f _ _ _ t⟩))
    rw [e1] at q
    cases q
    exact ⟨rel, .refl _, e2.mn k⟩
  stop := fun F i H' S e rel k g => ⟨vs, .inl (.inr ⟨o, k.f _ _ _ t⟩), d.none_of e⟩
/-- a list known by its address -/
theorem it_lst {p : Addr} {ds : List D} : ItOk K DI H (Itl K p) ds [(p, ds)] where
  go := fun F i H' S x e rel k g => by
    obtain ⟨vs, e1, e2⟩ := rel.rep _ _ g.1
    obtain ⟨v, e3, e4⟩ := e2.get e
    exact ⟨vs, v, .inl (.inl e1), e3⟩
  yld := fun F i H' S x v H2 e rel k g y => by
    obtain ⟨rfl, y⟩ := y
    obtain ⟨vs, e1, e2⟩ := rel.rep _ _ g.1
    obtain ⟨v', e3, e4⟩ := e2.get e
    have q := y vs (.inl (.inl e1))
    rw [e3] at q
    cases q
    exact ⟨rel, .refl _, e4⟩
  stop := fun F i H' S e rel k g => by
    obtain ⟨vs, e1, e2⟩ := rel.rep _ _ g.1
    exact ⟨vs, .inl (.inl e1), e2.none_of e⟩
theorem DenK.get {ds : List (Key × D)} {vs : List (Key × V)} : ∀ {i : Nat}, DenK K H ds vs → (∀ k d, ds[i]? = some (k, d) → ∃ v, vs[i]? = some (k, v) ∧ Den K H d v) := by
  induction ds generalizing vs with
  | nil => intro i _ k d e; simp at e
  | cons x r ih =>
    intro i h k d e
    cases h with
    | cons h1 h2 =>
      cases i with
      | zero => simp at e; obtain ⟨rfl, rfl⟩ := e; exact ⟨_, rfl, h1⟩
      | succ i =>
        obtain ⟨v, e1, e2⟩ := ih (i := i) h2 k d (by simpa using e)
        exact ⟨v, by simpa using e1, e2⟩
/-- the keys of a locked dict -/
theorem it_keys {a : Addr} {o : Obj} {vs : List (Key × V)} {kvs : List (Key × D)} (t : H a = some (.frz o (.dK vs))) (d : DenK K H kvs vs) : ItOk K DI H (Itk a o vs) (kvs.map fun p => kD p.1) [] where
  go := fun F i H' S x e rel k g => ⟨k.f _ _ _ t, by
    have := List.getElem?_eq_some_iff.mp e
    obtain ⟨hi, _⟩ := this
    rw [List.length_map] at hi
    rw [← d.length]
    exact hi⟩
  yld := fun F i H' S x v H2 e rel k g y => by
    obtain ⟨rfl, kk, vv, e1, rfl⟩ := y
    rw [List.getElem?_map] at e
    cases q : kvs[i]? with
    | none => rw [q] at e; cases e
    | some kd =>
      rw [q] at e
      cases e
      obtain ⟨v', e3, e4⟩ := d.get (i := i) kd.1 kd.2 q
      rw [e1] at e3
      cases e3
      exact ⟨rel, .refl _, kD_den _⟩
  stop := fun F i H' S e rel k g => ⟨k.f _ _ _ t, by rw [List.length_map] at e; rw [← d.length]; exact e⟩
/-- its values -/
theorem it_vals {a : Addr} {o : Obj} {vs : List (Key × V)} {kvs : List (Key × D)} (t : H a = some (.frz o (.dK vs))) (d : DenK K H kvs vs) : ItOk K DI H (Itd a o vs) (kvs.map (·.2)) [] where
  go := fun F i H' S x e rel k g => ⟨k.f _ _ _ t, by
    obtain ⟨hi, _⟩ := List.getElem?_eq_some_iff.mp e
    rw [List.length_map] at hi
    rw [← d.length]
    exact hi⟩
  yld := fun F i H' S x v H2 e rel k g y => by
    obtain ⟨rfl, kk, e1⟩ := y
    rw [List.getElem?_map] at e
    cases q : kvs[i]? with
    | none => rw [q] at e; cases e
    | some kd =>
      rw [q] at e
      cases e
      obtain ⟨v', e3, e4⟩ := d.get (i := i) kd.1 kd.2 q
      rw [e1] at e3
      cases e3
      exact ⟨rel, .refl _, e4.mn k⟩
  stop := fun F i H' S e rel k g => ⟨k.f _ _ _ t, by rw [List.length_map] at e; rw [← d.length]; exact e⟩
/-- its pairs -/
theorem it_items {a : Addr} {o : Obj} {vs : List (Key × V)} {kvs : List (Key × D)} (t : H a = some (.frz o (.dK vs))) (d : DenK K H kvs vs) : ItOk K DI H (Iti a o vs) (kvs.map fun p => .pr [kD p.1, p.2]) [] where
  go := fun F i H' S x e rel k g => ⟨k.f _ _ _ t, by
    obtain ⟨hi, _⟩ := List.getElem?_eq_some_iff.mp e
    rw [List.length_map] at hi
    rw [← d.length]
    exact hi⟩
  yld := fun F i H' S x v H2 e rel k g y => by
    obtain ⟨T, kk, vv, e1, rfl, hT, rfl⟩ := y
    rw [List.getElem?_map] at e
    cases q : kvs[i]? with
    | none => rw [q] at e; cases e
    | some kd =>
      rw [q] at e
      cases e
      obtain ⟨v', e3, e4⟩ := d.get (i := i) kd.1 kd.2 q
      rw [e1] at e3
      cases e3
      have kn : Kp H' (upd H' T (.tup [kV kd.1, vv])) := .new hT
      exact ⟨rel.new hT, kn, .pr (.inl (.inl upd_same)) (.cons (kD_den _) (.cons ((e4.mn k).mn kn) .nil))⟩
  stop := fun F i H' S e rel k g => ⟨k.f _ _ _ t, by rw [List.length_map] at e; rw [← d.length]; exact e⟩
/-- lo, lo + 1, .. -/
def rgD (lo : Int) (n : Nat) : List D := (List.range n).map fun i => .int (lo + (i : Nat))
theorem rgD_length (lo : Int) (n : Nat) : (rgD lo n).length = n := by unfold rgD; simp
theorem it_rng {lo : Int} {n : Nat} : ItOk K DI H (Itr lo n) (rgD lo n) [] where
  go := fun F i H' S x e rel k g => by
    obtain ⟨hi, _⟩ := List.getElem?_eq_some_iff.mp e
    rw [rgD_length] at hi
    exact hi
  yld := fun F i H' S x v H2 e rel k g y => by
    obtain ⟨rfl, rfl⟩ := y
    obtain ⟨hi, _⟩ := List.getElem?_eq_some_iff.mp e
    rw [rgD_length] at hi
    unfold rgD at e
    rw [List.getElem?_map, List.getElem?_range hi] at e
    cases e
    exact ⟨rel, .refl _, .int _⟩
  stop := fun F i H' S e rel k g => by rw [rgD_length] at e; exact e
/-- the signs of a text -/
def sgD (x : Str) : List D := x.cps.toList.map fun c => .str ⟨#[c]⟩
theorem it_str {x : Str} : ItOk K DI H (Its x) (sgD x) [] where
  go := fun F i H' S d e rel k g => by
    obtain ⟨hi, _⟩ := List.getElem?_eq_some_iff.mp e
    unfold sgD at hi
    rw [List.length_map, Array.length_toList] at hi
    exact hi
  yld := fun F i H' S d v H2 e rel k g y => by
    obtain ⟨rfl, c, e1, rfl⟩ := y
    unfold sgD at e
    rw [List.getElem?_map, Array.getElem?_toList, e1] at e
    cases e
    exact ⟨rel, .refl _, .str _⟩
  stop := fun F i H' S e rel k g => by
    unfold sgD at e
    rw [List.length_map, Array.length_toList] at e
    exact e
end

section
variable {X : Cx} {DI : Addr → GH → Prop} {tg : Expr}
/-- the values of a sequence, the signs of a text, the keys of a dict that is locked -/
def wiSeq (a : W) : WI := fun ρ S Q => a ρ S fun d S' => match d with
  | .tup ds => Q ds [] S'
  | .lst ds => Q ds [] S'
  | .str x => Q (sgD x) [] S'
  | .dct kvs => Q (kvs.map fun p => kD p.1) [] S'
  | .ref p => match S'.g p with
    | some (.lst ds) => Q ds [(p, ds)] S'
    | some (.fct kvs) => Q (kvs.map fun p => kD p.1) [] S'
    | _ => False
  | _ => False
theorem PI.alt {e : Expr} {te : TE} {ts : List (VK → Prop)} (he : PE X e te) (r : V → Hp → (It → Hp → Prop) → Prop)
    (h : ∀ (pins : List (Addr × Obj)) (s : Shared) (σ : L2.St) (H : Hp) (x : V) (u : Value) (R : It → Hp → Prop), Inv X pins σ H s → RelV x u → r x H R → wpAny (model X.prog X.w) X.A (pyIter u) (PIE X pins σ tg R) X.xe s) :
    PI X tg e (fun σ H R => te σ H fun x H1 => r x H1 R) := ⟨fun pins s σ H R I q => thn (he.run pins s σ H _ I q) fun v s1 ⟨x, H1, I1, r1, q1⟩ => h pins s1 σ H1 x v R I1 r1 q1⟩
def rSeq (K : PySem.W.Frag) (x : V) (H : Hp) (R : It → Hp → Prop) : Prop :=
  (∃ a, x = .ref a ∧ (∃ xs, SqL K H a xs) ∧ R (Itl K a) H) ∨ (∃ a, x = .ref a ∧ (∃ xs, SqT K H a xs) ∧ R (Itt K a) H) ∨ (∃ z, x = .str z ∧ R (Its z) H) ∨
  ∃ a o kvs, x = .ref a ∧ H a = some (.frz o (.dK kvs)) ∧ R (Itk a o kvs) H
theorem iter_seq (pins : List (Addr × Obj)) (s : Shared) (σ : L2.St) (H : Hp) (x : V) (u : Value) (R : It → Hp → Prop) (I : Inv X pins σ H s) (r : RelV x u) (q : rSeq X.K x H R) : wpAny (model X.prog X.w) X.A (pyIter u) (PIE X pins σ tg R) X.xe s := by
  rcases q with ⟨a, rfl, ⟨xs, hq⟩, q⟩ | ⟨a, rfl, ⟨xs, hq⟩, q⟩ | ⟨z, rfl, q⟩ | ⟨a, o, kvs, rfl, hd, q⟩
  · cases r
    obtain ⟨its, rv, p, _⟩ := I.list hq
    exact wpAny_pyIter_list p.isList (pi_one (tk := s.toks) I _ (turn_list a _) ⟨_, Heap.get?_push_size _ rfl, rfl, rfl⟩ q)
  · cases r
    obtain ⟨its, rv, p, _⟩ := I.tuple hq
    exact wpAny_pyIter_tuple (show s.heap.IsTuple a its.toArray from p) (pi_one (tk := s.toks) I _ (turn_tuple a _) ⟨_, Heap.get?_push_size _ rfl, rfl, rfl⟩ q)
  · obtain ⟨t, rfl⟩ := r
    by_cases ha : z.cps.all (· < 128) = true
    · exact wpAny_pyIter_ascii ha (pi_one (tk := s.toks) I _ (turn_str _ z t _ (.inl rfl)) ⟨_, Heap.get?_push_size _ rfl, rfl, rfl⟩ q)
    · exact wpAny_pyIter_wide (Bool.eq_false_iff.mpr ha) (pi_one (tk := s.toks) I _ (turn_str _ z t _ (.inr rfl)) ⟨_, Heap.get?_push_size _ rfl, rfl, rfl⟩ q)
  · cases r
    obtain ⟨hs, hgd, hx, es, ep, vs, hdt, hsz, _⟩ := I.frzK hd
    exact iter_keys hs hgd hx hdt (pi_one (tk := s.toks) I _ (turn_keys _ hdt) ⟨_, Heap.get?_push_size _ rfl, rfl, by rw [hsz] <;> rfl⟩ q)
theorem di_seq {e : Expr} {a : W} (h : PE X e (lft X.K DI a)) : PI X tg e (lftI X.K DI (wiSeq a)) :=
  (PI.alt (ts := []) h (rSeq X.K) iter_seq).imp fun σ H R q => by
    obtain ⟨F, ρ, S, R', rel, env, w, f⟩ := q
    refine ⟨F, ρ, S, _, rel, env, w, fun d S1 v H1 q1 rel1 k1 d1 => ?_⟩
    split at q1
    · obtain ⟨a, vs, rfl, t, den⟩ := d1.tupV
      exact .inr (.inl ⟨a, rfl, ⟨vs, t.sq⟩, f _ _ _ _ _ q1 rel1 k1 (it_tup t.sq den)⟩)
    · cases d1 with
      | lst h1 h2 => exact .inl ⟨_, rfl, ⟨_, .inl (.inr ⟨_, h1⟩)⟩, f _ _ _ _ _ q1 rel1 k1 (it_frz h1 h2)⟩
    · cases d1
      exact .inr (.inr (.inl ⟨_, rfl, f _ _ _ _ _ q1 rel1 k1 it_str⟩))
    · cases d1 with
      | dct h1 h2 => exact .inr (.inr (.inr ⟨_, _, _, rfl, h1, f _ _ _ _ _ q1 rel1 k1 (it_keys h1 h2)⟩))
    · cases d1
      split at q1
      · rename_i ds e
        obtain ⟨vs, e1, e2⟩ := rel1.rep _ _ e
        exact .inl ⟨_, rfl, ⟨vs, .inl (.inl e1)⟩, f _ _ _ _ _ q1 rel1 k1 it_lst⟩
      · rename_i kvs e
        obtain ⟨o, vs, e1, e2⟩ := rel1.rep _ _ e
        exact .inr (.inr (.inr ⟨_, _, _, rfl, e1, f _ _ _ _ _ q1 rel1 k1 (it_keys e1 e2)⟩))
      · exact q1.elim
    · exact q1.elim
/-- range(n), range(a, b) -/
def wiRg1 (a : W) : WI := fun ρ S Q => a ρ S fun d S' => ∃ j, d = .int j ∧ -(2 ^ 62) ≤ j ∧ j < 2 ^ 62 ∧ Q (rgD 0 j.toNat) [] S'
def wiRg2 (a b : W) : WI := fun ρ S Q => a ρ S fun d S1 => b ρ S1 fun e S2 => ∃ i j, d = .int i ∧ e = .int j ∧ -(2 ^ 62) ≤ i ∧ i < 2 ^ 62 ∧ -(2 ^ 62) ≤ j ∧ j < 2 ^ 62 ∧ Q (rgD i (j - i).toNat) [] S2
theorem DenL.zero {K : PySem.W.Frag} {H : Hp} {vs : List V} (h : DenL K H [] vs) : vs = [] := by cases h; rfl
theorem DenL.oneV {K : PySem.W.Frag} {H : Hp} {d : D} {vs : List V} (h : DenL K H [d] vs) : ∃ v, vs = [v] ∧ Den K H d v := by
  cases h with
  | cons h1 h2 => cases h2; exact ⟨_, rfl, h1⟩
theorem DenL.twoV {K : PySem.W.Frag} {H : Hp} {d e : D} {vs : List V} (h : DenL K H [d, e] vs) : ∃ v u, vs = [v, u] ∧ Den K H d v ∧ Den K H e u := by
  cases h with
  | cons h1 h2 =>
    cases h2 with
    | cons h2 h3 => cases h3; exact ⟨_, _, rfl, h1, h2⟩
theorem di_rg1 {e : Expr} {a : W} {p pos : Pos} (hg : Gl X "range") (hm : X.mg "range" = none) (h : PE X e (lft X.K DI a)) (hs : starEach [e] X.env = [(false, eval e X.env)]) : PI X tg (.Call (.Name "range" p) [e] [] pos) (lftI X.K DI (wiRg1 a)) :=
  (pi_range1 hg hm (da_cons h da_nil (by rw [hs]; rfl)) hs).imp fun σ H R q => by
    obtain ⟨F, ρ, S, R', rel, env, w, f⟩ := q
    refine ⟨F, ρ, S, fun ds S' => match ds with
      | [d] => ∃ j, d = .int j ∧ -(2 ^ 62) ≤ j ∧ j < 2 ^ 62 ∧ R' (rgD 0 j.toNat) [] S'
      | _ => False, rel, env, w, fun ds S1 vs H1 q1 rel1 k1 d1 => ?_⟩
    dsimp only at q1
    split at q1
    · obtain ⟨j, rfl, h1, h2, q1⟩ := q1
      obtain ⟨v, rfl, dv⟩ := d1.oneV
      cases dv
      exact ⟨_, rfl, h1, h2, f _ _ _ _ _ q1 rel1 k1 it_rng⟩
    · exact q1.elim
theorem di_rg2 {e e2 : Expr} {a b : W} {p pos : Pos} (hg : Gl X "range") (hm : X.mg "range" = none) (h : PE X e (lft X.K DI a)) (h' : PE X e2 (lft X.K DI b)) (hs : starEach [e, e2] X.env = [(false, eval e X.env), (false, eval e2 X.env)]) (hs2 : starEach [e2] X.env = [(false, eval e2 X.env)]) : PI X tg (.Call (.Name "range" p) [e, e2] [] pos) (lftI X.K DI (wiRg2 a b)) :=
  (pi_range2 hg hm (da_cons h (da_cons h' da_nil (by rw [hs2]; rfl)) (by rw [hs, hs2])) hs hs2).imp fun σ H R q => by
    obtain ⟨F, ρ, S, R', rel, env, w, f⟩ := q
    refine ⟨F, ρ, S, fun ds S' => match ds with
      | [d, e] => ∃ i j, d = .int i ∧ e = .int j ∧ -(2 ^ 62) ≤ i ∧ i < 2 ^ 62 ∧ -(2 ^ 62) ≤ j ∧ j < 2 ^ 62 ∧ R' (rgD i (j - i).toNat) [] S'
      | _ => False, rel, env, w, fun ds S1 vs H1 q1 rel1 k1 d1 => ?_⟩
    dsimp only at q1
    split at q1
    · obtain ⟨i, j, rfl, rfl, h1, h2, h3, h4, q1⟩ := q1
      obtain ⟨v, u, rfl, dv, du⟩ := d1.twoV
      cases dv
      cases du
      exact ⟨_, _, rfl, ⟨h1, h2, h3, h4⟩, f _ _ _ _ _ q1 rel1 k1 it_rng⟩
    · exact q1.elim

/-! ### for -/
/-- P: the invariant over the values that are left -/
def wFor (wi : WI) (g : WG) (b : WS) : WS := fun R ρ S => wi ρ S fun ds gd S1 => ∃ P : List D → Env → GS → Prop, P ds ρ S1 ∧
  (∀ d r ρ S, P (d :: r) ρ S → gdOk gd S ∧ g d ρ S fun ρ' S' => b { R with nx := P r, ct := P r, bk := R.nx } ρ' S') ∧ ∀ ρ S, P [] ρ S → gdOk gd S ∧ R.nx ρ S
theorem ds_for {t iter : Expr} {body : List Stmt} {wi : WI} {g : WG} {b : WS} {pos : Pos} (hp : PassesOwn (model X.prog X.w) X.A X.env X.xe) (hc : X.calm = true) (hi : PI X t iter (lftI X.K DI wi)) (hg : PG X t (lftG X.K DI g)) (hb : PSs X body (lftS X.K DI b)) (hs : ∀ x, foldedSetIterable iter X.env x = pure x) :
    PS X (.For t iter body [] pos) (lftS X.K DI (wFor wi g b)) :=
  (ps_for hp hc hi hg hb hs).imp fun E σ H q => by
    obtain ⟨F, ρ, S, R, rel, env, w, f⟩ := q
    refine ⟨F, ρ, S, _, rel, env, w, fun ds gd S1 H1 J q1 rel1 k1 it => ?_⟩
    obtain ⟨P, p0, step, done⟩ := q1
    refine ⟨fun i m σ' H' => i + m = ds.length ∧ ∃ ρ' S', Rel X.K DI F S' H' ∧ EnvR X.K H' ρ' σ' ∧ Kp H1 H' ∧ P (ds.drop i) ρ' S', ⟨ds.length, by omega, ρ, S1, rel1, env.mn k1, .refl _, p0⟩, fun i m σ2 H2 h => ?_⟩
    obtain ⟨hm, ρ2, S2, rel2, env2, k2, p2⟩ := h
    by_cases hi : i < ds.length
    · have e0 : ds[i]? = some ds[i] := List.getElem?_eq_getElem hi
      rw [List.drop_eq_getElem_cons hi] at p2
      obtain ⟨g2, st⟩ := step _ _ _ _ p2
      refine .inr ⟨it.go _ i H2 S2 _ e0 rel2 k2 g2, fun σ' H' => ∃ ρ' S', Rel X.K DI F S' H' ∧ EnvR X.K H' ρ' σ' ∧ Kp H1 H' ∧ P (ds.drop (i + 1)) ρ' S', fun σ' H' ⟨ρ', S', a1, a2, a3, a4⟩ => ⟨m - 1, by omega, by omega, ρ', S', a1, a2, a3, a4⟩, fun x H3 y => ?_⟩
      obtain ⟨rel3, k3, den⟩ := it.yld _ i H2 S2 _ x H3 e0 rel2 k2 g2 y
      refine ⟨F, _, ρ2, S2, _, rel3, env2.mn k3, den, st, fun ρ4 S4 σ4 H4 r4 rel4 k4 env4 => ?_⟩
      have kk : Kp H1 H4 := k2.trans (k3.trans k4)
      exact ⟨F, ρ4, S4, _, rel4, env4, r4, ⟨fun ρ' S' σ' H' p' rel' k' env' => ⟨ρ', S', rel', env', kk.trans k', p'⟩, fun d S' v H' r' rel' k' den' => f.rt _ _ _ _ r' rel' (k1.trans (kk.trans k')) den',
        fun ρ' S' σ' H' r' rel' k' env' => f.nx _ _ _ _ r' rel' (k1.trans (kk.trans k')) env', fun ρ' S' σ' H' p' rel' k' env' => ⟨ρ', S', rel', env', kk.trans k', p'⟩⟩⟩
    · have e0 : ds.drop i = [] := List.drop_eq_nil_of_le (by omega)
      rw [e0] at p2
      obtain ⟨g2, st⟩ := done _ _ p2
      exact .inl ⟨it.stop _ i H2 S2 (by omega) rel2 k2 g2, f.nx _ _ _ _ st rel2 (k1.trans k2) env2⟩

/-! ### list comprehensions -/
/-- the names of a comprehension's own are forgotten -/
def wipeD (ρ : Env) : List Nat → Env
  | [] => ρ
  | i :: r => (wipeD ρ r).set i none
theorem EnvR.forget {K : PySem.W.Frag} {H : Hp} {ρ : Env} {σ : L2.St} (e : EnvR K H ρ σ) (i : Nat) : EnvR K H (ρ.set i none) (σ.set i none) := by
  refine ⟨by simp [e.len], fun j x hx => ?_⟩
  by_cases hj : i = j
  · subst hj
    by_cases hl : i < ρ.length
    · rw [List.getElem?_set_self hl] at hx
      cases hx
    · rw [List.getElem?_eq_none (by rw [List.length_set]; omega)] at hx
      cases hx
  · rw [List.getElem?_set_ne hj] at hx ⊢
    exact e.at_ j x hx
theorem EnvR.wipe {K : PySem.W.Frag} {H : Hp} {ρ : Env} {σ : L2.St} (e : EnvR K H ρ σ) : ∀ vs : List Nat, EnvR K H (wipeD ρ vs) (L2.wipe σ vs)
  | [] => e
  | _ :: vs => (e.wipe vs).forget _
theorem wipe_get (σ : L2.St) (j : Nat) : ∀ vs : List Nat, (wipe σ vs)[j]? = if j ∈ vs then (if j < σ.length then some none else none) else σ[j]?
  | [] => by simp [wipe]
  | v :: vs => by
    unfold wipe
    by_cases h : v = j
    · subst h
      by_cases hl : v < σ.length
      · rw [List.getElem?_set_self (by rw [wipe_length]; exact hl)]
        simp [hl]
      · rw [List.getElem?_eq_none (by rw [List.length_set, wipe_length]; omega)]
        simp [hl]
    · rw [List.getElem?_set_ne h, wipe_get σ j vs]
      have : j ≠ v := fun e => h e.symm
      simp [this]
theorem wipe_set {σ : L2.St} {i : Nat} {x : Option V} {vs : List Nat} (h : i ∈ vs) : wipe (σ.set i x) vs = wipe σ vs := by
  apply List.ext_getElem?
  intro j
  rw [wipe_get, wipe_get, List.length_set]
  by_cases hj : j ∈ vs
  · rw [if_pos hj, if_pos hj]
  · rw [if_neg hj, if_neg hj, List.getElem?_set_ne (by rintro rfl; exact hj h)]
theorem wipe_wipe (σ : L2.St) (vs : List Nat) : wipe (wipe σ vs) vs = wipe σ vs := by
  apply List.ext_getElem?
  intro j
  rw [wipe_get, wipe_get, wipe_length]
  by_cases hj : j ∈ vs
  · rw [if_pos hj, if_pos hj]
  · rw [if_neg hj, if_neg hj]
/-- a comprehension's target, both readings: names of its own alone are stored -/
def GOk (K : PySem.W.Frag) (DI : Addr → GH → Prop) (vs : List Nat) (t : TG) (g : WG) : Prop :=
  ∀ (F : Hp) d v ρ S σ0 σ H R (Q : L2.St → Hp → Prop), wipe σ vs = wipe σ0 vs → Rel K DI F S H → EnvR K H ρ σ → Den K H d v → g d ρ S R → (∀ ρ' S' σ', R ρ' S' → Rel K DI F S' H → wipe σ' vs = wipe σ0 vs → EnvR K H ρ' σ' → Q σ' H) → t v σ H Q
def GsOk (K : PySem.W.Frag) (DI : Addr → GH → Prop) (vs : List Nat) (t : TGs) (g : WGs) : Prop :=
  ∀ (F : Hp) ds us ρ S σ0 σ H R (Q : L2.St → Hp → Prop), wipe σ vs = wipe σ0 vs → Rel K DI F S H → EnvR K H ρ σ → DenL K H ds us → g ds ρ S R → (∀ ρ' S' σ', R ρ' S' → Rel K DI F S' H → wipe σ' vs = wipe σ0 vs → EnvR K H ρ' σ' → Q σ' H) → t us σ H Q
theorem gok_name {K : PySem.W.Frag} {DI : Addr → GH → Prop} {vs : List Nat} {i : Nat} (h : i ∈ vs) : GOk K DI vs (gName i) (gN i) := fun F d v ρ S σ0 σ H R Q hw rel env den r f =>
  f _ _ _ r rel (by rw [wipe_set h]; exact hw) (env.set den)
theorem gsok_nil {K : PySem.W.Frag} {DI : Addr → GH → Prop} {vs : List Nat} : GsOk K DI vs gNil gsNil := fun F ds us ρ S σ0 σ H R Q hw rel env den r f => by
  obtain ⟨rfl, r⟩ := r
  cases den
  exact ⟨rfl, f _ _ _ r rel hw env⟩
theorem gsok_cons {K : PySem.W.Frag} {DI : Addr → GH → Prop} {vs : List Nat} {t : TG} {g : WG} {ts : TGs} {gs : WGs} (h1 : GOk K DI vs t g) (h2 : GsOk K DI vs ts gs) : GsOk K DI vs (gCons t ts) (gsCons g gs) := fun F ds us ρ S σ0 σ H R Q hw rel env den r f => by
  cases den with
  | nil => exact r.elim
  | cons d1 d2 =>
    refine ⟨_, _, rfl, h1 F _ _ ρ S σ0 σ H _ _ hw rel env d1 r fun ρ' S' σ' r' rel' hw' env' => ?_⟩
    exact h2 F _ _ ρ' S' σ0 σ' H _ _ hw' rel' env' d2 r' f
theorem gok_tup {K : PySem.W.Frag} {DI : Addr → GH → Prop} {vs : List Nat} {n : Nat} {ts : TGs} {gs : WGs} (h : GsOk K DI vs ts gs) : GOk K DI vs (gTup K n ts) (gT n gs) := fun F d v ρ S σ0 σ H R Q hw rel env den r f => by
  unfold gT at r
  split at r
  · obtain ⟨a, us, rfl, t, dl⟩ := den.tupV
    exact ⟨a, us, rfl, t.sq, by rw [← dl.length]; exact r.1, h F _ _ ρ S σ0 σ H _ _ hw rel env dl r.2 f⟩
  · cases den with
    | pr t dl => exact ⟨_, _, rfl, t, by rw [← dl.length]; exact r.1, h F _ _ ρ S σ0 σ H _ _ hw rel env dl r.2 f⟩
  · exact r.elim

/-- the values made; P: the invariant over the values that are left, and those made so far -/
def wLcB (wi : WI) (g : WG) (tt : WT) (te : W) (vs : List Nat) : Env → GS → (List D → GS → Prop) → Prop := fun ρ S Q => wi ρ S fun ds gd S1 =>
  ∃ P : List D → List D → GS → Prop, P ds [] S1 ∧
  (∀ d r acc S, P (d :: r) acc S → gdOk gd S ∧ g d (wipeD ρ vs) S fun ρ' S' => tt ρ' S' fun b S2 => if b = true then te ρ' S2 fun y S3 => acc.length < sizeLine ∧ P r (acc ++ [y]) S3 else P r acc S2) ∧
  ∀ acc S, P [] acc S → gdOk gd S ∧ Q acc S
theorem lc_of {wi : WI} {t : TG} {g : WG} {tt : WT} {te : W} {vs : List Nat} (hg : GOk X.K DI vs t g) {F H : Hp} {σ : L2.St} {Q : VK} {ρ : Env} {S : GS} {R : List D → GS → Prop} (rel : Rel X.K DI F S H) (env : EnvR X.K H ρ σ)
    (w : wLcB wi g tt te vs ρ S R) (f : ∀ acc S' H' p us, R acc S' → Rel X.K DI (upd F p (.lst us)) S' H' → F p = none → Kp H H' → DenL X.K H' acc us → Q (.ref p) H') :
    tLc (lftI X.K DI wi) t (lftT X.K DI tt) (lft X.K DI te) vs σ H Q := by
  refine ⟨F, ρ, S, _, rel, env, w, fun ds gd S1 H1 J q1 rel1 k1 it => ?_⟩
  obtain ⟨P, p0, step, done⟩ := q1
  intro p hp
  have hF : F p = none := by
    cases q : F p with
    | none => rfl
    | some o => rw [(rel1.frm p o q).1] at hp; cases hp
  have kn : Kp H1 (upd H1 p (.lst [])) := .new hp
  refine ⟨fun i m H' => i + m = ds.length ∧ ∃ S' acc us, Rel X.K DI (upd F p (.lst us)) S' H' ∧ Kp H1 H' ∧ DenL X.K H' acc us ∧ P (ds.drop i) acc S', ⟨ds.length, by omega, S1, [], [], rel1.beside hp, kn, .nil, p0⟩, fun i m H2 h => ?_⟩
  obtain ⟨hm, S2, acc, us, rel2, k2, den2, p2⟩ := h
  have rel2' : Rel X.K DI F S2 H2 := rel2.alone fun a o e => by rw [upd_ne (fun z => by rw [z, hF] at e; cases e)]; exact e
  by_cases hi : i < ds.length
  · have e0 : ds[i]? = some ds[i] := List.getElem?_eq_getElem hi
    rw [List.drop_eq_getElem_cons hi] at p2
    obtain ⟨g2, st⟩ := step _ _ _ _ p2
    refine .inr ⟨it.go _ i H2 S2 _ e0 rel2' k2 g2, fun H' => ∃ S' acc us, Rel X.K DI (upd F p (.lst us)) S' H' ∧ Kp H1 H' ∧ DenL X.K H' acc us ∧ P (ds.drop (i + 1)) acc S', fun H' q => ⟨m - 1, by omega, by omega, q⟩, fun x H3 y => ?_⟩
    obtain ⟨relX, k3, den⟩ := it.yld _ i H2 S2 _ x H3 e0 rel2' k2 g2 y
    obtain ⟨rel3, _, _⟩ := it.yld _ i H2 S2 _ x H3 e0 rel2 k2 g2 y
    have env3 : EnvR X.K H3 (wipeD ρ vs) (wipe σ vs) := (env.mn (k1.trans (k2.trans k3))).wipe vs
    refine hg _ _ _ _ _ σ _ _ _ _ (wipe_wipe σ vs) rel3 env3 den st fun ρ4 S4 σ4 r4 rel4 hw4 env4 => ⟨hw4, ?_⟩
    have k13 : Kp H1 H3 := k2.trans k3
    refine ⟨_, ρ4, S4, _, rel4, env4, r4, fun b S5 H5 r5 rel5 k5 => ?_⟩
    cases b with
    | true =>
      rw [if_pos rfl] at r5 ⊢
      refine ⟨_, ρ4, S5, _, rel5, env4.mn k5, r5, fun yv S6 u6 H6 r6 rel6 k6 d6 => ?_⟩
      have hp6 := (rel6.frm p _ upd_same).1
      have k36 : Kp H2 H6 := k3.trans (k5.trans k6)
      have den6 : DenL X.K H6 acc us := den2.mn k36
      have kn6 : Kp H6 (upd H6 p (.lst (us ++ [u6]))) := .lst hp6
      refine ⟨us, hp6, by rw [← den6.length]; exact r6.1, S6, acc ++ [yv], us ++ [u6], ?_, k2.trans (k36.trans kn6), (den6.append (.one d6)).mn kn6, r6.2⟩
      have z := rel6.turn upd_same kn6
      rw [upd_upd] at z
      exact z
    | false =>
      rw [if_neg (by decide)] at r5 ⊢
      exact ⟨S5, acc, us, rel5, k13.trans k5, den2.mn (k3.trans k5), r5⟩
  · have e0 : ds.drop i = [] := List.drop_eq_nil_of_le (by omega)
    rw [e0] at p2
    obtain ⟨g2, st⟩ := done _ _ p2
    exact .inl ⟨it.stop _ i H2 S2 (by omega) rel2' k2 g2, f _ _ _ _ _ st rel2 hF (k1.trans k2) den2⟩
end
end Dv

/-! Dv6: comprehensions as values and statements, freezing, defs and their calls, by data. -/
namespace Dv
open PySem PySem.Spec L2
open PyProof.Rows hiding St

section
variable {X : Cx} {DI : Addr → GH → Prop}
/-! ### locking behind a statement -/
def LS (P : L2.St → Hp → Prop) : L2.St → Hp → Prop := fun σ H => P σ H ∨ ∃ p u, H p = some u ∧ Mut (some u) ∧ ∀ od, P σ (upd H p (.frz od u))
theorem psLS {st : Stmt} {t : TS} (h : PS X st t) : PS X st (fun E σ H => t { E with nx := LS E.nx } σ H) := ⟨fun pins s σ H E I q => thn (h.run pins s σ H _ I q) fun f s1 q1 => by
  cases f with
  | next =>
    obtain ⟨σ1, H1, I1, q1⟩ := q1
    rcases q1 with q1 | ⟨p, u, hp, mu, q1⟩
    · exact ⟨σ1, H1, I1, q1⟩
    · obtain ⟨od, I2⟩ := I1.lock hp mu
      exact ⟨σ1, _, I2, q1 od⟩
  | brk => exact q1
  | cont => exact q1
  | ret u => exact q1⟩

def wLc (wi : WI) (g : WG) (tt : WT) (te : W) (vs : List Nat) : W := fun ρ S Q => wLcB wi g tt te vs ρ S fun acc S' => Q (.lst acc) S'
def wLcN (wi : WI) (g : WG) (tt : WT) (te : W) (vs : List Nat) : W := fun ρ S Q => wLcB wi g tt te vs ρ S fun acc S' => ∀ p, S'.g p = none → Q (.ref p) (S'.set p (.lst acc))
section
variable {K : PySem.W.Frag} {F H : Hp} {S : GS} {p : Addr} {us : List V}
theorem Rel.lockB (r : Rel K DI (upd F p (.lst us)) S H) (hF : F p = none) (od : Obj) : Rel K DI F S (upd H p (.frz od (.lst us))) := by
  have hp := (r.frm p _ upd_same).1
  have k : Kp H (upd H p (.frz od (.lst us))) := .lst hp
  refine (r.turn upd_same k).alone fun a o e => ?_
  have ha : a ≠ p := fun z => by rw [z, hF] at e; cases e
  rw [upd_ne ha, upd_ne ha]
  exact e
theorem Rel.ownB {acc : List D} (r : Rel K DI (upd F p (.lst us)) S H) (hF : F p = none) (d : DenL K H acc us) : Rel K DI F (S.set p (.lst acc)) H := by
  have hp := r.frm p _ upd_same
  refine ⟨fun a m e => ?_, fun dk e => ?_, fun a o e => ?_⟩
  · by_cases ha : a = p
    · subst ha
      rw [GS.set_same] at e
      cases e
      exact ⟨us, hp.1, d⟩
    · rw [GS.set_ne ha] at e
      exact r.rep a m e
  · obtain ⟨G, h1, h2, h3, h4⟩ := r.hid dk e
    refine ⟨G, h1, h2, fun a m q => ?_, fun a o q => ?_⟩
    · by_cases ha : a = p
      · rw [ha]; exact h4 p _ upd_same
      · rw [GS.set_ne ha] at q
        exact h3 a m q
    · have ha : a ≠ p := fun z => by rw [z, hF] at q; cases q
      exact h4 a o (by rw [upd_ne ha]; exact q)
  · have ha : a ≠ p := fun z => by rw [z, hF] at e; cases e
    obtain ⟨h1, h2⟩ := r.frm a o (by rw [upd_ne ha]; exact e)
    exact ⟨h1, by rw [GS.set_ne ha]; exact h2⟩
end
/-- a list comprehension: what is asked of its text -/
structure LcTxt (X : Cx) (tg iter elt : Expr) (ifs : List Expr) (scope : Scope) (own : List (Str × Nat)) (DI : Addr → GH → Prop) (wi : WI) (t : TG) (g : WG) (tt : WT) (te : W) : Prop where
  hc : X.calm = true
  hN : X.N.Nodup
  hi : PI X tg iter (lftI X.K DI wi)
  ok : BlkOk X.N X.env.scope scope own
  hg : ∀ (s : Shared) (H : Hp) (C : Addr) (cl : List (Str × Addr)) (fp : List Addr), PG (X.blk s H scope (compEnvC scope cl C X.env) fp) tg t
  gok : GOk X.K DI (own.map (·.2)) t g
  ht : ∀ (s : Shared) (H : Hp) (C : Addr) (cl : List (Str × Addr)) (fp : List Addr), PTs (X.blk s H scope (compEnvC scope cl C X.env) fp) ifs (lftT X.K DI tt)
  he : ∀ (s : Shared) (H : Hp) (C : Addr) (cl : List (Str × Addr)) (fp : List Addr), PE (X.blk s H scope (compEnvC scope cl C X.env) fp) elt (lft X.K DI te)
  hs : ∀ x, foldedSetIterable iter X.env x = pure x
variable {tg iter elt : Expr} {ifs : List Expr} {scope : Scope} {own : List (Str × Nat)} {wi : WI} {t : TG} {g : WG} {tt : WT} {te : W}
theorem de_lc {pos : Pos} (L : LcTxt X tg iter elt ifs scope own DI wi t g tt te) : PE X (.ListComp elt [⟨tg, iter, ifs, 0⟩] scope pos) (lft X.K DI (wLc wi g tt te (own.map (·.2)))) :=
  (peLQ (pe_lc L.hc L.hN L.hi L.ok L.hg L.ht L.he L.hs)).imp fun σ H Q q => by
    obtain ⟨F, ρ, S, R, rel, env, w, f⟩ := q
    refine lc_of L.gok rel env w fun acc S' H' p us r rel' hF k den => ?_
    refine .inr ⟨p, .lst us, (rel'.frm p _ upd_same).1, trivial, fun od => ?_⟩
    have kk : Kp H' (upd H' p (.frz od (.lst us))) := .lst (rel'.frm p _ upd_same).1
    exact f _ _ _ _ r (rel'.lockB hF od) (k.trans kk) (.lst upd_same (den.mn kk))
theorem de_lcN {pos : Pos} (L : LcTxt X tg iter elt ifs scope own DI wi t g tt te) : PE X (.ListComp elt [⟨tg, iter, ifs, 0⟩] scope pos) (lft X.K DI (wLcN wi g tt te (own.map (·.2)))) :=
  (pe_lc L.hc L.hN L.hi L.ok L.hg L.ht L.he L.hs).imp fun σ H Q q => by
    obtain ⟨F, ρ, S, R, rel, env, w, f⟩ := q
    refine lc_of L.gok rel env w fun acc S' H' p us r rel' hF k den => ?_
    exact f _ _ _ _ (r p (rel'.frm p _ upd_same).2) (rel'.ownB hF den) k (.ref p)
theorem ds_setLc {i : Nat} {y : Str} {py pos spos : Pos} (hy : X.N[i]? = some y) (hyl : X.env.scope.names.lookup y = some .local)
    (hsw : swapsWith (.ListComp elt [⟨tg, iter, ifs, 0⟩] scope pos) (some (.Name y py)) spos.line X.env = pure true) (L : LcTxt X tg iter elt ifs scope own DI wi t g tt te) :
    PS X (.Assign [.Name y py] (.ListComp elt [⟨tg, iter, ifs, 0⟩] scope pos) spos) (lftS X.K DI (wAsg (wLc wi g tt te (own.map (·.2))) (gN i))) :=
  (psLS (ps_setLc L.hc L.hN hy hyl hsw L.hi L.ok L.hg L.ht L.he L.hs)).imp fun E σ H q => by
    obtain ⟨F, ρ, S, R, rel, env, w, f⟩ := q
    refine lc_of L.gok rel env w fun acc S' H' p us r rel' hF k den => ?_
    refine .inr ⟨p, .lst us, (rel'.frm p _ upd_same).1, trivial, fun od => ?_⟩
    have kk : Kp H' (upd H' p (.frz od (.lst us))) := .lst (rel'.frm p _ upd_same).1
    exact f.nx _ _ _ _ r (rel'.lockB hF od) (k.trans kk) ((env.mn (k.trans kk)).set (.lst upd_same (den.mn kk)))
theorem ds_setLcN {i : Nat} {y : Str} {py pos spos : Pos} (hy : X.N[i]? = some y) (hyl : X.env.scope.names.lookup y = some .local)
    (hsw : swapsWith (.ListComp elt [⟨tg, iter, ifs, 0⟩] scope pos) (some (.Name y py)) spos.line X.env = pure true) (L : LcTxt X tg iter elt ifs scope own DI wi t g tt te) :
    PS X (.Assign [.Name y py] (.ListComp elt [⟨tg, iter, ifs, 0⟩] scope pos) spos) (lftS X.K DI (wAsg (wLcN wi g tt te (own.map (·.2))) (gN i))) :=
  (ps_setLc L.hc L.hN hy hyl hsw L.hi L.ok L.hg L.ht L.he L.hs).imp fun E σ H q => by
    obtain ⟨F, ρ, S, R, rel, env, w, f⟩ := q
    refine lc_of L.gok rel env w fun acc S' H' p us r rel' hF k den => ?_
    exact f.nx _ _ _ _ (r p (rel'.frm p _ upd_same).2) (rel'.ownB hF den) k ((env.mn k).set (.ref p))
def wYes : WT := fun _ S Q => Q true S
theorem dts_nil : PTs X [] (lftT X.K DI wYes) := ⟨fun pins s σ H Q I q => by
  obtain ⟨F, ρ, S, R, rel, env, w, f⟩ := q
  exact pts_nil.run pins s σ H Q I (f _ _ _ w rel (.refl H))⟩
theorem dts_one {c : Expr} {w : WT} (h : PT X c (lftT X.K DI w)) : PTs X [c] (lftT X.K DI w) := pts_one h

/-! ### a thing told by what it holds from here on -/
def wFrz (i : Nat) (b : WS) : WS := fun R ρ S => match ρ[i]? with
  | some (some (.ref p)) => match S.g p with
    | some (.lst ds) => b R (ρ.set i (some (.lst ds))) (S.del p)
    | some (.dct kvs) => b R (ρ.set i (some (.dct kvs))) (S.del p)
    | _ => b R ρ S
  | _ => b R ρ S
theorem setSelf {α : Type} {l : List α} {i : Nat} {x : α} (h : l[i]? = some x) : l.set i x = l := by
  apply List.ext_getElem?
  intro j
  by_cases hj : i = j
  · subst hj
    rw [List.getElem?_set_self (List.getElem?_eq_some_iff.mp h).1, h]
  · rw [List.getElem?_set_ne hj]
theorem Rel.drop {K : PySem.W.Frag} {F H : Hp} {S : GS} (r : Rel K DI F S H) (p : Addr) : Rel K DI F (S.del p) H := r.less (fun a m e => by
  by_cases ha : a = p
  · subst ha
    rw [show (S.del a).g a = none from if_pos rfl] at e
    cases e
  · rw [show (S.del p).g a = S.g a from if_neg ha] at e
    exact e) rfl
theorem Rel.frz {K : PySem.W.Frag} {F H : Hp} {S : GS} {p : Addr} {m : MO} {u : HO} {od : Obj} (r : Rel K DI F S H) (hm : S.g p = some m) (hp : H p = some u) (mu : Mut (some u)) : Rel K DI F (S.del p) (upd H p (.frz od u)) := by
  have k : Kp H (upd H p (.frz od u)) := .frz hp mu
  have r' := r.drop p
  have gp : (S.del p).g p = none := if_pos rfl
  refine ⟨fun a m' e => (r'.rep a m' e).mono k (upd_ne (fun z => by rw [z, gp] at e; cases e)), fun dk e => ?_, fun a o e => ?_⟩
  · obtain ⟨G, h1, h2, h3, h4⟩ := r.hid dk e
    have hg := h3 p m hm
    obtain ⟨G', h1', h2', h3', h4'⟩ := r'.hid dk e
    refine ⟨G, h1, fun a m' q => (h2 a m' q).mono k (upd_ne (fun z => by rw [z, hg] at q; cases q)), fun a m' q => ?_, h4⟩
    by_cases ha : a = p
    · rw [ha]; exact hg
    · rw [show (S.del p).g a = S.g a from if_neg ha] at q
      exact h3 a m' q
  · obtain ⟨h1, h2⟩ := r'.frm a o e
    have ha : a ≠ p := fun z => by
      have q := (r.frm a o e).2
      rw [z, hm] at q
      cases q
    exact ⟨by rw [upd_ne ha]; exact h1, h2⟩
theorem ds_frz {i : Nat} {st : Stmt} {b : WS} (h : PS X st (lftS X.K DI b)) : PS X st (lftS X.K DI (wFrz i b)) := ⟨fun pins s σ H E I q => by
  obtain ⟨F, ρ, S, R, rel, env, w, f⟩ := q
  unfold wFrz at w
  split at w
  · rename_i p e
    obtain ⟨v, e1, den⟩ := env.at_ i _ e
    cases den
    split at w
    · rename_i ds e2
      obtain ⟨vs, e3, d3⟩ := rel.rep _ _ e2
      obtain ⟨od, I2⟩ := I.lock e3 trivial
      have k : Kp H (upd H p (.frz od (.lst vs))) := .lst e3
      refine h.run pins s σ _ E I2 ⟨F, _, _, R, rel.frz e2 e3 trivial, ?_, w, f.up k⟩
      have z := (env.mn k).set (i := i) (v := .ref p) (.lst upd_same (d3.mn k))
      rw [setSelf e1] at z
      exact z
    · rename_i ds e2
      obtain ⟨vs, e3, d3⟩ := rel.rep _ _ e2
      obtain ⟨od, I2⟩ := I.lock e3 trivial
      have k : Kp H (upd H p (.frz od (.dK vs))) := .dct e3
      refine h.run pins s σ _ E I2 ⟨F, _, _, R, rel.frz e2 e3 trivial, ?_, w, f.up k⟩
      have z := (env.mn k).set (i := i) (v := .ref p) (.dct upd_same (d3.mn k))
      rw [setSelf e1] at z
      exact z
    · exact h.run pins s σ H E I ⟨F, ρ, S, R, rel, env, w, f⟩
  · exact h.run pins s σ H E I ⟨F, ρ, S, R, rel, env, w, f⟩⟩
end
end Dv

/-! Dv7: defs with what runs around them told (no repr under way), their calls, their bodies, the law's end. -/
namespace Dv
open PySem PySem.Spec L2
open PyProof.Rows hiding St

/-- a def keeps its promise wherever no repr is under way -/
structure FnG (P : Program) (w : World) (K : PySem.W.Frag) (mg : Str → Option Value) (base : Heap) (k : Nat) (f : Addr) (fd : FuncData) (ps : List Str) (sp : Sp) : Prop where
  len : ∀ vs H Q E, sp vs H Q E → vs.length = ps.length
  run : ∀ (A : Around) (outer : List PySem.Env) (s : Shared) (H : Hp) (args : Args) (us : List Value) (vs : List V) (Q : VK) (E : XK), Room k A → A.guards = some [] → Env0 P w K mg base A outer s H → BindsTo s fd args (ps.zip us) →
    Vals vs us → sp vs H Q E → codeAny (model P w) A (.call (.ref f) args) (CR CX0 outer P w H s Q E) s
theorem FnG.mono {P : Program} {w : World} {K : PySem.W.Frag} {mg : Str → Option Value} {base : Heap} {j k : Nat} {f : Addr} {fd : FuncData} {ps : List Str} {sp : Sp} (F : FnG P w K mg base j f fd ps sp) (h : j ≤ k) : FnG P w K mg base k f fd ps sp :=
  ⟨F.len, fun A outer s H args us vs Q E hr => F.run A outer s H args us vs Q E (hr.mono h)⟩

/-- a def that may be called: its name, how many parameters, what it promises; shapes of calls by keywords: how many by place, the keywords, the order -/
structure Fn where
  name : Str
  n : Nat
  sp : WF
  kws : List (Nat × List Str × List Nat) := []
def spOf (K : PySem.W.Frag) (DI : Addr → GH → Prop) (n : Nat) (sp : WF) : Sp := fun vs H Q _ => vs.length = n ∧ lftF K DI sp vs H Q
def pick {α : Type} (l : List α) (is : List Nat) : List α := is.filterMap fun i => l[i]?
def KwB (K : PySem.W.Frag) (fd : FuncData) (ps : List Str) (sh : Nat × List Str × List Nat) : Prop :=
  ∀ (s : Shared) (us ws : List Value), K.In s.heap → us.length = sh.1 → ws.length = sh.2.1.length → BindsTo s fd ⟨us, sh.2.1.zip ws⟩ (ps.zip (pick (us ++ ws) sh.2.2))
structure FnIn (P : Program) (w : World) (K : PySem.W.Frag) (mg : Str → Option Value) (base : Heap) (DI : Addr → GH → Prop) (k : Nat) (e : Fn) : Prop where
  ex : ∃ (f : Addr) (fd : FuncData) (ps : List Str), mg e.name = some (.ref f) ∧ PySem.W.keepIn K (.ref f) = true ∧ Binds K fd ps [] ∧ (∀ sh ∈ e.kws, KwB K fd ps sh) ∧ FnG P w K mg base k f fd ps (spOf K DI e.n e.sp)
theorem FnIn.mono {P : Program} {w : World} {K : PySem.W.Frag} {mg : Str → Option Value} {base : Heap} {DI : Addr → GH → Prop} {j k : Nat} {e : Fn} (F : FnIn P w K mg base DI j e) (h : j ≤ k) : FnIn P w K mg base DI k e := by
  obtain ⟨f, fd, ps, a1, a2, a3, a4, a5⟩ := F.ex
  exact ⟨f, fd, ps, a1, a2, a3, a4, a5.mono h⟩

/-- f(..) -/
def wCall (f : WF) (a : WA) : W := fun ρ S Q => a ρ S fun ds S' => f ds S' Q
section
variable {X : Cx} {DI : Addr → GH → Prop}
theorem run_fnG {k : Nat} {f : Addr} {fd : FuncData} {ps : List Str} {sp : Sp} {pins : List (Addr × Obj)} {σ : L2.St} {H : Hp} {s : Shared} {Q : VK} {args : Args} {us : List Value} {vs : List V} (F : FnG X.prog X.w X.K X.mg X.base k f fd ps sp) (hr : Room k X.A) (hg : X.A.guards = some [])
    (I : Inv X pins σ H s) (hb : BindsTo s fd args (ps.zip us)) (r : Vals vs us) (h : sp vs H Q E0) : codeAny (model X.prog X.w) X.A (.call (.ref f) args) (fun r s' => match r with
      | .ok (.ret u) => EP X pins σ Q u s'
      | _ => False) s := by
  refine codeAny_mono (F.run X.A X.stack s H args us vs Q E0 hr hg I.env0 hb r h) fun r s' hq => ?_
  cases r with
  | error e => exact hq
  | ok fl =>
    cases fl with
    | ret u => exact I.after hq
    | _ => exact hq
theorem callOf {f : Addr} {args : List Value} {kw : List (Str × Value)} {s : Shared} {Q : Value → Shared → Prop} {A : Around} {P : Program} {w : World} {E : Value → Shared → Prop} (h : codeAny (model P w) A (.call (.ref f) ⟨args, kw⟩) (fun r s' => match r with
      | .ok (.ret u) => Q u s'
      | _ => False) s) : wpAny (model P w) A (call (.ref f) args kw) Q E s := wpAny_call (codeAny_mono h fun r s' q => by
  cases r with
  | error e => exact q.elim
  | ok fl =>
    cases fl with
    | ret u => exact q
    | _ => exact q.elim)
theorem wCall_of {n : Nat} {fs : WF} {wa : WA} {es : List Expr} {σ : L2.St} {H : Hp} {Q : VK} (hn : es.length = n) (hl : ∀ ρ S Q, wa ρ S Q → True) (h : lft X.K DI (wCall fs wa) σ H Q) :
    lftA X.K DI wa σ H fun vs H1 => lftF X.K DI fs vs H1 Q := by
  obtain ⟨F, ρ, S, R, rel, env, w, f⟩ := h
  refine ⟨F, ρ, S, _, rel, env, w, fun ds S1 vs H1 q1 rel1 k1 d1 => ⟨F, ds, S1, R, rel1, d1, q1, f.up k1⟩⟩
/-- an argument list tells as many values as it has expressions -/
structure PAn (X : Cx) (es : List Expr) (t : TA) : Prop where
  pa : PA X es t
  len : ∀ (pos : Pos) (pins : List (Addr × Obj)) (s : Shared) (σ : L2.St) (H : Hp) (Q : List V → Hp → Prop), Inv X pins σ H s → t σ H Q →
    wpAny (model X.prog X.w) X.A (spliced (backTo pos (starEach es X.env))) (AP X pins σ fun vs H' => vs.length = es.length ∧ Q vs H') X.xe s
theorem pan_nil : PAn X [] (lftA X.K DI wNil) := ⟨da_nil, fun pos pins s σ H Q I h => by
  obtain ⟨F, ρ, S, R, rel, env, w, f⟩ := h
  exact Calls.spliced_nil ⟨[], H, I, .nil, rfl, f _ _ _ _ w rel (.refl H) .nil⟩⟩
theorem pan_cons {e : Expr} {es : List Expr} {a : W} {r : WA} (ha : PE X e (lft X.K DI a)) (hr : PAn X es (lftA X.K DI r)) (hs : starEach (e :: es) X.env = (false, eval e X.env) :: starEach es X.env) : PAn X (e :: es) (lftA X.K DI (wCons a r)) := ⟨da_cons ha hr.pa hs, fun pos pins s σ H Q I q => by
  obtain ⟨F, ρ, S, R, rel, env, w, f⟩ := q
  rw [hs]
  show wpAny _ _ (spliced ((false, eval e X.env) :: backTo pos (starEach es X.env))) _ _ s
  have h1 := ha.run pins s σ H (fun x H1 => lftA X.K DI r σ H1 fun vs H2 => Q (x :: vs) H2) I ⟨F, ρ, S, _, rel, env, w, fun x S1 v H1 q1 rel1 k1 d1 => ⟨F, ρ, S1, _, rel1, env.mn k1, q1, fun xs S2 vs H2 q2 rel2 k2 d2 => f _ _ _ _ q2 rel2 (k1.trans k2) (.cons (d1.mn k2) d2)⟩⟩
  refine Calls.spliced_cons (thn h1 fun u s1 ⟨x, H1, I1, r1, q1⟩ => ?_)
  exact thn (hr.len pos pins s1 σ H1 _ I1 q1) fun us s2 ⟨xs, H2, I2, r2, l2, q2⟩ => ⟨x :: xs, H2, I2, .cons r1 r2, by rw [List.length_cons, List.length_cons, l2], q2⟩⟩
section
variable {e0 : Fn} {k : Nat} {x : Str} {p pos : Pos} {e : Expr} {es : List Expr} {wa : WA}
theorem de_call (G : FnIn X.prog X.w X.K X.mg X.base DI k e0) (hr : Room k X.A) (hgu : X.A.guards = some []) (hg : Gl X e0.name) (ha : PAn X (e :: es) (lftA X.K DI wa)) (hn : es.length + 1 = e0.n) (hdb : (e0.name == ("__debug__" : Str)) = false)
    (he : starEach (e :: es) X.env = (false, eval e X.env) :: starEach es X.env) (hpl : (backTo pos (starEach es X.env)).any (·.1) = false) : PE X (.Call (.Name e0.name p) (e :: es) [] pos) (lft X.K DI (wCall e0.sp wa)) := by
  obtain ⟨f, fd, ps, hm, hk, hb, _, F⟩ := G.ex
  refine ⟨fun pins s σ H Q I h => ?_⟩
  obtain ⟨F0, ρ, S, R, rel, env, w, fin⟩ := h
  refine wpAny_Call_Name_kw (ld_glob I hg hm ?_ hdb)
  have h1 := ha.len pos pins s σ H (fun vs H1 => lftF X.K DI e0.sp vs H1 Q) I ⟨F0, ρ, S, _, rel, env, w, fun ds S1 vs H1 q1 rel1 k1 d1 => ⟨F0, ds, S1, R, rel1, d1, q1, fin.up k1⟩⟩
  refine PySem.W.callWith_K (h₀ := X.base) I.ok.mod.kin hk (thn h1 fun us s1 ⟨vs, H1, I1, r, l, q⟩ => ⟨I1.kIn, ?_⟩) he hpl
  have hsp : spOf X.K DI e0.n e0.sp vs H1 Q E0 := ⟨by rw [l, List.length_cons]; exact hn, q⟩
  have hl := F.len _ _ _ _ hsp
  have hlu : us.length = ps.length := by rw [← r.length]; exact hl
  have bb := hb s1 us I1.kIn (by simpa using hlu)
  rw [List.append_nil] at bb
  exact callOf (run_fnG F hr hgu I1 bb r hsp)
theorem de_call0 (G : FnIn X.prog X.w X.K X.mg X.base DI k e0) (hr : Room k X.A) (hgu : X.A.guards = some []) (hg : Gl X e0.name) (hn : 0 = e0.n) (hdb : (e0.name == ("__debug__" : Str)) = false) : PE X (.Call (.Name e0.name p) [] [] pos) (lft X.K DI (wCall e0.sp wNil)) := by
  obtain ⟨f, fd, ps, hm, hk, hb, _, F⟩ := G.ex
  refine ⟨fun pins s σ H Q I h => ?_⟩
  obtain ⟨F0, ρ, S, R, rel, env, w, fin⟩ := h
  refine wpAny_Call_Name_kw (ld_glob I hg hm ?_ hdb)
  have hsp : spOf X.K DI e0.n e0.sp [] H Q E0 := ⟨hn, F0, [], S, R, rel, .nil, w, fin⟩
  have hl := F.len _ _ _ _ hsp
  have bb := hb s [] I.kIn (by simpa using hl)
  exact PySem.W.callWith_K0 I.kIn hk (callOf (run_fnG F hr hgu I bb .nil hsp))
theorem Vals.pick : ∀ {vs : List V} {us : List Value} (is : List Nat), Vals vs us → Vals (Dv.pick vs is) (Dv.pick us is)
  | _, _, [], _ => .nil
  | vs, us, i :: is, h => by
    unfold Dv.pick
    rw [List.filterMap_cons, List.filterMap_cons]
    cases q : vs[i]? with
    | none =>
      rw [h.none_of q]
      exact Vals.pick is h
    | some v =>
      obtain ⟨u, e, r⟩ := h.get q
      rw [e]
      exact .cons r (Vals.pick is h)
theorem DenL.pick {K : PySem.W.Frag} {H : Hp} : ∀ {ds : List D} {vs : List V} (is : List Nat), DenL K H ds vs → DenL K H (Dv.pick ds is) (Dv.pick vs is)
  | _, _, [], _ => .nil
  | ds, vs, i :: is, h => by
    unfold Dv.pick
    rw [List.filterMap_cons, List.filterMap_cons]
    cases q : ds[i]? with
    | none =>
      rw [show vs[i]? = none from List.getElem?_eq_none_iff.mpr (h.none_of (List.getElem?_eq_none_iff.mp q))]
      exact DenL.pick is h
    | some v =>
      obtain ⟨u, e, r⟩ := h.get q
      rw [e]
      exact .cons r (DenL.pick is h)
/-- keywords alone: the values by the keywords' order, put in the parameters' order -/
def wCallK (f : WF) (is : List Nat) (a : WA) : W := fun ρ S Q => a ρ S fun ds S' => f (pick ds is) S' Q
structure PKn (X : Cx) (kws : List Keyword) (t : TA) : Prop where
  run : ∀ (pos : Pos) (pins : List (Addr × Obj)) (s : Shared) (σ : L2.St) (H : Hp) (Q : List V → Hp → Prop), Inv X pins σ H s → t σ H Q →
    wpAny (model X.prog X.w) X.A (evalAll ((backToKw pos (keywordEach kws X.env)).map (·.2))) (AP X pins σ fun vs H' => vs.length = kws.length ∧ Q vs H') X.xe s
theorem pkn_nil : PKn X [] (lftA X.K DI wNil) := ⟨fun pos pins s σ H Q I h => by
  obtain ⟨F, ρ, S, R, rel, env, w, f⟩ := h
  exact wpAny_evalAll_nil ⟨[], H, I, .nil, rfl, f _ _ _ _ w rel (.refl H) .nil⟩⟩
theorem pkn_cons {nm : Option Str} {kpos : Pos} {kws : List Keyword} {a : W} {r : WA} (ha : PE X e (lft X.K DI a)) (hr : PKn X kws (lftA X.K DI r)) : PKn X (⟨nm, e, kpos⟩ :: kws) (lftA X.K DI (wCons a r)) := ⟨fun pos pins s σ H Q I q => by
  obtain ⟨F, ρ, S, R, rel, env, w, f⟩ := q
  have h1 := ha.run pins s σ H (fun x H1 => lftA X.K DI r σ H1 fun vs H2 => Q (x :: vs) H2) I ⟨F, ρ, S, _, rel, env, w, fun x S1 v H1 q1 rel1 k1 d1 => ⟨F, ρ, S1, _, rel1, env.mn k1, q1, fun xs S2 vs H2 q2 rel2 k2 d2 => f _ _ _ _ q2 rel2 (k1.trans k2) (.cons (d1.mn k2) d2)⟩⟩
  show wpAny _ _ (evalAll ((do let v ← eval e X.env; standAt pos; pure v) :: (backToKw pos (keywordEach kws X.env)).map (·.2))) _ _ s
  refine wpAny_evalAll_cons (wpAny_bind (thn h1 fun u s1 ⟨x, H1, I1, r1, q1⟩ => wpAny_bind (wpAny_standAt (wpAny_pure ?_))))
  exact thn (hr.run pos pins s1 σ H1 _ I1 q1) fun us s2 ⟨xs, H2, I2, r2, l2, q2⟩ => ⟨x :: xs, H2, I2, .cons r1 r2, by rw [List.length_cons, List.length_cons, l2], q2⟩⟩
theorem de_callK {kws : List Keyword} {ks : List Str} {is : List Nat} (G : FnIn X.prog X.w X.K X.mg X.base DI k e0) (hsh : (0, ks, is) ∈ e0.kws) (hr : Room k X.A) (hgu : X.A.guards = some []) (hg : Gl X e0.name) (ha : PKn X kws (lftA X.K DI wa)) (hn : (pick (List.range kws.length) is).length = e0.n) (hdb : (e0.name == ("__debug__" : Str)) = false)
    (hall : (backToKw pos (keywordEach kws X.env)).all (·.1.isSome) = true) (hks : (backToKw pos (keywordEach kws X.env)).filterMap (·.1) = ks) (hkl : ks.length = kws.length)
    (hpl : ((backTo pos (starEach [] X.env)).any (·.1) || (backToKw pos (keywordEach kws X.env)).any (·.1.isNone)) = false) : PE X (.Call (.Name e0.name p) [] kws pos) (lft X.K DI (wCallK e0.sp is wa)) := by
  obtain ⟨f, fd, ps, hm, hk, _, hkw, F⟩ := G.ex
  have hb := hkw _ hsh
  refine ⟨fun pins s σ H Q I h => ?_⟩
  obtain ⟨F0, ρ, S, R, rel, env, w, fin⟩ := h
  refine wpAny_Call_Name_kw (ld_glob I hg hm ?_ hdb)
  have h1 := ha.run pos pins s σ H (fun vs H1 => lftF X.K DI e0.sp (pick vs is) H1 Q) I ⟨F0, ρ, S, _, rel, env, w, fun ds S1 vs H1 q1 rel1 k1 d1 => ⟨F0, _, S1, R, rel1, d1.pick is, q1, fin.up k1⟩⟩
  refine PySem.W.callWith_KW0 (h₀ := X.base) I.ok.mod.kin hk hall (thn h1 fun ws s1 ⟨vs, H1, I1, r, l, q⟩ => ⟨I1.kIn, ?_⟩) hpl
  rw [hks]
  have pl : ∀ {α β : Type} (l1 : List α) (l2 : List β) (is : List Nat), l1.length = l2.length → (pick l1 is).length = (pick l2 is).length := fun {α β} l1 l2 is h => by
    induction is with
    | nil => rfl
    | cons i is ih =>
      unfold pick at ih ⊢
      rw [List.filterMap_cons, List.filterMap_cons]
      by_cases hi : i < l1.length
      · rw [List.getElem?_eq_getElem hi, List.getElem?_eq_getElem (h ▸ hi)]
        simp only [List.length_cons, ih]
      · rw [List.getElem?_eq_none (by omega), List.getElem?_eq_none (by omega)]
        exact ih
  have hsp : spOf X.K DI e0.n e0.sp (pick vs is) H1 Q E0 := ⟨by rw [pl vs (List.range kws.length) is (by simpa using l)]; exact hn, q⟩
  have bb := hb s1 [] ws I1.kIn rfl (by show ws.length = ks.length; rw [hkl, ← r.length]; exact l)
  rw [List.nil_append] at bb
  exact callOf (run_fnG F hr hgu I1 bb (Vals.pick is r) hsp)
end

/-! ### a def by its body -/
def startD (N : List Str) (ds : List D) : Env := ds.map some ++ List.replicate (N.length - ds.length) none
theorem EnvR.start {K : PySem.W.Frag} {H : Hp} {N : List Str} {ds : List D} {vs : List V} (h : DenL K H ds vs) : EnvR K H (startD N ds) (L2.start N vs) := by
  have hl := h.length
  refine ⟨by simp [startD, L2.start, hl], fun i d e => ?_⟩
  unfold startD at e
  by_cases hi : i < ds.length
  · rw [List.getElem?_append_left (by simpa using hi), List.getElem?_map] at e
    cases q : ds[i]? with
    | none => rw [q] at e; cases e
    | some x =>
      rw [q] at e
      cases e
      obtain ⟨v, e1, e2⟩ := h.get q
      refine ⟨v, ?_, e2⟩
      unfold L2.start
      rw [List.getElem?_append_left (by simpa [hl] using hi), List.getElem?_map, e1]
      rfl
  · rw [List.getElem?_append_right (by simpa using hi), List.getElem?_replicate] at e
    split at e <;> cases e
/-- what is wanted where a body ends: what is given back, told as the caller wants it -/
inductive Told (S S' : GS) : D → D → Prop
  | same (d : D) : Told S S' d d
def Less (S' S : GS) : Prop := (∀ a m, S'.g a = some m → S.g a = some m) ∧ S'.o = S.o
theorem fnG_of {P : Program} {w : World} {K : PySem.W.Frag} {mg : Str → Option Value} {base : Heap} {DI : Addr → GH → Prop} {k : Nat} {x qual : Str} {st : Stmt} {f : Addr} {fd : FuncData} {N ps : List Str} {n : Nat} {sp : WF} {b : WS}
    (F : L2.Fun K x qual st f fd) (sc : FnScope N ps (defScope st)) (hn : ps.length = n)
    (hbody : ∀ (X : Cx), X.prog = P → X.w = w → X.K = K → X.mg = mg → X.base = base → X.N = N → X.env.scope = defScope st → X.calm = true → Room k X.A → X.A.guards = some [] → (X.xe = fun _ _ => False) → (X.fn = fun _ => true) → PSs X (defBody st) (lftS K DI b))
    (hsp : ∀ ds S R, ds.length = n → sp ds S R → b ⟨fun _ S' => R .non S', R, fun _ _ => False, fun _ _ => False⟩ (startD N ds) S) :
    FnG P w K mg base (k + 1) f fd ps (spOf K DI n sp) := by
  refine ⟨fun vs H Q E h => by rw [hn]; exact h.1, fun A outer s H args us vs Q E hr hgu e0 hb r hq => ?_⟩
  obtain ⟨oc, od, kV, doc, pm, an, cdv, ct, osl, rfl, lk, hcd⟩ := F.ex
  have hl : vs.length = ps.length := by rw [hn]; exact hq.1
  have KX : K.In s.heap := e0.mod.kin.keeps fun b o e => (e0.bs b o e).1
  have lim : s.heap.NoLimit := e0.mod.nolimit.keeps fun b o e => (e0.bs b o e).1
  refine codeAny_call_function hr.depth (KX _ _ lk) rfl sc.co sc.gen rfl (PySem.W.codeRec_of KX hcd) (hb _ _ _ _ ?_)
  refine wpAny_newFunctionEnv_cells sc.kind (fun y hy => ?_) fun env he s1 x => ?_
  · have hm := (List.of_mem_zip (show (y.1, y.2) ∈ ps.zip us from hy)).1
    rcases sc.par y.1 hm with q | q
    · exact .inl q
    · exact .inr ⟨q, PySem.W.cellsFrom_some _ _ _ (.inl q)⟩
  · subst he
    refine ⟨lim.keeps x.toInCall.keep, codeAny_func ?_⟩
    have I := inv_start (CX := CX0) (E := E) sc hr.hd e0 hl r x
    generalize hX : cxOf CX0 P w K mg base N qual (defScope st) f cdv A outer s H E = X at I
    have I2 : Inv X.nox [] (L2.start N vs) H s1 := I.wish _
    have hb2 := hbody X.nox (by rw [← hX]; rfl) (by rw [← hX]; rfl) (by rw [← hX]; rfl) (by rw [← hX]; rfl) (by rw [← hX]; rfl) (by rw [← hX]; rfl) (by rw [← hX]; rfl) (by rw [← hX]; rfl) (by rw [← hX]; exact hr.deeper _) (by rw [← hX]; exact hgu) rfl (by rw [← hX]; rfl)
    obtain ⟨hlen, F0, ds, S, R, rel, den, q, fin⟩ := hq
    have hds : ds.length = n := by rw [den.length]; exact hlen
    have body := hb2.run [] s1 (L2.start N vs) H { nx := fun _ H' => Q .non H', rt := Q } I2 ⟨F0, startD N ds, S, _, rel, .start den, hsp ds S R hds q,
      ⟨fun ρ S' σ H' r' rel' k' _ => fin _ _ _ _ r' rel' k' .non, fun d S' v H' r' rel' k' den' => fin _ _ _ _ r' rel' k' den', fun _ _ _ _ z => z.elim, fun _ _ _ _ z => z.elim⟩⟩
    have eX : wpAny (model P w) (A.deeper (envOfC qual (defScope st) s.heap.objs.size f cdv)) (execs (defBody st) (envOfC qual (defScope st) s.heap.objs.size f cdv)) (SP X.nox [] { nx := fun _ H' => Q .non H', rt := Q }) (fun _ _ => False) s1 := by
      rw [← hX] at body ⊢
      exact body
    refine wpAny_mono eX (fun fl s' hs => ?_) fun e s' hs => hs.elim
    have fin2 : ∀ {σ' : L2.St} {H' : Hp} {v : V} {u : Value}, Inv X.nox [] σ' H' s' → RelV v u → Q v H' → CE outer P w H s Q u s' := fun {σ' H' v u} J rv q => by
      rw [← hX] at J
      exact ⟨v, H', J.os, J.bare, J.base, J.hok, rv, q⟩
    cases fl with
    | ret u =>
      obtain ⟨v, σ', H', J, rv, q⟩ := hs
      exact fin2 J rv q
    | next =>
      obtain ⟨σ', H', J, q⟩ := hs
      exact fin2 (v := V.non) (u := Value.none) J rfl q
    | brk =>
      obtain ⟨_, _, _, q⟩ := hs
      exact q.elim
    | cont =>
      obtain ⟨_, _, _, q⟩ := hs
      exact q.elim
end
end Dv

/-! Dv8: built-in functions and methods, by data. -/
namespace Dv
open PySem PySem.Spec L2
open PyProof.Rows hiding St

section
variable {X : Cx} {DI : Addr → GH → Prop}
theorem de_callB {id : String} {f : WF} {x : Str} {p pos : Pos} {e : Expr} {es : List Expr} {wa : WA} (hc : CallR X (.builtin id) (lftF X.K DI f)) (hg : Gl X x) (hm : X.mg x = none) (hv : bootBuiltins x = some (.builtin id)) (ha : PA X (e :: es) (lftA X.K DI wa)) (hn : x ≠ "__name__") (hdb : (x == ("__debug__" : Str)) = false)
    (he : starEach (e :: es) X.env = (false, eval e X.env) :: starEach es X.env) (hpl : (backTo pos (starEach es X.env)).any (·.1) = false) : PE X (.Call (.Name x p) (e :: es) [] pos) (lft X.K DI (wCall f wa)) :=
  (pe_callB hc hg hm hv ha hn hdb he hpl).imp fun σ H Q q => by
    obtain ⟨F, ρ, S, R, rel, env, w, fin⟩ := q
    exact ⟨F, ρ, S, _, rel, env, w, fun ds S1 vs H1 q1 rel1 k1 d1 => ⟨F, ds, S1, R, rel1, d1, q1, fin.up k1⟩⟩
theorem de_callT {T : String} {f : WF} {x : Str} {p pos : Pos} {e : Expr} {es : List Expr} {wa : WA} (hc : CallR X (.type T) (lftF X.K DI f)) (hg : Gl X x) (hm : X.mg x = none) (hv : bootBuiltins x = some (.type T)) (ha : PA X (e :: es) (lftA X.K DI wa)) (hn : x ≠ "__name__") (hdb : (x == ("__debug__" : Str)) = false)
    (he : starEach (e :: es) X.env = (false, eval e X.env) :: starEach es X.env) (hpl : (backTo pos (starEach es X.env)).any (·.1) = false) : PE X (.Call (.Name x p) (e :: es) [] pos) (lft X.K DI (wCall f wa)) :=
  (pe_callTy hc hg hm hv ha hn hdb he hpl).imp fun σ H Q q => by
    obtain ⟨F, ρ, S, R, rel, env, w, fin⟩ := q
    exact ⟨F, ρ, S, _, rel, env, w, fun ds S1 vs H1 q1 rel1 k1 d1 => ⟨F, ds, S1, R, rel1, d1, q1, fin.up k1⟩⟩

/-- one argument -/
def f1 (g : D → GS → (D → GS → Prop) → Prop) : WF := fun ds S Q => match ds with
  | [d] => g d S Q
  | _ => False
def f2 (g : D → D → GS → (D → GS → Prop) → Prop) : WF := fun ds S Q => match ds with
  | [d, e] => g d e S Q
  | _ => False
theorem f1_ok {f : Value} {g : D → GS → (D → GS → Prop) → Prop} {r : List V → Hp → VK → Prop} (h : CallR X f r) (i : ∀ F d v S R H Q, Rel X.K DI F S H → Den X.K H d v → g d S R → Fin X.K DI F H R Q → r [v] H Q) : CallR X f (lftF X.K DI (f1 g)) := h.imp fun xs H Q q => by
  obtain ⟨F, ds, S, R, rel, den, w, fin⟩ := q
  unfold f1 at w
  split at w
  · obtain ⟨v, rfl, dv⟩ := den.oneV
    exact i F _ v S R H Q rel dv w fin
  · exact w.elim
theorem f2_ok {f : Value} {g : D → D → GS → (D → GS → Prop) → Prop} {r : List V → Hp → VK → Prop} (h : CallR X f r) (i : ∀ F d e v u S R H Q, Rel X.K DI F S H → Den X.K H d v → Den X.K H e u → g d e S R → Fin X.K DI F H R Q → r [v, u] H Q) : CallR X f (lftF X.K DI (f2 g)) := h.imp fun xs H Q q => by
  obtain ⟨F, ds, S, R, rel, den, w, fin⟩ := q
  unfold f2 at w
  split at w
  · obtain ⟨v, u, rfl, dv, du⟩ := den.twoV
    exact i F _ _ v u S R H Q rel dv du w fin
  · exact w.elim

/-- len -/
def lenD (S : GS) : D → Option Nat
  | .str x => if x.length ≤ sizeLine then some x.length else none
  | d => match asQ S d with
    | some ds => some ds.length
    | none => (asK S d).map (·.length)
def fLen : WF := f1 fun d S Q => match lenD S d with
  | some n => Q (.int n) S
  | none => False
theorem call_lenK : CallR X (.builtin "len") (fun xs H Q => ∃ a kvs, xs = [.ref a] ∧ Rd H a (.dK kvs) ∧ Q (.int kvs.length) H) := by
  intro pins s σ H xs us Q I r h
  obtain ⟨a, kvs, rfl, t, q⟩ := h
  rw [Vals.ref1 r]
  exact d_len I t fun t s' I' => ⟨.int kvs.length, H, I', ⟨t, rfl⟩, q⟩
theorem dc_len : CallR X (.builtin "len") (lftF X.K DI fLen) := f1_ok (call_len_seq.or (call_len_str.or call_lenK)) fun F d v S R H Q rel den w fin => by
  split at w
  · rename_i n e
    unfold lenD at e
    split at e
    · split at e
      · cases e
        cases den
        rename_i hz
        exact .inr (.inl ⟨_, rfl, hz, fin.at0 w rel (.int _)⟩)
      · cases e
    · split at e
      · rename_i ds e1
        cases e
        obtain ⟨a, vs, rfl, t, dl⟩ := asQ_ok rel den e1
        rw [dl.length] at w
        exact .inl ⟨a, vs, rfl, t, fin.at0 w rel (.int _)⟩
      · cases e2 : asK S d with
        | none => rw [e2] at e; cases e
        | some kvs =>
          rw [e2] at e
          cases e
          obtain ⟨a, vs, rfl, t, dl⟩ := asK_ok rel den e2
          have w : R (.int kvs.length) S := w
          rw [dl.length] at w
          exact .inr (.inr ⟨a, vs, rfl, t, fin.at0 w rel (.int _)⟩)
  · exact w.elim
/-- int(i), int(b) -/
def fInt : WF := f1 fun d S Q => match d with
  | .int i => Q (.int i) S
  | .bl b => Q (.int (if b then 1 else 0)) S
  | _ => False
theorem dc_int : CallR X (.type "int") (lftF X.K DI fInt) := f1_ok call_int1 fun F d v S R H Q rel den w fin => by
  split at w
  · cases den
    exact .inl ⟨_, rfl, fin.at0 w rel (.int _)⟩
  · cases den
    exact .inr ⟨_, rfl, fin.at0 w rel (.int _)⟩
  · exact w.elim
def fAbs : WF := f1 fun d S Q => match d with
  | .int i => Q (.int (if i < 0 then -i else i)) S
  | _ => False
theorem dc_abs : CallR X (.builtin "abs") (lftF X.K DI fAbs) := f1_ok call_abs fun F d v S R H Q rel den w fin => by
  split at w
  · cases den
    exact ⟨_, rfl, fin.at0 w rel (.int _)⟩
  · exact w.elim
def fMax : WF := f2 fun d e S Q => match d, e with
  | .int i, .int j => Q (.int (if j > i then j else i)) S
  | _, _ => False
theorem dc_max (hc : X.calm = true) : CallR X (.builtin "max") (lftF X.K DI fMax) := f2_ok (call_max2 hc) fun F d e v u S R H Q rel dd de w fin => by
  split at w
  · cases dd
    cases de
    exact ⟨_, _, rfl, fin.at0 w rel (.int _)⟩
  · exact w.elim
def fMin : WF := f2 fun d e S Q => match d, e with
  | .int i, .int j => Q (.int (if j < i then j else i)) S
  | _, _ => False
theorem dc_min (hc : X.calm = true) : CallR X (.builtin "min") (lftF X.K DI fMin) := f2_ok (call_min2 hc) fun F d e v u S R H Q rel dd de w fin => by
  split at w
  · cases dd
    cases de
    exact ⟨_, _, rfl, fin.at0 w rel (.int _)⟩
  · exact w.elim
/-- list(..) of a list or tuple, told by what it holds; by its address -/
def fList : WF := f1 fun d S Q => match asQ S d with
  | some ds => Q (.lst ds) S
  | none => False
def fListN : WF := f1 fun d S Q => match asQ S d with
  | some ds => ∀ p, S.g p = none → Q (.ref p) (S.set p (.lst ds))
  | none => False
theorem dc_list : CallR X (.type "list") (lftF X.K DI fList) := f1_ok (callLQ call_list_of) fun F d v S R H Q rel den w fin => by
  split at w
  · rename_i ds e
    obtain ⟨a, vs, rfl, t, dl⟩ := asQ_ok rel den e
    exact ⟨a, vs, rfl, t, fun l hl => fin.lst w rel (.refl _) dl hl⟩
  · exact w.elim
theorem dc_listN : CallR X (.type "list") (lftF X.K DI fListN) := f1_ok call_list_of fun F d v S R H Q rel den w fin => by
  split at w
  · rename_i ds e
    obtain ⟨a, vs, rfl, t, dl⟩ := asQ_ok rel den e
    exact ⟨a, vs, rfl, t, fun l hl => fin.newL (w l (rel.free hl)) rel (.refl _) dl hl⟩
  · exact w.elim
def fTuple : WF := f1 fun d S Q => match d with
  | .tup ds => Q (.tup ds) S
  | d => match asL S d with
    | some ds => Q (.tup ds) S
    | none => False
theorem dc_tuple : CallR X (.type "tuple") (lftF X.K DI fTuple) := f1_ok call_tupF fun F d v S R H Q rel den w fin => by
  split at w
  · obtain ⟨a, vs, rfl, t, dl⟩ := den.tupV
    exact ⟨a, vs, rfl, .inr ⟨t.sq, fin.at0 w rel (.tup t dl)⟩⟩
  · split at w
    · rename_i ds e
      obtain ⟨a, vs, rfl, t, dl⟩ := asL_ok rel den e
      exact ⟨a, vs, rfl, .inl ⟨.inl t, fun p o od hp => fin.tup w rel (.refl _) dl od hp⟩⟩
    · exact w.elim
/-- any, all of a list of bools -/
def bools : List D → Option (List Bool)
  | [] => some []
  | .bl b :: r => (bools r).map (b :: ·)
  | _ :: _ => none
theorem bools_ok {K : PySem.W.Frag} {H : Hp} : ∀ {ds : List D} {vs : List V} {bs : List Bool}, DenL K H ds vs → bools ds = some bs → vs = bs.map V.bl
  | [], _, _, h, e => by cases h; cases e; rfl
  | .bl b :: r, _, _, h, e => by
    cases h with
    | cons h1 h2 =>
      cases h1
      cases q : bools r with
      | none => simp [bools, q] at e
      | some cs =>
        simp [bools, q] at e
        subst e
        rw [bools_ok h2 q]
        rfl
  | .non :: _, _, _, _, e | .int _ :: _, _, _, _, e | .str _ :: _, _, _, _, e | .ty _ :: _, _, _, _, e | .ref _ :: _, _, _, _, e | .tup _ :: _, _, _, _, e | .lst _ :: _, _, _, _, e | .dct _ :: _, _, _, _, e => by simp [bools] at e
def fAny : WF := f1 fun d S Q => match asL S d with
  | some ds => match bools ds with
    | some bs => Q (.bl (bs.any id)) S
    | none => False
  | none => False
def fAll : WF := f1 fun d S Q => match asL S d with
  | some ds => match bools ds with
    | some bs => Q (.bl (bs.all id)) S
    | none => False
  | none => False
theorem dc_any (hc : X.calm = true) : CallR X (.builtin "any") (lftF X.K DI fAny) := f1_ok (cr_any hc) fun F d v S R H Q rel den w fin => by
  split at w
  · rename_i ds e
    split at w
    · rename_i bs eb
      obtain ⟨a, vs, rfl, t, dl⟩ := asL_ok rel den e
      have z := bools_ok dl eb
      subst z
      exact ⟨a, bs, rfl, .inl t, fin.at0 w rel (.bl _)⟩
    · exact w.elim
  · exact w.elim
theorem dc_all (hc : X.calm = true) : CallR X (.builtin "all") (lftF X.K DI fAll) := f1_ok (cr_all hc) fun F d v S R H Q rel den w fin => by
  split at w
  · rename_i ds e
    split at w
    · rename_i bs eb
      obtain ⟨a, vs, rfl, t, dl⟩ := asL_ok rel den e
      have z := bools_ok dl eb
      subst z
      exact ⟨a, bs, rfl, .inl t, fin.at0 w rel (.bl _)⟩
    · exact w.elim
  · exact w.elim
/-- isinstance(x, T), T a built-in class -/
def tyD (S : GS) : D → Option String
  | .non => some "NoneType"
  | .bl _ => some "bool"
  | .int _ => some "int"
  | .str _ => some "str"
  | .ty _ => none
  | .pr _ => none
  | .tup _ => some "tuple"
  | .lst _ => some "list"
  | .dct _ => some "dict"
  | .ref p => match S.g p with
    | some (.lst _) => some "list"
    | some (.dct _) => some "dict"
    | some (.fct _) => some "dict"
    | none => none
def isiB (t c : String) : Option Bool :=
  if c = "str" ∨ c = "tuple" ∨ c = "list" ∨ c = "bool" ∨ c = "dict" then some (decide (t = c)) else if c = "int" then some (decide (t = "int" ∨ t = "bool")) else none
def fIsi : WF := f2 fun d e S Q => match e with
  | .ty c => match tyD S d with
    | some t => match isiB t c with
      | some b => Q (.bl b) S
      | none => False
    | none => False
  | _ => False
theorem tyD_ok {K : PySem.W.Frag} {F H : Hp} {S : GS} {d : D} {v : V} {t : String} (rel : Rel K DI F S H) (den : Den K H d v) (e : tyD S d = some t) : TyX K H v (.type t) := by
  cases den with
  | non => cases e; exact .base .non
  | bl b => cases e; exact .base (.bl b)
  | int b => cases e; exact .base (.int b)
  | str b => cases e; exact .base (.str b)
  | ty b => cases e
  | tup h1 h2 =>
    cases e
    rcases h1 with ⟨o, h, _⟩ | ⟨o, its, n, h, _, hc, _⟩
    · exact .fTuple h
    · exact .kTuple h hc
  | pr h1 h2 => cases e
  | lst h1 h2 => cases e; exact .base (.frz h1)
  | dct h1 h2 => cases e; exact .fDict h1
  | ref p =>
    simp only [tyD] at e
    split at e <;> rename_i q
    · cases e
      obtain ⟨vs, e1, _⟩ := rel.rep _ _ q
      exact .base (.lst e1)
    · cases e
      obtain ⟨vs, e1, _⟩ := rel.rep _ _ q
      exact .base (.dK e1)
    · cases e
      obtain ⟨o, vs, e1, _⟩ := rel.rep _ _ q
      exact .fDict e1
    · cases e

theorem isiB_ok {t c : String} {b : Bool} (ht : t = "NoneType" ∨ t = "bool" ∨ t = "int" ∨ t = "str" ∨ t = "tuple" ∨ t = "list" ∨ t = "dict") (h : isiB t c = some b) : kitB t c = some b := by
  unfold isiB at h
  split at h
  · rename_i hc
    cases h
    rcases hc with rfl | rfl | rfl | rfl | rfl <;> rcases ht with rfl | rfl | rfl | rfl | rfl | rfl | rfl <;> decide +kernel
  · split at h
    · rename_i hc
      cases h
      subst hc
      rcases ht with rfl | rfl | rfl | rfl | rfl | rfl | rfl <;> decide +kernel
    · cases h
theorem tyD_in {S : GS} {d : D} {t : String} (e : tyD S d = some t) : t = "NoneType" ∨ t = "bool" ∨ t = "int" ∨ t = "str" ∨ t = "tuple" ∨ t = "list" ∨ t = "dict" := by
  cases d <;> simp only [tyD] at e
  case ref p => split at e <;> first | (cases e; simp) | cases e
  all_goals first | (cases e; simp) | cases e
theorem dc_isi : CallR X (.builtin "isinstance") (lftF X.K DI fIsi) := f2_ok call_isi fun F d e v u S R H Q rel dd de w fin => by
  split at w
  · split at w
    · rename_i t ht
      split at w
      · rename_i b hb
        cases de
        exact ⟨v, _, .type t, .type _, b, rfl, .ty _, tyD_ok rel dd ht, kit_ty (isiB_ok (tyD_in ht) hb), fin.at0 w rel (.bl _)⟩
      · exact w.elim
    · exact w.elim
  · exact w.elim

/-! ### repr -/
/-- the text of a value -/
def shw (d : D) : Str := (dat d).shown
/-- may be shown: told by what it holds, no too great ints, not too long, not too deep -/
def shOk (d : D) : Prop := pure? d = true ∧ (dat d).showable = true ∧ (dat d).shown.length ≤ sizeLine ∧ dep d ≤ 64
section
variable {pins : List (Addr × Obj)} {σ : L2.St} {H : Hp} {s : Shared}
abbrev Shn (X : Cx) (s : Shared) (u : Value) (d : PyData) : Prop := ∃ as bs, Reads s.heap u d as ∧ ReadAtMost s.heap d.depth bs ∧ ReprK X.prog X.w bs s.heap d.depth u d.shown
abbrev ShnL (X : Cx) (s : Shared) (us : List Value) (ds : List PyData) : Prop := ∃ as bs, ReadsAll s.heap us ds as ∧ ReadAtMost s.heap (PyData.depthAll ds) bs ∧ ReprAllK X.prog X.w bs s.heap (PyData.depthAll ds) us (PyData.shownAll ds)
theorem shn_cons {u : Value} {us : List Value} {d : PyData} {ds : List PyData} (h1 : Shn X s u d) (h2 : ShnL X s us ds) : ShnL X s (u :: us) (d :: ds) := by
  obtain ⟨a1, b1, r1, m1, k1⟩ := h1
  obtain ⟨a2, b2, r2, m2, k2⟩ := h2
  have l1 : d.depth ≤ PyData.depthAll (d :: ds) := by simp only [PyData.depthAll]; exact Nat.le_max_left _ _
  have l2 : PyData.depthAll ds ≤ PyData.depthAll (d :: ds) := by simp only [PyData.depthAll]; exact Nat.le_max_right _ _
  refine ⟨a1 ++ a2, b1 ++ b2, .cons r1 r2, (m1.mono l1).append (m2.mono l2), ?_⟩
  simp only [PyData.shownAll]
  exact .cons ((k1.more fun b hb => List.mem_append_left _ hb).level_le l1) (k2.more_le (fun b hb => List.mem_append_right _ hb) l2)
theorem shn_list {a : Addr} {its : List Value} {n : Nat} {o : Obj} {ds : List PyData} (h1 : s.heap.get? a = some o) (h2 : o.cls = .type "list") (h3 : o.data = .seq its.toArray n) (h : ShnL X s its ds) : Shn X s (.ref a) (.list ds) := by
  obtain ⟨as, bs, r, m, k⟩ := h
  have rr : Reads s.heap (.ref a) (.list ds) (a :: as) := .list h1 h2 h3 (by simpa using r)
  have hna : a ∉ bs := not_mem_of_deeper rr (by simp only [PyData.depth]; omega) m
  refine ⟨_, a :: bs, rr, ReadAtMost.cons rr (by simp only [PyData.depth]; omega) m, ?_⟩
  simp only [PyData.depth, PyData.shown]
  cases its with
  | nil =>
    cases r
    simp only [PyData.shownAll, listText_nil]
    exact ReprK.listEmpty h1 h2 h3
  | cons x l => exact ReprK.list h1 h2 h3 hna (by simpa using k.length_eq) (fun i y e => k.item i y (by simpa using e))
theorem shn_tup {a : Addr} {its : List Value} {n : Nat} {o : Obj} {ds : List PyData} (h1 : s.heap.get? a = some o) (h2 : o.cls = .type "tuple") (h3 : o.data = .seq its.toArray n) (h : ShnL X s its ds) : Shn X s (.ref a) (.tuple ds) := by
  obtain ⟨as, bs, r, m, k⟩ := h
  have rr : Reads s.heap (.ref a) (.tuple ds) as := .tuple h1 h2 h3 (by simpa using r)
  have hna : a ∉ bs := not_mem_of_deeper rr (by simp only [PyData.depth]; omega) m
  refine ⟨_, a :: bs, rr, ReadAtMost.cons rr (by simp only [PyData.depth]; omega) m, ?_⟩
  simp only [PyData.depth, PyData.shown]
  exact ReprK.tuple h1 h2 h3 hna (by simpa using k)
def datKey : Key → PyData
  | .inl i => .int i
  | .inr x => .str x
theorem shn_key {k : Key} {u : Value} (h : keyIs k u = true) (hs : (datKey k).showable = true) (hz : (datKey k).shown.length ≤ sizeLine) : Shn X s u (datKey k) := by
  rcases keyIs_shape h with ⟨i, t, rfl, rfl⟩ | ⟨x, t, rfl, rfl⟩
  · refine ⟨[], [], .int i t, (fun _ z => nomatch z), ?_⟩
    simp only [datKey, PyData.shown]
    exact .of_is (ReprIs.int t (by simpa [datKey, PyData.showable] using hs)) _ _ _
  · refine ⟨[], [], .str x t, (fun _ z => nomatch z), ?_⟩
    simp only [datKey, PyData.shown]
    exact .of_is (ReprIs.str x t (by simpa only [datKey, PyData.shown] using hz)) _ _ _
theorem shn_dict {a : Addr} {o : Obj} {es : Array DictEntry} {n : Nat} {kvs : List (PyData × PyData)} (h1 : s.heap.get? a = some o) (h2 : o.cls = .type "dict") (h3 : o.data = .dict es n) (hs : (a == sysModules) = false)
    (hk : ShnL X s (es.toList.map (·.key)) (kvs.map (·.1))) (hv : ShnL X s (es.toList.map (·.val)) (kvs.map (·.2))) : Shn X s (.ref a) (.dict kvs) := by
  obtain ⟨as, b1, r1, m1, k1⟩ := hk
  obtain ⟨bs, b2, r2, m2, k2⟩ := hv
  have rr : Reads s.heap (.ref a) (.dict kvs) (a :: as ++ bs) := .dict h1 h2 h3 r1 r2
  have m : ReadAtMost s.heap (PyData.depthKv kvs) (b1 ++ b2) := (m1.mono (PyData.depthAll_keys_le kvs)).append (m2.mono (PyData.depthAll_vals_le kvs))
  have hna : a ∉ b1 ++ b2 := not_mem_of_deeper rr (by simp only [PyData.depth]; omega) m
  refine ⟨_, a :: (b1 ++ b2), rr, ReadAtMost.cons rr (by simp only [PyData.depth]; omega) m, ?_⟩
  simp only [PyData.depth, PyData.shown, PyData.shownKv_eq]
  exact ReprK.dict h1 h2 h3 hs hna (ReprEntriesK.of_two es.toList _ _ (k1.more_le (fun b hb => List.mem_append_left _ hb) (PyData.depthAll_keys_le kvs)) (k2.more_le (fun b hb => List.mem_append_right _ hb) (PyData.depthAll_vals_le kvs)))
theorem datK_eq : ∀ kvs : List (Key × D), datK kvs = kvs.map fun p => (datKey p.1, dat p.2)
  | [] => by simp [datK]
  | (k, d) :: r => by
    cases k <;> simp [datK, datKey, datK_eq r]
mutual
theorem den_shn (I : Inv X pins σ H s) : ∀ (d : D) (v : V) (u : Value), pure? d = true → (dat d).showable = true → (dat d).shown.length ≤ sizeLine → Den X.K H d v → RelV v u → Shn X s u (dat d)
  | .non, _, _, _, _, _, h, r => by
    cases h
    cases r
    refine ⟨[], [], by rw [dat]; exact .none, (fun _ z => nomatch z), ?_⟩
    simp only [dat, PyData.shown]
    exact .of_is ReprIs.none _ _ _
  | .bl b, _, _, _, _, _, h, r => by
    cases h
    cases r
    refine ⟨[], [], by rw [dat]; exact .bool b, (fun _ z => nomatch z), ?_⟩
    simp only [dat, PyData.shown]
    exact .of_is (ReprIs.bool b) _ _ _
  | .int i, _, _, _, hs, _, h, r => by
    cases h
    obtain ⟨t, rfl⟩ := r
    refine ⟨[], [], by rw [dat]; exact .int i t, (fun _ z => nomatch z), ?_⟩
    simp only [dat, PyData.shown]
    exact .of_is (ReprIs.int t (by simpa [dat, PyData.showable] using hs)) _ _ _
  | .str x, _, _, _, _, hz, h, r => by
    cases h
    obtain ⟨t, rfl⟩ := r
    refine ⟨[], [], by rw [dat]; exact .str x t, (fun _ z => nomatch z), ?_⟩
    simp only [dat, PyData.shown]
    exact .of_is (ReprIs.str x t (by simpa only [dat, PyData.shown] using hz)) _ _ _
  | .ty _, _, _, p, _, _, _, _ => by simp [pure?] at p
  | .ref _, _, _, p, _, _, _, _ => by simp [pure?] at p
  | .pr _, _, _, p, _, _, _, _ => by simp [pure?] at p
  | .tup ds, _, _, p, hs, hz, h, r => by
    cases h with
    | tup h1 h2 =>
      cases r
      obtain ⟨its, rv, ⟨o, e1, e2, n, e3⟩, _⟩ := I.tuple h1.sq
      rw [dat] at hs hz ⊢
      have hz' : (tupleText (PyData.shownAll (datL ds))).length ≤ sizeLine := by simpa only [PyData.shown] using hz
      exact shn_tup e1 e2 e3 (denL_shn I ds _ its (by simpa [pure?] using p) (by simpa [PyData.showable] using hs) (fun t ht => Nat.le_trans (tupleText_mem_le ht) hz') h2 rv)
  | .lst ds, _, _, p, hs, hz, h, r => by
    cases h with
    | lst h1 h2 =>
      cases r
      obtain ⟨hg, _, its, n, rv, e⟩ := I.hok _ _ h1
      rw [hg] at e
      cases e
      rw [dat] at hs hz ⊢
      have hz' : (listText (PyData.shownAll (datL ds))).length ≤ sizeLine := by simpa only [PyData.shown] using hz
      exact shn_list hg rfl rfl (denL_shn I ds _ its (by simpa [pure?] using p) (by simpa [PyData.showable] using hs) (fun t ht => Nat.le_trans (listText_mem_le ht) hz') h2 rv)
  | .dct kvs, _, _, p, hs, hz, h, r => by
    cases h with
    | dct h1 h2 =>
      cases r
      obtain ⟨hsy, hgd, hx, es, ep, vs, hdt, hsz, kv, hm⟩ := I.frzK h1
      obtain ⟨o', es', ho', hx', hdt', _, prs, _⟩ := hm
      rw [hgd] at ho'
      cases ho'
      rw [hdt] at hdt'
      cases hdt'
      rw [dat, datK_eq] at hs hz ⊢
      have hz' : (dictText (PyData.shownKv (kvs.map fun p => (datKey p.1, dat p.2)))).length ≤ sizeLine := by simpa only [PyData.shown] using hz
      have hs' := PyData.showableKv_split _ (by simpa [PyData.showable] using hs : PyData.showableKv (kvs.map fun p => (datKey p.1, dat p.2)) = true)
      have q := denK_shn I kvs _ vs es.toList (by simpa [pure?] using p) hs'.1 hs'.2
        (fun t ht => let ⟨p, hp, hl⟩ := PyData.shownKv_key_le _ t ht; Nat.le_trans hl (Nat.le_trans (dictText_mem_le hp) hz')) (fun t ht => let ⟨p, hp, hl⟩ := PyData.shownKv_val_le _ t ht; Nat.le_trans hl (Nat.le_trans (dictText_mem_le hp) hz')) h2 kv prs
      exact shn_dict hgd hx.1 hdt hsy q.1 q.2
theorem denL_shn (I : Inv X pins σ H s) : ∀ (ds : List D) (vs : List V) (us : List Value), pureL ds = true → PyData.showableAll (datL ds) = true → (∀ t ∈ PyData.shownAll (datL ds), t.length ≤ sizeLine) → DenL X.K H ds vs → Vals vs us → ShnL X s us (datL ds)
  | [], _, _, _, _, _, h, r => by
    cases h
    cases r
    refine ⟨[], [], by rw [datL]; exact .nil, (fun _ z => nomatch z), ?_⟩
    simp only [datL, PyData.shownAll]
    exact .nil
  | d :: ds, _, _, p, hs, hz, h, r => by
    cases h with
    | cons h1 h2 =>
      cases r with
      | cons r1 r2 =>
        have p' : pure? d = true ∧ pureL ds = true := by simpa [pureL] using p
        rw [datL] at hs hz ⊢
        have hs' : (dat d).showable = true ∧ PyData.showableAll (datL ds) = true := by simpa [PyData.showableAll] using hs
        simp only [PyData.shownAll, List.mem_cons, forall_eq_or_imp] at hz
        exact shn_cons (den_shn I d _ _ p'.1 hs'.1 hz.1 h1 r1) (denL_shn I ds _ _ p'.2 hs'.2 hz.2 h2 r2)
theorem denK_shn (I : Inv X pins σ H s) : ∀ (kvs : List (Key × D)) (ks : List (Key × V)) (vs : List (Key × Value)) (es : List DictEntry), pureK kvs = true → PyData.showableAll ((kvs.map fun p => (datKey p.1, dat p.2)).map (·.1)) = true →
    PyData.showableAll ((kvs.map fun p => (datKey p.1, dat p.2)).map (·.2)) = true → (∀ t ∈ PyData.shownAll ((kvs.map fun p => (datKey p.1, dat p.2)).map (·.1)), t.length ≤ sizeLine) → (∀ t ∈ PyData.shownAll ((kvs.map fun p => (datKey p.1, dat p.2)).map (·.2)), t.length ≤ sizeLine) →
    DenK X.K H kvs ks → KV ks vs → Pairs (mixKind X.prog X.w) es vs → ShnL X s (es.map (·.key)) ((kvs.map fun p => (datKey p.1, dat p.2)).map (·.1)) ∧ ShnL X s (es.map (·.val)) ((kvs.map fun p => (datKey p.1, dat p.2)).map (·.2))
  | [], _, _, _, _, _, _, _, _, h, r, q => by
    cases h
    cases r
    cases q
    have z : ShnL X s [] [] := ⟨[], [], .nil, (fun _ z => nomatch z), by simp only [PyData.shownAll]; exact .nil⟩
    exact ⟨z, z⟩
  | (k, d) :: r, _, _, _, p, hs1, hs2, hz1, hz2, h, kv, q => by
    cases h with
    | cons h1 h2 =>
      cases kv with
      | cons rk kr =>
        cases q with
        | cons e1 e2 qr =>
          have p' : pure? d = true ∧ pureK r = true := by simpa [pureK] using p
          simp only [List.map_cons, PyData.showableAll, Bool.and_eq_true] at hs1 hs2
          simp only [List.map_cons, PyData.shownAll, List.mem_cons, forall_eq_or_imp] at hz1 hz2
          obtain ⟨rk1, rk2⟩ := rk
          have ih := denK_shn I r _ _ _ p'.2 hs1.2 hs2.2 hz1.2 hz2.2 h2 kr qr
          simp only [List.map_cons]
          refine ⟨shn_cons (shn_key (by rw [show k = _ from rk1]; exact e1) hs1.1 hz1.1) ih.1, shn_cons (den_shn I d _ _ p'.1 hs2.1 hz2.1 h1 (by rw [e2]; exact rk2)) ih.2⟩
end
/-- the text of what is shown, at the top -/
def TopR (X : Cx) (s : Shared) (u : Value) (d : PyData) : Prop := X.A.guards = some [] → X.A.units + (d.depth + 1) < cLine → d.shown.length ≤ sizeLine →
  ∀ Q : Value → Shared → Prop, (∀ h' k tk, (∀ b o, s.heap.get? b = some o → h'.get? b = some o) → Q (.str d.shown k) { s with heap := h', toks := tk }) → wpAny (model X.prog X.w) X.A (call (.builtin "repr") [u]) Q X.xe s
theorem top_list {a : Addr} {its : List Value} {n : Nat} {o : Obj} {ds : List PyData} (h1 : s.heap.get? a = some o) (h2 : o.cls = .type "list") (h3 : o.data = .seq its.toArray n) (h : ShnL X s its ds) : TopR X s (.ref a) (.list ds) := by
  intro hg hu hz Q hq
  obtain ⟨as, bs, r, m, k⟩ := h
  have rr : Reads s.heap (.ref a) (.list ds) (a :: as) := .list h1 h2 h3 (by simpa using r)
  have hna : a ∉ bs := not_mem_of_deeper rr (by simp only [PyData.depth]; omega) m
  simp only [PyData.depth, PyData.shown] at hu hz hq
  refine call_repr_slot (by omega) (⟨o, h1, h2⟩ : s.TypeIs (.ref a) "list") F.slot_list_repr.toG ?_
  cases its with
  | nil =>
    cases r
    simp only [PyData.shownAll, listText_nil] at hq
    exact call_list_repr_empty (⟨o, h1, h2⟩ : s.TypeIs (.ref a) "list") h1 h3 ⟨_, _, rfl, hq s.heap _ _ fun _ _ e => e⟩
  | cons x l => exact call_list_reprK h1 h2 h3 hna (by simpa using k.length_eq) (fun i y e => k.item i y (by simpa using e)) hg (fun b _ => Clear.nil b) (by show X.A.units + 1 + _ < cLine; omega) (fun _ _ e => e) (fun h' u tk hk => ⟨_, _, rfl, hq h' u tk hk⟩) hz
theorem top_tup {a : Addr} {its : List Value} {n : Nat} {o : Obj} {ds : List PyData} (h1 : s.heap.get? a = some o) (h2 : o.cls = .type "tuple") (h3 : o.data = .seq its.toArray n) (h : ShnL X s its ds) : TopR X s (.ref a) (.tuple ds) := by
  intro hg hu hz Q hq
  obtain ⟨as, bs, r, m, k⟩ := h
  have rr : Reads s.heap (.ref a) (.tuple ds) as := .tuple h1 h2 h3 (by simpa using r)
  have hna : a ∉ bs := not_mem_of_deeper rr (by simp only [PyData.depth]; omega) m
  simp only [PyData.depth, PyData.shown] at hu hz hq
  exact call_repr_slot (by omega) (⟨o, h1, h2⟩ : s.TypeIs (.ref a) "tuple") F.slot_tuple_repr (call_tuple_reprK h1 h2 h3 hna (by simpa using k) hg (fun b _ => Clear.nil b) (by show X.A.units + 1 + _ < cLine; omega) (fun _ _ e => e) (fun h' u tk hk => ⟨_, _, rfl, hq h' u tk hk⟩) hz)
theorem top_dict {a : Addr} {o : Obj} {es : Array DictEntry} {n : Nat} {kvs : List (PyData × PyData)} (h1 : s.heap.get? a = some o) (h2 : o.cls = .type "dict") (h3 : o.data = .dict es n) (hs : (a == sysModules) = false)
    (hk : ShnL X s (es.toList.map (·.key)) (kvs.map (·.1))) (hv : ShnL X s (es.toList.map (·.val)) (kvs.map (·.2))) : TopR X s (.ref a) (.dict kvs) := by
  intro hg hu hz Q hq
  obtain ⟨as, b1, r1, m1, k1⟩ := hk
  obtain ⟨bs, b2, r2, m2, k2⟩ := hv
  have rr : Reads s.heap (.ref a) (.dict kvs) (a :: as ++ bs) := .dict h1 h2 h3 r1 r2
  have m : ReadAtMost s.heap (PyData.depthKv kvs) (b1 ++ b2) := (m1.mono (PyData.depthAll_keys_le kvs)).append (m2.mono (PyData.depthAll_vals_le kvs))
  have hna : a ∉ b1 ++ b2 := not_mem_of_deeper rr (by simp only [PyData.depth]; omega) m
  simp only [PyData.depth, PyData.shown, PyData.shownKv_eq] at hu hz hq
  exact call_repr_slot (by omega) (⟨o, h1, h2⟩ : s.TypeIs (.ref a) "dict") F.slot_dict_repr (call_dict_reprK h1 h2 h3 hs hna (ReprEntriesK.of_two es.toList _ _ (k1.more_le (fun b hb => List.mem_append_left _ hb) (PyData.depthAll_keys_le kvs)) (k2.more_le (fun b hb => List.mem_append_right _ hb) (PyData.depthAll_vals_le kvs)))
    hg (fun b _ => Clear.nil b) (by show X.A.units + 1 + _ < cLine; omega) (fun _ _ e => e) (fun h' u tk hk => ⟨_, _, rfl, hq h' u tk hk⟩) hz)
/-- .. of the dict at an address, locked or not -/
theorem top_dct (I : Inv X pins σ H s) {a : Addr} {o : Obj} {kvs : List (Key × D)} {ks : List (Key × V)} (h1 : H a = some (.frz o (.dK ks))) (h2 : DenK X.K H kvs ks) (p : pureK kvs = true) (hs : (dat (.dct kvs)).showable = true) (hz : (dat (.dct kvs)).shown.length ≤ sizeLine) : TopR X s (.ref a) (dat (.dct kvs)) := by
  obtain ⟨hsy, hgd, hx, es, ep, vs, hdt, hsz, kv, hm⟩ := I.frzK h1
  obtain ⟨o', es', ho', hx', hdt', _, prs, _⟩ := hm
  rw [hgd] at ho'
  cases ho'
  rw [hdt] at hdt'
  cases hdt'
  rw [dat, datK_eq] at hs hz ⊢
  have hz' : (dictText (PyData.shownKv (kvs.map fun p => (datKey p.1, dat p.2)))).length ≤ sizeLine := by simpa only [PyData.shown] using hz
  have hs' := PyData.showableKv_split _ (by simpa [PyData.showable] using hs : PyData.showableKv (kvs.map fun p => (datKey p.1, dat p.2)) = true)
  have q := denK_shn I kvs _ vs es.toList p hs'.1 hs'.2
    (fun t ht => let ⟨p, hp, hl⟩ := PyData.shownKv_key_le _ t ht; Nat.le_trans hl (Nat.le_trans (dictText_mem_le hp) hz')) (fun t ht => let ⟨p, hp, hl⟩ := PyData.shownKv_val_le _ t ht; Nat.le_trans hl (Nat.le_trans (dictText_mem_le hp) hz')) h2 kv prs
  exact top_dict hgd hx.1 hdt hsy q.1 q.2
theorem den_top (I : Inv X pins σ H s) : ∀ (d : D) (v : V) (u : Value), pure? d = true → (dat d).showable = true → (dat d).shown.length ≤ sizeLine → Den X.K H d v → RelV v u → TopR X s u (dat d)
  | .non, _, _, _, _, _, h, r => by
    cases h
    cases r
    intro _ _ _ Q hq
    simp only [dat, PyData.shown] at hq
    exact PySem.P.repr_of_none (hq s.heap _ _ fun _ _ e => e)
  | .bl b, _, _, _, _, _, h, r => by
    cases h
    cases r
    intro _ _ _ Q hq
    simp only [dat, PyData.shown] at hq
    exact PySem.P.repr_of_bool (hq s.heap _ _ fun _ _ e => e)
  | .int i, _, _, _, hs, _, h, r => by
    cases h
    obtain ⟨t, rfl⟩ := r
    intro _ _ _ Q hq
    simp only [dat, PyData.shown] at hq
    exact PySem.P.repr_of_int (by simpa [dat, PyData.showable] using hs) (hq s.heap _ _ fun _ _ e => e)
  | .str x, _, _, _, _, hz, h, r => by
    cases h
    obtain ⟨t, rfl⟩ := r
    intro _ _ _ Q hq
    simp only [dat, PyData.shown] at hq hz
    exact PySem.P.repr_of_str (hq s.heap _ _ fun _ _ e => e) hz
  | .ty _, _, _, p, _, _, _, _ => by simp [pure?] at p
  | .ref _, _, _, p, _, _, _, _ => by simp [pure?] at p
  | .pr _, _, _, p, _, _, _, _ => by simp [pure?] at p
  | .tup ds, _, _, p, hs, hz, h, r => by
    cases h with
    | tup h1 h2 =>
      cases r
      obtain ⟨its, rv, ⟨o, e1, e2, n, e3⟩, _⟩ := I.tuple h1.sq
      rw [dat] at hs hz ⊢
      have hz' : (tupleText (PyData.shownAll (datL ds))).length ≤ sizeLine := by simpa only [PyData.shown] using hz
      exact top_tup e1 e2 e3 (denL_shn I ds _ its (by simpa [pure?] using p) (by simpa [PyData.showable] using hs) (fun t ht => Nat.le_trans (tupleText_mem_le ht) hz') h2 rv)
  | .lst ds, _, _, p, hs, hz, h, r => by
    cases h with
    | lst h1 h2 =>
      cases r
      obtain ⟨hg, _, its, n, rv, e⟩ := I.hok _ _ h1
      rw [hg] at e
      cases e
      rw [dat] at hs hz ⊢
      have hz' : (listText (PyData.shownAll (datL ds))).length ≤ sizeLine := by simpa only [PyData.shown] using hz
      exact top_list hg rfl rfl (denL_shn I ds _ its (by simpa [pure?] using p) (by simpa [PyData.showable] using hs) (fun t ht => Nat.le_trans (listText_mem_le ht) hz') h2 rv)
  | .dct kvs, _, _, p, hs, hz, h, r => by
    cases h with
    | dct h1 h2 =>
      cases r
      exact top_dct I h1 h2 (by simpa [pure?] using p) hs hz
theorem snap_top {F : Hp} {S : GS} {d : D} {v : V} {u : Value} (I : Inv X pins σ H s) (rel : Rel X.K DI F S H) (den : Den X.K H d v) (r : RelV v u) (p : pure? (snap S d) = true) (hs : (dat (snap S d)).showable = true) (hz : (dat (snap S d)).shown.length ≤ sizeLine) : TopR X s u (dat (snap S d)) := by
  cases den with
  | ref a =>
    unfold snap at p hs hz ⊢
    cases e : S.g a with
    | none => simp [e, pure?] at p
    | some m =>
      cases r
      cases m with
      | lst ds =>
        simp only [e] at p hs hz ⊢
        obtain ⟨vs, e1, e2⟩ := rel.rep a _ e
        obtain ⟨_, its, n, rv, eg⟩ := I.hok _ _ e1
        rw [dat] at hs hz ⊢
        have hz' : (listText (PyData.shownAll (datL ds))).length ≤ sizeLine := by simpa only [PyData.shown] using hz
        exact top_list eg rfl rfl (denL_shn I ds _ its (by simpa [pure?] using p) (by simpa [PyData.showable] using hs) (fun t ht => Nat.le_trans (listText_mem_le ht) hz') e2 rv)
      | dct kvs =>
        simp only [e] at p hs hz ⊢
        obtain ⟨vs, e1, e2⟩ := rel.rep a _ e
        obtain ⟨od, I2⟩ := I.lock e1 trivial
        have k : Kp H (upd H a (.frz od (.dK vs))) := .dct e1
        exact top_dct I2 upd_same (e2.mn k) (by simpa [pure?] using p) hs hz
      | fct kvs =>
        simp only [e] at p hs hz ⊢
        obtain ⟨o, vs, e1, e2⟩ := rel.rep a _ e
        exact top_dct I e1 e2 (by simpa [pure?] using p) hs hz
  | non => exact den_top I _ _ u p hs hz .non r
  | bl b => exact den_top I _ _ u p hs hz (.bl b) r
  | int b => exact den_top I _ _ u p hs hz (.int b) r
  | str b => exact den_top I _ _ u p hs hz (.str b) r
  | ty b => exact den_top I _ _ u p hs hz (.ty b) r
  | tup h1 h2 => exact den_top I _ _ u p hs hz (.tup h1 h2) r
  | pr h1 h2 => exact den_top I _ _ u p hs hz (.pr h1 h2) r
  | lst h1 h2 => exact den_top I _ _ u p hs hz (.lst h1 h2) r
  | dct h1 h2 => exact den_top I _ _ u p hs hz (.dct h1 h2) r
end
def fRepr : WF := f1 fun d S Q => shOk (snap S d) ∧ Q (.str (shw (snap S d))) S
theorem dc_repr (hg : X.A.guards = some []) (hu : X.A.units + 66 < cLine) : CallR X (.builtin "repr") (lftF X.K DI fRepr) := by
  intro pins s σ H xs us Q I r h
  obtain ⟨F, ds, S, R, rel, den, w, fin⟩ := h
  unfold fRepr f1 at w
  split at w
  · obtain ⟨v, rfl, dv⟩ := den.oneV
    obtain ⟨u, rfl, ru⟩ := vals1 r
    obtain ⟨⟨p, hs, hz, hd⟩, w⟩ := w
    refine snap_top I rel dv ru p hs hz hg (by rw [depth_dat]; omega) hz _ fun h' k tk hk => ?_
    exact ⟨.str _, H, I.kept hk, ⟨_, rfl⟩, fin.at0 w rel (.str _)⟩
  · exact w.elim
end
end Dv

/-! Dv9: what is asked of a text, as one check; each rule with its check. -/
namespace Dv
open PySem PySem.Spec L2
open PyProof.Rows hiding St

/-! ### texts -/
def nStar : Expr → Bool
  | .Starred _ _ => false
  | _ => true
theorem star_cons {e : Expr} {es : List Expr} {env : PySem.Env} (h : nStar e = true) : starEach (e :: es) env = (false, eval e env) :: starEach es env := by
  cases e <;> first | rfl | exact absurd h Bool.false_ne_true
theorem star_pl {pos : Pos} {env : PySem.Env} : ∀ {es : List Expr}, es.all nStar = true → (backTo pos (starEach es env)).any (·.1) = false
  | [], _ => rfl
  | e :: es, h => by
    rw [List.all_cons, Bool.and_eq_true] at h
    rw [star_cons h.1]
    exact star_pl (es := es) h.2
theorem star_all {pos : Pos} {env : PySem.Env} : ∀ {es : List Expr}, es.all nStar = true → (backTo pos (starEach es env)).all (fun x => !x.1) = true
  | [], _ => rfl
  | e :: es, h => by
    rw [List.all_cons, Bool.and_eq_true] at h
    rw [star_cons h.1]
    exact star_all (es := es) h.2
theorem tg_cons {e : Expr} {es : List Expr} {env : PySem.Env} (h : nStar e = true) : assignEach (e :: es) env = (false, assign e env) :: assignEach es env := by
  cases e <;> first | rfl | exact absurd h Bool.false_ne_true
theorem tg_map {env : PySem.Env} {e : Expr} {es : List Expr} (h : nStar e = true) : (assignEach (e :: es) env).map (·.2) = assign e env :: (assignEach es env).map (·.2) := by rw [tg_cons h]; rfl
theorem tg_len {env : PySem.Env} : ∀ {es : List Expr}, es.all nStar = true → (assignEach es env).length = es.length
  | [], _ => rfl
  | e :: es, h => by
    rw [List.all_cons, Bool.and_eq_true] at h
    rw [tg_cons h.1, List.length_cons, List.length_cons, tg_len (es := es) h.2]
theorem tg_find {env : PySem.Env} : ∀ {es : List Expr}, es.all nStar = true → (assignEach es env).findIdx? (·.1) = none
  | [], _ => rfl
  | e :: es, h => by
    rw [List.all_cons, Bool.and_eq_true] at h
    rw [tg_cons h.1, List.findIdx?_cons]
    show (if false = true then _ else _) = _
    rw [if_neg (by decide), tg_find (es := es) h.2]
    rfl
def nSet : Expr → Bool
  | .Set _ _ _ => false
  | _ => true
theorem fold_of {e : Expr} {env : PySem.Env} (h : nSet e = true) : ∀ x, foldedSetIterable e env x = pure x := fun x => by
  cases e <;> first | rfl | exact absurd h Bool.false_ne_true
theorem marks_of {op : CmpOp} {e : Expr} (h : nSet e = true) : behindInMarks op e = false := by
  cases e <;> first | rfl | exact absurd h Bool.false_ne_true
def nSlice : Expr → Bool
  | .Slice _ _ _ _ => false
  | _ => true
theorem plain_of {e : Expr} (h : nSlice e = true) : PlainIx e := fun o i => by
  cases e <;> first | rfl | exact absurd h Bool.false_ne_true
def nCtl : Expr → Bool
  | .UnaryOp .Not _ _ => false
  | .BoolOp _ _ _ => false
  | .IfExp _ _ _ _ => false
  | .Compare _ _ _ _ => false
  | _ => true
theorem true_of {e : Expr} {env : PySem.Env} (h : nCtl e = true) : ∀ whole, isTrue e env whole = (do let v ← whole; standAt e.pos; holding [v] (truthy v)) := fun whole => by
  cases e <;> first | rfl | exact absurd h Bool.false_ne_true | (rename_i op _ _; cases op <;> first | rfl | exact absurd h Bool.false_ne_true)
def nComp : Expr → Bool
  | .ListComp _ _ _ _ => false
  | .SetComp _ _ _ _ => false
  | .DictComp _ _ _ _ _ => false
  | _ => true
theorem swap_of {e : Expr} {t : Option Expr} {l : Nat} {env : PySem.Env} (h : nComp e = true) : swapsWith e t l env = pure false := by
  cases e <;> first | rfl | exact absurd h Bool.false_ne_true
theorem swapS_of {e t : Expr} {l : Nat} {env : PySem.Env} (h : nComp e = true) : swapsWithSole [t] e l env = pure false := swap_of h
def nBase : Expr → Bool
  | .Call (.Name _ _) [] [] _ => false
  | _ => true
theorem base_of {o : Expr} {at_ : Str} {env : PySem.Env} {w : Sem Value} (h : nBase o = true) : attributeBase o at_ env w = w := by
  unfold attributeBase
  cases o <;> first | rfl | skip
  rename_i f as kws p
  cases f <;> first | rfl | skip
  cases as <;> first | rfl | skip
  cases kws <;> first | rfl | exact absurd h Bool.false_ne_true
def swp (sc : Scope) (ts vs : List Expr) : Option (Option (List Str)) :=
  if (!(ts.length == 2 || ts.length == 3) || vs.length != ts.length) = true then some none
  else if (vs.any fun | .Starred .. => true | _ => false) = true then some none
  else
    let line := (ts.head?.map (·.pos.line)).getD 0
    let names := ts.filterMap fun
      | .Name id pos => if (sc.names.lookup id == some .local && pos.line == line) = true then some id else none
      | _ => none
    if (names.length != ts.length || names.eraseDups.length != names.length) = true then some none
    else if vs.all (foldedForSure 8) = true then some none
    else if vs.all (constantsAlone 8) = true then none
    else some (some names)
theorem swp_ok {sc : Scope} {env : PySem.Env} {ts vs : List Expr} {k k2 : Nat} {p p2 : Pos} {r : Option (List Str)} (hs : env.scope = sc) (hk : sc.kind = .function) (h : swp sc ts vs = some r) : swappedStores [.Tuple ts k p] (.Tuple vs k2 p2) env = pure r := by
  have hb : (env.blockKind != .function) = false := by
    unfold PySem.Env.blockKind
    rw [hs, hk]
    rfl
  unfold swp at h
  dsimp only at h
  unfold swappedStores
  subst hs
  simp only [hb, Bool.or_false]
  split at h
  · rename_i c; cases h; rw [if_pos c]
  · rename_i c; rw [if_neg c]
    split at h
    · rename_i c; cases h; exact if_pos c
    · rename_i c
      refine (if_neg c).trans ?_
      split at h
      · rename_i c; cases h; exact if_pos c
      · rename_i c
        refine (if_neg c).trans ?_
        split at h
        · rename_i c; cases h; exact if_pos c
        · rename_i c
          refine (if_neg c).trans ?_
          split at h
          · cases h
          · rename_i c
            cases h
            exact if_neg c
def nTup : Expr → Bool
  | .Tuple _ _ _ => false
  | _ => true
def nTup1 : Expr → Bool
  | .Tuple _ _ _ => false
  | .List _ _ => false
  | _ => true
theorem swp_no {t e : Expr} {env : PySem.Env} (h : (nTup e || nTup1 t) = true) : swappedStores [t] e env = pure none := by
  unfold swappedStores
  cases t <;> first | rfl | skip
  all_goals cases e <;> first | rfl | exact absurd h Bool.false_ne_true
end Dv

/-! Dv10: what is known where a def's text is walked, and each rule with its one check. -/
namespace L2
theorem PO.imp {X : Cx} {e : Option PySem.Expr} {t u : TO} (h : PO X e t) (i : ∀ σ H Q, u σ H Q → t σ H Q) : PO X e u := ⟨fun pins s σ H Q I q => h.run pins s σ H Q I (i _ _ _ q)⟩
theorem UnR.imp {X : Cx} {f : PySem.Value → PySem.Sem PySem.Value} {r q : V → Hp → VK → Prop} (h : UnR X f r) (i : ∀ x H Q, q x H Q → r x H Q) : UnR X f q := fun pins s σ H x v Q I rx z => h pins s σ H x v Q I rx (i _ _ _ z)
end L2
namespace Dv
open PySem PySem.Spec L2
open PyProof.Rows hiding St

def fnAt (fns : List Fn) (j : Nat) : Fn := fns.getD j ⟨"", 0, fun _ _ _ => False, []⟩
def csAt (cs : List (Str × D)) (j : Nat) : D := (cs.getD j ("", .non)).2
def csNm (cs : List (Str × D)) (j : Nat) : Str := (cs.getD j ("", .non)).1
structure Ob (X : Cx) (DI : Addr → GH → Prop) (N : List Str) (sc : Scope) (k : Nat) (fns : List Fn) (cs : List (Str × D)) (bl : List Str) (fc : Bool) : Prop where
  nd : N.Nodup
  hN : X.N = N
  hsc : X.env.scope = sc
  knd : sc.kind = .function
  hc : X.calm = true
  hr : Room k X.A
  hg : X.A.guards = some []
  hF : ∀ j, j < fns.length → FnIn X.prog X.w X.K X.mg X.base DI k (fnAt fns j)
  hk : ∀ j, j < cs.length → ∃ v u, X.mg (csNm cs j) = some u ∧ RelV v u ∧ ∀ H, Den X.K H (csAt cs j) v
  hb : ∀ x, bl.contains x = true → X.mg x = none
  fnT : fc = true → X.fn = fun _ => true
  xeF : fc = true → X.xe = fun _ _ => False

def isV (sc : Scope) (x : Str) : Bool := match sc.names.lookup x with
  | some .local => true
  | some .cell => true
  | some .free => true
  | _ => false
def isL (fc : Bool) (sc : Scope) (x : Str) : Bool := match sc.names.lookup x with
  | some .local => true
  | some .cell => fc
  | _ => false
def isG (sc : Scope) (x : Str) : Bool := match sc.names.lookup x with
  | some .globalImplicit => !(x == ("__debug__" : Str))
  | _ => false
def okV (N : List Str) (sc : Scope) (i : Nat) (x : Str) : Bool := decide (N[i]? = some x) && (isV sc x && (!(x == ("__debug__" : Str)) && !(x == ("__classdict__" : Str))))
def okT (fc : Bool) (N : List Str) (sc : Scope) (i : Nat) (x : Str) : Bool := decide (N[i]? = some x) && isL fc sc x
def okB (bl : List Str) (sc : Scope) (x : Str) (v : Value) : Bool := bl.contains x && (isG sc x && (!(x == ("__name__" : Str)) && (match bootBuiltins x, v with
  | some (.builtin a), .builtin b => decide (a = b)
  | some (.type a), .type b => decide (a = b)
  | _, _ => false)))
section
variable {X : Cx} {DI : Addr → GH → Prop} {N : List Str} {sc : Scope} {k : Nat} {fns : List Fn} {cs : List (Str × D)} {bl : List Str} {fc : Bool}
theorem vis_of {x : Str} (h : isV sc x = true) : Vis sc x := by
  unfold isV at h
  split at h
  · exact .inl (by assumption)
  · exact .inr (.inl (by assumption))
  · exact .inr (.inr (by assumption))
  · cases h
theorem gl_of {x : Str} (o : Ob X DI N sc k fns cs bl fc) (h : isG sc x = true) : Gl X x ∧ (x == ("__debug__" : Str)) = false := by
  unfold isG at h
  split at h
  · rename_i e
    refine ⟨?_, by simpa using h⟩
    show X.env.scope.names.lookup x = _
    rw [o.hsc]; exact e
  · cases h
theorem loc_of {x : Str} (o : Ob X DI N sc k fns cs bl fc) (h : isL fc sc x = true) : Loc X.env.scope x ∧ (X.fn x = true ∨ X.env.scope.names.lookup x = some .local) := by
  rw [o.hsc]
  unfold isL at h
  split at h
  · rename_i e; exact ⟨.inl e, .inr e⟩
  · rename_i e; exact ⟨.inr e, .inl (by rw [o.fnT h])⟩
  · cases h
theorem okB_ok {x : Str} {v : Value} (o : Ob X DI N sc k fns cs bl fc) (h : okB bl sc x v = true) : X.mg x = none ∧ Gl X x ∧ (x == ("__debug__" : Str)) = false ∧ x ≠ "__name__" ∧ bootBuiltins x = some v := by
  unfold okB at h
  simp only [Bool.and_eq_true] at h
  obtain ⟨h1, h2, h3, h4⟩ := h
  obtain ⟨g1, g2⟩ := gl_of o h2
  refine ⟨o.hb x h1, g1, g2, ?_, ?_⟩
  · intro z
    rw [z] at h3
    simp at h3
  · split at h4
    · rename_i e; rw [e]; simp at h4; rw [h4]
    · rename_i e; rw [e]; simp at h4; rw [h4]
    · cases h4
theorem Ob.u {o : Ob X DI N sc k fns cs bl fc} : X.A.units + 200 < cLine := by have := o.hr.un; omega

/-! ### expressions -/
variable {x : Str} {pos p2 p3 : Pos} {e e2 e3 : Expr} {es rest : List Expr} {a b c : W} {wa : WA} {ta tb : WT} {w2 w3 : W2} {j0 : Nat}
theorem e_var (o : Ob X DI N sc k fns cs bl fc) (i : Nat) (h : okV N sc i x = true := by kernel_rfl) : PE X (.Name x pos) (lft X.K DI (wVar i)) := by
  unfold okV at h
  simp only [Bool.and_eq_true, decide_eq_true_eq] at h
  exact de_var (pe_var (by rw [o.hN]; exact h.1) (by rw [o.hsc]; exact vis_of h.2.1) (by simpa using h.2.2.1) (by simpa using h.2.2.2))
theorem e_con (o : Ob X DI N sc k fns cs bl fc) (j : Nat) (h : (decide (j < cs.length) && (isG sc x && decide (csNm cs j = x))) = true := by kernel_rfl) : PE X (.Name x pos) (lft X.K DI (wC (csAt cs j))) := by
  simp only [Bool.and_eq_true, decide_eq_true_eq] at h
  obtain ⟨v, u, h1, h2, h3⟩ := o.hk j h.1
  obtain ⟨g1, g2⟩ := gl_of o h.2.1
  rw [h.2.2] at h1
  exact de_c (pe_glob g1 h1 h2 g2) h3
theorem e_non : PE X (.Constant .none j0 pos) (lft X.K DI (wC .non)) := de_c (v := .non) ⟨fun _ _ _ H _ I h => by
  unfold tC at h
  exact wpAny_Constant_none ⟨.non, H, I, rfl, h⟩⟩ fun _ => .non
theorem e_tt {v : Bool} : PE X (.Constant (.bool v) j0 pos) (lft X.K DI (wC (.bl v))) := de_c (v := .bl v) ⟨fun _ _ _ H _ I h => by
  unfold tC at h
  exact wpAny_Constant_bool ⟨.bl v, H, I, rfl, h⟩⟩ fun _ => .bl v
theorem e_int {i : Int} : PE X (.Constant (.int i) j0 pos) (lft X.K DI (wC (.int i))) := de_c pe_int fun _ => .int i
theorem e_str {i : Str} : PE X (.Constant (.str i) j0 pos) (lft X.K DI (wC (.str i))) := de_c pe_str fun _ => .str i
theorem e_ty (o : Ob X DI N sc k fns cs bl fc) (T : String) (h : okB bl sc x (.type T) = true := by kernel_rfl) : PE X (.Name x pos) (lft X.K DI (wC (.ty T))) := by
  obtain ⟨h1, h2, h3, h4, h5⟩ := okB_ok o h
  exact de_c (pe_bltn (v := .ty T) h2 h1 h5 rfl h4 h3) fun _ => .ty T
theorem e_add (ha : PE X e (lft X.K DI a)) (hb : PE X e2 (lft X.K DI b)) : PE X (.BinOp e .Add e2 pos) (lft X.K DI (wOp oAdd a b)) := de_op dop_add ha hb
theorem e_sub (ha : PE X e (lft X.K DI a)) (hb : PE X e2 (lft X.K DI b)) : PE X (.BinOp e .Sub e2 pos) (lft X.K DI (wOp oSub a b)) := de_op dop_sub ha hb
theorem e_mul (ha : PE X e (lft X.K DI a)) (hb : PE X e2 (lft X.K DI b)) : PE X (.BinOp e .Mult e2 pos) (lft X.K DI (wOp oMul a b)) := de_op dop_mul ha hb
theorem e_fdiv (ha : PE X e (lft X.K DI a)) (hb : PE X e2 (lft X.K DI b)) : PE X (.BinOp e .FloorDiv e2 pos) (lft X.K DI (wOp oFdiv a b)) := de_op dop_fdiv ha hb
theorem e_mod (ha : PE X e (lft X.K DI a)) (hb : PE X e2 (lft X.K DI b)) : PE X (.BinOp e .Mod e2 pos) (lft X.K DI (wOp oMod a b)) := de_op dop_mod ha hb
theorem e_pow (ha : PE X e (lft X.K DI a)) (hb : PE X e2 (lft X.K DI b)) : PE X (.BinOp e .Pow e2 pos) (lft X.K DI (wOp oPow a b)) := de_op dop_pow ha hb
/-- the comparisons -/
structure CmpB (X : Cx) (DI : Addr → GH → Prop) (op : CmpOp) (w2 : W2) : Prop where
  r : X.A.units + 200 < cLine → OpR X (compareOp op) (lft2 X.K DI w2)
theorem c_eq : CmpB X DI .Eq oEq := ⟨fun h => dop_eq (by omega)⟩
theorem c_ne : CmpB X DI .NotEq oNe := ⟨fun h => dop_ne (by omega)⟩
theorem c_lt : CmpB X DI .Lt oLt := ⟨fun h => dop_lt⟩
theorem c_le : CmpB X DI .LtE oLe := ⟨fun h => dop_le⟩
theorem c_gt : CmpB X DI .Gt oGt := ⟨fun h => dop_gt⟩
theorem c_ge : CmpB X DI .GtE oGe := ⟨fun h => dop_ge⟩
theorem c_is : CmpB X DI .Is oIs := ⟨fun h => dop_is⟩
theorem c_isN : CmpB X DI .IsNot oIsNot := ⟨fun h => dop_isNot⟩
theorem c_in : CmpB X DI .In oIn := ⟨fun h => dop_in (by omega)⟩
theorem c_nin : CmpB X DI .NotIn oNotIn := ⟨fun h => dop_notIn (by omega)⟩
theorem e_cmp {op : CmpOp} (o : Ob X DI N sc k fns cs bl fc) (hc : CmpB X DI op w2) (ha : PE X e (lft X.K DI a)) (hb : PE X e2 (lft X.K DI b)) (h : nSet e2 = true := by kernel_rfl) : PE X (.Compare e [op] [e2] pos) (lft X.K DI (wOp w2 a b)) := de_cmp (hc.r o.u) ha hb (marks_of h)
theorem e_chain {op op' : CmpOp} (o : Ob X DI N sc k fns cs bl fc) (hc : CmpB X DI op w2) (hc' : CmpB X DI op' w3) (ha : PE X e (lft X.K DI a)) (hb : PE X e2 (lft X.K DI b)) (hd : PE X e3 (lft X.K DI c)) (h : lastMarks [op, op'] [e2, e3] = false := by kernel_rfl) : PE X (.Compare e [op, op'] [e2, e3] pos) (lft X.K DI (wChain w2 w3 a b c)) :=
  (pe_chain (hc.r o.u) (hc'.r o.u) ha hb hd h).imp fun _ _ _ q => chain_of q
theorem e_ix (o : Ob X DI N sc k fns cs bl fc) (ha : PE X e (lft X.K DI a)) (hb : PE X e2 (lft X.K DI b)) (h : nSlice e2 = true := by kernel_rfl) : PE X (.Subscript e e2 pos) (lft X.K DI (wOp oIx a b)) := de_ix (dix (by have := o.u; omega)) ha hb (plain_of h)
theorem p_none : PO X none (lftO X.K DI wNoPart) := PO.imp po_none fun σ H Q q => by
  obtain ⟨F, ρ, S, R, rel, env, w, f⟩ := q
  exact f _ _ _ w rel (.refl H)
theorem p_some (ha : PE X e (lft X.K DI a)) : PO X (some e) (lftO X.K DI (wPart a)) := PO.imp (po_some ha) fun σ H Q q => by
  obtain ⟨F, ρ, S, R, rel, env, w, f⟩ := q
  refine ⟨F, ρ, S, _, rel, env, w, fun d S' v H' q rel' k' den => ?_⟩
  split at q
  · cases den
    exact ⟨_, rfl, f _ _ _ q rel' k'⟩
  · exact q.elim
theorem e_and (ha : PE X e (lft X.K DI a)) (hb : PE X (.BoolOp .And (e2 :: rest) pos) (lft X.K DI b)) : PE X (.BoolOp .And (e :: e2 :: rest) pos) (lft X.K DI (wAndV a b)) := (pe_and ha hb).imp fun _ _ _ q => andV_of q
theorem e_or (ha : PE X e (lft X.K DI a)) (hb : PE X (.BoolOp .Or (e2 :: rest) pos) (lft X.K DI b)) : PE X (.BoolOp .Or (e :: e2 :: rest) pos) (lft X.K DI (wOrV a b)) := (pe_or ha hb).imp fun _ _ _ q => orV_of q
theorem e_one {op : BoolOp} (ha : PE X e (lft X.K DI a)) : PE X (.BoolOp op [e] pos) (lft X.K DI a) := pe_one ha
theorem e_if (hc : PT X e (lftT X.K DI ta)) (ha : PE X e2 (lft X.K DI a)) (hb : PE X e3 (lft X.K DI b)) : PE X (.IfExp e e2 e3 pos) (lft X.K DI (wIf ta a b)) := (pe_ifExp hc ha hb).imp fun _ _ _ q => if_of q
def wNotB (a : W) : W := fun ρ S Q => a ρ S fun d S1 => match d with
  | .bl c => Q (.bl (!c)) S1
  | _ => False
theorem e_not (ha : PE X e (lft X.K DI a)) : PE X (.UnaryOp .Not e pos) (lft X.K DI (wNotB a)) := (pe_not ha).imp fun σ H Q q => by
  obtain ⟨F, ρ, S, R, rel, env, w, f⟩ := q
  refine ⟨F, ρ, S, _, rel, env, w, fun d S' v H' q rel' k' den => ?_⟩
  cases d with
  | bl c => cases den; exact ⟨c, rfl, f _ _ _ _ q rel' k' (.bl _)⟩
  | _ => exact q.elim
def oNeg : W1 := fun d S Q => match d with
  | .int i => Q (.int (-i)) S
  | _ => False
theorem e_neg (ha : PE X e (lft X.K DI a)) : PE X (.UnaryOp .USub e pos) (lft X.K DI (wUn oNeg a)) := de_un (UnR.imp un_neg fun x H Q q => by
  obtain ⟨F, d, S, R, rel, den, w, f⟩ := q
  cases d with
  | int i => cases den; exact ⟨_, rfl, f _ _ _ _ w rel (.refl H) (.int _)⟩
  | _ => exact w.elim) ha
/-! ### tests -/
theorem t_cmp {op : CmpOp} (o : Ob X DI N sc k fns cs bl fc) (hc : CmpB X DI op w2) (ha : PE X e (lft X.K DI a)) (hb : PE X e2 (lft X.K DI b)) (h : nSet e2 = true := by kernel_rfl) : PT X (.Compare e [op] [e2] pos) (lftT X.K DI (wB (wOp w2 a b))) := dt_cmp (hc.r o.u) ha hb (marks_of h)
theorem t_chain {op op' : CmpOp} (o : Ob X DI N sc k fns cs bl fc) (hc : CmpB X DI op w2) (hc' : CmpB X DI op' w3) (ha : PE X e (lft X.K DI a)) (hb : PE X e2 (lft X.K DI b)) (hd : PE X e3 (lft X.K DI c)) (h : lastMarks [op, op'] [e2, e3] = false := by kernel_rfl) : PT X (.Compare e [op, op'] [e2, e3] pos) (lftT X.K DI (wB (wChain w2 w3 a b c))) :=
  (pt_chain (hc.r o.u) (hc'.r o.u) ha hb hd h).imp fun _ _ _ q => chain_of (wB_of q)
theorem t_not (ha : PT X e (lftT X.K DI ta)) : PT X (.UnaryOp .Not e pos) (lftT X.K DI (wNot ta)) := (pt_not ha).imp fun _ _ _ q => not_of q
theorem w_and1 (ha : PT X e (lftT X.K DI ta)) : PW X (.BoolOp .And [e] pos) (lftT X.K DI ta) := pw_and1 ha
theorem w_or1 (ha : PT X e (lftT X.K DI ta)) : PW X (.BoolOp .Or [e] pos) (lftT X.K DI ta) := pw_or1 ha
theorem w_and (ha : PT X e (lftT X.K DI ta)) (hb : PW X (.BoolOp .And (e2 :: rest) pos) (lftT X.K DI tb)) : PW X (.BoolOp .And (e :: e2 :: rest) pos) (lftT X.K DI (wAnd ta tb)) := (pw_and ha hb).imp fun _ _ _ q => and_of q
theorem w_or (ha : PT X e (lftT X.K DI ta)) (hb : PW X (.BoolOp .Or (e2 :: rest) pos) (lftT X.K DI tb)) : PW X (.BoolOp .Or (e :: e2 :: rest) pos) (lftT X.K DI (wOr ta tb)) := (pw_or ha hb).imp fun _ _ _ q => or_of q
theorem t_w (h : PW X e (lftT X.K DI ta)) : PT X e (lftT X.K DI ta) := h.pt
theorem t_tru (h : PE X e (lft X.K DI a)) (hn : nCtl e = true := by kernel_rfl) : PT X e (lftT X.K DI (wTru a)) := dt_tru h (true_of hn)
end
end Dv

/-! Dv11: calls, displays, comprehensions, statements, each with its one check. -/
namespace Dv
open PySem PySem.Spec L2
open PyProof.Rows hiding St

section
variable {X : Cx} {DI : Addr → GH → Prop} {N : List Str} {sc : Scope} {k : Nat} {fns : List Fn} {cs : List (Str × D)} {bl : List Str} {fc : Bool}
variable {x : Str} {pos p2 p3 : Pos} {e e2 e3 : Expr} {es rest : List Expr} {a b c : W} {wa : WA} {ta tb : WT} {w2 w3 : W2} {j0 : Nat}
/-! ### argument lists, displays, calls -/
theorem a_nil : PAn X [] (lftA X.K DI wNil) := pan_nil
theorem a_cons (ha : PE X e (lft X.K DI a)) (hr : PAn X es (lftA X.K DI wa)) (h : nStar e = true := by kernel_rfl) : PAn X (e :: es) (lftA X.K DI (wCons a wa)) := pan_cons ha hr (star_cons h)
theorem e_tup (ha : PAn X es (lftA X.K DI wa)) : PE X (.Tuple es j0 pos) (lft X.K DI (wTup wa)) := de_tup ha.pa
theorem e_lst (ha : PAn X es (lftA X.K DI wa)) : PE X (.List es pos) (lft X.K DI (wLst wa)) := de_lst ha.pa
theorem e_lstN (ha : PAn X es (lftA X.K DI wa)) : PE X (.List es pos) (lft X.K DI (wLstN wa)) := de_lstN ha.pa
theorem e_slice {lo hi : Option Expr} {wl wh : WO} (he : PE X e (lft X.K DI a)) (hl : PO X lo (lftO X.K DI wl)) (hh : PO X hi (lftO X.K DI wh)) : PE X (.Subscript e (.Slice lo hi none p2) pos) (lft X.K DI (wSlice a wl wh)) := de_slice he hl hh
def okC (fns : List Fn) (sc : Scope) (j : Nat) (x : Str) (n : Nat) : Bool := decide (j < fns.length) && (decide ((fnAt fns j).name = x) && (isG sc x && decide (n = (fnAt fns j).n)))
theorem e_call (o : Ob X DI N sc k fns cs bl fc) (j : Nat) (ha : PAn X (e :: es) (lftA X.K DI wa)) (h : (okC fns sc j x (es.length + 1) && ((e :: es).all nStar)) = true := by kernel_rfl) : PE X (.Call (.Name x p2) (e :: es) [] pos) (lft X.K DI (wCall (fnAt fns j).sp wa)) := by
  unfold okC at h
  simp only [Bool.and_eq_true, decide_eq_true_eq] at h
  obtain ⟨⟨h1, h2, h3, h4⟩, h5⟩ := h
  rw [List.all_cons, Bool.and_eq_true] at h5
  subst h2
  obtain ⟨g1, g2⟩ := gl_of o h3
  exact de_call (o.hF j h1) o.hr o.hg g1 ha h4 g2 (star_cons h5.1) (star_pl h5.2)
theorem e_call0 (o : Ob X DI N sc k fns cs bl fc) (j : Nat) (h : okC fns sc j x 0 = true := by kernel_rfl) : PE X (.Call (.Name x p2) [] [] pos) (lft X.K DI (wCall (fnAt fns j).sp wNil)) := by
  unfold okC at h
  simp only [Bool.and_eq_true, decide_eq_true_eq] at h
  obtain ⟨h1, h2, h3, h4⟩ := h
  subst h2
  obtain ⟨g1, g2⟩ := gl_of o h3
  exact de_call0 (o.hF j h1) o.hr o.hg g1 h4 g2
theorem k_nil : PKn X [] (lftA X.K DI wNil) := pkn_nil
theorem k_cons {nm : Option Str} {kpos : Pos} {kws : List Keyword} (ha : PE X e (lft X.K DI a)) (hr : PKn X kws (lftA X.K DI wa)) : PKn X (⟨nm, e, kpos⟩ :: kws) (lftA X.K DI (wCons a wa)) := pkn_cons ha hr
def kwNm : Keyword → Option Str
  | ⟨n, _, _⟩ => n
theorem kw_map {pos : Pos} {env : PySem.Env} : ∀ kws : List Keyword, (backToKw pos (keywordEach kws env)).map (·.1) = kws.map kwNm
  | [] => rfl
  | ⟨n, e, p⟩ :: r => by
    have := kw_map (pos := pos) (env := env) r
    show n :: (backToKw pos (keywordEach r env)).map (·.1) = n :: r.map kwNm
    rw [this]
def okK (fns : List Fn) (sc : Scope) (j : Nat) (x : Str) (kws : List Keyword) (ks : List Str) (is : List Nat) : Bool :=
  decide (j < fns.length) && (decide ((fnAt fns j).name = x) && (isG sc x && (decide ((pick (List.range kws.length) is).length = (fnAt fns j).n) && (decide ((0, ks, is) ∈ (fnAt fns j).kws) && ((kws.map kwNm).all (·.isSome) && (decide ((kws.map kwNm).filterMap id = ks) && decide (ks.length = kws.length)))))))
theorem e_callK {kws : List Keyword} (o : Ob X DI N sc k fns cs bl fc) (j : Nat) (ks : List Str) (is : List Nat) (ha : PKn X kws (lftA X.K DI wa)) (h : okK fns sc j x kws ks is = true := by kernel_rfl) : PE X (.Call (.Name x p2) [] kws pos) (lft X.K DI (wCallK (fnAt fns j).sp is wa)) := by
  unfold okK at h
  simp only [Bool.and_eq_true, decide_eq_true_eq] at h
  obtain ⟨h1, h2, h3, h4, h5, h6, h7, h8⟩ := h
  subst h2
  obtain ⟨g1, g2⟩ := gl_of o h3
  have m := kw_map (pos := pos) (env := X.env) kws
  have e1 : (backToKw pos (keywordEach kws X.env)).all (·.1.isSome) = true := by
    rw [← m, List.all_map] at h6
    exact h6
  refine de_callK (o.hF j h1) h5 o.hr o.hg g1 ha h4 g2 e1 ?_ h8 ?_
  · rw [← h7, ← m, List.filterMap_map]
    rfl
  · show (false || _) = false
    rw [Bool.false_or]
    rw [Bool.eq_false_iff]
    intro z
    rw [List.any_eq_true] at z
    rw [List.all_eq_true] at e1
    obtain ⟨y, hy, z⟩ := z
    have := e1 y hy
    cases q : y.1 <;> simp [q] at z this
theorem e_callB (o : Ob X DI N sc k fns cs bl fc) (id : String) {f : WF} (hc : CallR X (.builtin id) (lftF X.K DI f)) (ha : PAn X (e :: es) (lftA X.K DI wa)) (h : (okB bl sc x (.builtin id) && ((e :: es).all nStar)) = true := by kernel_rfl) : PE X (.Call (.Name x p2) (e :: es) [] pos) (lft X.K DI (wCall f wa)) := by
  rw [Bool.and_eq_true, List.all_cons, Bool.and_eq_true] at h
  obtain ⟨h1, h2, h3, h4, h5⟩ := okB_ok o h.1
  exact de_callB hc h2 h1 h5 ha.pa h4 h3 (star_cons h.2.1) (star_pl h.2.2)
theorem e_callT (o : Ob X DI N sc k fns cs bl fc) (id : String) {f : WF} (hc : CallR X (.type id) (lftF X.K DI f)) (ha : PAn X (e :: es) (lftA X.K DI wa)) (h : (okB bl sc x (.type id) && ((e :: es).all nStar)) = true := by kernel_rfl) : PE X (.Call (.Name x p2) (e :: es) [] pos) (lft X.K DI (wCall f wa)) := by
  rw [Bool.and_eq_true, List.all_cons, Bool.and_eq_true] at h
  obtain ⟨h1, h2, h3, h4, h5⟩ := okB_ok o h.1
  exact de_callT hc h2 h1 h5 ha.pa h4 h3 (star_cons h.2.1) (star_pl h.2.2)
theorem e_len (o : Ob X DI N sc k fns cs bl fc) (ha : PAn X (e :: es) (lftA X.K DI wa)) (h : (okB bl sc x (.builtin "len") && ((e :: es).all nStar)) = true := by kernel_rfl) : PE X (.Call (.Name x p2) (e :: es) [] pos) (lft X.K DI (wCall fLen wa)) := e_callB o "len" dc_len ha h
theorem e_repr (o : Ob X DI N sc k fns cs bl fc) (ha : PAn X (e :: es) (lftA X.K DI wa)) (h : (okB bl sc x (.builtin "repr") && ((e :: es).all nStar)) = true := by kernel_rfl) : PE X (.Call (.Name x p2) (e :: es) [] pos) (lft X.K DI (wCall fRepr wa)) := e_callB o "repr" (dc_repr o.hg (by have := o.u; omega)) ha h
theorem e_abs (o : Ob X DI N sc k fns cs bl fc) (ha : PAn X (e :: es) (lftA X.K DI wa)) (h : (okB bl sc x (.builtin "abs") && ((e :: es).all nStar)) = true := by kernel_rfl) : PE X (.Call (.Name x p2) (e :: es) [] pos) (lft X.K DI (wCall fAbs wa)) := e_callB o "abs" dc_abs ha h
theorem e_isi (o : Ob X DI N sc k fns cs bl fc) (ha : PAn X (e :: es) (lftA X.K DI wa)) (h : (okB bl sc x (.builtin "isinstance") && ((e :: es).all nStar)) = true := by kernel_rfl) : PE X (.Call (.Name x p2) (e :: es) [] pos) (lft X.K DI (wCall fIsi wa)) := e_callB o "isinstance" dc_isi ha h
theorem e_all (o : Ob X DI N sc k fns cs bl fc) (ha : PAn X (e :: es) (lftA X.K DI wa)) (h : (okB bl sc x (.builtin "all") && ((e :: es).all nStar)) = true := by kernel_rfl) : PE X (.Call (.Name x p2) (e :: es) [] pos) (lft X.K DI (wCall fAll wa)) := e_callB o "all" (dc_all o.hc) ha h
theorem e_any (o : Ob X DI N sc k fns cs bl fc) (ha : PAn X (e :: es) (lftA X.K DI wa)) (h : (okB bl sc x (.builtin "any") && ((e :: es).all nStar)) = true := by kernel_rfl) : PE X (.Call (.Name x p2) (e :: es) [] pos) (lft X.K DI (wCall fAny wa)) := e_callB o "any" (dc_any o.hc) ha h
theorem e_max (o : Ob X DI N sc k fns cs bl fc) (ha : PAn X (e :: es) (lftA X.K DI wa)) (h : (okB bl sc x (.builtin "max") && ((e :: es).all nStar)) = true := by kernel_rfl) : PE X (.Call (.Name x p2) (e :: es) [] pos) (lft X.K DI (wCall fMax wa)) := e_callB o "max" (dc_max o.hc) ha h
theorem e_min (o : Ob X DI N sc k fns cs bl fc) (ha : PAn X (e :: es) (lftA X.K DI wa)) (h : (okB bl sc x (.builtin "min") && ((e :: es).all nStar)) = true := by kernel_rfl) : PE X (.Call (.Name x p2) (e :: es) [] pos) (lft X.K DI (wCall fMin wa)) := e_callB o "min" (dc_min o.hc) ha h
theorem e_toInt (o : Ob X DI N sc k fns cs bl fc) (ha : PAn X (e :: es) (lftA X.K DI wa)) (h : (okB bl sc x (.type "int") && ((e :: es).all nStar)) = true := by kernel_rfl) : PE X (.Call (.Name x p2) (e :: es) [] pos) (lft X.K DI (wCall fInt wa)) := e_callT o "int" dc_int ha h
theorem e_toList (o : Ob X DI N sc k fns cs bl fc) (ha : PAn X (e :: es) (lftA X.K DI wa)) (h : (okB bl sc x (.type "list") && ((e :: es).all nStar)) = true := by kernel_rfl) : PE X (.Call (.Name x p2) (e :: es) [] pos) (lft X.K DI (wCall fList wa)) := e_callT o "list" dc_list ha h
theorem e_toListN (o : Ob X DI N sc k fns cs bl fc) (ha : PAn X (e :: es) (lftA X.K DI wa)) (h : (okB bl sc x (.type "list") && ((e :: es).all nStar)) = true := by kernel_rfl) : PE X (.Call (.Name x p2) (e :: es) [] pos) (lft X.K DI (wCall fListN wa)) := e_callT o "list" dc_listN ha h
theorem e_toTup (o : Ob X DI N sc k fns cs bl fc) (ha : PAn X (e :: es) (lftA X.K DI wa)) (h : (okB bl sc x (.type "tuple") && ((e :: es).all nStar)) = true := by kernel_rfl) : PE X (.Call (.Name x p2) (e :: es) [] pos) (lft X.K DI (wCall fTuple wa)) := e_callT o "tuple" dc_tuple ha h
/-! ### targets -/
section
variable {g : WG} {gr : WGs}
theorem g_name (o : Ob X DI N sc k fns cs bl fc) (i : Nat) (h : okT fc N sc i x = true := by kernel_rfl) : PG X (.Name x pos) (lftG X.K DI (gN i)) := by
  unfold okT at h
  simp only [Bool.and_eq_true, decide_eq_true_eq] at h
  obtain ⟨l1, l2⟩ := loc_of o h.2
  exact dg_name (by rw [o.hN]; exact o.nd) (by rw [o.hN]; exact h.1) l1 l2
theorem g_nil : PGs X [] (lftGs X.K DI gsNil) := dgs_nil
theorem g_cons (h1 : PG X e (lftG X.K DI g)) (h2 : PGs X es (lftGs X.K DI gr)) (h : nStar e = true := by kernel_rfl) : PGs X (e :: es) (lftGs X.K DI (gsCons g gr)) := dgs_cons h1 h2 (tg_map h)
theorem g_tup (o : Ob X DI N sc k fns cs bl fc) (n : Nat) (h : PGs X es (lftGs X.K DI gr)) (hn : (decide (es.length = n) && es.all nStar) = true := by kernel_rfl) : PG X (.Tuple es j0 pos) (lftG X.K DI (gT n gr)) := by
  simp only [Bool.and_eq_true, decide_eq_true_eq] at hn
  exact dg_tup o.hc h (by rw [tg_len hn.2]; exact hn.1) (tg_find hn.2)
theorem sub_eq {o i : Expr} {pos : Pos} {env : PySem.Env} (h : nSlice i = true) (v : Value) : assign (.Subscript o i pos) env v = (do
      let ov ← holding [v] (eval o env)
      let iv ← holding [v, ov] (eval i env)
      standAt pos
      holding [v, ov, iv] (setItem ov iv v)
      release [v, ov, iv] []) := by
  cases i <;> first | rfl | exact absurd h Bool.false_ne_true
theorem g_sub (o : Ob X DI N sc k fns cs bl fc) (ha : PE X e (lft X.K DI a)) (hb : PE X e2 (lft X.K DI b)) (h : nSlice e2 = true := by kernel_rfl) : PG X (.Subscript e e2 pos) (lftG X.K DI (gS a b)) :=
  dg_sub (by have := o.u; omega) ha hb (fun v => sub_eq h v)
end
/-! ### what is walked -/
section
variable {tg : Expr} {own : List (Str × Nat)} {scope : Scope} {wi : WI} {g : WG} {gr : WGs} {ifs : List Expr}
theorem i_seq (ha : PE X e (lft X.K DI a)) : PI X tg e (lftI X.K DI (wiSeq a)) := di_seq ha
theorem i_rg1 (o : Ob X DI N sc k fns cs bl fc) (ha : PE X e (lft X.K DI a)) (h : (okB bl sc "range" (.type "range") && nStar e) = true := by kernel_rfl) : PI X tg (.Call (.Name "range" p2) [e] [] pos) (lftI X.K DI (wiRg1 a)) := by
  rw [Bool.and_eq_true] at h
  obtain ⟨h1, h2, h3, h4, h5⟩ := okB_ok o h.1
  exact di_rg1 h2 h1 ha (star_cons h.2)
theorem i_rg2 (o : Ob X DI N sc k fns cs bl fc) (ha : PE X e (lft X.K DI a)) (hb : PE X e2 (lft X.K DI b)) (h : (okB bl sc "range" (.type "range") && (nStar e && nStar e2)) = true := by kernel_rfl) : PI X tg (.Call (.Name "range" p2) [e, e2] [] pos) (lftI X.K DI (wiRg2 a b)) := by
  rw [Bool.and_eq_true, Bool.and_eq_true] at h
  obtain ⟨h1, h2, h3, h4, h5⟩ := okB_ok o h.1
  exact di_rg2 h2 h1 ha hb (by rw [star_cons h.2.1, star_cons h.2.2]; rfl) (star_cons h.2.2)
/-! ### comprehensions -/
theorem Ob.blk (o : Ob X DI N sc k fns cs bl fc) (hk : scope.kind = .function) (s : Shared) (H : Hp) (C : Addr) (cl : List (Str × Addr)) (fp : List Addr) : Ob (X.blk s H scope (compEnvC scope cl C X.env) fp) DI N (relS scope sc) k fns cs bl false where
  nd := o.nd
  hN := o.hN
  hsc := by
    show relabel scope X.env = relS scope sc
    rw [← o.hsc]; rfl
  knd := hk
  hc := o.hc
  hr := o.hr
  hg := o.hg
  hF := o.hF
  hk := o.hk
  hb := o.hb
  fnT := fun z => by cases z
  xeF := fun z => by cases z
/-- a target of a comprehension -/
structure CG (K : PySem.W.Frag) (DI : Addr → GH → Prop) (N : List Str) (sc : Scope) (k : Nat) (fns : List Fn) (cs : List (Str × D)) (bl : List Str) (tg : Expr) (vs : List Nat) (t : TG) (g : WG) : Prop where
  pg : ∀ Y : Cx, Y.K = K → Ob Y DI N sc k fns cs bl false → PG Y tg t
  gok : GOk K DI vs t g
structure CGs (K : PySem.W.Frag) (DI : Addr → GH → Prop) (N : List Str) (sc : Scope) (k : Nat) (fns : List Fn) (cs : List (Str × D)) (bl : List Str) (tg : List Expr) (vs : List Nat) (t : TGs) (g : WGs) : Prop where
  pg : ∀ Y : Cx, Y.K = K → Ob Y DI N sc k fns cs bl false → PGs Y tg t
  gok : GsOk K DI vs t g
theorem cg_name {K : PySem.W.Frag} {vs : List Nat} (i : Nat) (h : (okT false N sc i x && vs.contains i) = true := by kernel_rfl) : CG K DI N sc k fns cs bl (.Name x pos) vs (gName i) (gN i) := by
  unfold okT at h
  simp only [Bool.and_eq_true, decide_eq_true_eq] at h
  refine ⟨fun Y _ o => ?_, gok_name (by simpa using h.2)⟩
  obtain ⟨l1, l2⟩ := loc_of o h.1.2
  exact pg_name (by rw [o.hN]; exact o.nd) (by rw [o.hN]; exact h.1.1) l1 l2
theorem cg_nil {K : PySem.W.Frag} {vs : List Nat} : CGs K DI N sc k fns cs bl [] vs gNil gsNil := ⟨fun _ _ _ => pgs_nil, gsok_nil⟩
theorem cg_cons {K : PySem.W.Frag} {vs : List Nat} {t : TG} {ts : TGs} (h1 : CG K DI N sc k fns cs bl e vs t g) (h2 : CGs K DI N sc k fns cs bl es vs ts gr) (h : nStar e = true := by kernel_rfl) : CGs K DI N sc k fns cs bl (e :: es) vs (gCons t ts) (gsCons g gr) :=
  ⟨fun Y hK o => pgs_cons (h1.pg Y hK o) (h2.pg Y hK o) (tg_map h), gsok_cons h1.gok h2.gok⟩
theorem cg_tup {K : PySem.W.Frag} {vs : List Nat} {ts : TGs} (n : Nat) (h : CGs K DI N sc k fns cs bl es vs ts gr) (hn : (decide (es.length = n) && es.all nStar) = true := by kernel_rfl) : CG K DI N sc k fns cs bl (.Tuple es j0 pos) vs (gTup K n ts) (gT n gr) := by
  simp only [Bool.and_eq_true, decide_eq_true_eq] at hn
  refine ⟨fun Y hK o => ?_, gok_tup h.gok⟩
  subst hK
  exact pg_tup o.hc (h.pg Y rfl o) (by rw [tg_len hn.2]; exact hn.1) (tg_find hn.2)
theorem l_nil : PTs X [] (lftT X.K DI wYes) := dts_nil
theorem l_one (h : PT X e (lftT X.K DI ta)) : PTs X [e] (lftT X.K DI ta) := dts_one h
variable {t : TG}
theorem lc_txt (o : Ob X DI N sc k fns cs bl fc) (hi : PI X tg e (lftI X.K DI wi)) (hg : CG X.K DI N (relS scope sc) k fns cs bl tg (own.map (·.2)) t g) (ht : ∀ Y : Cx, Y.K = X.K → Ob Y DI N (relS scope sc) k fns cs bl false → PTs Y ifs (lftT Y.K DI ta))
    (he : ∀ Y : Cx, Y.K = X.K → Ob Y DI N (relS scope sc) k fns cs bl false → PE Y e2 (lft Y.K DI a)) (h : (blkC N sc scope own && nSet e) = true) : LcTxt X tg e e2 ifs scope own DI wi t g ta a := by
  rw [Bool.and_eq_true] at h
  have B := blkOk_by h.1
  exact ⟨o.hc, by rw [o.hN]; exact o.nd, hi, by rw [o.hN, o.hsc]; exact B, fun s H C cl fp => hg.pg _ rfl (o.blk B.kind s H C cl fp), hg.gok, fun s H C cl fp => ht _ rfl (o.blk B.kind s H C cl fp), fun s H C cl fp => he _ rfl (o.blk B.kind s H C cl fp), fold_of h.2⟩
theorem e_lc (o : Ob X DI N sc k fns cs bl fc) (own : List (Str × Nat)) (hi : PI X tg e (lftI X.K DI wi)) (hg : CG X.K DI N (relS scope sc) k fns cs bl tg (own.map (·.2)) t g) (ht : ∀ Y : Cx, Y.K = X.K → Ob Y DI N (relS scope sc) k fns cs bl false → PTs Y ifs (lftT Y.K DI ta))
    (he : ∀ Y : Cx, Y.K = X.K → Ob Y DI N (relS scope sc) k fns cs bl false → PE Y e2 (lft Y.K DI a)) (h : (blkC N sc scope own && nSet e) = true := by kernel_rfl) : PE X (.ListComp e2 [⟨tg, e, ifs, 0⟩] scope pos) (lft X.K DI (wLc wi g ta a (own.map (·.2)))) := de_lc (lc_txt o hi hg ht he h)
theorem e_lcN (o : Ob X DI N sc k fns cs bl fc) (own : List (Str × Nat)) (hi : PI X tg e (lftI X.K DI wi)) (hg : CG X.K DI N (relS scope sc) k fns cs bl tg (own.map (·.2)) t g) (ht : ∀ Y : Cx, Y.K = X.K → Ob Y DI N (relS scope sc) k fns cs bl false → PTs Y ifs (lftT Y.K DI ta))
    (he : ∀ Y : Cx, Y.K = X.K → Ob Y DI N (relS scope sc) k fns cs bl false → PE Y e2 (lft Y.K DI a)) (h : (blkC N sc scope own && nSet e) = true := by kernel_rfl) : PE X (.ListComp e2 [⟨tg, e, ifs, 0⟩] scope pos) (lft X.K DI (wLcN wi g ta a (own.map (·.2)))) := de_lcN (lc_txt o hi hg ht he h)
def okS (N : List Str) (sc scope : Scope) (i : Nat) (y : Str) (py lpos : Pos) : Bool := decide (N[i]? = some y) && (decide (sc.names.lookup y = some .local) && (py.line == lpos.line && !(scope.names.any fun (n, k) => n == y && (k == .local || k == .cell))))
theorem okS_ok {i : Nat} {y : Str} {py lpos : Pos} {gens : List Comprehension} {l : Nat} (o : Ob X DI N sc k fns cs bl fc) (h : okS N sc scope i y py lpos = true) : X.N[i]? = some y ∧ X.env.scope.names.lookup y = some .local ∧ swapsWith (.ListComp e2 gens scope lpos) (some (.Name y py)) l X.env = pure true := by
  unfold okS at h
  simp only [Bool.and_eq_true, decide_eq_true_eq] at h
  obtain ⟨h1, h2, h3, h4⟩ := h
  refine ⟨by rw [o.hN]; exact h1, by rw [o.hsc]; exact h2, ?_⟩
  show pure _ = _
  have b1 : (X.env.blockKind == .function) = true := by
    unfold PySem.Env.blockKind
    rw [o.hsc, o.knd]
    rfl
  have b2 : (X.env.kindOf y == some .local) = true := by
    show (X.env.scope.names.lookup y == some .local) = true
    rw [o.hsc, h2]
    rfl
  rw [b1, b2]
  show pure ((py.line == lpos.line) && _) = _
  rw [h3, h4]
  rfl
theorem s_lc {y : Str} {py : Pos} (o : Ob X DI N sc k fns cs bl fc) (i : Nat) (own : List (Str × Nat)) (hi : PI X tg e (lftI X.K DI wi)) (hg : CG X.K DI N (relS scope sc) k fns cs bl tg (own.map (·.2)) t g) (ht : ∀ Y : Cx, Y.K = X.K → Ob Y DI N (relS scope sc) k fns cs bl false → PTs Y ifs (lftT Y.K DI ta))
    (he : ∀ Y : Cx, Y.K = X.K → Ob Y DI N (relS scope sc) k fns cs bl false → PE Y e2 (lft Y.K DI a)) (h : (blkC N sc scope own && nSet e) = true := by kernel_rfl) (h2 : okS N sc scope i y py p2 = true := by kernel_rfl) : PS X (.Assign [.Name y py] (.ListComp e2 [⟨tg, e, ifs, 0⟩] scope p2) pos) (lftS X.K DI (wAsg (wLc wi g ta a (own.map (·.2))) (gN i))) := by
  obtain ⟨h3, h4, h5⟩ := okS_ok (e2 := e2) (gens := [⟨tg, e, ifs, 0⟩]) (l := pos.line) o h2
  exact ds_setLc h3 h4 h5 (lc_txt o hi hg ht he h)
theorem s_lcN {y : Str} {py : Pos} (o : Ob X DI N sc k fns cs bl fc) (i : Nat) (own : List (Str × Nat)) (hi : PI X tg e (lftI X.K DI wi)) (hg : CG X.K DI N (relS scope sc) k fns cs bl tg (own.map (·.2)) t g) (ht : ∀ Y : Cx, Y.K = X.K → Ob Y DI N (relS scope sc) k fns cs bl false → PTs Y ifs (lftT Y.K DI ta))
    (he : ∀ Y : Cx, Y.K = X.K → Ob Y DI N (relS scope sc) k fns cs bl false → PE Y e2 (lft Y.K DI a)) (h : (blkC N sc scope own && nSet e) = true := by kernel_rfl) (h2 : okS N sc scope i y py p2 = true := by kernel_rfl) : PS X (.Assign [.Name y py] (.ListComp e2 [⟨tg, e, ifs, 0⟩] scope p2) pos) (lftS X.K DI (wAsg (wLcN wi g ta a (own.map (·.2))) (gN i))) := by
  obtain ⟨h3, h4, h5⟩ := okS_ok (e2 := e2) (gens := [⟨tg, e, ifs, 0⟩]) (l := pos.line) o h2
  exact ds_setLcN h3 h4 h5 (lc_txt o hi hg ht he h)
end
/-! ### statements -/
section
variable {st : Stmt} {sts b1 b2 : List Stmt} {wa1 wb1 : WS} {g : WG} {tg : Expr} {wi : WI}
theorem s_nil : PSs X [] (lftS X.K DI wSkip) := dss_nil
theorem s_cons (ha : PS X st (lftS X.K DI wa1)) (hb : PSs X sts (lftS X.K DI wb1)) : PSs X (st :: sts) (lftS X.K DI (wSeq wa1 wb1)) := dss_cons ha hb
theorem s_ret (h : PE X e (lft X.K DI a)) : PS X (.Return (some e) pos) (lftS X.K DI (wRet a)) := ds_ret h
theorem s_retN : PS X (.Return none pos) (lftS X.K DI wRetN) := ds_retN
theorem s_expr (h : PE X e (lft X.K DI a)) (hs : nComp e = true := by kernel_rfl) : PS X (.Expr e pos) (lftS X.K DI (wExpr a)) := ds_expr h (swap_of hs)
theorem s_if (hc : PT X e (lftT X.K DI ta)) (ha : PSs X b1 (lftS X.K DI wa1)) (hb : PSs X b2 (lftS X.K DI wb1)) : PS X (.If e b1 b2 pos) (lftS X.K DI (wIfS ta wa1 wb1)) := ds_if hc ha hb
theorem s_asg (he : PE X e (lft X.K DI a)) (hg : PG X tg (lftG X.K DI g)) (h : (nComp e && (nStar tg && (nTup e || nTup1 tg))) = true := by kernel_rfl) : PS X (.Assign [tg] e pos) (lftS X.K DI (wAsg a g)) := by
  simp only [Bool.and_eq_true] at h
  exact ds_asg he hg (swapS_of h.1) (swp_no h.2.2) (tg_map h.2.1)
theorem s_set (o : Ob X DI N sc k fns cs bl fc) (i : Nat) (he : PE X e (lft X.K DI a)) (h : (okT fc N sc i x && nComp e) = true := by kernel_rfl) : PS X (.Assign [.Name x p2] e pos) (lftS X.K DI (wAsg a (gN i))) := by
  unfold okT at h
  simp only [Bool.and_eq_true, decide_eq_true_eq] at h
  obtain ⟨l1, l2⟩ := loc_of o h.1.2
  exact ds_set (by rw [o.hN]; exact o.nd) (by rw [o.hN]; exact h.1.1) l1 he (swap_of h.2) l2
/-- (a, b) = (constants) and its like -/
theorem s_asgT {ts vs : List Expr} {k1 k2 : Nat} {q1 q2 : Pos} (o : Ob X DI N sc k fns cs bl fc) (he : PE X (.Tuple vs k2 q2) (lft X.K DI a)) (hg : PG X (.Tuple ts k1 q1) (lftG X.K DI g)) (h : decide (swp sc ts vs = some none) = true := by kernel_rfl) : PS X (.Assign [.Tuple ts k1 q1] (.Tuple vs k2 q2) pos) (lftS X.K DI (wAsg a g)) :=
  ds_asg he hg rfl (swp_ok o.hsc o.knd (of_decide_eq_true h)) rfl
theorem s_par {x y : Str} {px py q1 q2 : Pos} {k1 k2 : Nat} (o : Ob X DI N sc k fns cs bl fc) (i j : Nat) (ha : PAn X [e, e2] (lftA X.K DI wa)) (h : (decide (N[i]? = some x) && (decide (N[j]? = some y) && (decide (i ≠ j) && (decide (sc.names.lookup x = some .local) && (decide (sc.names.lookup y = some .local) && decide (swp sc [.Name x px, .Name y py] [e, e2] = some (some [x, y]))))))) = true := by kernel_rfl) :
    PS X (.Assign [.Tuple [.Name x px, .Name y py] k1 q1] (.Tuple [e, e2] k2 q2) pos) (lftS X.K DI (wPar i j wa)) := by
  simp only [Bool.and_eq_true, decide_eq_true_eq] at h
  obtain ⟨h1, h2, h3, h4, h5, h6⟩ := h
  exact ds_par o.hc (by rw [o.hN]; exact o.nd) (by rw [o.hN]; exact h1) (by rw [o.hN]; exact h2) h3 (by rw [o.hsc]; exact h4) (by rw [o.hsc]; exact h5) ha.pa (swp_ok o.hsc o.knd h6) rfl
theorem s_par3 {x y z : Str} {px py pz q1 q2 : Pos} {k1 k2 : Nat} (o : Ob X DI N sc k fns cs bl fc) (i j l : Nat) (ha : PAn X [e, e2, e3] (lftA X.K DI wa)) (h : (decide (N[i]? = some x) && (decide (N[j]? = some y) && (decide (N[l]? = some z) && (decide (i ≠ j) && (decide (i ≠ l) && (decide (j ≠ l) && (decide (sc.names.lookup x = some .local) && (decide (sc.names.lookup y = some .local) && (decide (sc.names.lookup z = some .local) && decide (swp sc [.Name x px, .Name y py, .Name z pz] [e, e2, e3] = some (some [x, y, z]))))))))))) = true := by kernel_rfl) :
    PS X (.Assign [.Tuple [.Name x px, .Name y py, .Name z pz] k1 q1] (.Tuple [e, e2, e3] k2 q2) pos) (lftS X.K DI (wPar3 i j l wa)) := by
  simp only [Bool.and_eq_true, decide_eq_true_eq] at h
  obtain ⟨h1, h2, h3, h4, h5, h6, h7, h8, h9, h10⟩ := h
  exact ds_par3 o.hc (by rw [o.hN]; exact o.nd) (by rw [o.hN]; exact h1) (by rw [o.hN]; exact h2) (by rw [o.hN]; exact h3) h4 h5 h6 (by rw [o.hsc]; exact h7) (by rw [o.hsc]; exact h8) (by rw [o.hsc]; exact h9) ha.pa (swp_ok o.hsc o.knd h10) rfl
theorem s_while (o : Ob X DI N sc k fns cs bl true) (hc : PT X e (lftT X.K DI ta)) (hb : PSs X b1 (lftS X.K DI wa1)) : PS X (.While e b1 [] pos) (lftS X.K DI (wWhile ta wa1)) := ds_while (by rw [o.xeF rfl]; exact PassesOwn.never) hc hb
theorem s_for (o : Ob X DI N sc k fns cs bl true) (hi : PI X tg e (lftI X.K DI wi)) (hg : PG X tg (lftG X.K DI g)) (hb : PSs X b1 (lftS X.K DI wa1)) (h : nSet e = true := by kernel_rfl) : PS X (.For tg e b1 [] pos) (lftS X.K DI (wFor wi g wa1)) := ds_for (by rw [o.xeF rfl]; exact PassesOwn.never) o.hc hi hg hb (fold_of h)
theorem s_frz (i : Nat) (h : PS X st (lftS X.K DI wa1)) : PS X st (lftS X.K DI (wFrz i wa1)) := ds_frz h
end
end
end Dv

/-! Dv12: methods of lists and texts, displays of dicts, enumerate. -/
namespace Dv
open PySem PySem.Spec L2
open PyProof.Rows hiding St

section
variable {X : Cx} {DI : Addr → GH → Prop} {N : List Str} {sc : Scope} {k : Nat} {fns : List Fn} {cs : List (Str × D)} {bl : List Str} {fc : Bool}
variable {x : Str} {pos apos p2 p3 : Pos} {e e2 e3 : Expr} {es rest : List Expr} {a b c : W} {wa : WA} {ta tb : WT} {w2 w3 : W2} {j0 : Nat}
/-! ### methods -/
def isLs (S : GS) : D → Bool
  | .lst _ => true
  | .ref p => match S.g p with
    | some (.lst _) => true
    | _ => false
  | _ => false
theorem isLs_ok {K : PySem.W.Frag} {F H : Hp} {S : GS} {d : D} {v : V} (rel : Rel K DI F S H) (den : Den K H d v) (h : isLs S d = true) : tyV K "list" v H := by
  cases den with
  | lst h1 h2 => exact .inl ⟨rfl, _, .inl (.inr ⟨_, h1⟩)⟩
  | ref p =>
    unfold isLs at h
    simp only at h
    split at h
    · rename_i es q
      obtain ⟨vs, e1, e2⟩ := rel.rep p _ q
      exact .inl ⟨rfl, vs, .inl (.inl e1)⟩
    · cases h
  | _ => cases h
def wMl (f : D → WF) (a : W) (as : WA) : W := fun ρ S Q => a ρ S fun d S1 => isLs S1 d = true ∧ as ρ S1 fun ds S2 => f d ds S2 Q
theorem ml_of {f : D → WF} {σ : L2.St} {H : Hp} {Q : VK} (h : lft X.K DI (wMl f a wa) σ H Q) : tBM X.K "list" (lftM X.K DI f) (lft X.K DI a) (lftA X.K DI wa) σ H Q := by
  obtain ⟨F, ρ, S, R, rel, env, w, fin⟩ := h
  refine ⟨F, ρ, S, _, rel, env, w, fun d S1 v H1 q1 rel1 k1 d1 => ⟨isLs_ok rel1 d1 q1.1, ?_⟩⟩
  exact ⟨F, ρ, S1, _, rel1, env.mn k1, q1.2, fun ds S2 vs H2 q2 rel2 k2 d2 => ⟨F, d, ds, S2, R, rel2, d1.mn k2, d2, q2, fin.up (k1.trans k2)⟩⟩
theorem few_of {pos : Pos} {env : PySem.Env} {es : List Expr} (h : (es.all nStar && decide (es.length < 30)) = true) : ((backTo pos (starEach es env)).all (fun x => !x.1) && (backToKw pos (keywordEach [] env)).all (fun x => x.1.isSome)
      && decide (es.length + ([] : List Keyword).length + (if ([] : List Keyword).isEmpty then 0 else 1) < 30)) = true := by
  rw [Bool.and_eq_true] at h
  rw [star_all h.1]
  exact h.2
theorem m_list {name : Str} {id : String} {f : D → WF} (slot : Slot "list" name id) (hty : typeOf (.builtin id) = pure (.type "method_descriptor")) (hm : MtR X id (lftM X.K DI f)) (ho : PE X e (lft X.K DI a)) (ha : PAn X (e2 :: es) (lftA X.K DI wa))
    (h : (nBase e && ((apos.endLine == pos.line) && ((e2 :: es).all nStar && decide ((e2 :: es).length < 30)))) = true) : PE X (.Call (.Attribute e name apos) (e2 :: es) [] pos) (lft X.K DI (wMl f a wa)) := by
  simp only [Bool.and_eq_true] at h
  obtain ⟨h1, h2, h3, h4⟩ := h
  have h3' := h3
  rw [List.all_cons, Bool.and_eq_true] at h3'
  exact (pe_bm PySem.F.plainAttrs_list slot hty hm ho ha.pa (base_of h1) (few_of (by rw [h3, h4]; rfl)) h2 (star_cons h3'.1) (star_pl h3'.2)).imp fun _ _ _ q => ml_of q
theorem m_list0 {name : Str} {id : String} {f : D → WF} (slot : Slot "list" name id) (hty : typeOf (.builtin id) = pure (.type "method_descriptor")) (hm : MtR X id (lftM X.K DI f)) (ho : PE X e (lft X.K DI a))
    (h : (nBase e && (apos.endLine == pos.line)) = true) : PE X (.Call (.Attribute e name apos) [] [] pos) (lft X.K DI (wMl f a wNil)) := by
  simp only [Bool.and_eq_true] at h
  obtain ⟨h1, h2⟩ := h
  exact (pe_bm0 PySem.F.plainAttrs_list slot hty hm ho (base_of h1) h2).imp fun σ H Q q => by
    obtain ⟨F, ρ, S, R, rel, env, w, fin⟩ := q
    exact ⟨F, ρ, S, _, rel, env, w, fun d S1 v H1 q1 rel1 k1 d1 => ⟨isLs_ok rel1 d1 q1.1, F, d, [], S1, R, rel1, d1, .nil, q1.2, fin.up k1⟩⟩
/-- .append(y) -/
def fAppend : D → WF := fun d ds S Q => match d, ds with
  | .ref p, [y] => match S.g p with
    | some (.lst xs) => xs.length < sizeLine ∧ Q .non (S.set p (.lst (xs ++ [y])))
    | _ => False
  | _, _ => False
theorem dm_append : MtR X "list.append" (lftM X.K DI fAppend) := MtR.imp mt_append fun x xs H Q q => by
  obtain ⟨F, d, ds, S, R, rel, den, dl, w, fin⟩ := q
  unfold fAppend at w
  split at w
  · rename_i p y
    split at w
    · rename_i es q
      cases den
      cases dl with
      | cons d1 r =>
        cases r
        obtain ⟨vs, e1, e2⟩ := rel.rep _ _ q
        rename_i v0
        have kp : Kp H (upd H p (.lst (vs ++ [v0]))) := .lst e1
        exact ⟨p, vs, _, rfl, rfl, e1, by rw [← e2.length]; exact w.1, fin _ _ _ _ w.2 (rel.set kp (.inr ⟨_, q⟩) ⟨_, upd_same, (e2.append (.one d1)).mn kp⟩) kp .non⟩
    · exact w.elim
  · exact w.elim
theorem e_append (ho : PE X e (lft X.K DI a)) (ha : PAn X (e2 :: es) (lftA X.K DI wa)) (h : (nBase e && ((apos.endLine == pos.line) && ((e2 :: es).all nStar && decide ((e2 :: es).length < 30)))) = true := by kernel_rfl) : PE X (.Call (.Attribute e "append" apos) (e2 :: es) [] pos) (lft X.K DI (wMl fAppend a wa)) :=
  m_list PySem.F.slot_list_append PySem.F.type_list_append dm_append ho ha h
/-- .pop() -/
def fPop : D → WF := fun d ds S Q => match d, ds with
  | .ref p, [] => match S.g p with
    | some (.lst xs) => ∃ y, xs[xs.length - 1]? = some y ∧ Q y (S.set p (.lst xs.dropLast))
    | _ => False
  | _, _ => False
theorem dm_pop : MtR X "list.pop" (lftM X.K DI fPop) := MtR.imp mt_pop fun x xs H Q q => by
  obtain ⟨F, d, ds, S, R, rel, den, dl, w, fin⟩ := q
  unfold fPop at w
  split at w
  · rename_i p
    split at w
    · rename_i es q
      cases den
      cases dl
      obtain ⟨vs, e1, e2⟩ := rel.rep _ _ q
      obtain ⟨y, w1, w2⟩ := w
      rw [e2.length] at w1
      obtain ⟨v, g1, g2⟩ := e2.get w1
      have kp : Kp H (upd H p (.lst vs.dropLast)) := .lst e1
      exact ⟨p, vs, v, rfl, rfl, e1, g1, fin _ _ _ _ w2 (rel.set kp (.inr ⟨_, q⟩) ⟨_, upd_same, e2.dropLast.mn kp⟩) kp (g2.mn kp)⟩
    · exact w.elim
  · exact w.elim
theorem e_pop (ho : PE X e (lft X.K DI a)) (h : (nBase e && (apos.endLine == pos.line)) = true := by kernel_rfl) : PE X (.Call (.Attribute e "pop" apos) [] [] pos) (lft X.K DI (wMl fPop a wNil)) :=
  m_list0 PySem.F.slot_list_pop PySem.F.type_list_pop dm_pop ho h
/-- .pop(i), i from 0 on -/
def fPopAt : D → WF := fun d ds S Q => match d, ds with
  | .ref p, [.int i] => match S.g p with
    | some (.lst xs) => 0 ≤ i ∧ i < 2 ^ 62 ∧ ∃ y, xs[i.toNat]? = some y ∧ Q y (S.set p (.lst (xs.eraseIdx i.toNat)))
    | _ => False
  | _, _ => False
theorem dm_popAt : MtR X "list.pop" (lftM X.K DI fPopAt) := MtR.imp mt_popAt fun x xs H Q q => by
  obtain ⟨F, d, ds, S, R, rel, den, dl, w, fin⟩ := q
  unfold fPopAt at w
  split at w
  · rename_i p i
    split at w
    · rename_i es q
      cases den
      cases dl with
      | cons d1 r =>
        cases r
        cases d1
        obtain ⟨vs, e1, e2⟩ := rel.rep _ _ q
        obtain ⟨w0, w1, y, w2, w3⟩ := w
        obtain ⟨v, g1, g2⟩ := e2.get w2
        have kp : Kp H (upd H p (.lst (vs.eraseIdx i.toNat))) := .lst e1
        have hl : i.toNat < vs.length := by
          rcases Nat.lt_or_ge i.toNat vs.length with z | z
          · exact z
          · rw [List.getElem?_eq_none z] at g1; cases g1
        refine ⟨p, vs, i, i.toNat, v, rfl, rfl, e1, by omega, by omega, ?_, g1, fin _ _ _ _ w3 (rel.set kp (.inr ⟨_, q⟩) ⟨_, upd_same, (e2.eraseIdx _).mn kp⟩) kp (g2.mn kp)⟩
        unfold seqIndex?
        have c1 : ¬ i < 0 := by omega
        have c2 : i < (vs.length : Int) := by omega
        simp [c1, c2]
    · exact w.elim
  · exact w.elim
theorem e_popAt (ho : PE X e (lft X.K DI a)) (ha : PAn X (e2 :: es) (lftA X.K DI wa)) (h : (nBase e && ((apos.endLine == pos.line) && ((e2 :: es).all nStar && decide ((e2 :: es).length < 30)))) = true := by kernel_rfl) : PE X (.Call (.Attribute e "pop" apos) (e2 :: es) [] pos) (lft X.K DI (wMl fPopAt a wa)) :=
  m_list PySem.F.slot_list_pop PySem.F.type_list_pop dm_popAt ho ha h
/-- 'a b'.split() -/
def wWords (a : W) : W := fun ρ S Q => a ρ S fun d S1 => match d with
  | .str z => z.length + 2 ≤ sizeLine ∧ Q (.lst ((Txt.words z).map D.str)) S1
  | _ => False
theorem den_strs {K : PySem.W.Frag} {H : Hp} : ∀ zs : List Str, DenL K H (zs.map D.str) (zs.map V.str)
  | [] => .nil
  | z :: zs => .cons (.str z) (den_strs zs)
theorem e_words (ho : PE X e (lft X.K DI a)) (h : (nBase e && (apos.endLine == pos.line)) = true := by kernel_rfl) : PE X (.Call (.Attribute e "split" apos) [] [] pos) (lft X.K DI (wWords a)) := by
  rw [Bool.and_eq_true] at h
  exact (peLQ (pe_words ho (base_of h.1) h.2)).imp fun σ H Q q => by
    obtain ⟨F, ρ, S, R, rel, env, w, fin⟩ := q
    refine ⟨F, ρ, S, _, rel, env, w, fun d S1 v H1 q1 rel1 k1 d1 => ?_⟩
    cases d with
    | str z =>
      cases d1
      exact ⟨⟨z, rfl⟩, z, rfl, rfl, q1.1, fun p hp => fin.lst q1.2 rel1 k1 (den_strs _) hp⟩
    | _ => exact q1.elim

/-! ### displays of dicts -/
def wPairs : List (W × W) → Env → GS → (List (D × D) → GS → Prop) → Prop
  | [], _, S, Q => Q [] S
  | (a, b) :: r, ρ, S, Q => a ρ S fun d S1 => b ρ S1 fun e S2 => wPairs r ρ S2 fun ps S3 => Q ((d, e) :: ps) S3
def DenP (K : PySem.W.Frag) (H : Hp) : List (D × D) → List (V × V) → Prop
  | [], [] => True
  | p :: ps, q :: qs => Den K H p.1 q.1 ∧ Den K H p.2 q.2 ∧ DenP K H ps qs
  | _, _ => False
theorem DenP.mn {K : PySem.W.Frag} {H H' : Hp} (k : Kp H H') : ∀ {ps : List (D × D)} {qs : List (V × V)}, DenP K H ps qs → DenP K H' ps qs
  | [], [], h => h
  | _ :: _, _ :: _, h => ⟨h.1.mn k, h.2.1.mn k, DenP.mn k h.2.2⟩
  | [], _ :: _, h => h
  | _ :: _, [], h => h
def lftP (K : PySem.W.Frag) (DI : Addr → GH → Prop) (l : List (W × W)) : List (TE × TE) := l.map fun p => (lft K DI p.1, lft K DI p.2)
theorem pairs_of {K : PySem.W.Frag} {F : Hp} : ∀ (l : List (W × W)) {ρ : Env} {S : GS} {σ : L2.St} {H : Hp} {R : List (D × D) → GS → Prop} {Q : List (V × V) → Hp → Prop}, Rel K DI F S H → EnvR K H ρ σ → wPairs l ρ S R →
    (∀ ps S' qs H', R ps S' → Rel K DI F S' H' → Kp H H' → DenP K H' ps qs → Q qs H') → tPairs (lftP K DI l) σ H Q
  | [], _, _, _, H, _, _, rel, env, w, f => f _ _ _ _ w rel (.refl H) trivial
  | (a, b) :: r, ρ, S, σ, H, R, Q, rel, env, w, f => by
    refine ⟨F, ρ, S, _, rel, env, w, fun d S1 v H1 q1 rel1 k1 d1 => ?_⟩
    refine ⟨F, ρ, S1, _, rel1, env.mn k1, q1, fun d2 S2 v2 H2 q2 rel2 k2 d22 => ?_⟩
    exact pairs_of r rel2 (env.mn (k1.trans k2)) q2 fun ps S3 qs H3 q3 rel3 k3 d3 => f _ _ _ _ q3 rel3 (k1.trans (k2.trans k3)) ⟨d1.mn (k2.trans k3), d22.mn k3, d3⟩
structure PPd (X : Cx) (DI : Addr → GH → Prop) (pos : Pos) (keys : List (Option Expr)) (vals : List Expr) (l : List (W × W)) : Prop where
  p : PPs X pos keys vals (lftP X.K DI l)
theorem d_nil : PPd X DI pos [] [] [] := ⟨pps_nil⟩
theorem d_cons {keys : List (Option Expr)} {l : List (W × W)} (h1 : PE X e (lft X.K DI a)) (h2 : PE X e2 (lft X.K DI b)) (h3 : PPd X DI pos keys es l) : PPd X DI pos (some e :: keys) (e2 :: es) ((a, b) :: l) := ⟨pps_cons h1 h2 h3.p⟩
def keyPs : List (D × D) → Option (List (Key × D))
  | [] => some []
  | (d, e) :: r => match keyOf d, keyPs r with
    | some k, some ks => some ((k, e) :: ks)
    | _, _ => none
def mergeD (acc : List (Key × D)) (l : List (Key × D)) : List (Key × D) := l.foldl (fun acc p => put p.1 p.2 acc) acc
theorem keyPs_ok {K : PySem.W.Frag} {H : Hp} : ∀ {ps : List (D × D)} {qs : List (V × V)} {ks : List (Key × D)}, DenP K H ps qs → keyPs ps = some ks → ∃ kvs : List (Key × V), qs = kvs.map (fun kv => (kV kv.1, kv.2)) ∧ DenK K H ks kvs
  | [], [], _, _, e => by
    cases e
    exact ⟨[], rfl, .nil⟩
  | (d, x) :: ps, (v, y) :: qs, ks, h, e => by
    unfold keyPs at e
    split at e
    · rename_i k ks' e1 e2
      cases e
      obtain ⟨kvs, h1, h2⟩ := keyPs_ok h.2.2 e2
      have := keyOf_ok h.1 e1
      have h3 : v = kV k := this
      exact ⟨(k, y) :: kvs, by rw [h1, h3]; rfl, .cons h.2.1 h2⟩
    · cases e
  | [], _ :: _, _, h, _ => h.elim
  | _ :: _, [], _, h, _ => h.elim
theorem merge_ok {K : PySem.W.Frag} {H : Hp} : ∀ {l : List (Key × D)} {us : List (Key × V)} {acc : List (Key × D)} {vs : List (Key × V)}, DenK K H l us → DenK K H acc vs → DenK K H (mergeD acc l) (mergeK vs us)
  | [], _, _, _, h, h2 => by cases h; exact h2
  | (k, d) :: l, _, _, _, h, h2 => by
    cases h with
    | cons h1 h3 =>
      have z := merge_ok h3 (h2.put (k := k) h1)
      exact z
/-- {k: v, ..}, told by what it holds -/
def wDisp (l : List (W × W)) : W := fun ρ S Q => wPairs l ρ S fun ps S1 => ∃ ks, keyPs ps = some ks ∧ ks.length ≤ 15 ∧ Q (.dct (mergeD [] ks)) S1
def wDispN (l : List (W × W)) : W := fun ρ S Q => wPairs l ρ S fun ps S1 => ∃ ks, keyPs ps = some ks ∧ ks.length ≤ 15 ∧ ∀ p, S1.g p = none → Q (.ref p) (S1.set p (.dct (mergeD [] ks)))
theorem Rel.lockG {F H : Hp} {K : PySem.W.Frag} {S : GS} {p : Addr} {u : HO} {w : HO} (r : Rel K DI (upd F p u) S H) (hF : F p = none) (mu : Mut (some u)) : Rel K DI F S (upd H p w) ∧ Kp H (upd H p w) := by
  have hp := (r.frm p _ upd_same).1
  have k : Kp H (upd H p w) := ⟨fun b x e => by rw [upd_ne (fun z => by rw [z, hp] at e; cases e; exact mu)]; exact e, fun b x o e => by rw [upd_ne (fun z => by rw [z, hp] at e; cases e; exact mu)]; exact e⟩
  refine ⟨(r.turn upd_same k).alone fun a o e => ?_, k⟩
  have ha : a ≠ p := fun z => by rw [z, hF] at e; cases e
  rw [upd_ne ha, upd_ne ha]
  exact e
theorem disp_pre {K : PySem.W.Frag} {F : Hp} {l : List (W × W)} {ρ : Env} {S : GS} {σ : L2.St} {H : Hp} {R : List (D × D) → GS → Prop} {Q : V → Hp → Prop} (rel : Rel K DI F S H) (env : EnvR K H ρ σ) (w : wPairs l ρ S R)
    (f : ∀ p ps S' kvs H2 ks, R ps S' → Rel K DI (upd F p (.dK [])) S' H2 → F p = none → Kp H H2 → keyPs ps = some ks → DenK K H2 ks kvs → ks.length ≤ 15 → Q (.ref p) (upd H2 p (.dK (mergeK [] kvs)))) (hk : ∀ ps S', R ps S' → ∃ ks, keyPs ps = some ks ∧ ks.length ≤ 15) : tDisp (lftP K DI l) σ H Q := by
  intro p hp
  have hF : F p = none := by
    cases q : F p with
    | none => rfl
    | some o => rw [(rel.frm p o q).1] at hp; cases hp
  have kn : Kp H (upd H p (.dK [])) := .new hp
  refine pairs_of l (rel.beside hp) (env.mn kn) w fun ps S' qs H' r rel' k' dp => ?_
  obtain ⟨ks, e1, e2⟩ := hk ps S' r
  obtain ⟨kvs, e3, e4⟩ := keyPs_ok dp e1
  refine ⟨(rel'.frm p _ upd_same).1, kvs, e3, by rw [← e4.length]; exact e2, ?_⟩
  exact f p ps S' kvs H' ks r rel' hF (kn.trans k') e1 e4 e2
theorem e_disp {keys : List (Option Expr)} {vals : List Expr} {l : List (W × W)} (hp : PPd X DI pos keys vals l) (h : (keys.all (·.isSome) && (decide (keys.length = vals.length) && (!keys.isEmpty && decide (keys.length ≤ 15)))) = true := by kernel_rfl) : PE X (.Dict keys vals pos) (lft X.K DI (wDisp l)) := by
  simp only [Bool.and_eq_true, decide_eq_true_eq] at h
  obtain ⟨h1, h2, h3, h4⟩ := h
  refine (peLQ (pe_disp hp.p h1 h2 (by intro z; rw [z] at h3; cases h3) h4)).imp fun σ H Q q => ?_
  obtain ⟨F, ρ, S, R, rel, env, w, fin⟩ := q
  refine disp_pre rel env w (fun p ps S' kvs H2 ks r rel2 hF k2 e1 d2 l2 => ?_) fun ps S' ⟨ks, e1, e2, _⟩ => ⟨ks, e1, e2⟩
  obtain ⟨ks', e1', _, r⟩ := r
  rw [e1] at e1'
  cases e1'
  refine .inr ⟨p, .dK (mergeK [] kvs), upd_same, trivial, fun od => ?_⟩
  rw [upd_upd]
  obtain ⟨r3, k3⟩ := Rel.lockG (w := .frz od (.dK (mergeK [] kvs))) rel2 hF trivial
  exact fin _ _ _ _ r r3 (k2.trans k3) (.dct upd_same ((merge_ok d2 .nil).mn k3))
theorem e_dispN {keys : List (Option Expr)} {vals : List Expr} {l : List (W × W)} (hp : PPd X DI pos keys vals l) (h : (keys.all (·.isSome) && (decide (keys.length = vals.length) && (!keys.isEmpty && decide (keys.length ≤ 15)))) = true := by kernel_rfl) : PE X (.Dict keys vals pos) (lft X.K DI (wDispN l)) := by
  simp only [Bool.and_eq_true, decide_eq_true_eq] at h
  obtain ⟨h1, h2, h3, h4⟩ := h
  refine (pe_disp hp.p h1 h2 (by intro z; rw [z] at h3; cases h3) h4).imp fun σ H Q q => ?_
  obtain ⟨F, ρ, S, R, rel, env, w, fin⟩ := q
  refine disp_pre rel env w (fun p ps S' kvs H2 ks r rel2 hF k2 e1 d2 l2 => ?_) fun ps S' ⟨ks, e1, e2, _⟩ => ⟨ks, e1, e2⟩
  obtain ⟨ks', e1', _, r⟩ := r
  rw [e1] at e1'
  cases e1'
  have hp2 := rel2.frm p _ upd_same
  have k3 : Kp H2 (upd H2 p (.dK (mergeK [] kvs))) := .dct hp2.1
  have r1 : Rel X.K DI F S' (upd H2 p (.dK (mergeK [] kvs))) := (Rel.lockG (w := .dK (mergeK [] kvs)) rel2 hF trivial).1
  have hid : ∀ dk, S'.o = some dk → ∃ G, DI dk G ∧ G p = none := fun dk e => by
    obtain ⟨G, g1, g2, g3, g4⟩ := rel2.hid dk e
    exact ⟨G, g1, g4 p _ upd_same⟩
  have r2 : Rel X.K DI F (S'.set p (.dct (mergeD [] ks))) (upd H2 p (.dK (mergeK [] kvs))) := by
    have rB := rel2.turn upd_same k3
    refine ⟨fun a m e => ?_, fun dk e => ?_, fun a o e => ?_⟩
    · by_cases ha : a = p
      · subst ha
        rw [GS.set_same] at e
        cases e
        exact ⟨_, upd_same, (merge_ok d2 .nil).mn k3⟩
      · rw [GS.set_ne ha] at e
        exact rB.rep a m e
    · obtain ⟨G, g1, g2, g3, g4⟩ := rB.hid dk e
      refine ⟨G, g1, g2, fun a m q => ?_, fun a o q => ?_⟩
      · by_cases ha : a = p
        · rw [ha]; exact g4 p _ upd_same
        · rw [GS.set_ne ha] at q
          exact g3 a m q
      · have ha : a ≠ p := fun z => by rw [z, hF] at q; cases q
        exact g4 a o (by rw [upd_ne ha, upd_ne ha]; exact q)
    · have ha : a ≠ p := fun z => by rw [z, hF] at e; cases e
      obtain ⟨h1, h2⟩ := rB.frm a o (by rw [upd_ne ha, upd_ne ha]; exact e)
      exact ⟨h1, by rw [GS.set_ne ha]; exact h2⟩
  exact fin _ _ _ _ (r p hp2.2) r2 (k2.trans k3) (.ref p)
def wD0 : W := fun _ S Q => Q (.dct []) S
theorem e_d0 : PE X (.Dict [] [] pos) (lft X.K DI wD0) := (peLQ pe_dnewK).imp fun σ H Q q => by
  obtain ⟨F, ρ, S, R, rel, env, w, fin⟩ := q
  exact fun p hp => fin.dct (S := S) w rel (.refl H) .nil hp
def wD0N : W := fun _ S Q => ∀ p, S.g p = none → Q (.ref p) (S.set p (.dct []))
theorem e_d0N : PE X (.Dict [] [] pos) (lft X.K DI wD0N) := pe_dnewK.imp fun σ H Q q => by
  obtain ⟨F, ρ, S, R, rel, env, w, fin⟩ := q
  exact fun p hp => fin.newD (S := S) (w p (rel.free hp)) rel (.refl H) .nil hp
end
end Dv

/-! Dv13: enumerate over a tuple or a list. -/
namespace Dv
open PySem PySem.Spec L2
open PyProof.Rows hiding St

set_option maxHeartbeats 1000000 in
theorem meets_enum1 {v : Value} {o : Obj} {G : Heap → Prop} (B : Begins v o G) :
    Meets (Builtin.«enumerate.__new__» ⟨[.type "enumerate", v], []⟩) (fun _ R s => G s.heap ∧
      R (.ok (.ret (.ref (s.heap.push o).objs.size))) { s with heap := (s.heap.push o).push { cls := .type "enumerate", data := .fields #[.none, .bool false, .ref s.heap.objs.size, rawInt 0, .none, .none] } }) :=
  .of_wp fun prog w A R s h => by
    obtain ⟨hp, g, d, tk, os⟩ := s; obtain ⟨h1, h⟩ := h
    have hsub := sub_enumerate
    have q1 : ∀ {A' : Around} {E : Value → Shared → Prop} {Q : Value → Shared → Prop}, Q (.ref hp.objs.size) ⟨hp.push o, g, d, tk, os⟩ → wpAny (model prog w) A' (pyIter v) Q E ⟨hp, g, d, tk, os⟩ :=
      fun q => B.iter prog w _ _ ⟨hp, g, d, tk, os⟩ _ h1 q
    wp_walk using q1
    refine wpAny_stack_any fun st => wpAny_pure ?_
    split
    · rename_i c _ _ _ _ _
      cases (c == Value.type "enumerate")
      · wp_walk using q1
        exact ⟨_, rfl, h⟩
      · wp_walk using q1
        exact ⟨_, rfl, h⟩
    · wp_walk using q1
      exact ⟨_, rfl, h⟩
theorem enum_one {prog : Program} {w : World} {A : Around} {E : Value → Shared → Prop} {s : Shared} {v : Value} {o : Obj} {G : Heap → Prop} {Q : Value → Shared → Prop} (B : Begins v o G) (h1 : G s.heap)
    (h : ∀ h', IsEnum h' (s.heap.objs.size + 1) s.heap.objs.size 0 .none → h'.get? s.heap.objs.size = some o → h'.objs.size = s.heap.objs.size + 2 →
      (∀ b o, s.heap.get? b = some o → h'.get? b = some o) → Q (.ref (s.heap.objs.size + 1)) { s with heap := h' }) :
    wpAny (model prog w) A (call (.type "enumerate") [v]) Q E s := by
  refine callType_new PySem.F.called_enumerate (by decide) (PySem.F.typeCall_enumerate_1 _) (PySem.F.newCall_enumerate_1 _) (fun obj => PySem.F.args_object_init_2 obj _) PySem.F.entry_enumerate_new
    (meets_enum1 B) ⟨h1, ?_⟩
  have hz : (s.heap.push o).objs.size = s.heap.objs.size + 1 := Heap.size_push ..
  show _ ∧ _
  rw [hz]
  have he : IsEnum ((s.heap.push o).push { cls := .type "enumerate", data := .fields #[.none, .bool false, .ref s.heap.objs.size, rawInt 0, .none, .none] }) (s.heap.objs.size + 1) s.heap.objs.size 0 .none := by
    have := Heap.get?_push_size (s.heap.push o) (o := { cls := .type "enumerate", data := .fields #[.none, .bool false, .ref s.heap.objs.size, rawInt 0, .none, .none] }) rfl
    rw [hz] at this; exact this
  exact ⟨⟨_, he, rfl⟩, h _ he (Heap.get?_push_of_some _ (Heap.get?_push_size _ B.free)) (by rw [Heap.size_push, hz]) fun b o x => Heap.get?_push_of_some _ (Heap.get?_push_of_some _ x)⟩

/-- the tuple at a, each item in a new pair with its place -/
def Iet (K : PySem.W.Frag) (a : Addr) : It :=
  ⟨fun i H => ∃ (xs : List V) (x : V), SqT K H a xs ∧ xs[i]? = some x, fun i H v H' => ∃ T x, v = .ref T ∧ H T = none ∧ H' = upd H T (.tup [.int (i : Nat), x]) ∧ ∀ xs, SqT K H a xs → xs[i]? = some x, fun i H => ∃ xs : List V, SqT K H a xs ∧ xs.length ≤ i⟩
theorem turn_enumT {P : Program} {w : World} {K : PySem.W.Frag} {elts : List Expr} {kk : Nat} {tpos : Pos} (a e it : Addr) :
    Turn P w K (.Tuple elts kk tpos) (Iet K a) [e, it] e (fun i h => (∃ old, IsEnum h e it ((i : Nat) : Int) old) ∧ h.IsTupleIter it a i ∧ e ≠ it) where
  mem := by simp
  obj := fun i h st b hb => by
    obtain ⟨⟨old, he⟩, ⟨o, ho, hc, hd⟩, _⟩ := st
    have e' : b = e ∨ b = it := by simpa using hb
    rcases e' with z | z
    · rw [z]; exact ⟨_, he, fun v q => nomatch q⟩
    · rw [z]; exact ⟨o, ho, fun v q => by rw [hd] at q; cases q⟩
  keep := fun i h h' st k => let ⟨⟨old, he⟩, hi, hne⟩ := st; ⟨⟨old, k e (by simp) _ he⟩, hi.at fun o q => k it (by simp) o q, hne⟩
  item := by
    intro X hP hw hK hc i pins s σ H E I hf st hg
    subst hP hw hK
    obtain ⟨⟨old, he⟩, hit, hne⟩ := st
    obtain ⟨xs, x, hq, hx⟩ := hg
    obtain ⟨its, rv, p, hz⟩ := I.tuple hq
    obtain ⟨u, hu, ru⟩ := rv.get hx
    have hT0 : s.heap.IsTuple a its.toArray := p
    have hel : e < s.heap.objs.size := Heap.lt_size he
    have hil : it < s.heap.objs.size := by obtain ⟨_, q, _⟩ := hit; exact Heap.lt_size q
    have hae : e ≠ a := by
      rintro rfl
      obtain ⟨o, ho, hcl, _⟩ := hT0
      rw [he] at ho
      cases ho
      exact absurd (Value.type.inj hcl) (by decide)
    have hai : a ≠ it := by
      rintro rfl
      obtain ⟨o, ho, hcl, _⟩ := hT0
      obtain ⟨o2, ho2, hc2, _⟩ := hit
      rw [ho] at ho2
      cases ho2
      rw [hcl] at hc2
      exact absurd (Value.type.inj hc2) (by decide)
    have DT := Draws.tuple (prog := X.prog) (w := X.w) (A := X.A.in1) (I.ok.hd hc) it a hai its.toArray
    have hlt : i < its.toArray.size := by
      have := (List.getElem?_eq_some_iff.mp hu).1
      simpa using this
    refine wpAny_pyNext_enum_itemD DT he ⟨hit, hT0⟩ hlt hne (by simp [hae, hne]) fun y h' tk hy ho hst hT hsz hk => ?_
    have hyu : y = u := by
      rw [List.getElem?_toArray, hu] at hy
      exact (Option.some.inj hy).symm
    subst hyu
    refine ⟨_, rfl, wpAny_letOwnedTupleGo_enum (s := { s with heap := h', toks := tk + 1 }) ho fun h'' he' sb => ?_⟩
    have hT2 : h''.get? s.heap.objs.size = some { cls := .type "tuple", data := .seq #[.int i tk, y] } := (sb.2 _ (Nat.ne_of_gt hel)).trans hT
    have new : ObjOk X.prog X.w (upd H s.heap.objs.size (.tup [.int (i : Nat), x])) h'' s.heap.objs.size (.tup [.int (i : Nat), x]) :=
      ⟨by show 2 ≤ sizeLine; decide, [.int i tk, y], .cons ⟨_, rfl⟩ (.cons ru .nil), ⟨_, hT2, rfl, _, rfl⟩⟩
    have I1 : Inv X pins σ (upd H s.heap.objs.size (.tup [.int (i : Nat), x])) { s with heap := h'', toks := tk + 1 } :=
      I.turnedNew (ch := [e, it]) (fun b ob hb q => (sb.2 b (fun z => hb (by simp [z]))).trans (hk b ob (fun z => hb (by simp [z])) (fun z => hb (by simp [z])) q)) hf (Nat.le_refl _) new
    refine ⟨.ref s.heap.objs.size, _, I1, rfl, ⟨_, x, rfl, I.hok.fresh (Nat.le_refl _), rfl, fun ys hy => by rw [I.tuple_inj hy hq]; exact hx⟩, ⟨⟨y, ?_⟩, hst.1.at fun o q => (sb.2 it (Ne.symm hne)).trans q, hne⟩, fun b hb => ?_⟩
    · have e1 : ((i + 1 : Nat) : Int) = (i : Int) + 1 := by omega
      rw [e1]; exact he'
    · have hb' : b < s.heap.objs.size := by
        have e' : b = e ∨ b = it := by simpa using hb
        rcases e' with z | z
        · rw [z]; exact hel
        · rw [z]; exact hil
      rw [upd_ne (Nat.ne_of_lt hb')]
      exact (hf b hb).1
  done := by
    intro X hP hw hK hc i pins s σ H E I hf st hg
    subst hP hw hK
    obtain ⟨⟨old, he⟩, hit, hne⟩ := st
    obtain ⟨xs, hq, hx⟩ := hg
    obtain ⟨its, rv, p, hz⟩ := I.tuple hq
    have hT0 : s.heap.IsTuple a its.toArray := p
    obtain ⟨f0, f1, f2, f3, f4, f5⟩ := hf it (by simp)
    have hl := rv.length
    unfold pyNext
    have hT : s.TypeIs (.ref e) "enumerate" := ⟨_, he, rfl⟩
    refine wpAny_bind (wpAny_attempt (wpAny_callSpecial?_slot (name := Str.ofString "__next__") hT PySem.F.slot_enumerate_next
      (wpAny_call_entry PySem.F.slot_enumerate_next hT PySem.F.entry_enumerate_next ?_ (PySem.F.args_enumerate_next_1 _))))
    show wpAny _ _ (field (.ref e) 2 >>= _) _ _ _
    refine wpAny_bind (wpAny_field he rfl (x := .ref it) rfl ?_)
    refine wpAny_bind (wpAny_nextOf_tuple_end (I.ok.hd hc) hit hT0 (by simp; omega) fun h' x he' hx' => ?_)
    obtain ⟨o, ho, hcl⟩ := hx'
    refine wpAny_bind (wpAny_isInstance (T := "StopIteration") (b := true) ⟨o, ho, hcl⟩ isSubtype_stop ?_)
    exact wpAny_pure ⟨rfl, I.turned (t' := s.toks) (fun b o hb q => he' b o hb q) f0 f1 f3 f4 f5⟩
  self := fun A i s Q E st h => let ⟨⟨_, he⟩, _⟩ := st; wpAny_pyIter_enum he h
def enD : Nat → List D → List D
  | _, [] => []
  | n, d :: ds => .pr [.int (n : Nat), d] :: enD (n + 1) ds
theorem enD_length : ∀ (n : Nat) (ds : List D), (enD n ds).length = ds.length
  | _, [] => rfl
  | n, d :: ds => by rw [enD, List.length_cons, List.length_cons, enD_length]
theorem enD_get : ∀ (n : Nat) (ds : List D) (i : Nat), (enD n ds)[i]? = (ds[i]?).map fun d => .pr [.int ((n + i : Nat) : Int), d]
  | _, [], i => by simp [enD]
  | n, d :: ds, 0 => rfl
  | n, d :: ds, i + 1 => by
    rw [enD, List.getElem?_cons_succ, List.getElem?_cons_succ, enD_get (n + 1) ds i, show n + 1 + i = n + (i + 1) by omega]
section
variable {K : PySem.W.Frag} {DI : Addr → GH → Prop} {H : Hp}
theorem it_enT {a : Addr} {vs : List V} {ds : List D} (t : SqT K H a vs) (d : DenL K H ds vs) : ItOk K DI H (Iet K a) (enD 0 ds) [] where
  go := fun F i H' S x e rel k g => by
    rw [enD_get] at e
    cases q : ds[i]? with
    | none => rw [q] at e; cases e
    | some y =>
      obtain ⟨v, e1, e2⟩ := d.get q
      exact ⟨vs, v, k.sqT t, e1⟩
  yld := fun F i H' S x v H2 e rel k g y => by
    obtain ⟨T, z, rfl, hT, rfl, y⟩ := y
    rw [enD_get] at e
    cases q : ds[i]? with
    | none => rw [q] at e; cases e
    | some w =>
      rw [q] at e
      cases e
      obtain ⟨v', e1, e2⟩ := d.get q
      have q2 := y vs (k.sqT t)
      rw [e1] at q2
      cases q2
      have kn : Kp H' (upd H' T (.tup [.int (i : Nat), z])) := .new hT
      rw [Nat.zero_add]
      exact ⟨rel.new hT, kn, .pr (.inl (.inl upd_same)) (.cons (.int _) (.cons ((e2.mn k).mn kn) .nil))⟩
  stop := fun F i H' S e rel k g => ⟨vs, k.sqT t, by rw [enD_length] at e; exact d.none_of e⟩
theorem it_enF {a : Addr} {o : Obj} {vs : List V} {ds : List D} (t : H a = some (.frz o (.lst vs))) (d : DenL K H ds vs) : ItOk K DI H (Ite K a) (enD 0 ds) [] where
  go := fun F i H' S x e rel k g => by
    rw [enD_get] at e
    cases q : ds[i]? with
    | none => rw [q] at e; cases e
    | some y =>
      obtain ⟨v, e1, e2⟩ := d.get q
      exact ⟨vs, v, .inl (.inr ⟨o, k.f _ _ _ t⟩), e1⟩
  yld := fun F i H' S x v H2 e rel k g y => by
    obtain ⟨T, z, rfl, hT, rfl, y⟩ := y
    rw [enD_get] at e
    cases q : ds[i]? with
    | none => rw [q] at e; cases e
    | some w =>
      rw [q] at e
      cases e
      obtain ⟨v', e1, e2⟩ := d.get q
      have q2 := y vs (.inl (.inr ⟨o, k.f _ _ _ t⟩))
      rw [e1] at q2
      cases q2
      have kn : Kp H' (upd H' T (.tup [.int (i : Nat), z])) := .new hT
      rw [Nat.zero_add]
      exact ⟨rel.new hT, kn, .pr (.inl (.inl upd_same)) (.cons (.int _) (.cons ((e2.mn k).mn kn) .nil))⟩
  stop := fun F i H' S e rel k g => ⟨vs, .inl (.inr ⟨o, k.f _ _ _ t⟩), by rw [enD_length] at e; exact d.none_of e⟩
theorem it_enL {p : Addr} {ds : List D} : ItOk K DI H (Ite K p) (enD 0 ds) [(p, ds)] where
  go := fun F i H' S x e rel k g => by
    rw [enD_get] at e
    cases q : ds[i]? with
    | none => rw [q] at e; cases e
    | some y =>
      obtain ⟨vs, r1, r2⟩ := rel.rep _ _ g.1
      obtain ⟨v, e1, e2⟩ := r2.get q
      exact ⟨vs, v, .inl (.inl r1), e1⟩
  yld := fun F i H' S x v H2 e rel k g y => by
    obtain ⟨T, z, rfl, hT, rfl, y⟩ := y
    rw [enD_get] at e
    cases q : ds[i]? with
    | none => rw [q] at e; cases e
    | some w =>
      rw [q] at e
      cases e
      obtain ⟨vs, r1, r2⟩ := rel.rep _ _ g.1
      obtain ⟨v', e1, e2⟩ := r2.get q
      have q2 := y vs (.inl (.inl r1))
      rw [e1] at q2
      cases q2
      have kn : Kp H' (upd H' T (.tup [.int (i : Nat), z])) := .new hT
      rw [Nat.zero_add]
      exact ⟨rel.new hT, kn, .pr (.inl (.inl upd_same)) (.cons (.int _) (.cons (e2.mn kn) .nil))⟩
  stop := fun F i H' S e rel k g => by
    obtain ⟨vs, r1, r2⟩ := rel.rep _ _ g.1
    exact ⟨vs, .inl (.inl r1), by rw [enD_length] at e; exact r2.none_of e⟩
end
section
variable {X : Cx} {DI : Addr → GH → Prop} {N : List Str} {sc : Scope} {k : Nat} {fns : List Fn} {cs : List (Str × D)} {bl : List Str} {fc : Bool}
variable {pos p2 tpos : Pos} {e : Expr} {elts : List Expr} {kk : Nat} {a : W}
def iEnumA (K : PySem.W.Frag) (ta : TA) : TI := fun σ H R => ta σ H fun vs H1 => ∃ a, vs = [.ref a] ∧ (((∃ xs, SqT K H1 a xs) ∧ R (Iet K a) H1) ∨ ((∃ xs, SqL K H1 a xs) ∧ R (Ite K a) H1))
theorem pi_enumA {ta : TA} (hg : Gl X "enumerate") (hm : X.mg "enumerate" = none) (ha : PA X [e] ta) (hs : starEach [e] X.env = [(false, eval e X.env)]) :
    PI X (.Tuple elts kk tpos) (.Call (.Name "enumerate" p2) [e] [] pos) (iEnumA X.K ta) := by
  refine ⟨fun pins s σ H R I h => ?_⟩
  refine Call_ (ld_blt I hg hm boot_enumerate (PyProof.Rows.callWith_type1 (thn (ha.run pos pins s σ H _ I h) fun us s1 ⟨vs, H1, I1, r1, q1⟩ => ?_) hs rfl))
  obtain ⟨a, ex, q⟩ := q1
  subst ex
  cases r1 with
  | cons r rr =>
    cases rr
    cases r
    have fp : ∀ b ∈ [s1.heap.objs.size + 1, s1.heap.objs.size], FpOk X pins H1 b := fun b hb => by
      have e' : b = s1.heap.objs.size + 1 ∨ b = s1.heap.objs.size := by simpa using hb
      have hle : s1.heap.objs.size ≤ b := by
        rcases e' with z | z
        · rw [z]; exact Nat.le_add_right _ _
        · rw [z]; exact Nat.le_refl _
      exact I1.fpOk hle (I1.hok.fresh hle)
    rcases q with ⟨⟨xs, hq⟩, q⟩ | ⟨⟨xs, hq⟩, q⟩
    · obtain ⟨its, rv, p', hz⟩ := I1.tuple hq
      have hT : s1.heap.IsTuple a its.toArray := p'
      refine enum_one (begins_tuple a its.toArray) hT fun h' he hit hsz hk => wpAny_pyIter_enum he ?_
      have I2 : Inv X pins σ H1 { s1 with heap := h' } := I1.kept (t' := s1.toks) hk
      exact ⟨s1.heap.objs.size + 1, [s1.heap.objs.size + 1, s1.heap.objs.size], _, _, H1, rfl, I2, turn_enumT a (s1.heap.objs.size + 1) s1.heap.objs.size, ⟨⟨.none, he⟩, ⟨_, hit, rfl, rfl⟩, Nat.succ_ne_self _⟩, fp, q⟩
    · obtain ⟨its, rv, p', hz⟩ := I1.list hq
      refine call_enumerate_list p'.isList fun h' he hit hsz hk => wpAny_pyIter_enum he ?_
      have I2 : Inv X pins σ H1 { s1 with heap := h' } := I1.kept (t' := s1.toks) hk
      exact ⟨s1.heap.objs.size + 1, [s1.heap.objs.size + 1, s1.heap.objs.size], _, _, H1, rfl, I2, turn_enum a (s1.heap.objs.size + 1) s1.heap.objs.size, ⟨⟨.none, he⟩, hit, Nat.succ_ne_self _⟩, fp, q⟩
def wiEn (a : W) : WI := fun ρ S Q => a ρ S fun d S' => match d with
  | .tup ds => Q (enD 0 ds) [] S'
  | .lst ds => Q (enD 0 ds) [] S'
  | .ref p => match S'.g p with
    | some (.lst ds) => Q (enD 0 ds) [(p, ds)] S'
    | _ => False
  | _ => False
theorem i_enum (o : Ob X DI N sc k fns cs bl fc) (ha : PE X e (lft X.K DI a)) (h : (okB bl sc "enumerate" (.type "enumerate") && nStar e) = true := by kernel_rfl) : PI X (.Tuple elts kk tpos) (.Call (.Name "enumerate" p2) [e] [] pos) (lftI X.K DI (wiEn a)) := by
  rw [Bool.and_eq_true] at h
  obtain ⟨h1, h2, h3, h4, h5⟩ := okB_ok o h.1
  refine (pi_enumA h2 h1 (a_cons ha a_nil h.2).pa (star_cons h.2)).imp fun σ H R q => ?_
  obtain ⟨F, ρ, S, R', rel, env, w, f⟩ := q
  refine ⟨F, ρ, S, fun ds S' => match ds with
    | [d] => (match d with
      | .tup ds => R' (enD 0 ds) [] S'
      | .lst ds => R' (enD 0 ds) [] S'
      | .ref p => (match S'.g p with
        | some (.lst ds) => R' (enD 0 ds) [(p, ds)] S'
        | _ => False)
      | _ => False)
    | _ => False, rel, env, w, fun ds S1 vs H1 q1 rel1 k1 d1 => ?_⟩
  dsimp only at q1
  split at q1
  · obtain ⟨v, rfl, dd⟩ := d1.oneV
    clear d1
    split at q1
    · obtain ⟨a, vs, rfl, t, den⟩ := dd.tupV
      exact ⟨a, rfl, .inl ⟨⟨vs, t.sq⟩, f _ _ _ _ _ q1 rel1 k1 (it_enT t.sq den)⟩⟩
    · cases dd with
      | lst h1 h2 => exact ⟨_, rfl, .inr ⟨⟨_, .inl (.inr ⟨_, h1⟩)⟩, f _ _ _ _ _ q1 rel1 k1 (it_enF h1 h2)⟩⟩
    · cases dd
      split at q1
      · rename_i ds e
        obtain ⟨vs, e1, e2⟩ := rel1.rep _ _ e
        exact ⟨_, rfl, .inr ⟨⟨vs, .inl (.inl e1)⟩, f _ _ _ _ _ q1 rel1 k1 it_enL⟩⟩
      · exact q1.elim
    · exact q1.elim
  · exact q1.elim
end
end Dv

/-! Dv14: the hidden things brought to light and hidden again; a law's end; what the top has left. -/
namespace Dv
open PySem PySem.Spec L2
open PyProof.Rows hiding St

section
variable {K : PySem.W.Frag} {DI : Addr → GH → Prop} {F H H' : Hp} {S : GS}
/-- what is hidden stands beside what is known -/
def GS.plus (S : GS) (G : GH) : GS := ⟨fun a => match G a with
  | some m => some m
  | none => S.g a, none⟩
theorem Rel.opened {dk : Addr} (r : Rel K DI F S H) (ho : S.o = some dk) : ∃ G, DI dk G ∧ (∀ a m, S.g a = some m → G a = none) ∧ Rel K DI F (S.plus G) H := by
  obtain ⟨G, h1, h2, h3, h4⟩ := r.hid dk ho
  refine ⟨G, h1, h3, ⟨fun a m e => ?_, (fun dk e => nomatch e), fun a o e => ⟨(r.frm a o e).1, ?_⟩⟩⟩
  · unfold GS.plus at e
    dsimp only at e
    split at e
    · rename_i m' q
      cases e
      exact h2 a _ q
    · exact r.rep a m e
  · unfold GS.plus
    dsimp only
    rw [h4 a o e]
    exact (r.frm a o e).2
/-- S2 holds S's things and, apart from them, G's -/
structure Hides (S2 S : GS) (G : GH) : Prop where
  o : S2.o = none
  g : ∀ a m, G a = some m → S2.g a = some m
  s : ∀ a m, S.g a = some m → S2.g a = some m ∧ G a = none
theorem Rel.closed {dk : Addr} {S2 : GS} {G : GH} (r : Rel K DI F S2 H) (hd : DI dk G) (h : Hides S2 S G) : Rel K DI F ⟨S.g, some dk⟩ H where
  rep := fun a m e => r.rep a m (h.s a m e).1
  hid := fun dk' e => by
    cases e
    refine ⟨G, hd, fun a m e => r.rep a m (h.g a m e), fun a m e => (h.s a m e).2, fun a o e => ?_⟩
    cases q : G a with
    | none => rfl
    | some m =>
      have z := h.g a m q
      rw [(r.frm a o e).2] at z
      cases z
  frm := fun a o e => ⟨(r.frm a o e).1, by
    have z := (r.frm a o e).2
    cases q : S.g a with
    | none => rfl
    | some m => rw [(h.s a m q).1] at z; cases z⟩
theorem GS.eta (S : GS) {o : Option Addr} (h : S.o = o) : (⟨S.g, o⟩ : GS) = S := by subst h; rfl
end
/-- a promise kept with what is hidden laid open -/
theorem lftF_open {K : PySem.W.Frag} {DI : Addr → GH → Prop} {sp sp' : WF} {vs : List V} {H : Hp} {Q : VK}
    (h : ∀ ds S R, sp ds S R → ∃ dk, S.o = some dk ∧ ∀ G, DI dk G → (∀ a m, S.g a = some m → G a = none) → sp' ds (S.plus G) fun d S2 => ∃ G', DI dk G' ∧ Hides S2 S G' ∧ R d S)
    (w : lftF K DI sp vs H Q) : lftF K DI sp' vs H Q := by
  obtain ⟨F, ds, S, R, rel, den, q, fin⟩ := w
  obtain ⟨dk, ho, q⟩ := h ds S R q
  obtain ⟨G, g1, g2, g3⟩ := rel.opened ho
  refine ⟨F, ds, S.plus G, _, g3, den, q G g1 g2, fun d S2 v H' r rel' k den' => ?_⟩
  obtain ⟨G', i1, i2, i3⟩ := r
  have rc := rel'.closed i1 i2
  rw [S.eta ho] at rc
  exact fin d S v H' i3 rc k den'
/-- a promise kept, then something is hidden -/
theorem lftF_hide {K : PySem.W.Frag} {DI : Addr → GH → Prop} {sp sp' : WF} {vs : List V} {H : Hp} {Q : VK}
    (h : ∀ ds S R, sp ds S R → sp' ds S fun d S2 => ∃ dk G' S3, DI dk G' ∧ Hides S2 ⟨S3, none⟩ G' ∧ R d ⟨S3, some dk⟩)
    (w : lftF K DI sp vs H Q) : lftF K DI sp' vs H Q := by
  obtain ⟨F, ds, S, R, rel, den, q, fin⟩ := w
  refine ⟨F, ds, S, _, rel, den, h ds S R q, fun d S2 v H' r rel' k den' => ?_⟩
  obtain ⟨dk, G', S3, i1, i2, i3⟩ := r
  exact fin d ⟨S3, some dk⟩ v H' i3 (rel'.closed i1 i2) k den'
theorem FnG.imp {P : Program} {w : World} {K : PySem.W.Frag} {mg : Str → Option Value} {base : Heap} {k : Nat} {f : Addr} {fd : FuncData} {ps : List Str} {sp sp' : Sp} (F : FnG P w K mg base k f fd ps sp') (h : ∀ vs H Q E, sp vs H Q E → sp' vs H Q E) : FnG P w K mg base k f fd ps sp :=
  ⟨fun vs H Q E q => F.len vs H Q E (h _ _ _ _ q), fun A outer s H args us vs Q E hr hg e0 hb r q => F.run A outer s H args us vs Q E hr hg e0 hb r (h _ _ _ _ q)⟩
theorem FnIn.imp {P : Program} {w : World} {K : PySem.W.Frag} {mg : Str → Option Value} {base : Heap} {DI : Addr → GH → Prop} {k : Nat} {nm : Str} {n : Nat} {sp sp' : WF} {kws : List (Nat × List Str × List Nat)} (F : FnIn P w K mg base DI k ⟨nm, n, sp', kws⟩) (h : ∀ vs H Q, lftF K DI sp vs H Q → lftF K DI sp' vs H Q) : FnIn P w K mg base DI k ⟨nm, n, sp, kws⟩ := by
  obtain ⟨f, fd, ps, a1, a2, a3, a4, a5⟩ := F.ex
  exact ⟨f, fd, ps, a1, a2, a3, a4, a5.imp fun vs H Q E q => ⟨q.1, h _ _ _ q.2⟩⟩

/-! ### the law's own call -/
theorem law_callG {P : Program} {w : World} {K : PySem.W.Frag} {mg mb : Str → Option Value} {k : Nat} {fa a : Addr} {fd : FuncData} {x : Str} {sp : Sp} {t : Shared} {us : List Value} {ns : List Int}
    (inK : K.In t.heap) (nsM : t.heap.Ns mainGlobals mg) (nsB : t.heap.Ns builtinsNs mb) (boot : ∀ z : Str, z ≠ "__name__" → mb z = bootBuiltins z) (lim : t.heap.NoLimit) (noG : t.gens = #[])
    (script : t.heap.get? a = some { cls := .type "list", data := .seq us.toArray }) (ints' : IntsAre us ns) (short : ns.length ≤ sizeLine) (room : Room k callerA)
    (keeps : ∀ b0 : Heap, K.In b0 → b0.Ns mainGlobals mg → FnG P w K mg b0 k fa fd [x] sp) (binds : ∀ (s : Shared) (u : Value), BindsTo s fd ⟨[u], []⟩ [(x, u)])
    (asks : ∀ (H : Hp) (ob : Obj), H a = some (.frz ob (.lst (ns.map V.int))) → sp [.ref a] H (fun v _ => v = .bl true) E0) (noLst : ∀ o, K.lookup a = some o → o.cls = .type "list" → False) :
    codeAny (model P w) callerA (.call (.ref fa) ⟨[.ref a], []⟩) (fun r s' => r = .ok (.ret (.bool true)) ∧ OldK t.heap s'.heap ∧ s'.os = t.os ∧ AllBare s'.gens) t := by
  have lays := vals_ints ints'
  have sameN := ints'.length
  have main : ∀ H : Hp, (∀ b, H b = none ∨ ∃ o xs, H b = some (.frz o (.lst xs))) → (∃ ob, H a = some (.frz ob (.lst (ns.map V.int)))) → HOk P w H t.heap → (∀ b, H b ≠ none → b = a) → (H a ≠ none → K.lookup a = none) →
      codeAny (model P w) callerA (.call (.ref fa) ⟨[.ref a], []⟩) (fun r s' => r = .ok (.ret (.bool true)) ∧ OldK t.heap s'.heap ∧ s'.os = t.os ∧ AllBare s'.gens) t := by
    intro H only hS hok alone notK
    obtain ⟨ob0, hS⟩ := hS
    have dictN : ∀ {b : Addr} {o : Obj} {es : Array DictEntry} {n : Nat}, t.heap.get? b = some o → o.data = .dict es n → H b = none := fun {b o es n} e d => by
      cases q : H b with
      | none => rfl
      | some u =>
        obtain rfl : b = a := alone b fun z => by rw [q] at z; cases z
        rw [script] at e
        cases e
        exact absurd (show Data.seq us.toArray _ = Data.dict es n from d) (fun z => by cases z)
    have nsH : ∀ {b : Addr} {m : Str → Option Value}, t.heap.Ns b m → (hidT t.heap H).Ns b m := fun {b m} ⟨o, es, n, e, d, r⟩ => ⟨o, es, n, hidT_get e (dictN e d), d, r⟩
    have inB : K.In (hidT t.heap H) := fun b o e => hidT_get (inK b o e) (by
      cases q : H b with
      | none => rfl
      | some u =>
        obtain rfl : b = a := alone b fun z => by rw [q] at z; cases z
        rw [notK fun z => by rw [q] at z; cases z] at e
        cases e)
    have modB : Mod K mg (hidT t.heap H) := ⟨inB, nsH nsM, ⟨mb, nsH nsB, boot⟩, let ⟨mc, l1, l2⟩ := lim; ⟨mc, nsH l1, l2⟩⟩
    have env : Env0 P w K mg (hidT t.heap H) callerA [] t H := ⟨rfl, modB, fun b o e => of_hidT e, Nat.le_of_eq (hidT_size _ _), trivial, (fun b hb => by cases hb), hok, .of_eq noG⟩
    have run := (keeps _ inB (nsH nsM)).run callerA [] t H ⟨[.ref a], []⟩ [.ref a] [.ref a] _ _ room rfl env (binds t (.ref a)) (.cons rfl .nil) (asks H ob0 hS)
    refine codeAny_mono run fun r s' h => ?_
    cases r with
    | error e => exact False.elim h
    | ok fl =>
      cases fl with
      | ret u =>
        obtain ⟨v, H', os, bare, un, hok', rv, q⟩ := h
        have q' : v = .bl true := q
        subst q'
        obtain rfl : u = Value.bool true := rv
        refine ⟨rfl, .of_keep fun b o e => ?_, os, bare⟩
        cases q : H b with
        | none => exact un.keep b o e q (fun z => nomatch z) (by simp)
        | some u =>
          rcases only b with z | ⟨ob, xs, z⟩
          · rw [z] at q; cases q
          · obtain ⟨e1, _⟩ := hok b _ z
            obtain ⟨e2, _⟩ := hok' b _ (un.frzs b ob _ z)
            rw [e] at e1
            cases e1
            exact e2
      | _ => exact False.elim h
  cases own : K.lookup a with
  | some o =>
    have e := inK a o own
    rw [script] at e
    cases e
    exact (noLst _ own rfl).elim
  | none =>
    have hit : ∀ (o : HO), (if a = a then some o else none) = some o := fun o => if_pos rfl
    refine main (fun b => if b = a then some (.frz { cls := .type "list", data := .seq us.toArray } (.lst (ns.map V.int))) else none) (fun b => ?_) ⟨_, hit _⟩ (fun b u z => ?_) (fun b z => ?_) fun _ => own
    · by_cases c : b = a
      · exact .inr ⟨_, _, if_pos c⟩
      · exact .inl (if_neg c)
    · by_cases c : b = a
      · subst c
        cases (hit _).symm.trans z
        exact ⟨script, by rw [List.length_map]; exact short, us, _, lays, script⟩
      · cases (if_neg c).symm.trans z
    · by_cases c : b = a
      · exact c
      · exact absurd (if_neg c) z
theorem den_ints {K : PySem.W.Frag} {H : Hp} : ∀ ns : List Int, DenL K H (ns.map D.int) (ns.map V.int)
  | [] => .nil
  | n :: r => .cons (.int n) (den_ints r)
theorem lookup_mem {α : Type} {a : Nat} {o : α} : ∀ {l : List (Nat × α)}, l.lookup a = some o → (a, o) ∈ l
  | (b, u) :: r, h => by
    rw [List.lookup_cons] at h
    split at h
    · rename_i c
      cases h
      rw [beq_iff_eq.mp c]
      exact List.mem_cons_self
    · exact List.mem_cons_of_mem _ (lookup_mem h)
/-- the goal that k_head leaves, from the law's own promise: True, whatever the script -/
theorem walk_G {l : PySem.W.OpenLaw} {n k : Nat} {q : Program} {loose : List Str} {XP : (Str → Option Value) → Heap → Prop} {YP : World → Heap → Prop} {d : DefRec} {K : Params → PySem.W.Frag} {DI : Addr → GH → Prop} {sp : WF} {x : Str}
    (h1 : l.most = some n) (h2 : n ≤ sizeLine) (h3 : d.params.defaults = []) (room : Room k callerA) (inY : ∀ (w : World) (h : Heap), YP w h → (K w.params).In h)
    (top : ∀ (w : World) (mg : Str → Option Value) (fa : Addr) (h : Heap), (K w.params).In h → h.Ns mainGlobals mg → mg d.name = some (.ref fa) →
      ∃ fd : FuncData, (∀ (s : Shared) (u : Value), BindsTo s fd ⟨[u], []⟩ [(x, u)]) ∧ ∀ b0 : Heap, (K w.params).In b0 → b0.Ns mainGlobals mg → FnG l.prog w (K w.params) mg b0 k fa fd [x] (spOf (K w.params) DI 1 sp))
    (asks : ∀ ns : List Int, ns.length ≤ n → ∀ d R, (∀ S', R (.bl true) S') → (d = .lst (ns.map D.int)) → sp [d] ⟨fun _ => none, none⟩ R)
    (noLst : ∀ P : Params, ((K P).all fun p => !(p.2.cls == .type "list")) = true) :
    PySem.W.WalkO q loose XP YP l.row.toRowW d [] (fun f vs => PySem.call f vs) := by
  refine Att.attach_call h1 h3 fun w s0 s1 mg mb fa o pm cd doc a vs ns G Y ho hd hcd hmg hobj hints hlen hg => ?_
  obtain ⟨fd, hb, hF⟩ := top w mg fa _ (inY w _ Y) G.T.g hmg
  refine law_callG (inY w _ Y) G.T.g G.T.b G.T.builtins G.T.nolimit hg hobj hints (Nat.le_trans hlen h2) room hF hb (fun H ob hS => ?_) fun o e1 e2 => ?_
  · exact ⟨rfl, fun _ => none, [.lst (ns.map D.int)], ⟨fun _ => none, none⟩, fun d _ => d = .bl true, ⟨(fun a m e => nomatch e), (fun dk e => nomatch e), (fun a o e => nomatch e)⟩, .one (.lst hS (den_ints ns)), asks ns hlen _ _ (fun _ => rfl) rfl, fun d S v H' r rel k den => by subst r; cases den; rfl⟩
  · have z := noLst w.params
    have m := List.all_eq_true.mp z (a, o) (lookup_mem e1)
    rw [e2] at m
    cases m
end Dv

/-! Dv15: a def from its text; what the module holds. -/
namespace Dv
open PySem PySem.Spec L2
open PyProof.Rows hiding St

/-- a def of the module: its text, its parameters, how it may be called by keywords -/
structure Df (K : PySem.W.Frag) (mg : Str → Option Value) (x : Str) (st : Stmt) (ps : List Str) (kws : List (Nat × List Str × List Nat)) : Prop where
  ex : ∃ (f : Addr) (fd : FuncData), mg x = some (.ref f) ∧ L2.Fun K x x st f fd ∧ Binds K fd ps [] ∧ ∀ sh ∈ kws, KwB K fd ps sh
def FnsIn (P : Program) (w : World) (K : PySem.W.Frag) (mg : Str → Option Value) (base : Heap) (DI : Addr → GH → Prop) (k : Nat) : List Fn → Prop
  | [] => True
  | e :: r => FnIn P w K mg base DI k e ∧ FnsIn P w K mg base DI k r
def CsIn (K : PySem.W.Frag) (mg : Str → Option Value) : List (Str × D) → Prop
  | [] => True
  | p :: r => (∃ v u, mg p.1 = some u ∧ RelV v u ∧ ∀ H, Den K H p.2 v) ∧ CsIn K mg r
def BlIn (mg : Str → Option Value) (bl : List Str) : Prop := ∀ x, bl.contains x = true → mg x = none
theorem FnsIn.at {P : Program} {w : World} {K : PySem.W.Frag} {mg : Str → Option Value} {base : Heap} {DI : Addr → GH → Prop} {k : Nat} : ∀ {fns : List Fn}, FnsIn P w K mg base DI k fns → ∀ j, j < fns.length → FnIn P w K mg base DI k (fnAt fns j)
  | _ :: _, h, 0, _ => h.1
  | _ :: _, h, j + 1, l => FnsIn.at h.2 j (Nat.lt_of_succ_lt_succ l)
  | [], _, _, l => absurd l (Nat.not_lt_zero _)
theorem CsIn.at {K : PySem.W.Frag} {mg : Str → Option Value} : ∀ {cs : List (Str × D)}, CsIn K mg cs → ∀ j, j < cs.length → ∃ v u, mg (csNm cs j) = some u ∧ RelV v u ∧ ∀ H, Den K H (csAt cs j) v
  | _ :: _, h, 0, _ => h.1
  | _ :: _, h, j + 1, l => CsIn.at h.2 j (Nat.lt_of_succ_lt_succ l)
  | [], _, _, l => absurd l (Nat.not_lt_zero _)
theorem fn_mk {P : Program} {w : World} {K : PySem.W.Frag} {mg : Str → Option Value} {base : Heap} {DI : Addr → GH → Prop} {k : Nat} {x : Str} {st : Stmt} {N ps : List Str} {kws : List (Nat × List Str × List Nat)} {n : Nat} {sp : WF} {b : WS} {fns : List Fn} {cs : List (Str × D)} {bl : List Str}
    (d : Df K mg x st ps kws) (sc : FnScope N ps (defScope st)) (hn : ps.length = n) (hF : FnsIn P w K mg base DI k fns) (hk : CsIn K mg cs) (hb : BlIn mg bl)
    (hbody : ∀ (X : Cx) (o : Ob X DI N (defScope st) k fns cs bl true), PSs X (defBody st) (lftS X.K DI b))
    (hsp : ∀ ds S R, ds.length = n → sp ds S R → b ⟨fun _ S' => R .non S', R, fun _ _ => False, fun _ _ => False⟩ (startD N ds) S) : FnIn P w K mg base DI (k + 1) ⟨x, n, sp, kws⟩ := by
  obtain ⟨f, fd, h1, h2, h3, h4⟩ := d.ex
  refine ⟨f, fd, ps, h1, h2.kp, h3, h4, fnG_of h2 sc hn (fun X e1 e2 e3 e4 e5 e6 e7 hc hr hg hx hfn => ?_) hsp⟩
  subst e1 e2 e3 e4 e5
  exact hbody X ⟨sc.nd, e6, e7, sc.kind, hc, hr, hg, hF.at, hk.at, hb, fun _ => hfn, fun _ => hx⟩
/-- the law's def, by its body; its script is a list of ints that nobody changes -/
theorem law_mk {P : Program} {w : World} {K : PySem.W.Frag} {mg : Str → Option Value} {base : Heap} {DI : Addr → GH → Prop} {k : Nat} {x : Str} {f : Addr} {fd : FuncData} {st : Stmt} {N ps : List Str} {n : Nat} {sp : WF} {b : WS} {fns : List Fn} {cs : List (Str × D)} {bl : List Str}
    (d : L2.Fun K x x st f fd) (sc : FnScope N ps (defScope st)) (hn : ps.length = n) (hF : FnsIn P w K mg base DI k fns) (hk : CsIn K mg cs) (hb : BlIn mg bl)
    (hbody : ∀ (X : Cx) (o : Ob X DI N (defScope st) k fns cs bl true), PSs X (defBody st) (lftS X.K DI b))
    (hsp : ∀ ds S R, ds.length = n → sp ds S R → b ⟨fun _ S' => R .non S', R, fun _ _ => False, fun _ _ => False⟩ (startD N ds) S) : FnG P w K mg base (k + 1) f fd ps (spOf K DI n sp) := by
  refine fnG_of d sc hn (fun X e1 e2 e3 e4 e5 e6 e7 hc hr hg hx hfn => ?_) hsp
  subst e1 e2 e3 e4 e5
  exact hbody X ⟨sc.nd, e6, e7, sc.kind, hc, hr, hg, hF.at, hk.at, hb, fun _ => hfn, fun _ => hx⟩
end Dv

/-! Dv16: the readings, applied; rules for comprehensions and loops. -/
namespace Dv
open PySem PySem.Spec L2
open PyProof.Rows hiding St

section
variable {ρ : Env} {S : GS} {Q : D → GS → Prop} {QA : List D → GS → Prop} {QT : Bool → GS → Prop} {R : WEnds} {a b c : W} {as r : WA} {t u : WT} {o1 o2 : W2} {QG : Env → GS → Prop}
theorem x_var {i : Nat} : wVar i ρ S Q = (match ρ[i]? with | some (some d) => Q d S | _ => False) := propext ⟨id, id⟩
theorem x_C {d : D} : wC d ρ S Q = Q d S := propext ⟨id, id⟩
theorem x_op : wOp o1 a b ρ S Q = a ρ S fun x S1 => b ρ S1 fun y S2 => o1 x y S2 Q := propext ⟨id, id⟩
theorem x_un {o : W1} : wUn o a ρ S Q = a ρ S fun x S1 => o x S1 Q := propext ⟨id, id⟩
theorem x_slice {l h : WO} : wSlice a l h ρ S Q = a ρ S fun x S1 => l ρ S1 fun lo S2 => h ρ S2 fun hi S3 => (match x with
  | .str z => z.length ≤ sizeLine ∧ Q (.str (cutS z lo hi)) S3
  | .tup ds => Q (.tup (cutD ds lo hi)) S3
  | x => match asL S3 x with
    | some ds => Q (.lst (cutD ds lo hi)) S3
    | none => False) := propext ⟨id, id⟩
theorem x_noPart {QO : Option Int → GS → Prop} : wNoPart ρ S QO = QO none S := propext ⟨id, id⟩
theorem x_part {QO : Option Int → GS → Prop} : wPart a ρ S QO = a ρ S fun d S' => (match d with | .int i => QO (some i) S' | _ => False) := propext ⟨id, id⟩
theorem x_tru : wTru a ρ S QT = a ρ S fun d S' => (match truD S' d with | some b => QT b S' | none => False) := propext ⟨id, id⟩
theorem x_B : wB a ρ S QT = a ρ S fun d S' => (match d with | .bl b => QT b S' | _ => False) := propext ⟨id, id⟩
theorem x_chain : wChain o1 o2 a b c ρ S Q = a ρ S fun x S1 => b ρ S1 fun y S2 => o1 x y S2 fun z S3 => (match z with
  | .bl true => c ρ S3 fun u S4 => o2 y u S4 Q
  | .bl false => Q (.bl false) S3
  | _ => False) := propext ⟨id, id⟩
theorem x_and : wAnd t u ρ S QT = t ρ S fun c S1 => if c = true then u ρ S1 QT else QT false S1 := propext ⟨id, id⟩
theorem x_or : wOr t u ρ S QT = t ρ S fun c S1 => if c = true then QT true S1 else u ρ S1 QT := propext ⟨id, id⟩
theorem x_not : wNot t ρ S QT = t ρ S fun c S1 => QT (!c) S1 := propext ⟨id, id⟩
theorem x_andV : wAndV a b ρ S Q = a ρ S fun x S1 => (match x with | .bl true => b ρ S1 Q | .bl false => Q (.bl false) S1 | _ => False) := propext ⟨id, id⟩
theorem x_orV : wOrV a b ρ S Q = a ρ S fun x S1 => (match x with | .bl false => b ρ S1 Q | .bl true => Q (.bl true) S1 | _ => False) := propext ⟨id, id⟩
theorem x_notB : wNotB a ρ S Q = a ρ S fun d S1 => (match d with | .bl c => Q (.bl (!c)) S1 | _ => False) := propext ⟨id, id⟩
theorem x_if : wIf t a b ρ S Q = t ρ S fun c S1 => if c = true then a ρ S1 Q else b ρ S1 Q := propext ⟨id, id⟩
theorem x_nil : wNil ρ S QA = QA [] S := propext ⟨id, id⟩
theorem x_cons : wCons a r ρ S QA = a ρ S fun x S1 => r ρ S1 fun xs S2 => QA (x :: xs) S2 := propext ⟨id, id⟩
theorem x_tup : wTup as ρ S Q = as ρ S fun xs S1 => xs.length ≤ sizeLine ∧ Q (.tup xs) S1 := propext ⟨id, id⟩
theorem x_lst : wLst as ρ S Q = as ρ S fun xs S1 => xs.length ≤ sizeLine ∧ Q (.lst xs) S1 := propext ⟨id, id⟩
theorem x_lstN : wLstN as ρ S Q = as ρ S fun xs S1 => xs.length ≤ sizeLine ∧ ∀ p, S1.g p = none → Q (.ref p) (S1.set p (.lst xs)) := propext ⟨id, id⟩
theorem x_call {f : WF} : wCall f as ρ S Q = as ρ S fun ds S' => f ds S' Q := propext ⟨id, id⟩
theorem x_callK {f : WF} {is : List Nat} : wCallK f is as ρ S Q = as ρ S fun ds S' => f (pick ds is) S' Q := propext ⟨id, id⟩
theorem x_ml {f : D → WF} : wMl f a as ρ S Q = a ρ S fun d S1 => isLs S1 d = true ∧ as ρ S1 fun ds S2 => f d ds S2 Q := propext ⟨id, id⟩
theorem x_words : wWords a ρ S Q = a ρ S fun d S1 => (match d with | .str z => z.length + 2 ≤ sizeLine ∧ Q (.lst ((Txt.words z).map D.str)) S1 | _ => False) := propext ⟨id, id⟩
theorem x_disp {l : List (W × W)} : wDisp l ρ S Q = wPairs l ρ S fun ps S1 => ∃ ks, keyPs ps = some ks ∧ ks.length ≤ 15 ∧ Q (.dct (mergeD [] ks)) S1 := propext ⟨id, id⟩
theorem x_dispN {l : List (W × W)} : wDispN l ρ S Q = wPairs l ρ S fun ps S1 => ∃ ks, keyPs ps = some ks ∧ ks.length ≤ 15 ∧ ∀ p, S1.g p = none → Q (.ref p) (S1.set p (.dct (mergeD [] ks))) := propext ⟨id, id⟩
theorem x_d0 : wD0 ρ S Q = Q (.dct []) S := propext ⟨id, id⟩
theorem x_d0N : wD0N ρ S Q = ∀ p, S.g p = none → Q (.ref p) (S.set p (.dct [])) := propext ⟨id, id⟩
theorem x_pnil {QP : List (D × D) → GS → Prop} : wPairs [] ρ S QP = QP [] S := propext ⟨id, id⟩
theorem x_pcons {l : List (W × W)} {QP : List (D × D) → GS → Prop} : wPairs ((a, b) :: l) ρ S QP = a ρ S fun d S1 => b ρ S1 fun e S2 => wPairs l ρ S2 fun ps S3 => QP ((d, e) :: ps) S3 := propext ⟨id, id⟩
theorem x_seq {p q : WS} : wSeq p q R ρ S = p { R with nx := q R } ρ S := propext ⟨id, id⟩
theorem x_skip : wSkip R ρ S = R.nx ρ S := propext ⟨id, id⟩
theorem x_brk : wBrk R ρ S = R.bk ρ S := propext ⟨id, id⟩
theorem x_cnt : wCnt R ρ S = R.ct ρ S := propext ⟨id, id⟩
theorem x_ifS {p q : WS} : wIfS t p q R ρ S = t ρ S fun c S1 => if c = true then p R ρ S1 else q R ρ S1 := propext ⟨id, id⟩
theorem x_ret : wRet a R ρ S = a ρ S R.rt := propext ⟨id, id⟩
theorem x_retN : wRetN R ρ S = R.rt .non S := propext ⟨id, id⟩
theorem x_expr : wExpr a R ρ S = a ρ S fun _ S1 => R.nx ρ S1 := propext ⟨id, id⟩
theorem x_asg {g : WG} : wAsg a g R ρ S = a ρ S fun d S1 => g d ρ S1 R.nx := propext ⟨id, id⟩
theorem x_par {i j : Nat} : wPar i j as R ρ S = as ρ S fun ds S1 => (match ds with | [x, y] => R.nx ((ρ.set i (some x)).set j (some y)) S1 | _ => False) := propext ⟨id, id⟩
theorem x_gN {i : Nat} {d : D} : gN i d ρ S QG = QG (ρ.set i (some d)) S := propext ⟨id, id⟩
theorem x_gT {n : Nat} {g : WGs} {d : D} : gT n g d ρ S QG = (match d with | .tup ds => ds.length = n ∧ g ds ρ S QG | .pr ds => ds.length = n ∧ g ds ρ S QG | _ => False) := propext ⟨id, id⟩
theorem x_gs0 {ds : List D} : gsNil ds ρ S QG = (ds = [] ∧ QG ρ S) := propext ⟨id, id⟩
theorem x_gs1 {g : WG} {gr : WGs} {d : D} {ds : List D} : gsCons g gr (d :: ds) ρ S QG = g d ρ S fun ρ' S' => gr ds ρ' S' QG := propext ⟨id, id⟩
theorem x_gS {d : D} : gS a b d ρ S QG = a ρ S fun o S1 => b ρ S1 fun i S2 => oSet o i d S2 fun S3 => QG ρ S3 := propext ⟨id, id⟩
theorem x_yes : wYes ρ S QT = QT true S := propext ⟨id, id⟩
variable {QI : List D → Gd → GS → Prop}
theorem x_iSeq : wiSeq a ρ S QI = a ρ S fun d S' => (match d with
  | .tup ds => QI ds [] S'
  | .lst ds => QI ds [] S'
  | .str x => QI (sgD x) [] S'
  | .dct kvs => QI (kvs.map fun p => kD p.1) [] S'
  | .ref p => (match S'.g p with
    | some (.lst ds) => QI ds [(p, ds)] S'
    | some (.fct kvs) => QI (kvs.map fun p => kD p.1) [] S'
    | _ => False)
  | _ => False) := propext ⟨id, id⟩
theorem x_iRg1 : wiRg1 a ρ S QI = a ρ S fun d S' => ∃ j, d = .int j ∧ -(2 ^ 62) ≤ j ∧ j < 2 ^ 62 ∧ QI (rgD 0 j.toNat) [] S' := propext ⟨id, id⟩
theorem x_iEn : wiEn a ρ S QI = a ρ S fun d S' => (match d with
  | .tup ds => QI (enD 0 ds) [] S'
  | .lst ds => QI (enD 0 ds) [] S'
  | .ref p => (match S'.g p with
    | some (.lst ds) => QI (enD 0 ds) [(p, ds)] S'
    | _ => False)
  | _ => False) := propext ⟨id, id⟩
theorem x_lc {wi : WI} {g : WG} {te : W} {vs : List Nat} : wLc wi g t te vs ρ S Q = wLcB wi g t te vs ρ S fun acc S' => Q (.lst acc) S' := propext ⟨id, id⟩
theorem x_lcN {wi : WI} {g : WG} {te : W} {vs : List Nat} : wLcN wi g t te vs ρ S Q = wLcB wi g t te vs ρ S fun acc S' => ∀ p, S'.g p = none → Q (.ref p) (S'.set p (.lst acc)) := propext ⟨id, id⟩
/-! ### branches in one -/
theorem i_fold {QT : Bool → GS → Prop} {c d : Bool} : (if c = true then QT true S else QT d S) = QT (c || d) S := by cases c <;> rfl
theorem i_fold2 {QT : Bool → GS → Prop} {c d : Bool} : (if c = true then QT d S else QT false S) = QT (c && d) S := by cases c <;> rfl

/-! ### comprehensions -/
/-- one turn -/
def turnLc (g : WG) (tt : WT) (te : W) (ρ : Env) (d : D) (S : GS) (Q : Option D → GS → Prop) : Prop := g d ρ S fun ρ' S' => tt ρ' S' fun b S2 => if b = true then te ρ' S2 fun y S3 => Q (some y) S3 else Q none S2
/-- what each item gives is told by a relation; nothing known changes -/
theorem lc_run {wi : WI} {g : WG} {tt : WT} {te : W} {vs : List Nat} {Q : List D → GS → Prop} {ds : List D} {gd : Gd} (T : D → Option D → Prop) (hi : ∀ Q : List D → Gd → GS → Prop, Q ds gd S → wi ρ S Q) (hgd : gdOk gd S) (hz : ds.length ≤ sizeLine)
    (ht : ∀ d ∈ ds, ∀ Q : Option D → GS → Prop, (∀ o, T d o → Q o S) → turnLc g tt te (wipeD ρ vs) d S Q)
    (hQ : ∀ os : List (Option D), os.length = ds.length → (∀ (i : Nat) (d : D) (o : Option D), ds[i]? = some d → os[i]? = some o → T d o) → Q (os.filterMap id) S) : wLcB wi g tt te vs ρ S Q := by
  let P : List D → List D → GS → Prop := fun rest acc S' => S' = S ∧ ∃ os : List (Option D), os.length + rest.length = ds.length ∧ rest = ds.drop os.length ∧ acc = os.filterMap id ∧ ∀ (i : Nat) (d : D) (o : Option D), ds[i]? = some d → os[i]? = some o → T d o
  refine hi _ ⟨P, ⟨rfl, [], by simp, rfl, rfl, fun i d o _ e => by simp at e⟩, ?_, ?_⟩
  · rintro d r acc _ ⟨rfl, os, hl, hr, rfl, hT⟩
    refine ⟨hgd, ?_⟩
    have hd : ds[os.length]? = some d := by
      have := congrArg List.head? hr
      rw [List.head?_drop] at this
      exact this.symm
    have hmem : d ∈ ds := List.mem_of_getElem? hd
    have nxt : ∀ o, T d o → r = ds.drop (os ++ [o]).length ∧ (os ++ [o]).length + r.length = ds.length ∧ ∀ (i : Nat) (x : D) (y : Option D), ds[i]? = some x → (os ++ [o])[i]? = some y → T x y := fun o ho => by
      refine ⟨?_, ?_, fun i x y e1 e2 => ?_⟩
      · have := congrArg List.tail hr
        rw [List.tail_drop] at this
        rw [List.length_append]
        exact this
      · rw [List.length_append]
        rw [List.length_cons] at hl
        show os.length + 1 + r.length = _
        omega
      · by_cases hi : i < os.length
        · rw [List.getElem?_append_left hi] at e2
          exact hT i x y e1 e2
        · have h2 := (List.getElem?_eq_some_iff.mp e2).1
          rw [List.length_append] at h2
          have : i = os.length := by
            have : i < os.length + 1 := h2
            omega
          subst this
          rw [hd] at e1
          cases e1
          rw [List.getElem?_append_right (Nat.le_refl _)] at e2
          simp at e2
          rw [← e2]
          exact ho
    refine ht d hmem (fun o S3 => (match o with
      | some y => (os.filterMap id).length < sizeLine ∧ P r (os.filterMap id ++ [y]) S3
      | none => P r (os.filterMap id) S3)) fun o ho => ?_
    obtain ⟨n1, n2, n3⟩ := nxt o ho
    cases o with
    | some y =>
      refine ⟨?_, rfl, os ++ [some y], n2, n1, ?_, n3⟩
      · have h1 := List.length_filterMap_le id os
        rw [List.length_cons] at hl
        omega
      · rw [List.filterMap_append]; rfl
    | none =>
      refine ⟨rfl, os ++ [none], n2, n1, ?_, n3⟩
      rw [List.filterMap_append]; simp
  · rintro acc _ ⟨rfl, os, hl, hr, rfl, hT⟩
    exact ⟨hgd, hQ os (by simpa using hl) hT⟩
/-- each item gives one value, a function of it -/
theorem lc_map {wi : WI} {g : WG} {tt : WT} {te : W} {vs : List Nat} {Q : List D → GS → Prop} {ds : List D} {gd : Gd} (f : D → D) (hi : ∀ Q : List D → Gd → GS → Prop, Q ds gd S → wi ρ S Q) (hgd : gdOk gd S) (hz : ds.length ≤ sizeLine)
    (ht : ∀ d ∈ ds, ∀ Q : Option D → GS → Prop, Q (some (f d)) S → turnLc g tt te (wipeD ρ vs) d S Q) (hQ : Q (ds.map f) S) : wLcB wi g tt te vs ρ S Q := by
  refine lc_run (fun d o => o = some (f d)) hi hgd hz (fun d m Q q => ht d m Q (q _ rfl)) fun os hl h => ?_
  have : os = (ds.map f).map some := by
    apply List.ext_getElem?
    intro i
    rw [List.map_map, List.getElem?_map]
    cases q : ds[i]? with
    | none => rw [List.getElem?_eq_none (by rw [hl]; exact List.getElem?_eq_none_iff.mp q)]; rfl
    | some d =>
      have hi' := (List.getElem?_eq_some_iff.mp q).1
      have z := List.getElem?_eq_getElem (l := os) (i := i) (by rw [hl]; exact hi')
      rw [z, h i d _ q z]
      rfl
  rw [this, List.filterMap_map]
  have e : List.filterMap (id ∘ some) (ds.map f) = ds.map f := List.filterMap_some
  rw [e]
  exact hQ
/-- the items of which it is so, themselves -/
theorem lc_filter {wi : WI} {g : WG} {tt : WT} {te : W} {vs : List Nat} {Q : List D → GS → Prop} {ds : List D} {gd : Gd} (p : D → Bool) (hi : ∀ Q : List D → Gd → GS → Prop, Q ds gd S → wi ρ S Q) (hgd : gdOk gd S) (hz : ds.length ≤ sizeLine)
    (ht : ∀ d ∈ ds, ∀ Q : Option D → GS → Prop, Q (if p d = true then some d else none) S → turnLc g tt te (wipeD ρ vs) d S Q) (hQ : Q (ds.filter p) S) : wLcB wi g tt te vs ρ S Q := by
  refine lc_run (fun d o => o = if p d = true then some d else none) hi hgd hz (fun d m Q q => ht d m Q (q _ rfl)) fun os hl h => ?_
  have : os = ds.map fun d => if p d = true then some d else none := by
    apply List.ext_getElem?
    intro i
    rw [List.getElem?_map]
    cases q : ds[i]? with
    | none => rw [List.getElem?_eq_none (by rw [hl]; exact List.getElem?_eq_none_iff.mp q)]; rfl
    | some d =>
      have hi' := (List.getElem?_eq_some_iff.mp q).1
      have z := List.getElem?_eq_getElem (l := os) (i := i) (by rw [hl]; exact hi')
      rw [z, h i d _ q z]
      rfl
  rw [this, List.filterMap_map]
  have e : ∀ l : List D, List.filterMap (id ∘ fun d => if p d = true then some d else none) l = l.filter p := fun l => by
    induction l with
    | nil => rfl
    | cons x r ih =>
      rw [List.filterMap_cons, List.filter_cons]
      by_cases c : p x = true
      · simp [c]; exact ih
      · simp [c]; exact ih
  rw [e]
  exact hQ
/-- each item gives one value of which something is so -/
theorem lc_all {wi : WI} {g : WG} {tt : WT} {te : W} {vs : List Nat} {Q : List D → GS → Prop} {ds : List D} {gd : Gd} (G : D → Prop) (hi : ∀ Q : List D → Gd → GS → Prop, Q ds gd S → wi ρ S Q) (hgd : gdOk gd S) (hz : ds.length ≤ sizeLine)
    (ht : ∀ d ∈ ds, ∀ Q : Option D → GS → Prop, (∀ y, G y → Q (some y) S) → turnLc g tt te (wipeD ρ vs) d S Q) (hQ : ∀ ys, ys.length = ds.length → (∀ y ∈ ys, G y) → Q ys S) : wLcB wi g tt te vs ρ S Q := by
  refine lc_run (fun d o => ∃ y, G y ∧ o = some y) hi hgd hz (fun d m Q q => ht d m Q fun y gy => q _ ⟨y, gy, rfl⟩) fun os hl h => ?_
  have : ∀ (os : List (Option D)), (∀ o ∈ os, ∃ y, G y ∧ o = some y) → ∃ ys : List D, os = ys.map some ∧ ∀ y ∈ ys, G y := fun os => by
    induction os with
    | nil => exact fun _ => ⟨[], rfl, fun y m => nomatch m⟩
    | cons o r ih =>
      intro z
      obtain ⟨ys, e1, e2⟩ := ih fun o m => z o (by simp [m])
      obtain ⟨y, gy, e3⟩ := z o (by simp)
      exact ⟨y :: ys, by rw [e1, e3]; rfl, fun x m => by rcases List.mem_cons.mp m with rfl | m; exact gy; exact e2 x m⟩
  obtain ⟨ys, e1, e2⟩ := this os fun o m => by
    obtain ⟨i, hi', e⟩ := List.getElem_of_mem m
    have z := List.getElem?_eq_getElem (l := os) (i := i) hi'
    have z2 := List.getElem?_eq_getElem (l := ds) (i := i) (by rw [← hl]; exact hi')
    rw [e] at z
    exact h i _ o z2 z
  subst e1
  rw [List.filterMap_map]
  have e : List.filterMap (id ∘ some) ys = ys := List.filterMap_some
  rw [e]
  exact hQ ys (by simpa using hl) e2
theorem gd0 {S : GS} : gdOk [] S := trivial
theorem bools_map {α : Type} (f : α → Bool) : ∀ l : List α, bools (l.map fun x => .bl (f x)) = some (l.map f)
  | [] => rfl
  | x :: r => by rw [List.map_cons, bools, bools_map f r]; rfl
theorem all_id {α : Type} (f : α → Bool) (l : List α) : (l.map f).all id = l.all f := by
  induction l with
  | nil => rfl
  | cons x r ih => rw [List.map_cons, List.all_cons, List.all_cons, ih]; rfl
end
end Dv

/-! Dv17: t[::-1], sorted of texts. -/
namespace Dv
open PySem PySem.Spec L2
open PyProof.Rows hiding St
section
variable {prog : Program} {w : World} {A : Around} {E : Value → Shared → Prop} {s : Shared}
theorem back_adjust (n : Nat) : Builtin.Slice.sliceAdjust none none (-1) (n : Int) = ((n : Int) - 1, -1) := by
  unfold Builtin.Slice.sliceAdjust
  simp
theorem back_places (n : Nat) : Builtin.Slice.slicePlaces ((n : Int) - 1) (-1) (-1) = n := by
  unfold Builtin.Slice.slicePlaces
  have h1 : ¬ ((-1 : Int) > 0) := by decide
  simp only [h1, if_false]
  split
  · simp
  · omega
theorem back_pick (xs : Array Value) : ((List.range xs.size).filterMap fun (m : Nat) => xs[(((xs.size : Int) - 1) + (m : Int) * (-1)).toNat]?).toArray = xs.toList.reverse.toArray := by
  have e : ∀ l : List Nat, (∀ m ∈ l, m < xs.size) → l.filterMap (fun (m : Nat) => xs[(((xs.size : Int) - 1) + (m : Int) * (-1)).toNat]?) = (l.map fun k => xs.size - 1 - k).filterMap (xs[·]?) := fun l => by
    induction l with
    | nil => exact fun _ => rfl
    | cons m r ih =>
      intro h
      have hm := h m (by simp)
      have e1 : (((xs.size : Int) - 1) + (m : Int) * (-1)).toNat = xs.size - 1 - m := by omega
      rw [List.map_cons, List.filterMap_cons, List.filterMap_cons, e1, ih fun k hk => h k (by simp [hk])]
  rw [e _ fun m hm => List.mem_range.mp hm, PySem.W.krv_range, List.filterMap_reverse, PySem.W.krv_all]
theorem slice_back {sl : Addr} {vs : Value} {n : Nat} {Q : Int × Int × Nat → Shared → Prop} (hs : s.heap.IsSliceOf sl .none .none vs) (ps : IsPart vs (some (-1))) (h : Q ((n : Int) - 1, -1, n) s) :
    wpAny (model prog w) A (Builtin.Slice.sliceApplied (.ref sl) (pure (n : Int))) Q E s := by
  obtain ⟨ob, h1, h2, h3⟩ := id hs
  unfold Builtin.Slice.sliceApplied Builtin.Slice.sliceFields
  refine wpAny_bind (wpAny_bind (wpAny_field h1 h3 (x := .none) rfl (wpAny_bind (wpAny_field h1 h3 (x := .none) rfl (wpAny_bind (wpAny_field h1 h3 (x := vs) rfl (wpAny_pure ?_)))))))
  refine wpAny_bind (HT.slicePart_ ps ?_)
  show wpAny _ _ (if ((-1 : Int) == 0) = true then _ else _) _ _ s
  rw [if_neg (by decide)]
  refine wpAny_bind (HT.slicePart_ .none (wpAny_bind (HT.slicePart_ .none (wpAny_bind (wpAny_pure ?_)))))
  show wpAny _ _ (match Builtin.Slice.sliceAdjust none none (-1) (n : Int) with | (lo, hi) => pure (lo, (-1 : Int), Builtin.Slice.slicePlaces lo hi (-1))) _ _ s
  rw [back_adjust n]
  show wpAny _ _ (pure ((n : Int) - 1, (-1 : Int), Builtin.Slice.slicePlaces ((n : Int) - 1) (-1) (-1))) _ _ s
  rw [back_places]
  exact wpAny_pure h
theorem tup_back {t sl : Addr} {items : Array Value} {vs : Value} {Q : Value → Shared → Prop} (ht : IsTup s.heap t items) (hs : s.heap.IsSliceOf sl .none .none vs) (ps : IsPart vs (some (-1)))
    (h : Q (.ref s.heap.objs.size) { s with heap := s.heap.push { cls := .type "tuple", data := .seq items.toList.reverse.toArray } }) (hz : items.size ≤ sizeLine) : wpAny (model prog w) A (getItem (.ref t) (.ref sl)) Q E s := by
  have hfit : sizeOk (.seq items.toList.reverse.toArray) := by
    show items.toList.reverse.toArray.size ≤ sizeLine
    rw [List.size_toArray, List.length_reverse, Array.length_toList]
    exact hz
  obtain ⟨ob, h1, h2, h3⟩ := id hs
  have isSl : s.TypeIs (.ref sl) "slice" := ⟨ob, h1, h2⟩
  unfold getItem
  try with_reducible refine wpAny_holding ?_
  first | refine wpAny_bind (wpAny_pure ?_) | skip
  refine wpAny_bind (wpAny_sequenceKey ht.typeIs (by decide) ?_)
  refine wpAny_bind (wpAny_callSpecial?_slot (name := Str.ofString "__getitem__") ht.typeIs slot_tuple_getitem (wpAny_call_entry slot_tuple_getitem ht.typeIs entry_tuple_getitem ?_ (args_tuple_getitem _ _)))
  show wpAny _ _ (Builtin.Tuple.tupleItemsOf (.ref t) >>= _) _ _ s
  refine wpAny_bind (tupleItemsOf_ ht (wpAny_bind (wpAny_typeOf isSl ?_)))
  rw [if_pos (by decide)]
  refine wpAny_bind (slice_back hs ps ?_)
  have other : ¬ ((((items.size : Int) - 1) == 0 && (-1 : Int) == 1 && items.size == items.size) = true) := by
    rw [show ((-1 : Int) == 1) = false by decide, Bool.and_false, Bool.false_and]
    decide
  show wpAny _ _ (if (((items.size : Int) - 1) == 0 && (-1 : Int) == 1 && items.size == items.size) = true then _ else _) _ _ s
  rw [if_neg other, back_pick]
  have made := h
  first
    | exact wpAny_bind (m := Builtin.Tuple.tupleExact _) (wpAny_newObj_type (wpAny_pure ⟨_, rfl, wpAny_pure made⟩) hfit)
    | exact wpAny_bind (m := Builtin.Tuple.tupleExact _) (wpAny_newObj_type (wpAny_bind (wpAny_pure (wpAny_pure ⟨_, rfl, wpAny_pure made⟩))) hfit)
    | exact wpAny_bind (wpAny_bind (m := Builtin.Tuple.tupleExact _) (wpAny_newObj_type (wpAny_pure (wpAny_pure ⟨_, rfl, wpAny_pure made⟩)) hfit))
    | exact wpAny_bind (wpAny_bind (m := Builtin.Tuple.tupleExact _) (wpAny_newObj_type (wpAny_pure ⟨_, rfl, wpAny_pure made⟩) hfit))
end
section
variable {X : Cx} {DI : Addr → GH → Prop} {N : List Str} {sc : Scope} {k : Nat} {fns : List Fn} {cs : List (Str × D)} {bl : List Str} {fc : Bool}
variable {x : Str} {pos p1 p2 p3 : Pos} {e : Expr} {es : List Expr} {a : W} {wa : WA} {j0 : Nat}
def tBack (K : PySem.W.Frag) (te : TE) : TE := fun σ H Q => te σ H fun x H1 => ∃ a xs, x = .ref a ∧ ((SqL K H1 a xs ∧ ∀ p, H1 p = none → Q (.ref p) (upd H1 p (.lst xs.reverse))) ∨ (SqT K H1 a xs ∧ NewT H1 xs.reverse Q))
theorem pe_back {te : TE} (he : PE X e te) : PE X (.Subscript e (.Slice none none (some (.UnaryOp .USub (.Constant (.int 1) j0 p1) p2)) p3) pos) (tBack X.K te) := by
  refine ⟨fun pins s σ H Q I h => Subscript_ (thn (he.run pins s σ H _ I h) fun v s1 ⟨x, H1, I1, r1, a, xs, ex, q⟩ => ?_)⟩
  subst ex
  cases r1
  have step : PO X (some (.UnaryOp .USub (.Constant (.int 1) j0 p1) p2)) (tPart (tUn (rU fun i => .int (-i)) (tC (.int 1)))) := po_some (pe_un un_neg pe_int)
  refine wpAny_Slice (thn (po_none.run pins s1 σ H1 (fun o G => o = none ∧ G = H1) I1 ⟨rfl, rfl⟩) fun vl s2 ⟨l, H2, I2, pl, el, e2⟩ => ?_)
  subst el e2
  refine thn (po_none.run pins s2 σ H2 (fun o G => o = none ∧ G = H2) I2 ⟨rfl, rfl⟩) fun vu s3 ⟨u, H3, I3, pu, eu, e3⟩ => ?_
  subst eu e3
  refine thn (step.run pins s3 σ H3 (fun o G => o = some (-1) ∧ G = H3) I3 ⟨1, rfl, -1, rfl, rfl, rfl⟩) fun vs s4 ⟨o, H4, I4, ps, eo, e4⟩ => ?_
  subst eo e4
  have I5 : Inv X pins σ H4 { s4 with heap := s4.heap.push { cls := .type "slice", data := .fields #[vl, vu, vs] } } := I4.kept (t' := s4.toks) fun b ob z => Heap.get?_push_of_some _ z
  show wpAny (model X.prog X.w) X.A (subscriptTail e (.Slice none none (some (.UnaryOp .USub (.Constant (.int 1) j0 p1) p2)) p3) (.ref a) (.ref s4.heap.objs.size)) (EP X pins σ Q) X.xe { s4 with heap := s4.heap.push { cls := .type "slice", data := .fields #[vl, vu, vs] } }
  rcases q with ⟨hx, q⟩ | ⟨hx, q⟩
  · obtain ⟨its, r, ht, hz⟩ := I5.list hx
    have hlen := r.length
    refine tail_any (ops := [.ref a, .ref s4.heap.objs.size]) ht.isList.typeIs (PySem.slot_list_getitem.lookup) ?_ (by with_unfolding_all rfl)
    refine wpAny_getItem_list_slice ht.isList (Heap.IsSliceOf.new _ vl vu vs) pl pu ps (by decide) ?_ (by rw [List.size_toArray]; omega)
    rw [PySem.W.krv_pick]
    exact ⟨.ref _, _, I5.laid (t' := s4.toks) (o := .lst xs.reverse) (fun b ob z => Heap.get?_push_of_some _ z) (Nat.le_refl _) ⟨by rw [List.length_reverse]; exact hz, _, 0, r.reverse, Heap.get?_push_size _ rfl⟩, rfl, q _ (I5.hok.fresh (Nat.le_refl _))⟩
  · obtain ⟨its, r, ht, hz⟩ := I5.tuple hx
    have hlen := r.length
    cases pl
    cases pu
    refine tail_any (ops := [.ref a, .ref s4.heap.objs.size]) ht.typeIs (PyProof.Rows.slot_tuple_getitem.lookup) ?_ (by with_unfolding_all rfl)
    refine tup_back ht (Heap.IsSliceOf.new _ .none .none vs) ps ?_ (by rw [List.size_toArray]; omega)
    exact newT I5 r.reverse (by rw [List.length_reverse]; exact hz) q
def wBack (a : W) : W := fun ρ S Q => a ρ S fun d S1 => match d with
  | .tup ds => Q (.tup ds.reverse) S1
  | d => match asL S1 d with
    | some ds => Q (.lst ds.reverse) S1
    | none => False
theorem e_back (he : PE X e (lft X.K DI a)) : PE X (.Subscript e (.Slice none none (some (.UnaryOp .USub (.Constant (.int 1) j0 p1) p2)) p3) pos) (lft X.K DI (wBack a)) := (peLQ (pe_back he)).imp fun σ H Q q => by
  obtain ⟨F, ρ, S, R, rel, env, w, f⟩ := q
  refine ⟨F, ρ, S, _, rel, env, w, fun d S1 v H1 q1 rel1 k1 d1 => ?_⟩
  split at q1
  · obtain ⟨a, vs, rfl, t, den⟩ := d1.tupV
    exact ⟨a, vs, rfl, .inr ⟨t.sq, fun p o od hp => .inl (f.tup q1 rel1 k1 den.reverse od hp)⟩⟩
  · split at q1
    · rename_i ds e
      obtain ⟨a, vs, rfl, t, den⟩ := asL_ok rel1 d1 e
      exact ⟨a, vs, rfl, .inl ⟨.inl t, fun p hp => f.lst q1 rel1 k1 den.reverse hp⟩⟩
    · exact q1.elim
theorem x_back {ρ : Env} {S : GS} {Q : D → GS → Prop} : wBack a ρ S Q = a ρ S fun d S1 => (match d with
  | .tup ds => Q (.tup ds.reverse) S1
  | d => match asL S1 d with
    | some ds => Q (.lst ds.reverse) S1
    | none => False) := propext ⟨id, id⟩
/-! ### a if t else b, as a test -/
theorem truth_if {c e1 e2 : Expr} {env : PySem.Env} {whole : Sem Value} : isTrue (.IfExp c e1 e2 pos) env whole = (do
    let t ← isTrue c env (eval c env)
    if t = true then isTrue e1 env (eval e1 env) else isTrue e2 env (eval e2 env)) := by rfl
def wIfT (c t u : WT) : WT := fun ρ S Q => c ρ S fun b S1 => if b = true then t ρ S1 Q else u ρ S1 Q
theorem t_if {c e1 e2 : Expr} {wc t u : WT} (hc : PT X c (lftT X.K DI wc)) (ha : PT X e1 (lftT X.K DI t)) (hb : PT X e2 (lftT X.K DI u)) : PT X (.IfExp c e1 e2 pos) (lftT X.K DI (wIfT wc t u)) := ⟨fun pins s σ H Q I q => by
  obtain ⟨F, ρ, S, R, rel, env, w, f⟩ := q
  rw [truth_if]
  refine wpAny_bind (thn (hc.run pins s σ H (fun b H1 => if b = true then lftT X.K DI t σ H1 Q else lftT X.K DI u σ H1 Q) I ⟨F, ρ, S, _, rel, env, w, fun b S1 H1 r rel1 k1 => ?_⟩) fun b s1 ⟨H1, I1, z⟩ => ?_)
  · cases b with
    | true =>
      rw [if_pos rfl] at r ⊢
      exact ⟨F, ρ, S1, R, rel1, env.mn k1, r, f.up k1⟩
    | false =>
      rw [if_neg (by decide)] at r ⊢
      exact ⟨F, ρ, S1, R, rel1, env.mn k1, r, f.up k1⟩
  · cases b with
    | true =>
      rw [if_pos rfl] at z ⊢
      exact ha.run pins s1 σ H1 Q I1 z
    | false =>
      rw [if_neg (by decide)] at z ⊢
      exact hb.run pins s1 σ H1 Q I1 z⟩
theorem x_ifT {c t u : WT} {ρ : Env} {S : GS} {Q : Bool → GS → Prop} : wIfT c t u ρ S Q = c ρ S fun b S1 => if b = true then t ρ S1 Q else u ρ S1 Q := propext ⟨id, id⟩
/-! ### sorted, of texts -/
def strsOf : List D → Option (List Str)
  | [] => some []
  | .str z :: r => (strsOf r).map (z :: ·)
  | _ :: _ => none
theorem strsOf_ok {K : PySem.W.Frag} {H : Hp} : ∀ {ds : List D} {vs : List V} {zs : List Str}, strsOf ds = some zs → DenL K H ds vs → vs = zs.map V.str
  | [], _, _, e, h => by cases e; cases h; rfl
  | .str z :: r, _, _, e, h => by
    unfold strsOf at e
    obtain ⟨ys, e1, e2⟩ := Option.map_eq_some_iff.mp e
    cases e2
    cases h with
    | cons h1 h2 =>
      cases h1
      rw [strsOf_ok e1 h2]
      rfl
  | .non :: _, _, _, e, _ | .bl _ :: _, _, _, e, _ | .int _ :: _, _, _, e, _ | .ty _ :: _, _, _, e, _ | .ref _ :: _, _, _, e, _ | .tup _ :: _, _, _, e, _ | .lst _ :: _, _, _, e, _ | .dct _ :: _, _, _, e, _ => by cases e
def fSortS : WF := f1 fun d S Q => match asL S d with
  | some ds => match strsOf ds with
    | some zs => zs.length < 64 ∧ ∀ ys : List Str, ys.Perm zs → sortedS ys = true → Q (.lst (ys.map D.str)) S
    | none => False
  | none => False
theorem dc_sortS : CallR X (.builtin "sorted") (lftF X.K DI fSortS) := f1_ok (callLQ cr_sortedS) fun F d v S R H Q rel den w fin => by
  split at w
  · rename_i ds e
    split at w
    · rename_i zs ez
      obtain ⟨a, vs, rfl, t, dl⟩ := asL_ok rel den e
      have z := strsOf_ok ez dl
      subst z
      exact ⟨a, zs, rfl, .inl t, w.1, fun ys p h1 h2 hp => fin.lst (w.2 ys h1 h2) rel (.refl _) (den_strs ys) hp⟩
    · exact w.elim
  · exact w.elim
theorem e_sortS (o : Ob X DI N sc k fns cs bl fc) (ha : PAn X (e :: es) (lftA X.K DI wa)) (h : (okB bl sc x (.builtin "sorted") && ((e :: es).all nStar)) = true := by kernel_rfl) : PE X (.Call (.Name x p2) (e :: es) [] pos) (lft X.K DI (wCall fSortS wa)) := e_callB o "sorted" dc_sortS ha h
end
end Dv

/-! Dv18: d.get(k), d.get(k, x), dict(d). -/
namespace Dv
open PySem PySem.Spec L2
open PyProof.Rows hiding St
section
variable {X : Cx} {DI : Addr → GH → Prop} {N : List Str} {sc : Scope} {k : Nat} {fns : List Fn} {cs : List (Str × D)} {bl : List Str} {fc : Bool}
variable {x : Str} {pos apos p2 : Pos} {e e2 e3 : Expr} {es : List Expr} {a b c : W} {wa : WA}
def isDc (S : GS) : D → Bool
  | .dct _ => true
  | .ref p => match S.g p with
    | some (.dct _) => true
    | some (.fct _) => true
    | _ => false
  | _ => false
theorem isDc_ok {K : PySem.W.Frag} {F H : Hp} {S : GS} {d : D} {v : V} (rel : Rel K DI F S H) (den : Den K H d v) (h : isDc S d = true) : ∃ p, v = .ref p ∧ IsD H p := by
  have : ∃ kvs, asK S d = some kvs := by
    cases d with
    | dct kvs => exact ⟨kvs, rfl⟩
    | ref p =>
      unfold isDc at h
      unfold asK
      simp only at h
      split at h
      · rename_i kvs q; exact ⟨kvs, by simp only [q]⟩
      · rename_i kvs q; exact ⟨kvs, by simp only [q]⟩
      · cases h
    | _ => cases h
  obtain ⟨kvs, hk⟩ := this
  obtain ⟨p, vs, e1, e2, _⟩ := asK_ok rel den hk
  exact ⟨p, e1, .inl ⟨vs, e2⟩⟩
theorem m1_of {m : Str} (h : (nBase e && ((apos.endLine == pos.line) && nStar e2)) = true) : M1 X e m apos e2 pos := by
  simp only [Bool.and_eq_true] at h
  obtain ⟨h1, h2, h3⟩ := h
  exact ⟨base_of h1, few_of (by rw [List.all_cons, h3]; rfl), h2, by rw [star_cons h3]; rfl⟩
theorem m2_of {m : Str} (h : (nBase e && ((apos.endLine == pos.line) && (nStar e2 && nStar e3))) = true) : M2 X e m apos e2 e3 pos := by
  simp only [Bool.and_eq_true] at h
  obtain ⟨h1, h2, h3, h4⟩ := h
  exact ⟨base_of h1, few_of (by rw [List.all_cons, List.all_cons, h3, h4]; rfl), h2, by rw [star_cons h3, star_cons h4]; rfl⟩
def wGet1 (a b : W) : W := fun ρ S Q => a ρ S fun d S1 => isDc S1 d = true ∧ b ρ S1 fun y S2 => match asK S2 d, keyOf y with
  | some kvs, some key => Q ((look key kvs).getD .non) S2
  | _, _ => False
def wGet2 (a b c : W) : W := fun ρ S Q => a ρ S fun d S1 => isDc S1 d = true ∧ b ρ S1 fun y S2 => c ρ S2 fun z S3 => match asK S3 d, keyOf y with
  | some kvs, some key => Q ((look key kvs).getD z) S3
  | _, _ => False
theorem e_get1 (o : Ob X DI N sc k fns cs bl fc) (ha : PE X e (lft X.K DI a)) (hb : PE X e2 (lft X.K DI b)) (h : (nBase e && ((apos.endLine == pos.line) && nStar e2)) = true := by kernel_rfl) : PE X (.Call (.Attribute e "get" apos) [e2] [] pos) (lft X.K DI (wGet1 a b)) :=
  (pe_dget1 (by have := o.u; omega) ha hb (m1_of h)).imp fun σ H Q q => by
    obtain ⟨F, ρ, S, R, rel, env, w, fin⟩ := q
    refine ⟨F, ρ, S, _, rel, env, w, fun d S1 v H1 q1 rel1 k1 d1 => ?_⟩
    obtain ⟨p, rfl, hd⟩ := isDc_ok rel1 d1 q1.1
    refine ⟨p, rfl, hd, F, ρ, S1, _, rel1, env.mn k1, q1.2, fun y S2 u H2 q2 rel2 k2 d2 => ?_⟩
    split at q2
    · rename_i kvs key e1 e2
      obtain ⟨p', vs, e3, e4, dk⟩ := asK_ok rel2 (d1.mn k2) e1
      cases e3
      refine ⟨valV vs key, .inl ⟨vs, key, e4, keyOf_ok d2 e2, rfl⟩, ?_⟩
      obtain ⟨l1, l2⟩ := dk.look (k := key)
      cases hl : look key kvs with
      | none => rw [hl] at q2; rw [l2 hl]; exact fin _ _ _ _ q2 rel2 (k1.trans k2) .non
      | some x =>
        obtain ⟨u', e5, e6⟩ := l1 x hl
        rw [hl] at q2
        rw [e5]
        exact fin _ _ _ _ q2 rel2 (k1.trans k2) e6
    · exact q2.elim
theorem e_get2 (o : Ob X DI N sc k fns cs bl fc) (ha : PE X e (lft X.K DI a)) (hb : PE X e2 (lft X.K DI b)) (hc : PE X e3 (lft X.K DI c)) (h : (nBase e && ((apos.endLine == pos.line) && (nStar e2 && nStar e3))) = true := by kernel_rfl) : PE X (.Call (.Attribute e "get" apos) [e2, e3] [] pos) (lft X.K DI (wGet2 a b c)) :=
  (pe_dget2 (by have := o.u; omega) ha hb hc (m2_of h)).imp fun σ H Q q => by
    obtain ⟨F, ρ, S, R, rel, env, w, fin⟩ := q
    refine ⟨F, ρ, S, _, rel, env, w, fun d S1 v H1 q1 rel1 k1 d1 => ?_⟩
    obtain ⟨p, rfl, hd⟩ := isDc_ok rel1 d1 q1.1
    refine ⟨p, rfl, hd, F, ρ, S1, _, rel1, env.mn k1, q1.2, fun y S2 u H2 q2 rel2 k2 d2 => ?_⟩
    refine ⟨F, ρ, S2, _, rel2, env.mn (k1.trans k2), q2, fun z S3 t H3 q3 rel3 k3 d3 => ?_⟩
    split at q3
    · rename_i kvs key e1 e2
      obtain ⟨p', vs, e3, e4, dk⟩ := asK_ok rel3 ((d1.mn k2).mn k3) e1
      cases e3
      refine ⟨valV vs key, .inl ⟨vs, key, e4, keyOf_ok (d2.mn k3) e2, rfl⟩, ?_⟩
      obtain ⟨l1, l2⟩ := dk.look (k := key)
      cases hl : look key kvs with
      | none => rw [hl] at q3; rw [l2 hl]; exact fin _ _ _ _ q3 rel3 (k1.trans (k2.trans k3)) d3
      | some x =>
        obtain ⟨u', e5, e6⟩ := l1 x hl
        rw [hl] at q3
        rw [e5]
        exact fin _ _ _ _ q3 rel3 (k1.trans (k2.trans k3)) e6
    · exact q3.elim
theorem x_get1 {ρ : Env} {S : GS} {Q : D → GS → Prop} : wGet1 a b ρ S Q = a ρ S fun d S1 => isDc S1 d = true ∧ b ρ S1 fun y S2 => (match asK S2 d, keyOf y with
  | some kvs, some key => Q ((look key kvs).getD .non) S2
  | _, _ => False) := propext ⟨id, id⟩
theorem x_get2 {ρ : Env} {S : GS} {Q : D → GS → Prop} : wGet2 a b c ρ S Q = a ρ S fun d S1 => isDc S1 d = true ∧ b ρ S1 fun y S2 => c ρ S2 fun z S3 => (match asK S3 d, keyOf y with
  | some kvs, some key => Q ((look key kvs).getD z) S3
  | _, _ => False) := propext ⟨id, id⟩
/-- dict(d): a copy, told by what it holds, or by its address -/
def fDict : WF := f1 fun d S Q => match asK S d with
  | some kvs => Q (.dct kvs) S
  | none => False
def fDictN : WF := f1 fun d S Q => match asK S d with
  | some kvs => ∀ p, S.g p = none → Q (.ref p) (S.set p (.dct kvs))
  | none => False
theorem dc_dict : CallR X (.type "dict") (lftF X.K DI fDict) := f1_ok (callLQ call_dictD) fun F d v S R H Q rel den w fin => by
  split at w
  · rename_i kvs e
    obtain ⟨p, vs, rfl, t, dk⟩ := asK_ok rel den e
    exact ⟨p, vs, rfl, t, fun q hq => fin.dct w rel (.refl _) dk hq⟩
  · exact w.elim
theorem dc_dictN : CallR X (.type "dict") (lftF X.K DI fDictN) := f1_ok call_dictD fun F d v S R H Q rel den w fin => by
  split at w
  · rename_i kvs e
    obtain ⟨p, vs, rfl, t, dk⟩ := asK_ok rel den e
    exact ⟨p, vs, rfl, t, fun q hq => fin.newD (w q (rel.free hq)) rel (.refl _) dk hq⟩
  · exact w.elim
theorem e_toDict (o : Ob X DI N sc k fns cs bl fc) (ha : PAn X (e :: es) (lftA X.K DI wa)) (h : (okB bl sc x (.type "dict") && ((e :: es).all nStar)) = true := by kernel_rfl) : PE X (.Call (.Name x p2) (e :: es) [] pos) (lft X.K DI (wCall fDict wa)) := e_callT o "dict" dc_dict ha h
theorem e_toDictN (o : Ob X DI N sc k fns cs bl fc) (ha : PAn X (e :: es) (lftA X.K DI wa)) (h : (okB bl sc x (.type "dict") && ((e :: es).all nStar)) = true := by kernel_rfl) : PE X (.Call (.Name x p2) (e :: es) [] pos) (lft X.K DI (wCall fDictN wa)) := e_callT o "dict" dc_dictN ha h
end
end Dv

/-! Dv19: sets of scannable keys (texts among them) whose table can be walked: one key more. -/
namespace Dv
open PySem PySem.Spec L2
open PyProof.Rows hiding St
section
variable {P : Program} {w : World} {K : Type} [DecidableEq K] {knd : KeyKind P w K}
/-- what a table holds that can be walked: each element has a key, unlike ones unlike keys, the places rise -/
structure Laid (knd : KeyKind P w K) (es : Array (Int × Value)) (t : SetTable) (ks : List K) : Prop where
  el : ElemsOf knd es.toList
  mem : ∀ k, k ∈ ks ↔ ∃ e ∈ es.toList, knd.is k e.2 = true
  nd : ks.Nodup
  len : es.size = ks.length
  small : es.size < scanBound
  fits : t.fits es.size = true
  ris : Ris t.place.toList
  led : w.params.followText "set-order" = true ∨ t.led = true
/-- the set at a has the keys ks, each once -/
def SetK (knd : KeyKind P w K) (h : Heap) (a : Addr) (ks : List K) : Prop :=
  ∃ o es ep t, h.get? a = some o ∧ o.ExactSet ∧ o.data = .set es ep t ∧ Laid knd es t ks
theorem Laid.nil : Laid knd #[] (.fresh 0 0 (!w.params.followText "set-order")) [] where
  el := fun e he => by simp at he
  mem := fun k => by simp
  nd := List.nodup_nil
  len := rfl
  small := by decide
  fits := by rfl
  ris := List.Pairwise.nil
  led := by
    cases h : w.params.followText "set-order"
    · exact .inr rfl
    · exact .inl rfl
theorem Laid.more {es es1 : Array (Int × Value)} {t t1 : SetTable} {ks : List K} {k : K} {x : Value} (L : Laid knd es t ks) (hk : knd.is k x = true) (hx : x.scannable = true) (hn : k ∉ ks)
    (room : ks.length + 1 < scanBound) (p : es1.toList.Perm (es.toList ++ [(knd.hash k, x)])) (hf : t1.fits es1.size = true) (hr : Ris t1.place.toList) (hl : t1.led = t.led) : Laid knd es1 t1 (k :: ks) where
  el := (L.el.push hk hx).perm p
  mem := fun j => by
    rw [List.mem_cons, L.mem j]
    constructor
    · rintro (rfl | ⟨e, he, q⟩)
      · exact ⟨_, p.mem_iff.mpr (List.mem_append_right _ (List.mem_singleton.mpr rfl)), hk⟩
      · exact ⟨e, p.mem_iff.mpr (List.mem_append_left _ he), q⟩
    · rintro ⟨e, he, q⟩
      rcases List.mem_append.mp (p.mem_iff.mp he) with he | he
      · exact .inr ⟨e, he, q⟩
      · rw [List.mem_singleton] at he
        subst he
        exact .inl (knd.inj x j k q hk)
  nd := List.nodup_cons.mpr ⟨hn, L.nd⟩
  len := by rw [← Array.length_toList, p.length_eq, List.length_append, Array.length_toList, L.len]; rfl
  small := by rw [← Array.length_toList, p.length_eq, List.length_append, Array.length_toList, L.len]; exact room
  fits := hf
  ris := hr
  led := L.led.imp id fun z => by rw [hl]; exact z
theorem Laid.again {es es1 : Array (Int × Value)} {t t1 : SetTable} {ks : List K} (L : Laid knd es t ks) (p : es1.toList.Perm es.toList) (hf : t1.fits es1.size = true) (hr : Ris t1.place.toList)
    (hl : t1.led = t.led) : Laid knd es1 t1 ks where
  el := L.el.perm p
  mem := fun j => (L.mem j).trans ⟨fun ⟨e, he, q⟩ => ⟨e, p.mem_iff.mpr he, q⟩, fun ⟨e, he, q⟩ => ⟨e, p.mem_iff.mp he, q⟩⟩
  nd := L.nd
  len := by rw [← Array.length_toList, p.length_eq, Array.length_toList, L.len]
  small := by rw [← Array.length_toList, p.length_eq, Array.length_toList]; exact L.small
  fits := hf
  ris := hr
  led := L.led.imp id fun z => by rw [hl]; exact z
end
section
variable {P : Program} {w : World} {K : Type} [DecidableEq K] {knd : KeyKind P w K} {A : Around} {E : Value → Shared → Prop} {s : Shared} {a : Addr} {ks : List K}
theorem putLaid {o : Obj} {es es1 : Array (Int × Value)} {ep : Nat} {t t1 : SetTable} {Q : Unit → Shared → Prop} (ho : s.heap.get? a = some o) (hex : o.ExactSet) (hd : o.data = .set es ep t) (L : Laid knd es1 t1 ks)
    (h : ∀ h' o', Heap.SameBut a s.heap h' → h'.get? a = some o' → o'.ExactSet → o'.data = .set es1 (ep + 1) t1 → Q () { s with heap := h' }) : wpAny (model P w) A (storeSet a es1 t1) Q E s :=
  wpAny_storeSet_of ho hd (h _ _ (Heap.SameBut.update s.heap a _) (store_at ho hd) hex rfl) (fits_of_scanBound L.small)
/-- what stands behind a new key: the table is stored, and laid anew if it is too full -/
theorem growLaid {g : Bool → Sem Unit} (hg : ∀ (b : Bool) (s₁ : Shared) (Q' : Unit → Shared → Prop), Q' () s₁ → wpAny (model P w) A (g b) Q' E s₁)
    {o : Obj} {es es1 : Array (Int × Value)} {ep : Nat} {t t1 : SetTable} (ho : s.heap.get? a = some o) (hex : o.ExactSet) (hd : o.data = .set es ep t) (L : Laid knd es1 t1 ks) {wasDummy : Bool} {R : Option Bool → Shared → Prop}
    (hR : ∀ h', Heap.SameBut a s.heap h' → SetK knd h' a ks → R (some true) { s with heap := h' }) :
    wpAny (model P w) A (do
        storeSet a es1 t1
        if (!wasDummy && t1.tooFull) = true then do
            g (relayAll t1 es1 (SetTable.grown es1.size)).2.2
            storeSet a (relayAll t1 es1 (SetTable.grown es1.size)).1 (relayAll t1 es1 (SetTable.grown es1.size)).2.1
            pure (some true)
          else pure (some true)) R E s := by
  refine wpAny_bind (putLaid ho hex hd L fun h1 o1 sb1 ho1 hex1 hd1 => ?_)
  split
  · have L2 : Laid knd (relayAll t1 es1 (SetTable.grown es1.size)).1 (relayAll t1 es1 (SetTable.grown es1.size)).2.1 ks :=
      L.again (relayAll_perm t1 es1 _) (relayAll_fits t1 es1 _) (relayAll_ris t1 es1 _) (relayAll_led t1 es1 _)
    refine wpAny_bind (hg _ _ _ ?_)
    refine wpAny_bind (putLaid (s := { s with heap := h1 }) ho1 hex1 hd1 L2 fun h2 o2 sb2 ho2 hex2 hd2 => ?_)
    exact wpAny_pure (hR _ (sb1.trans sb2) ⟨_, _, _, _, ho2, hex2, hd2, L2⟩)
  · exact wpAny_pure (hR _ sb1 ⟨_, _, _, _, ho1, hex1, hd1, L⟩)
/-- a key added to a set -/
theorem setK_add {k : K} {x : Value} {Q : Bool → Shared → Prop} (hk : knd.is k x = true) (hx : x.scannable = true) (T : SetK knd s.heap a ks) (room : ks.length + 1 < scanBound)
    (hQ : ∀ h' b, Heap.SameBut a s.heap h' → SetK knd h' a (if k ∈ ks then ks else k :: ks) → Q b { s with heap := h' }) :
    wpAny (model P w) A (setAddHashed a x (knd.hash k)) Q E s := by
  obtain ⟨o, es, ep, t, ho, hex, hd, L⟩ := T
  have gw : ∀ (b : Bool) (s₁ : Shared) (Q' : Unit → Shared → Prop), Q' () s₁ → wpAny (model P w) A (match b with | true => rule "set.scan.the-table-gave-way" | false => pure ()) Q' E s₁ :=
    fun b s₁ Q' q => by cases b <;> first | exact wpAny_pure q | exact wpAny_rule q
  unfold setAddHashed setAddHashedIn
  refine wpAny_holding (wpAny_bind (wpAny_setState_of ho hd L.fits ?_))
  dsimp only
  rw [byScan_of hx L.small L.el]
  simp only [↓reduceIte]
  unfold setAddByScan
  refine wpAny_bind ?_
  refine wpAny_bind (wpAny_rule ?_)
  refine wpAny_bind (wpAny_setScan_of hk ho hd L.fits L.el ?_)
  cases hfi : es.toList.findIdx? (fun e => knd.is k e.2) with
  | some j =>
    dsimp only
    obtain ⟨hj, pj, _⟩ := List.findIdx?_eq_some_iff_getElem.mp hfi
    have hin : k ∈ ks := (L.mem k).2 ⟨_, List.getElem_mem hj, pj⟩
    refine wpAny_pure (wpAny_pure ?_)
    exact hQ s.heap _ (Heap.SameBut.refl a s.heap) (by rw [if_pos hin]; exact ⟨o, es, ep, t, ho, hex, hd, L⟩)
  | none =>
    dsimp only
    have hnin : k ∉ ks := fun z => by
      obtain ⟨e, he, q⟩ := (L.mem k).1 z
      have c := List.findIdx?_eq_none_iff.mp hfi e he
      rw [q] at c
      cases c
    have L1 : Laid knd (layNew t es (knd.hash k) x).1 (layNew t es (knd.hash k) x).2.1 (k :: ks) :=
      L.more hk hx hnin room (by have q := layNew_perm t es (knd.hash k) x; rw [Array.toList_push] at q; exact q) (layNew_fits t es (knd.hash k) x) (layNew_ris t es (knd.hash k) x L.ris) (layNew_led t es (knd.hash k) x)
    have fin : ∀ b h', Heap.SameBut a s.heap h' → SetK knd h' a (k :: ks) → Q b { s with heap := h' } := fun b h' sb r => hQ h' b sb (by rw [if_neg hnin]; exact r)
    generalize layNew t es (knd.hash k) x = Z at L1 ⊢
    obtain ⟨es1, t1, wasDummy, gave⟩ := Z
    dsimp only at L1 ⊢
    refine wpAny_bind (gw _ _ _ ?_)
    split
    · refine wpAny_bind ?_
      rw [hashByValue_scannable 8 hx]
      refine wpAny_pure ?_
      refine growLaid gw ho hex hd (ks := k :: ks) ?_ fun h' sb r => by dsimp only; exact wpAny_pure (fin _ h' sb r)
      split
      · exact L1
      · exact { L1 with fits := SetTable.fits_plain_off L1.fits }
    · refine wpAny_bind (wpAny_pure ?_)
      simp only [↓reduceIte]
      exact growLaid gw ho hex hd L1 fun h' sb r => by dsimp only; exact wpAny_pure (fin _ h' sb r)
end
end Dv

/-! Dv20: set(list), of scannable keys. -/
namespace Dv
open PySem PySem.Spec L2
open PyProof.Rows hiding St
section
variable {P : Program} {w : World} {K : Type} [DecidableEq K] {knd : KeyKind P w K} {A : Around} {E : Value → Shared → Prop} {s : Shared}
/-- the values, each with its key -/
def KeyedBy (knd : KeyKind P w K) (vs : List Value) (zs : List K) : Prop := vs.length = zs.length ∧ ∀ (i : Nat) (v : Value), vs[i]? = some v → ∃ z, zs[i]? = some z ∧ knd.is z v = true ∧ v.scannable = true
theorem SetK.keep {h h' : Heap} {a : Addr} {ks : List K} (T : SetK knd h a ks) (e : ∀ o, h.get? a = some o → h'.get? a = some o) : SetK knd h' a ks :=
  let ⟨o, es, ep, t, ho, r⟩ := T; ⟨o, es, ep, t, e o ho, r⟩
theorem updK {R : Result → Shared → Prop} {I : Addr} {fp wr : List Addr} {G : Array GenState → Array GenState → Prop} {n : Nat} {Pv : Nat → Value → Prop} {St : Nat → Shared → Prop}
    (W : WalksS P w A.in1 I fp wr G n Pv St) (S : Addr) (hS : S ∉ fp) (zs : List K) (hn : zs.length = n) (room : n + 1 < scanBound)
    (hv : ∀ (i : Nat) (v : Value), Pv i v → ∃ z, zs[i]? = some z ∧ knd.is z v = true ∧ v.scannable = true) :
    ∀ (k i : Nat) (s : Shared) (ks : List K), n - i = k → i ≤ n → St i s → SetK knd s.heap S ks → ks.length ≤ i → (∀ j, j ∈ ks ↔ j ∈ zs.take i) →
      (∀ s' ks', Moved (S :: wr) G s s' → SetK knd s'.heap S ks' → ks'.length ≤ n → (∀ j, j ∈ ks' ↔ j ∈ zs) → R (.ok (.ret .none)) s') →
      codeAny (model P w) A (.builtin "set.update.loop" ⟨[.ref S, .ref I], []⟩) R s := by
  have hw : S ∉ wr := fun h => hS (W.sub _ h)
  have up : ∀ b ∈ wr, b ∈ S :: wr := fun b hb => List.mem_cons_of_mem _ hb
  intro k
  induction k with
  | zero =>
    intro i s ks hk hi st T hl hm hR
    have e : i = n := by omega
    subst e
    refine codeAny_builtin F.entry_set_update_loop ?_
    rw [Around.under_plainId F.plain_set_update_loop _]
    show wpAny _ A.in1 (pyNext (.ref I) >>= _) _ _ s
    refine wpAny_bind (W.done s _ _ st fun s' mv => ?_)
    show wpAny _ A.in1 (ret Value.none) _ _ s'
    refine wpAny_pure (hR s' ks (mv.mono up) (T.keep fun o e => mv.heap S o hw e) hl fun j => ?_)
    rw [hm j, List.take_of_length_le (by omega)]
  | succ k ih =>
    intro i s ks hk hi st T hl hm hR
    have lt : i < n := by omega
    refine codeAny_builtin F.entry_set_update_loop ?_
    rw [Around.under_plainId F.plain_set_update_loop _]
    show wpAny _ A.in1 (pyNext (.ref I) >>= _) _ _ s
    refine wpAny_bind (W.item i s _ _ lt st fun v s1 pv st1 mv => ?_)
    obtain ⟨z, hz, hzv, hsc⟩ := hv i v pv
    have T1 : SetK knd s1.heap S ks := T.keep fun o e => mv.heap S o hw e
    show wpAny _ A.in1 (holding [v] (setAdd S v) >>= _) _ _ s1
    refine wpAny_bind (wpAny_holding ?_)
    unfold setAdd
    refine wpAny_holding ?_
    refine wpAny_bind (knd.pyHash hzv ?_)
    refine setK_add (s := { s1 with toks := s1.toks + 1 }) hzv hsc T1 (by omega) fun h2 b sb T2 => ?_
    have hm2 : ∀ j, j ∈ (if z ∈ ks then ks else z :: ks) ↔ j ∈ zs.take (i + 1) := fun j => by
      rw [List.take_add_one, hz, List.mem_append, ← hm j]
      split
      · rename_i hin
        constructor
        · exact .inl
        · rintro (h | h)
          · exact h
          · have e : j = z := by simpa using h
            rw [e]; exact hin
      · rw [List.mem_cons]
        constructor
        · rintro (h | h)
          · exact .inr (by simp [h])
          · exact .inl h
        · rintro (h | h)
          · exact .inr h
          · exact .inl (by simpa using h)
    have hl2 : (if z ∈ ks then ks else z :: ks).length ≤ i + 1 := by
      split
      · omega
      · rw [List.length_cons]; omega
    refine wpAny_pure ⟨plainId_quiet F.plain_set_update_loop _, ih (i + 1) _ _ (by omega) lt (W.frame _ s1 _ _ st1 (Nat.le_succ _) fun c hc o e => ?_) T2 hl2 hm2 fun s3 ks3 mv3 T3 hl3 hm3 => ?_⟩
    · rw [sb.2 c (fun h : c = S => hS (by rw [← h]; exact hc))]; exact e
    · refine hR s3 ks3 (Moved.trans W.gtrans ((mv.mono up).then_heap (Nat.le_succ _) fun c o hc e => ?_) mv3) T3 hl3 hm3
      rw [sb.2 c (fun h : c = S => hc (by rw [h]; exact List.mem_cons_self))]; exact e
end
end Dv

/-! Dv21: set(x), x a list or a tuple of scannable keys: the call. -/
namespace Dv
open PySem PySem.Spec L2
open PyProof.Rows hiding St
section
variable {P : Program} {w : World} {K : Type} [DecidableEq K] {knd : KeyKind P w K} {A : Around} {E : Value → Shared → Prop} {s : Shared}
/-- the empty set that set(x) begins with -/
def set0 (w : World) : Obj := { cls := .type "set", dict := none, data := .set #[] 0 (.fresh 0 0 (!w.params.followText "set-order")) }
theorem set0_at {h : Heap} {a : Addr} (e : h.get? a = some (set0 w)) : SetK knd h a [] := ⟨_, _, _, _, e, ⟨rfl, rfl, rfl⟩, rfl, Laid.nil⟩
set_option maxHeartbeats 3200000 in
/-- set(x) is its __init__ on a new set -/
theorem set_by_init (v : Value) {R : Shared → Prop} {Q : Value → Shared → Prop}
    (hi : ∀ A', A'.handled = A.handled → wpAny (model P w) A' (Builtin.«set.__init__» ⟨[.ref s.heap.objs.size, v], []⟩) (fun fin s' => ∃ r, fin = .done (.ret r) ∧ r = .none ∧ R s') E { s with heap := s.heap.push (set0 w) })
    (hQ : ∀ s', R s' → Q (.ref s.heap.objs.size) s') : wpAny (model P w) A (call (.type "set") [v]) Q E s := by
  obtain ⟨c, tl, hmro⟩ := F.called_set.mro
  have hmade := F.called_set.made
  have hsub := F.called_set.sub
  refine wpAny_call (codeAny_of_tree ?_)
  show wpAny _ _ (callAny (.type "set") _) _ _ _
  refine wpAny_pure ⟨Code.quiet_builtin _ (by decide +kernel), codeAny_builtin F.entry_type_call ?_⟩
  rw [Around.under_plain (weight_type_call_type "set" [v] []) rfl]
  have h1 := F.called_set.notType
  have h2 := F.called_set.canCreate
  have hct := F.typeCall_set_1 v
  repeat (any_goals (first | assumption | wp_step))
  refine codeAny_mono (code_set_led1 v (E := E) (Q₁ := fun obj s₁ => obj = .ref s.heap.objs.size ∧ s₁ = { s with heap := s.heap.push (set0 w) }) ⟨rfl, rfl⟩) fun r s₁ hr => ?_
  cases r with
  | error e => exact hr
  | ok fl =>
    cases fl with
    | ret obj =>
      obtain ⟨rfl, rfl⟩ := hr
      have hT : Shared.TypeIs { s with heap := s.heap.push (set0 w) } (.ref s.heap.objs.size) "set" := ⟨_, Heap.get?_push_size _ rfl, rfl⟩
      have hli := F.called_set.init.lookup
      have hbi := F.called_set.init.bind (.ref s.heap.objs.size)
      repeat (any_goals (first | assumption | wp_step))
      refine codeAny_mono (codeAny_call_builtin (R := wants (fun r s₂ => r = .none ∧ R s₂) E) F.called_set.init.plain F.entry_set_init (check_set_init_1 hT ?_)) fun r₂ s₂ hr₂ => ?_
      · refine wpAny_mono (hi _ ?_) ?_ ?_
        · simp only [Around.in1_handled]
        · rintro _ s2 ⟨r, rfl, rfl, h⟩
          exact ⟨rfl, h⟩
        · exact fun _ _ h => h
      · cases r₂ with
        | error e => exact hr₂
        | ok fl₂ =>
          cases fl₂ with
          | ret r =>
            obtain ⟨rfl, hr⟩ := hr₂
            repeat (any_goals (first | assumption | wp_step))
            exact hQ _ hr
          | _ => exact hr₂.elim
    | _ => exact hr.elim
end
end Dv

/-! Dv22: set(list), set(tuple) of scannable keys. -/
namespace Dv
open PySem PySem.Spec L2
open PyProof.Rows hiding St
section
variable {P : Program} {w : World} {K : Type} [DecidableEq K] {knd : KeyKind P w K} {A : Around} {E : Value → Shared → Prop} {s : Shared}
/-- what set(x) leaves: everything that was, and the set of the keys -/
def Made (knd : KeyKind P w K) (s : Shared) (zs : List K) (s' : Shared) : Prop := ∃ h' tk ks, s' = { s with heap := h', toks := tk } ∧ SetK knd h' s.heap.objs.size ks ∧ ks.length ≤ zs.length ∧ (∀ j, j ∈ ks ↔ j ∈ zs) ∧ ∀ b o, s.heap.get? b = some o → h'.get? b = some o
set_option maxHeartbeats 3200000 in
theorem init_list {l : Addr} {items : Array Value} {zs : List K} (hh : A.handled = none) (hl : s.heap.IsList l items) (hz : items.size = zs.length) (room : zs.length + 1 < scanBound)
    (hv : ∀ (i : Nat) (v : Value), items[i]? = some v → ∃ z, zs[i]? = some z ∧ knd.is z v = true ∧ v.scannable = true) :
    wpAny (model P w) A (Builtin.«set.__init__» ⟨[.ref s.heap.objs.size, .ref l], []⟩) (fun fin s' => ∃ r, fin = .done (.ret r) ∧ r = .none ∧ Made knd s zs s') E { s with heap := s.heap.push (set0 w) } := by
  have hS : (s.heap.push (set0 w)).get? s.heap.objs.size = some (set0 w) := Heap.get?_push_size _ rfl
  have hT : Shared.TypeIs { s with heap := s.heap.push (set0 w) } (.ref s.heap.objs.size) "set" := ⟨_, hS, rfl⟩
  obtain ⟨⟨ocls, odict, odata, oslots⟩, hol, hcl, nl, hdl⟩ := hl
  simp only at hcl hdl
  subst hcl; subst hdl
  have hol' : (s.heap.push (set0 w)).get? l = some { cls := .type "list", dict := odict, data := .seq items nl, slots := oslots } := Heap.get?_push_of_some _ hol
  have hsls := F.sub_list_set
  have hslf := F.sub_list_frozenset
  have hne : (Value.type "list" == Value.type "dict") = false := by decide
  have hl1 : (s.heap.push (set0 w)).IsList l items := ⟨_, hol', rfl, nl, rfl⟩
  unfold Builtin.«set.__init__» noKeywords Builtin.Frozenset.updateFrom
  generalize hPI : pyIter = PI
  wp_walk
  subst hPI
  refine wpAny_pyIter_list hl1 ?_
  refine wpAny_bind (wpAny_runValue ?_)
  have lt : l < s.heap.objs.size := Heap.lt_size hol
  have sz : (s.heap.push (set0 w)).objs.size = s.heap.objs.size + 1 := Heap.size_push ..
  have hI : l ≠ (s.heap.push (set0 w)).objs.size := by rw [sz]; exact Nat.ne_of_lt (Nat.lt_succ_of_lt lt)
  have hf : s.heap.objs.size ∉ [(s.heap.push (set0 w)).objs.size, l] := by
    rw [sz]
    simp only [List.mem_cons, List.not_mem_nil, or_false, not_or]
    exact ⟨Nat.ne_of_lt (Nat.lt_succ_self _), Nat.ne_of_gt lt⟩
  refine updK (knd := knd) ((Walks.list (A := A.in1) (by simp [hh]) _ l hI items).toS) s.heap.objs.size hf zs hz.symm (by omega) hv (items.size - 0) 0 _ [] (by omega) (Nat.zero_le _)
    ⟨⟨_, Heap.get?_push_size _ rfl, rfl, rfl⟩, hl1.push _⟩ (set0_at (Heap.get?_push_of_some _ hS)) (Nat.le_refl 0) (fun j => by simp) fun s' ks mv T hlen hm => ?_
  obtain ⟨h', g2, d', tk', os'⟩ := s'
  have eg : g2 = s.gens := mv.gens
  have ed : d' = s.drawn := mv.drawn
  have eo : os' = s.os := mv.os
  subst eg; subst ed; subst eo
  show wpAny _ _ _ _ _ _
  refine wpAny_pure ?_
  show wpAny _ _ (ret Value.none) _ _ _
  refine wpAny_pure ⟨_, rfl, rfl, h', tk', ks, rfl, T, by omega, hm, fun b o e => ?_⟩
  have hb := Heap.lt_size e
  refine mv.heap b o ?_ (Heap.get?_push_of_some _ (Heap.get?_push_of_some _ e))
  rw [sz]
  simp only [List.mem_cons, List.not_mem_nil, or_false, not_or]
  exact ⟨Nat.ne_of_lt hb, Nat.ne_of_lt (Nat.lt_succ_of_lt hb)⟩
theorem call_setK_list {l : Addr} {items : Array Value} {zs : List K} {Q : Value → Shared → Prop} (hh : A.handled = none) (hl : s.heap.IsList l items) (hz : items.size = zs.length) (room : zs.length + 1 < scanBound)
    (hv : ∀ (i : Nat) (v : Value), items[i]? = some v → ∃ z, zs[i]? = some z ∧ knd.is z v = true ∧ v.scannable = true) (hQ : ∀ s', Made knd s zs s' → Q (.ref s.heap.objs.size) s') :
    wpAny (model P w) A (call (.type "set") [.ref l]) Q E s :=
  set_by_init (.ref l) (fun A' e => init_list (e.trans hh) hl hz room hv) hQ
set_option maxHeartbeats 3200000 in
theorem init_tuple {l : Addr} {items : Array Value} {zs : List K} (hh : A.handled = none) (hl : s.heap.IsTuple l items) (hz : items.size = zs.length) (room : zs.length + 1 < scanBound)
    (hv : ∀ (i : Nat) (v : Value), items[i]? = some v → ∃ z, zs[i]? = some z ∧ knd.is z v = true ∧ v.scannable = true) :
    wpAny (model P w) A (Builtin.«set.__init__» ⟨[.ref s.heap.objs.size, .ref l], []⟩) (fun fin s' => ∃ r, fin = .done (.ret r) ∧ r = .none ∧ Made knd s zs s') E { s with heap := s.heap.push (set0 w) } := by
  have hS : (s.heap.push (set0 w)).get? s.heap.objs.size = some (set0 w) := Heap.get?_push_size _ rfl
  have hT : Shared.TypeIs { s with heap := s.heap.push (set0 w) } (.ref s.heap.objs.size) "set" := ⟨_, hS, rfl⟩
  obtain ⟨⟨ocls, odict, odata, oslots⟩, hol, hcl, nl, hdl⟩ := hl
  simp only at hcl hdl
  subst hcl; subst hdl
  have hol' : (s.heap.push (set0 w)).get? l = some { cls := .type "tuple", dict := odict, data := .seq items nl, slots := oslots } := Heap.get?_push_of_some _ hol
  have hsls := F.sub_tuple_set
  have hslf := F.sub_tuple_frozenset
  have hne : (Value.type "tuple" == Value.type "dict") = false := by decide
  have hl1 : (s.heap.push (set0 w)).IsTuple l items := ⟨_, hol', rfl, nl, rfl⟩
  unfold Builtin.«set.__init__» noKeywords Builtin.Frozenset.updateFrom
  generalize hPI : pyIter = PI
  wp_walk
  subst hPI
  refine wpAny_pyIter_tuple hl1 ?_
  refine wpAny_bind (wpAny_runValue ?_)
  have lt : l < s.heap.objs.size := Heap.lt_size hol
  have sz : (s.heap.push (set0 w)).objs.size = s.heap.objs.size + 1 := Heap.size_push ..
  have hI : l ≠ (s.heap.push (set0 w)).objs.size := by rw [sz]; exact Nat.ne_of_lt (Nat.lt_succ_of_lt lt)
  have hf : s.heap.objs.size ∉ [(s.heap.push (set0 w)).objs.size, l] := by
    rw [sz]
    simp only [List.mem_cons, List.not_mem_nil, or_false, not_or]
    exact ⟨Nat.ne_of_lt (Nat.lt_succ_self _), Nat.ne_of_gt lt⟩
  refine updK (knd := knd) ((Walks.tuple (A := A.in1) (by simp [hh]) _ l hI items).toS) s.heap.objs.size hf zs hz.symm (by omega) hv (items.size - 0) 0 _ [] (by omega) (Nat.zero_le _)
    ⟨⟨_, Heap.get?_push_size _ rfl, rfl, rfl⟩, hl1.push _⟩ (set0_at (Heap.get?_push_of_some _ hS)) (Nat.le_refl 0) (fun j => by simp) fun s' ks mv T hlen hm => ?_
  obtain ⟨h', g2, d', tk', os'⟩ := s'
  have eg : g2 = s.gens := mv.gens
  have ed : d' = s.drawn := mv.drawn
  have eo : os' = s.os := mv.os
  subst eg; subst ed; subst eo
  show wpAny _ _ _ _ _ _
  refine wpAny_pure ?_
  show wpAny _ _ (ret Value.none) _ _ _
  refine wpAny_pure ⟨_, rfl, rfl, h', tk', ks, rfl, T, by omega, hm, fun b o e => ?_⟩
  have hb := Heap.lt_size e
  refine mv.heap b o ?_ (Heap.get?_push_of_some _ (Heap.get?_push_of_some _ e))
  rw [sz]
  simp only [List.mem_cons, List.not_mem_nil, or_false, not_or]
  exact ⟨Nat.ne_of_lt hb, Nat.ne_of_lt (Nat.lt_succ_of_lt hb)⟩
theorem call_setK_tuple {l : Addr} {items : Array Value} {zs : List K} {Q : Value → Shared → Prop} (hh : A.handled = none) (hl : s.heap.IsTuple l items) (hz : items.size = zs.length) (room : zs.length + 1 < scanBound)
    (hv : ∀ (i : Nat) (v : Value), items[i]? = some v → ∃ z, zs[i]? = some z ∧ knd.is z v = true ∧ v.scannable = true) (hQ : ∀ s', Made knd s zs s' → Q (.ref s.heap.objs.size) s') :
    wpAny (model P w) A (call (.type "set") [.ref l]) Q E s :=
  set_by_init (.ref l) (fun A' e => init_tuple (e.trans hh) hl hz room hv) hQ
end
end Dv

/-! Dv23: sorted(set of texts). -/
namespace Dv
open PySem PySem.Spec L2
open PyProof.Rows hiding St
section
variable {P : Program} {w : World} {A : Around} {E : Value → Shared → Prop} {s : Shared} {a : Addr}
def strOf : Value → Str | .str x _ => x | _ => Str.empty
theorem strs_map : ∀ (l : List Value), (∀ v ∈ l, ∃ x t, v = Value.str x t) → StrsAre l (l.map strOf)
  | [], _ => .nil
  | v :: l, h => by
    obtain ⟨x, t, rfl⟩ := h v List.mem_cons_self
    exact .cons x t (strs_map l fun u hu => h u (List.mem_cons_of_mem _ hu))
theorem sorted_setS {ks : List Str} {Q : Value → Shared → Prop} (T : SetK (strKind P w) s.heap a ks) (hh : A.handled = none) (h64 : ks.length < 64)
    (hQ : ∀ s' p (out : Array Value) (c : Nat) (ys : List Str), (∀ b o, s.heap.get? b = some o → s'.heap.get? b = some o) → s'.gens = s.gens → s'.os = s.os → s.heap.objs.size ≤ p →
      s'.heap.get? p = some (seqObj "list" out c) → StrsAre out.toList ys → sortedS ys = true → ys.length = ks.length → (∀ y, y ∈ ys ↔ y ∈ ks) → Q (.ref p) s') :
    wpAny (model P w) A (call (.builtin "sorted") [.ref a]) Q E s := by
  obtain ⟨o, es, ep, t, ho, hex, hd, L⟩ := T
  refine Calls.call_function_entry kind_sorted plain_sorted entry_sorted (args_sorted1 _) ?_
  unfold Builtin.«sorted»
  refine wpAny_bind (m := checkCount "sorted" 1 1 _) (wpAny_pure ?_)
  refine wpAny_bind (collect_set (A := A.in1) hh ⟨o, ho, hex.1, hd⟩ L.fits L.small L.ris L.led fun s1 vs k1 hz g1 o1 pm => ?_)
  have hvl : vs.length = ks.length := by rw [pm.length_eq, List.length_map, Array.length_toList]; exact L.len
  have hin : ∀ v ∈ vs, ∃ x tk, v = Value.str x tk ∧ x ∈ ks := fun v hv => by
    obtain ⟨e, he, q⟩ := List.mem_map.mp (pm.mem_iff.mp hv)
    obtain ⟨⟨k, hk, _⟩, _⟩ := L.el e he
    have hk' := (L.mem k).2 ⟨e, he, hk⟩
    obtain ⟨tk, ev⟩ := Value.isStrOf_shape (x := k) (v := e.2) hk
    exact ⟨k, tk, by rw [← q]; exact ev, hk'⟩
  have hI : StrsAre vs (vs.map strOf) := strs_map vs fun v hv => let ⟨x, tk, e, _⟩ := hin v hv; ⟨x, tk, e⟩
  have hmem : ∀ y, y ∈ vs.map strOf ↔ y ∈ ks := fun y => by
    rw [List.mem_map]
    constructor
    · rintro ⟨v, hv, rfl⟩
      obtain ⟨x, tk, rfl, hx⟩ := hin v hv
      exact hx
    · intro hy
      obtain ⟨e, he, hk⟩ := (L.mem y).1 hy
      obtain ⟨tk, ev⟩ := Value.isStrOf_shape (x := y) (v := e.2) hk
      exact ⟨e.2, pm.mem_iff.mpr (List.mem_map.mpr ⟨e, he, rfl⟩), by rw [ev]; rfl⟩
  refine wpAny_bind (wpAny_newList ?_ (by rw [hvl, sizeLine_eq]; omega))
  have hoL : (s1.heap.push (seqObj "list" vs.toArray 0)).get? s1.heap.objs.size = some (seqObj "list" vs.toArray 0) := Heap.get?_push_size _ rfl
  refine wpAny_bind (wpAny_holding (wpAny_call_entry slot_list_sort ⟨_, hoL, rfl⟩ entry_list_sort
    (list_sort_treeK strKind_oneLt hoL hI.keysOf (fun v₁ v₂ rest e => keyKind_strs (by rw [← e]; exact hI)) (by rw [hvl]; exact h64) fun st' hp hs => ⟨_, rfl, ?_⟩)
    (args_list_sort _)))
  obtain ⟨ys, b1, b2, b3⟩ := sorted_out_str hI hp hs
  obtain ⟨c, hc⟩ := sortedHeap_at (vs := vs) (out := (arrOf st').map (·.2)) hoL
  refine wpAny_pure ⟨_, rfl, hQ _ s1.heap.objs.size _ c ys (fun b u e => ?_) g1 o1 hz hc b1 b3 (by rw [b2.length_eq, List.length_map, hvl]) (fun y => by rw [b2.mem_iff, hmem y])⟩
  have q := k1 b u e
  have hlt := Heap.lt_size q
  show (sortedHeap (s1.heap.push (seqObj "list" vs.toArray 0)) s1.heap.objs.size vs _).get? b = some u
  rw [sortedHeap_old (Nat.ne_of_lt hlt) (by rw [size_push']; exact Nat.lt_succ_of_lt hlt)]
  exact Heap.get?_push_of_some _ q
end
end Dv

/-! Dv24: sorted(list of texts). -/
namespace Dv
open PySem PySem.Spec L2
open PyProof.Rows hiding St
section
variable {X : Cx} {DI : Addr → GH → Prop} {N : List Str} {sc : Scope} {k : Nat} {fns : List Fn} {cs : List (Str × D)} {bl : List Str} {fc : Bool}
variable {x : Str} {p2 pos : Pos} {e : Expr} {es : List Expr} {wa : WA}
theorem strs_den {K : PySem.W.Frag} {H : Hp} : ∀ {xs : List Str} {vs : List V}, DenL K H (xs.map D.str) vs → vs = xs.map V.str
  | [], _, .nil => rfl
  | x :: xs, _, .cons h t => by
    cases h
    rw [strs_den t]
    rfl
def fSortSN : WF := f1 fun d S Q => ∃ xs : List Str, asL S d = some (xs.map D.str) ∧ xs.length < 64 ∧ ∀ ys : List Str, ys.Perm xs → sortedS ys = true → ∀ p, S.g p = none → Q (.ref p) (S.set p (.lst (ys.map D.str)))
theorem dc_sortSN : CallR X (.builtin "sorted") (lftF X.K DI fSortSN) := f1_ok cr_sortedS fun F d v S R H Q rel den w fin => by
  obtain ⟨xs, e, h64, w⟩ := w
  obtain ⟨a, vs, rfl, t, dl⟩ := asL_ok rel den e
  rw [strs_den dl] at t
  exact ⟨a, xs, rfl, .inl t, h64, fun ys p hp hs hn => fin.newL (w ys hp hs p (rel.free hn)) rel (.refl _) (den_strs ys) hn⟩
end
end Dv

/-! Dv25: sorted(set(e)), e a list of texts: fused. -/
namespace Dv
open PySem PySem.Spec L2
open PyProof.Rows hiding St
section
variable {X : Cx} {DI : Addr → GH → Prop} {N : List Str} {sc : Scope} {k : Nat} {fns : List Fn} {cs : List (Str × D)} {bl : List Str} {fc : Bool}
theorem perm_of_len : ∀ (ks l : List Str), ks.Nodup → (∀ y ∈ ks, y ∈ l) → l.length ≤ ks.length → l.Perm ks
  | [], l, _, _, h => by
    have e : l = [] := List.length_eq_zero_iff.mp (Nat.le_zero.mp h)
    subst e
    exact .refl _
  | k :: ks, l, nd, sub, h => by
    obtain ⟨n1, n2⟩ := List.nodup_cons.mp nd
    have hk := sub k List.mem_cons_self
    have p := List.perm_cons_erase hk
    refine p.trans (.cons k (perm_of_len ks (l.erase k) n2 (fun y hy => ?_) ?_))
    · exact (List.mem_erase_of_ne (fun e => n1 (by rw [← e]; exact hy))).2 (sub y (List.mem_cons_of_mem _ hy))
    · have q := p.length_eq
      rw [List.length_cons] at q h
      omega
theorem SetK.nodup {P : Program} {w : World} {K : Type} [DecidableEq K] {knd : KeyKind P w K} {h : Heap} {a : Addr} {ks : List K} (T : SetK knd h a ks) : ks.Nodup :=
  let ⟨_, _, _, _, _, _, _, L⟩ := T; L.nd
def tSortSet (ta : TE) : TE := fun σ H Q => ta σ H fun x H1 => ∃ (l : Addr) (xs : List Str), x = .ref l ∧ Rd H1 l (.lst (xs.map V.str)) ∧ xs.length + 1 < scanBound ∧ (∀ ks : List Str, (∀ y, y ∈ ks ↔ y ∈ xs) → ks.Nodup → ks.length < 64) ∧
  ∀ (ys : List Str) (p : Addr), sortedS ys = true → ys.Nodup → (∀ y, y ∈ ys ↔ y ∈ xs) → H1 p = none → Q (.ref p) (upd H1 p (.lst (ys.map V.str)))
theorem pe_sortedSet {a : Expr} {ta : TE} {p p2 q pos : Pos} (hc : X.calm = true) (hg : Gl X "sorted") (hm : X.mg "sorted" = none) (hg2 : Gl X "set") (hm2 : X.mg "set" = none) (ha : PE X a ta)
    (na : starEach [a] X.env = (false, eval a X.env) :: starEach [] X.env := by rfl) : PE X (.Call (.Name "sorted" p) [.Call (.Name "set" p2) [a] [] q] [] pos) (tSortSet ta) := by
  refine ⟨fun pins s σ H Q I h => ?_⟩
  refine Call_ (ld_blt I hg hm boot_sorted ?_)
  refine PyProof.Rows.callWith_builtin1 (PyProof.Rows.args_cons ?_ rfl) rfl rfl
  refine Call_ (ld_blt I hg2 hm2 boot_set ?_)
  refine PyProof.Rows.callWith_type1 (PyProof.Rows.args_cons (thn (ha.run pins s σ H _ I h) fun v s1 ⟨x, H1, I1, r1, q1⟩ => PyProof.Rows.args_nil ?_) na) na rfl
  obtain ⟨l, xs, rfl, hq, h1, h64, q1⟩ := q1
  cases r1
  obtain ⟨its, r, pl, hz⟩ := I1.list (.inl hq)
  have hlen : its.length = xs.length := by rw [← r.length, List.length_map]
  refine call_setK_list (knd := strKind X.prog X.w) (zs := xs) (I1.ok.hd hc) pl.isList (by rw [List.size_toArray, hlen]) h1 (fun i v hv => ?_) fun s2 T => ?_
  · have hv' : its[i]? = some v := by simpa using hv
    obtain ⟨t, e⟩ := SS.strs_at (strsAre_of (ys := xs) r) i v hv'
    have hi : i < xs.length := by rw [← hlen]; exact (List.getElem?_eq_some_iff.mp hv').1
    refine ⟨xs[i], List.getElem?_eq_getElem hi, ?_, by rw [e]; rfl⟩
    rw [e, List.getD_eq_getElem?_getD, List.getElem?_eq_getElem hi]
    exact strKind_is _ _ _ _
  · obtain ⟨h', tk, ks, rfl, T, hl, hm, hk⟩ := T
    refine PyProof.Rows.args_nil ?_
    have I2 : L2.Inv X pins σ H1 { s1 with heap := h', toks := tk } := I1.kept fun b o e => hk b o e
    refine sorted_setS T (I2.ok.hd hc) (h64 ks hm T.nodup) fun s' p out c ys k1 g1 o1 hp hget hI hs hle hy => ?_
    have pm := perm_of_len ks ys T.nodup (fun y h => (hy y).2 h) (Nat.le_of_eq hle)
    have h16 : (ys.map V.str).length ≤ sizeLine := by
      have := h64 ks hm T.nodup
      rw [List.length_map, hle, sizeLine_eq]; omega
    have hn : H1 p = none := I2.hok.fresh hp
    have z := q1 ys p hs (pm.nodup_iff.mpr T.nodup) (fun y => (hy y).trans (hm y)) hn
    have J : L2.Inv X pins σ (upd H1 p (.lst (ys.map V.str))) { ({ s1 with heap := h', toks := tk } : Shared) with heap := s'.heap, gens := s'.gens, drawn := s'.drawn, toks := s'.toks } :=
      I2.call (ch := []) (Un.laid k1 hp hn) (I2.hok.laid k1 hp ⟨h16, out.toList, c, vals_of_strs hI, hget⟩) (by rw [g1]; exact I2.bare) (fun _ z => nomatch z)
    have e : s' = { s1 with heap := s'.heap, gens := s'.gens, drawn := s'.drawn, toks := s'.toks } := by
      cases s'
      cases s1
      cases o1
      rfl
    rw [e]
    exact ⟨.ref p, _, J, rfl, z⟩
end
end Dv

/-! Dv26: the reading of sorted(set(e)). -/
namespace Dv
open PySem PySem.Spec L2
open PyProof.Rows hiding St
section
variable {X : Cx} {DI : Addr → GH → Prop} {N : List Str} {sc : Scope} {k : Nat} {fns : List Fn} {cs : List (Str × D)} {bl : List Str} {fc : Bool}
variable {p p2 q pos : Pos} {e : Expr} {a : W}
def wSortSet (a : W) : W := fun ρ S Q => a ρ S fun d S1 => ∃ xs : List Str, asL S1 d = some (xs.map D.str) ∧ xs.length + 1 < scanBound ∧ (∀ ks : List Str, (∀ y, y ∈ ks ↔ y ∈ xs) → ks.Nodup → ks.length < 64) ∧
  ∀ ys : List Str, sortedS ys = true → ys.Nodup → (∀ y, y ∈ ys ↔ y ∈ xs) → Q (.lst (ys.map D.str)) S1
theorem x_sortSet {ρ : Env} {S : GS} {Q : D → GS → Prop} : wSortSet a ρ S Q = a ρ S fun d S1 => ∃ xs : List Str, asL S1 d = some (xs.map D.str) ∧ xs.length + 1 < scanBound ∧ (∀ ks : List Str, (∀ y, y ∈ ks ↔ y ∈ xs) → ks.Nodup → ks.length < 64) ∧
  ∀ ys : List Str, sortedS ys = true → ys.Nodup → (∀ y, y ∈ ys ↔ y ∈ xs) → Q (.lst (ys.map D.str)) S1 := propext ⟨id, id⟩
theorem e_sortSet (o : Ob X DI N sc k fns cs bl fc) (ha : PE X e (lft X.K DI a)) (h : (okB bl sc "sorted" (.builtin "sorted") && (okB bl sc "set" (.type "set") && nStar e)) = true := by kernel_rfl) : PE X (.Call (.Name "sorted" p) [.Call (.Name "set" p2) [e] [] q] [] pos) (lft X.K DI (wSortSet a)) := by
  simp only [Bool.and_eq_true] at h
  obtain ⟨h1, h2, h3⟩ := h
  obtain ⟨m1, g1, _⟩ := okB_ok o h1
  obtain ⟨m2, g2, _⟩ := okB_ok o h2
  refine (peLQ (pe_sortedSet o.hc g1 m1 g2 m2 ha (star_cons h3))).imp fun σ H Q q => ?_
  obtain ⟨F, ρ, S, R, rel, env, w, fin⟩ := q
  refine ⟨F, ρ, S, _, rel, env, w, fun d S1 v H1 q1 rel1 k1 d1 => ?_⟩
  obtain ⟨xs, e1, b, c, q2⟩ := q1
  obtain ⟨l, vs, rfl, t, dl⟩ := asL_ok rel1 d1 e1
  rw [strs_den dl] at t
  exact ⟨l, xs, rfl, t, b, c, fun ys p hs nd hy hn => (fin.up k1).lst (q2 ys hs nd hy) rel1 (.refl _) (den_strs ys) hn⟩
end
end Dv

/-! Dv27: less is known: what was made on the way and is not wanted any more may be forgotten at each end. -/
namespace Dv
open PySem PySem.Spec L2
open PyProof.Rows hiding St
theorem Less.refl (S : GS) : Less S S := ⟨fun _ _ h => h, rfl⟩
theorem Less.trans {S1 S2 S3 : GS} (h : Less S1 S2) (k : Less S2 S3) : Less S1 S3 := ⟨fun a m e => k.1 a m (h.1 a m e), h.2.trans k.2⟩
theorem Less.new {S : GS} {p : Addr} {m : MO} (h : S.g p = none) : Less S (S.set p m) := ⟨fun a x e => by
  rw [GS.set_ne (fun z => by rw [z, h] at e; cases e)]; exact e, rfl⟩
theorem Less.put {S1 S2 : GS} {p : Addr} {m : MO} (h : Less S1 S2) : Less (S1.set p m) (S2.set p m) := ⟨fun a x e => by
  by_cases ha : a = p
  · subst ha; rw [GS.set_same] at e ⊢; exact e
  · rw [GS.set_ne ha] at e ⊢; exact h.1 a x e, h.2⟩
theorem Less.drop {S1 S2 : GS} {p : Addr} {m : MO} (h : Less S1 S2) (q : S1.g p = none) : Less S1 (S2.set p m) := (Less.new q).trans (Less.put h)
theorem GS.set_comm {S : GS} {p q : Addr} {m n : MO} (h : p ≠ q) : (S.set p m).set q n = (S.set q n).set p m := by
  unfold GS.set
  congr 1
  funext b
  by_cases h1 : b = p
  · subst h1; simp [h]
  · simp [h1]
theorem GS.set_free {S : GS} {p q : Addr} {m : MO} (h : (S.set q m).g p = none) : p ≠ q ∧ S.g p = none := by
  by_cases e : p = q
  · subst e; rw [GS.set_same] at h; cases h
  · rw [GS.set_ne e] at h; exact ⟨e, h⟩
theorem GS.del_set {S : GS} {p : Addr} {m : MO} (h : S.g p = none) : (S.set p m).del p = S := by
  unfold GS.del GS.set
  cases S with
  | mk g o =>
    congr 1
    funext b
    by_cases h1 : b = p
    · subst h1; simp; exact h.symm
    · simp [h1]
theorem GS.del_setNe {S : GS} {p q : Addr} {m : MO} (h : p ≠ q) : (S.set p m).del q = (S.del q).set p m := by
  unfold GS.del GS.set
  congr 1
  funext b
  by_cases h1 : b = p
  · subst h1; simp [h]
  · simp [h1]
theorem GS.del_free {S : GS} {p : Addr} (h : S.g p = none) : S.del p = S := by
  unfold GS.del
  cases S with
  | mk g o =>
    congr 1
    funext b
    by_cases h1 : b = p
    · subst h1; simp; exact h.symm
    · simp [h1]
/-- with less known -/
def WEnds.less (R : WEnds) : WEnds where
  nx := fun ρ S => ∃ S2, Less S2 S ∧ R.nx ρ S2
  rt := fun d S => ∃ S2, Less S2 S ∧ R.rt d S2
  bk := fun ρ S => ∃ S2, Less S2 S ∧ R.bk ρ S2
  ct := fun ρ S => ∃ S2, Less S2 S ∧ R.ct ρ S2
def wL (w : WS) : WS := fun R ρ S => ∃ S2, Less S2 S ∧ w R.less ρ S2
section
variable {X : Cx} {DI : Addr → GH → Prop}
theorem lessS_of {w : WS} {E : Ends} {σ : L2.St} {H : Hp} (q : lftS X.K DI (wL w) E σ H) : lftS X.K DI w E σ H := by
  obtain ⟨F, ρ, S, R, rel, env, ⟨S2, l, w'⟩, f⟩ := q
  exact ⟨F, ρ, S2, R.less, rel.less l.1 l.2, env, w',
    ⟨fun ρ S σ H' ⟨S3, l3, r⟩ rel k e => f.nx ρ S3 σ H' r (rel.less l3.1 l3.2) k e, fun d S v H' ⟨S3, l3, r⟩ rel k e => f.rt d S3 v H' r (rel.less l3.1 l3.2) k e,
     fun ρ S σ H' ⟨S3, l3, r⟩ rel k e => f.bk ρ S3 σ H' r (rel.less l3.1 l3.2) k e, fun ρ S σ H' ⟨S3, l3, r⟩ rel k e => f.ct ρ S3 σ H' r (rel.less l3.1 l3.2) k e⟩⟩
theorem s_L {st : Stmt} {w : WS} (h : PS X st (lftS X.K DI w)) : PS X st (lftS X.K DI (wL w)) := h.imp fun _ _ _ q => lessS_of q
theorem ss_L {sts : List Stmt} {w : WS} (h : PSs X sts (lftS X.K DI w)) : PSs X sts (lftS X.K DI (wL w)) := h.imp fun _ _ _ q => lessS_of q
end
theorem less_lift {α : Type} (P : α → GS → Prop) : (fun ρ S => ∃ S2, Less S2 S ∧ ∃ S3, Less S3 S2 ∧ P ρ S3) = fun ρ S => ∃ S2, Less S2 S ∧ P ρ S2 := by
  funext ρ S
  exact propext ⟨fun ⟨a, x, b, y, p⟩ => ⟨b, y.trans x, p⟩, fun ⟨a, x, p⟩ => ⟨a, x, a, .refl a, p⟩⟩
/-- a loop over what is there, with an invariant that tells all that is known -/
theorem for_L {wi : WI} {g : WG} {b : WS} {R : WEnds} {ρ : Env} {S : GS} {ds : List D} {gd : Gd} (P : List D → Env → GS → Prop) (hi : ∀ Q : List D → Gd → GS → Prop, Q ds gd S → wi ρ S Q) (h0 : P ds ρ S)
    (hs : ∀ d r ρ S, P (d :: r) ρ S → gdOk gd S ∧ ∃ ρ', (∀ S2 (Q : Env → GS → Prop), Q ρ' S2 → g d ρ S2 Q) ∧ b (WEnds.less { nx := P r, ct := P r, bk := R.nx, rt := R.rt }) ρ' S)
    (he : ∀ ρ S, P [] ρ S → gdOk gd S ∧ R.nx ρ S) : wL (wFor wi g (wL b)) R ρ S := by
  have ok : ∀ {S2 S : GS}, Less S2 S → gdOk gd S2 → gdOk gd S := fun {S2 S} l => by
    clear hi hs he h0
    induction gd with
    | nil => exact fun _ => trivial
    | cons x r ih => exact fun h => ⟨l.1 _ _ h.1, ih h.2⟩
  refine ⟨S, .refl S, hi _ ⟨fun r ρ S => ∃ S2, Less S2 S ∧ P r ρ S2, ⟨S, .refl S, h0⟩, ?_, ?_⟩⟩
  · rintro d r ρ S ⟨S2, l, p⟩
    obtain ⟨h1, ρ', h2, h3⟩ := hs d r ρ S2 p
    refine ⟨ok l h1, h2 S _ ⟨S2, l, ?_⟩⟩
    have e2 : WEnds.less { nx := fun ρ S => ∃ S2, Less S2 S ∧ P r ρ S2, ct := fun ρ S => ∃ S2, Less S2 S ∧ P r ρ S2, bk := (WEnds.less R).nx, rt := (WEnds.less R).rt } = WEnds.less { nx := P r, ct := P r, bk := R.nx, rt := R.rt } := by
      unfold WEnds.less
      simp only [less_lift]
    exact e2 ▸ h3
  · rintro ρ S ⟨S2, l, p⟩
    obtain ⟨h1, h2⟩ := he ρ S2 p
    exact ⟨ok l h1, S2, l, h2⟩
def wTL (t : WT) : WT := fun ρ S Q => ∃ S2, Less S2 S ∧ t ρ S2 Q
theorem t_L {X : Cx} {DI : Addr → GH → Prop} {e : Expr} {t : WT} (h : PT X e (lftT X.K DI t)) : PT X e (lftT X.K DI (wTL t)) := h.imp fun σ H Q q => by
  obtain ⟨F, ρ, S, R, rel, env, ⟨S2, l, w'⟩, f⟩ := q
  exact ⟨F, ρ, S2, R, rel.less l.1 l.2, env, w', f⟩
theorem less_liftM (P : Nat → Env → GS → Prop) (m : Nat) : (fun (ρ : Env) S => ∃ S2, Less S2 S ∧ ∃ m', m' < m ∧ ∃ S3, Less S3 S2 ∧ P m' ρ S3) = fun ρ S => ∃ S2, Less S2 S ∧ ∃ m', m' < m ∧ P m' ρ S2 := by
  funext ρ S
  exact propext ⟨fun ⟨a, x, m', hm, b, y, p⟩ => ⟨b, y.trans x, m', hm, p⟩, fun ⟨a, x, m', hm, p⟩ => ⟨a, x, m', hm, a, .refl a, p⟩⟩
/-- a while with an invariant that tells all that is known -/
theorem while_L {c : WT} {b : WS} {R : WEnds} {ρ : Env} {S : GS} (P : Nat → Env → GS → Prop) (m0 : Nat) (h0 : P m0 ρ S)
    (hs : ∀ m ρ S, P m ρ S → c ρ S fun t S1 => if t = true then ∃ S2, Less S2 S1 ∧ b (WEnds.less { nx := fun ρ' S' => ∃ m', m' < m ∧ P m' ρ' S', ct := fun ρ' S' => ∃ m', m' < m ∧ P m' ρ' S', bk := R.nx, rt := R.rt }) ρ S2 else ∃ S2, Less S2 S1 ∧ R.nx ρ S2) : wL (wWhile (wTL c) (wL b)) R ρ S := by
  refine ⟨S, .refl S, fun m ρ S => ∃ S2, Less S2 S ∧ P m ρ S2, ⟨m0, S, .refl S, h0⟩, ?_⟩
  rintro m ρ S ⟨S2, l, p⟩
  refine ⟨S2, l, ?_⟩
  have q := hs m ρ S2 p
  have e2 : WEnds.less { nx := fun ρ S => ∃ m', m' < m ∧ ∃ S2, Less S2 S ∧ P m' ρ S2, ct := fun ρ S => ∃ m', m' < m ∧ ∃ S2, Less S2 S ∧ P m' ρ S2, bk := (WEnds.less R).nx, rt := (WEnds.less R).rt } = WEnds.less { nx := fun ρ' S' => ∃ m', m' < m ∧ P m' ρ' S', ct := fun ρ' S' => ∃ m', m' < m ∧ P m' ρ' S', bk := R.nx, rt := R.rt } := by
    unfold WEnds.less
    simp only [less_lift, less_liftM]
  unfold wL
  simp only
  rw [e2]
  exact q
/-- the def, what was made in it forgotten -/
theorem fn_mkL {P : Program} {w : World} {K : PySem.W.Frag} {mg : Str → Option Value} {base : Heap} {DI : Addr → GH → Prop} {k : Nat} {x : Str} {st : Stmt} {N ps : List Str} {kws : List (Nat × List Str × List Nat)} {n : Nat} {sp : WF} {b : WS} {fns : List Fn} {cs : List (Str × D)} {bl : List Str}
    (d : Df K mg x st ps kws) (sc : FnScope N ps (defScope st)) (hn : ps.length = n) (hF : FnsIn P w K mg base DI k fns) (hk : CsIn K mg cs) (hb : BlIn mg bl)
    (hbody : ∀ (X : Cx) (o : Ob X DI N (defScope st) k fns cs bl true), PSs X (defBody st) (lftS X.K DI b))
    (hsp : ∀ ds S R, ds.length = n → sp ds S R → b ⟨fun _ S' => ∃ S2, Less S2 S' ∧ R .non S2, fun d S' => ∃ S2, Less S2 S' ∧ R d S2, fun _ _ => False, fun _ _ => False⟩ (startD N ds) S) : FnIn P w K mg base DI (k + 1) ⟨x, n, sp, kws⟩ := by
  refine fn_mk (b := wL b) d sc hn hF hk hb (fun X o => ss_L (hbody X o)) fun ds S R hl h => ⟨S, .refl S, ?_⟩
  have e : WEnds.less ⟨fun _ S' => R .non S', R, fun _ _ => False, fun _ _ => False⟩ = ⟨fun _ S' => ∃ S2, Less S2 S' ∧ R .non S2, fun d S' => ∃ S2, Less S2 S' ∧ R d S2, fun _ _ => False, fun _ _ => False⟩ := by
    unfold WEnds.less
    have z : (fun (_ : Env) (S : GS) => ∃ S2, Less S2 S ∧ False) = fun _ _ => False := by
      funext ρ S
      exact propext ⟨fun ⟨_, _, h⟩ => h, fun h => h.elim⟩
    rw [z]
  rw [e]
  exact hsp ds S R hl h
end Dv

/-! Dv28: values that may be told, how long their texts may be, a deck; small facts about readings. -/
namespace Dv
open PySem PySem.Spec L2
open PyProof.Rows hiding St
/-! ### values that may be told -/
/-- a plain value of which little is told -/
def lf (d : PyData) : Bool := d.showable && decide (d.shown.length ≤ 400)
mutual
def gd : D → Bool
  | .non => true
  | .bl _ => true
  | .int i => lf (.int i)
  | .str x => decide (x.length ≤ 400) && (PyData.strOk x && lf (.str x))
  | .ty _ => false
  | .ref _ => false
  | .pr _ => false
  | .tup ds => gdL ds
  | .lst ds => gdL ds
  | .dct kvs => gdK kvs
def gdL : List D → Bool
  | [] => true
  | d :: ds => gd d && gdL ds
def gdK : List (Key × D) → Bool
  | [] => true
  | (k, d) :: ds => lf (datKey k) && (gd d && gdK ds)
end
theorem gdL_mem : ∀ {ds : List D}, gdL ds = true → ∀ d ∈ ds, gd d = true
  | [], _, _, h => nomatch h
  | x :: xs, h, d, m => by
    rw [gdL, Bool.and_eq_true] at h
    rcases List.mem_cons.mp m with rfl | m
    · exact h.1
    · exact gdL_mem h.2 d m
theorem gdL_of : ∀ {ds : List D}, (∀ d ∈ ds, gd d = true) → gdL ds = true
  | [], _ => rfl
  | x :: xs, h => by rw [gdL, h x (by simp), gdL_of fun d m => h d (by simp [m])]; rfl
theorem gd_str {x : Str} (h : gd (.str x) = true) : x.length ≤ sizeLine := by
  rw [gd, Bool.and_eq_true, decide_eq_true_eq] at h
  exact Nat.le_trans h.1 (by rw [sizeLine_eq]; omega)
theorem gd_cmpS {x : Str} (h : gd (.str x) = true) : cmp? (.str x) = true := by
  rw [gd, Bool.and_eq_true, Bool.and_eq_true] at h
  simp [cmp?, pure?, nod?, dep, h.2.1]
mutual
theorem gd_pure : ∀ d : D, gd d = true → pure? d = true
  | .non, _ => rfl
  | .bl _, _ => rfl
  | .int _, _ => rfl
  | .str _, _ => rfl
  | .ty _, h => by simp [gd] at h
  | .ref _, h => by simp [gd] at h
  | .pr _, h => by simp [gd] at h
  | .tup ds, h => by rw [pure?]; exact gd_pureL ds (by rw [gd] at h; exact h)
  | .lst ds, h => by rw [pure?]; exact gd_pureL ds (by rw [gd] at h; exact h)
  | .dct ds, h => by rw [pure?]; exact gd_pureK ds (by rw [gd] at h; exact h)
theorem gd_pureL : ∀ ds : List D, gdL ds = true → pureL ds = true
  | [], _ => rfl
  | d :: ds, h => by
    rw [gdL, Bool.and_eq_true] at h
    rw [pureL, gd_pure d h.1, gd_pureL ds h.2]; rfl
theorem gd_pureK : ∀ ds : List (Key × D), gdK ds = true → pureK ds = true
  | [], _ => rfl
  | (k, d) :: ds, h => by
    rw [gdK, Bool.and_eq_true, Bool.and_eq_true] at h
    rw [pureK, gd_pure d h.2.1, gd_pureK ds h.2.2]; rfl
end
theorem gd_noref {d : D} (h : gd d = true) (S : GS) : snap S d = d := by
  cases d <;> first | rfl | (simp [gd] at h)
theorem gd_ty {d : D} (h : gd d = true) (S S' : GS) : tyD S d = tyD S' d := by
  cases d <;> first | rfl | (simp [gd] at h)
theorem isi_tup (d : D) (h : gd d = true) (S : GS) : tyD S d = some "tuple" ∧ (∃ ds, d = .tup ds) ∨ ∃ t, tyD S d = some t ∧ isiB t "tuple" = some false ∧ ∀ ds, d ≠ .tup ds := by
  cases d with
  | tup ds => exact .inl ⟨rfl, ds, rfl⟩
  | ref a => simp [gd] at h
  | pr a => simp [gd] at h
  | ty a => simp [gd] at h
  | _ => exact .inr ⟨_, rfl, by simp [isiB], fun ds z => by cases z⟩
theorem isi_str (d : D) (h : gd d = true) (S : GS) : tyD S d = some "str" ∧ (∃ x, d = .str x) ∨ ∃ t, tyD S d = some t ∧ isiB t "str" = some false ∧ ∀ x, d ≠ .str x := by
  cases d with
  | str x => exact .inl ⟨rfl, x, rfl⟩
  | ref a => simp [gd] at h
  | pr a => simp [gd] at h
  | ty a => simp [gd] at h
  | _ => exact .inr ⟨_, rfl, by simp [isiB], fun ds z => by cases z⟩
theorem isi_tt : isiB "tuple" "tuple" = some true := rfl
theorem isi_ss : isiB "str" "str" = some true := rfl
theorem eqb_str (a b : Str) : eqb (.str a) (.str b) = decide (a = b) := by
  unfold eqb
  simp only [dat]
  by_cases h : a = b
  · subst h; simp [PyData.eqv]
  · simp [PyData.eqv, h]
theorem empty_filter {α : Type} (p : α → Bool) (l : List α) : (l.filter p).isEmpty = l.all fun x => !p x := by
  induction l with
  | nil => rfl
  | cons x r ih =>
    rw [List.filter_cons, List.all_cons]
    cases c : p x <;> simp [ih]
theorem eqb_nil (l : List D) : eqb (.lst l) (.lst []) = l.isEmpty := by
  unfold eqb
  cases l with
  | nil => simp [dat, datL, PyData.eqv, PyData.eqvAll]
  | cons x r => simp [dat, datL, PyData.eqv, PyData.eqvAll]
theorem eqb_tnil (l : List D) : eqb (.tup l) (.tup []) = l.isEmpty := by
  unfold eqb
  cases l with
  | nil => simp [dat, datL, PyData.eqv, PyData.eqvAll]
  | cons x r => simp [dat, datL, PyData.eqv, PyData.eqvAll]
/-! ### how long a value's text may be -/
mutual
def sz : D → Nat
  | .non | .bl _ | .int _ | .str _ | .ty _ | .ref _ | .pr _ => 400
  | .tup ds => 3 + szL ds
  | .lst ds => 3 + szL ds
  | .dct kvs => 3 + szK kvs
def szL : List D → Nat
  | [] => 0
  | d :: ds => sz d + 2 + szL ds
def szK : List (Key × D) → Nat
  | [] => 0
  | (_, d) :: ds => sz d + 406 + szK ds
end
theorem textFrom_le : ∀ (ts : List Str) (k : Nat) (acc : Str), (textFrom k acc ts).length ≤ acc.length + piled ts
  | [], k, acc => by show acc.length ≤ _; omega
  | t :: r, k, acc => by
    have h := textFrom_le r (k + 1) (acc ++ (if k > 0 then ", " else "" : String) ++ t)
    have e : (acc ++ (if k > 0 then ", " else "" : String) ++ t).length ≤ acc.length + 2 + t.length := by
      rw [strLen_append, strLen_append]
      have : ((if k > 0 then ", " else "" : String) : Str).length ≤ 2 := by split <;> decide
      omega
    rw [piled_cons]
    show (textFrom (k + 1) (acc ++ (if k > 0 then ", " else "" : String) ++ t) r).length ≤ _
    omega
theorem tupleText_le (ts : List Str) : (tupleText ts).length ≤ 3 + piled ts := by
  unfold tupleText
  rw [strLen_append, strLen_append]
  have h1 : (("(" : String) : Str).length = 1 := rfl
  have h2 : ((if ts.length == 1 then ",)" else ")" : String) : Str).length ≤ 2 := by split <;> decide
  by_cases h : ts = []
  · subst h
    have : (Str.join ", " []).length = 0 := rfl
    rw [this]
    omega
  · have := join_length_add ts h
    omega
theorem listText_le (ts : List Str) : (listText ts).length ≤ 3 + piled ts := by
  unfold listText
  rw [strLen_append]
  have h1 := textFrom_le ts 0 "["
  have h2 : (("[" : String) : Str).length = 1 := rfl
  have h3 : (("]" : String) : Str).length = 1 := rfl
  rw [h2] at h1
  rw [h3]
  omega
theorem dictText_le (ts : List Str) : (dictText ts).length ≤ 3 + piled ts := by
  unfold dictText
  rw [strLen_append, strLen_append]
  have h1 : (("{" : String) : Str).length = 1 := rfl
  have h2 : (("}" : String) : Str).length = 1 := rfl
  rw [h1, h2]
  by_cases h : ts = []
  · subst h
    have : (Str.join ", " []).length = 0 := rfl
    rw [this]
    omega
  · have := join_length_add ts h
    omega
theorem lf_ok {d : PyData} (h : lf d = true) : d.showable = true ∧ d.shown.length ≤ 400 := by
  unfold lf at h
  rw [Bool.and_eq_true, decide_eq_true_eq] at h
  exact h
mutual
theorem sz_ok : ∀ d : D, gd d = true → (dat d).showable = true ∧ (dat d).shown.length ≤ sz d
  | .non, _ => ⟨rfl, by show (4 : Nat) ≤ 400; omega⟩
  | .bl b, _ => ⟨rfl, by cases b <;> decide⟩
  | .int i, h => lf_ok (by rw [gd] at h; exact h)
  | .str x, h => by
    rw [gd, Bool.and_eq_true, Bool.and_eq_true] at h
    exact lf_ok h.2.2
  | .ty _, h => by simp [gd] at h
  | .ref _, h => by simp [gd] at h
  | .tup ds, h => by
    rw [gd] at h
    obtain ⟨h1, h2⟩ := szL_ok ds h
    refine ⟨by simp [dat, PyData.showable, h1], ?_⟩
    have := tupleText_le (PyData.shownAll (datL ds))
    rw [dat, PyData.shown, sz]
    omega
  | .lst ds, h => by
    rw [gd] at h
    obtain ⟨h1, h2⟩ := szL_ok ds h
    refine ⟨by simp [dat, PyData.showable, h1], ?_⟩
    have := listText_le (PyData.shownAll (datL ds))
    rw [dat, PyData.shown, sz]
    omega
  | .dct ds, h => by
    rw [gd] at h
    obtain ⟨h1, h2⟩ := szK_ok ds h
    refine ⟨by simp [dat, PyData.showable, h1], ?_⟩
    have := dictText_le (PyData.shownKv (datK ds))
    rw [dat, PyData.shown, sz]
    omega
theorem szL_ok : ∀ ds : List D, gdL ds = true → PyData.showableAll (datL ds) = true ∧ piled (PyData.shownAll (datL ds)) ≤ szL ds
  | [], _ => ⟨rfl, Nat.le_refl _⟩
  | d :: ds, h => by
    rw [gdL, Bool.and_eq_true] at h
    obtain ⟨h1, h2⟩ := sz_ok d h.1
    obtain ⟨h3, h4⟩ := szL_ok ds h.2
    refine ⟨by simp [datL, PyData.showableAll, h1, h3], ?_⟩
    rw [datL, PyData.shownAll, piled_cons, szL]
    omega
theorem szK_ok : ∀ ds : List (Key × D), gdK ds = true → PyData.showableKv (datK ds) = true ∧ piled (PyData.shownKv (datK ds)) ≤ szK ds
  | [], _ => ⟨rfl, Nat.le_refl _⟩
  | (k, d) :: ds, h => by
    rw [gdK, Bool.and_eq_true, Bool.and_eq_true] at h
    obtain ⟨h0, h00⟩ := lf_ok h.1
    obtain ⟨h1, h2⟩ := sz_ok d h.2.1
    obtain ⟨h3, h4⟩ := szK_ok ds h.2.2
    have e : datK ((k, d) :: ds) = (datKey k, dat d) :: datK ds := by cases k <;> rfl
    rw [e]
    refine ⟨by simp [PyData.showableKv, h0, h1, h3], ?_⟩
    rw [PyData.shownKv, piled_cons, szK, strLen_append, strLen_append]
    have : ((": " : String) : Str).length = 2 := rfl
    omega
end
/-- may be told, its text short, not deep -/
structure Bd (s n : Nat) (d : D) : Prop where
  g : gd d = true
  s : sz d ≤ s
  n : dep d ≤ n
theorem Bd.mono {s n s' n' : Nat} {d : D} (b : Bd s n d) (h1 : s ≤ s') (h2 : n ≤ n') : Bd s' n' d := ⟨b.g, Nat.le_trans b.s h1, Nat.le_trans b.n h2⟩
theorem Bd.sh {s n : Nat} {d : D} (b : Bd s n d) (h1 : s ≤ 10000000) (h2 : n ≤ 64) : shOk d :=
  ⟨gd_pure d b.g, (sz_ok d b.g).1, Nat.le_trans (sz_ok d b.g).2 (by have := b.s; rw [sizeLine_eq]; omega), Nat.le_trans b.n h2⟩
theorem BdL {s n : Nat} : ∀ {ds : List D}, (∀ d ∈ ds, Bd s n d) → gdL ds = true ∧ szL ds ≤ ds.length * (s + 2) ∧ depL ds ≤ n
  | [], _ => ⟨rfl, by simp [szL], Nat.zero_le _⟩
  | d :: ds, h => by
    obtain ⟨h1, h2, h3⟩ := BdL (ds := ds) fun x m => h x (by simp [m])
    have b := h d (by simp)
    refine ⟨by rw [gdL, b.g, h1]; rfl, ?_, ?_⟩
    · rw [szL, List.length_cons, Nat.succ_mul]
      have := b.s
      omega
    · rw [depL]
      have := b.n
      omega
theorem Bd.tup {s n m : Nat} {ds : List D} (h : ∀ d ∈ ds, Bd s n d) (hm : ds.length ≤ m) : Bd (3 + m * (s + 2)) (n + 1) (.tup ds) := by
  obtain ⟨h1, h2, h3⟩ := BdL h
  have := Nat.mul_le_mul_right (s + 2) hm
  exact ⟨by rw [gd]; exact h1, by rw [sz]; omega, by rw [dep]; omega⟩
theorem Bd.lst {s n m : Nat} {ds : List D} (h : ∀ d ∈ ds, Bd s n d) (hm : ds.length ≤ m) : Bd (3 + m * (s + 2)) (n + 1) (.lst ds) := by
  obtain ⟨h1, h2, h3⟩ := BdL h
  have := Nat.mul_le_mul_right (s + 2) hm
  exact ⟨by rw [gd]; exact h1, by rw [sz]; omega, by rw [dep]; omega⟩
/-! ### the deck -/
structure DeckAt (S : GS) (dk gr : Addr) (xs : List Int) (m t : Int) : Prop where
  ne : gr ≠ dk
  d : S.g dk = some (.dct [(.inr "great", .ref gr), (.inr "mixed", .int m), (.inr "turns", .int t)])
  l : S.g gr = some (.lst (xs.map D.int))
  nn : ∀ x ∈ xs, 0 ≤ x
  ln : xs.length ≤ 63
def DI : Addr → GH → Prop := fun dk G => ∃ gr xs m t, DeckAt ⟨G, none⟩ dk gr xs m t ∧ ∀ a, a ≠ dk → a ≠ gr → G a = none
section
variable {S : GS} {dk gr : Addr} {xs : List Int} {m t : Int} {Q : D → GS → Prop}
theorem DeckAt.great (D : DeckAt S dk gr xs m t) : oIx (.ref dk) (.str "great") S Q = Q (.ref gr) S := by
  have lk : look (.inr "great") [(.inr "great", .ref gr), (.inr "mixed", .int m), (.inr "turns", .int t)] = some (.ref gr) := by kernel_rfl
  unfold oIx
  simp only [asQ, asL, D.d, asK, keyOf, lk]
theorem DeckAt.mixed (D : DeckAt S dk gr xs m t) : oIx (.ref dk) (.str "mixed") S Q = Q (.int m) S := by
  have lk : look (.inr "mixed") [(.inr "great", .ref gr), (.inr "mixed", .int m), (.inr "turns", .int t)] = some (.int m) := by kernel_rfl
  unfold oIx
  simp only [asQ, asL, D.d, asK, keyOf, lk]
theorem DeckAt.turns (D : DeckAt S dk gr xs m t) : oIx (.ref dk) (.str "turns") S Q = Q (.int t) S := by
  have lk : look (.inr "turns") [(.inr "great", .ref gr), (.inr "mixed", .int m), (.inr "turns", .int t)] = some (.int t) := by kernel_rfl
  unfold oIx
  simp only [asQ, asL, D.d, asK, keyOf, lk]
theorem cmp_ints (xs : List Int) : cmp? (.lst (xs.map D.int)) = true := by
  have z : pureL (xs.map D.int) = true ∧ nodL (xs.map D.int) = true ∧ depL (xs.map D.int) = 0 := by
    induction xs with
    | nil => exact ⟨rfl, rfl, rfl⟩
    | cons x r ih => simp [pureL, nodL, depL, pure?, nod?, dep, ih.1, ih.2.1, ih.2.2]
  simp [cmp?, pure?, nod?, dep, z.1, z.2.1, z.2.2]
end
def bdB (s n : Nat) (d : D) : Bool := gd d && (decide (sz d ≤ s) && decide (dep d ≤ n))
theorem bd_of {s n : Nat} {d : D} (h : bdB s n d = true) : Bd s n d := by
  unfold bdB at h
  simp only [Bool.and_eq_true, decide_eq_true_eq] at h
  exact ⟨h.1, h.2.1, h.2.2⟩
theorem bd_str {s n : Nat} {x : Str} (h : gd (.str x) = true) (hs : 400 ≤ s) : Bd s n (.str x) := ⟨h, by rw [sz]; exact hs, by rw [dep]; omega⟩
theorem cut_mem {xs : List D} {lo hi : Option Int} {y : D} (m : y ∈ Dv.cutD xs lo hi) : y ∈ xs := by
  unfold Dv.cutD at m
  exact List.mem_of_mem_drop (List.mem_of_mem_take m)
theorem cut_len {xs : List D} {lo hi : Option Int} : (Dv.cutD xs lo hi).length ≤ xs.length := by
  unfold Dv.cutD
  rw [List.length_take, List.length_drop]
  omega
theorem la (S : GS) (ds : List D) : asL S (.lst ds) = some ds := rfl
theorem addT {S : GS} {xs ys : List D} {Q : D → GS → Prop} : oAdd (.tup xs) (.tup ys) S Q = (xs.length + ys.length ≤ sizeLine ∧ Q (.tup (xs ++ ys)) S) := rfl
theorem addL {S : GS} {xs ys : List D} {Q : D → GS → Prop} : oAdd (.lst xs) (.lst ys) S Q = (xs.length + ys.length ≤ sizeLine ∧ Q (.lst (xs ++ ys)) S) := rfl
theorem addI {S : GS} {i j : Int} {Q : D → GS → Prop} : oAdd (.int i) (.int j) S Q = Q (.int (i + j)) S := rfl
theorem lzn (n : Nat) (h : n ≤ 1000 := by omega) : n ≤ sizeLine := Nat.le_trans h (by rw [sizeLine_eq]; omega)
theorem list_tup {S : GS} {ys : List D} {Q : D → GS → Prop} : fList [.tup ys] S Q = Q (.lst ys) S := rfl
theorem seq_if {t : WT} {a r : WS} {R : WEnds} {ρ : Dv.Env} {S : GS} (good : Prop) (ht : ∀ Q : Bool → GS → Prop, Q false S → (good → Q true S) → t ρ S Q) (ha : good → a { R with nx := r R } ρ S) (hr : r R ρ S) : wSeq (wIfS t a wSkip) r R ρ S := ht _ hr ha
theorem mul_tup {S : GS} {y : D} {n : Int} {Q : D → GS → Prop} (h1 : 2 ≤ n) (h2 : n ≤ 1000) (q : ∀ l : List D, (∀ x ∈ l, x = y) → l.length = n.toNat → Q (.tup l) S) : oMul (.tup [y]) (.int n) S Q := by
  refine ⟨List.cons_ne_nil _ _, h1, h2, by show 1 ≤ 1000; omega, q _ (fun x m => ?_) ?_⟩
  · obtain ⟨l, ml, mx⟩ := List.mem_flatten.mp m
    rw [(List.mem_replicate.mp ml).2] at mx
    exact List.mem_singleton.mp mx
  · simp
theorem seq_if2 {t : WT} {a r : WS} {R : WEnds} {ρ : Dv.Env} {S : GS} (good bad : Prop) (ht : ∀ Q : Bool → GS → Prop, (bad → Q false S) → (good → Q true S) → t ρ S Q) (ha : good → a { R with nx := r R } ρ S) (hr : bad → r R ρ S) : wSeq (wIfS t a wSkip) r R ρ S := ht _ hr ha
theorem ix_seq {S : GS} {d : D} {ds : List D} {n : Nat} {y : D} {Q : D → GS → Prop} (h : asQ S d = some ds) (e : ds[n]? = some y) (q : Q y S) : oIx d (.int (n : Nat)) S Q := by
  have ea := atI_nat e
  cases d with
  | str x => cases h
  | _ =>
    unfold oIx
    simp only [h, ea]
    exact q
theorem len_seq {S : GS} {d : D} {ds : List D} (h : asQ S d = some ds) : lenD S d = some ds.length := by
  cases d with
  | str x => cases h
  | _ =>
    unfold lenD
    simp only [h]
theorem tup_lst {S : GS} {ys : List D} {Q : D → GS → Prop} : fTuple [.lst ys] S Q = Q (.tup ys) S := rfl
theorem rg_int {n : Int} {m : Nat} : ∀ d ∈ rgD n m, ∃ i, d = D.int i := fun d h => by
  unfold rgD at h
  obtain ⟨i, _, rfl⟩ := List.mem_map.mp h
  exact ⟨_, rfl⟩
theorem ix_eq {S : GS} {d : D} {ds : List D} {n : Nat} {y : D} {Q : D → GS → Prop} (h : asQ S d = some ds) (e : ds[n]? = some y) : oIx d (.int (n : Nat)) S Q = Q y S := by
  have ea := atI_nat e
  cases d with
  | str x => cases h
  | _ =>
    unfold oIx
    simp only [h, ea]
theorem ix0_eq {S : GS} {d : D} {ds : List D} {y : D} {Q : D → GS → Prop} (h : asQ S d = some ds) (e : ds[0]? = some y) : oIx d (.int 0) S Q = Q y S := ix_eq (n := 0) h e
theorem tup_ref {S : GS} {p : Addr} {xs : List D} {Q : D → GS → Prop} (h : S.g p = some (.lst xs)) : fTuple [.ref p] S Q = Q (.tup xs) S := by
  unfold fTuple f1
  simp only [asQ, asL, h]
theorem mul_any {S : GS} {ys : List D} {n : Int} {Q : D → GS → Prop} (h0 : ys ≠ []) (hl : ys.length ≤ 1000) (h1 : 2 ≤ n) (h2 : n ≤ 1000) (q : ∀ l : List D, (∀ x ∈ l, x ∈ ys) → Q (.tup l) S) : oMul (.tup ys) (.int n) S Q := by
  refine ⟨h0, h1, h2, hl, q _ (fun x m => ?_)⟩
  obtain ⟨l, ml, mx⟩ := List.mem_flatten.mp m
  rw [(List.mem_replicate.mp ml).2] at mx
  exact mx
theorem cut65 (l : List D) : (Dv.cutD l none (some 65)).length ≤ 65 := by
  unfold Dv.cutD
  rw [List.length_take, HT.sIx_none, show HT.sIx l.length l.length (some 65) = min 65 l.length from HT.sIx_nat l.length l.length 65]
  omega

/-- with what is so of each -/
theorem pick_all {α β : Type} {f : α → β} {p : α → Prop} : ∀ {ys : List β}, (∀ y ∈ ys, ∃ r, y = f r ∧ p r) → ∃ rs : List α, ys = rs.map f ∧ ∀ r ∈ rs, p r
  | [], _ => ⟨[], rfl, fun _ m => nomatch m⟩
  | y :: ys, h => by
    obtain ⟨rs, e, q⟩ := pick_all (ys := ys) fun y m => h y (by simp [m])
    obtain ⟨r, e2, q2⟩ := h y (by simp)
    exact ⟨r :: rs, by rw [e, e2]; rfl, fun x m => by rcases List.mem_cons.mp m with rfl | m; exact q2; exact q x m⟩
theorem strsOf_map : ∀ zs : List Str, strsOf (zs.map D.str) = some zs
  | [] => rfl
  | z :: r => by rw [List.map_cons, strsOf, strsOf_map r]; rfl
theorem cut_map {α : Type} (f : α → D) (zs : List α) (lo hi : Option Int) : ∃ ws : List α, Dv.cutD (zs.map f) lo hi = ws.map f ∧ ws.Sublist zs := by
  unfold Dv.cutD
  exact ⟨_, by rw [← List.map_drop, ← List.map_take], (List.take_sublist _ _).trans (List.drop_sublist _ _)⟩
theorem erase_map {α β : Type} (f : α → β) : ∀ (l : List α) (n : Nat), (l.map f).eraseIdx n = (l.eraseIdx n).map f
  | [], n => by simp
  | x :: r, 0 => rfl
  | x :: r, n + 1 => by rw [List.map_cons, List.eraseIdx_cons_succ, List.eraseIdx_cons_succ, List.map_cons, erase_map f r n]
theorem erase_perm {α : Type} : ∀ (l : List α) (n : Nat) (h : n < l.length), (l[n] :: l.eraseIdx n).Perm l
  | x :: r, 0, _ => .refl _
  | x :: r, n + 1, h => by
    have i := erase_perm r n (Nat.lt_of_succ_lt_succ h)
    rw [List.eraseIdx_cons_succ]
    exact (List.Perm.swap x _ _).trans (i.cons x)
/-! ### texts in order -/
theorem str_ext {a b : Str} (h : a.cps.toList = b.cps.toList) : a = b := Str.ext' (Array.toList_inj.mp h)
theorem ltc_irr : ∀ a : List Nat, ltCps a a = false
  | [] => rfl
  | a :: r => by simp [ltCps, ltc_irr r]
theorem ltc_tri : ∀ a b : List Nat, ltCps a b = false → ltCps b a = false → a = b
  | [], [], _, _ => rfl
  | [], _ :: _, h, _ => by simp [ltCps] at h
  | _ :: _, [], _, h => by simp [ltCps] at h
  | a :: r, b :: t, h, k => by
    simp only [ltCps, Bool.or_eq_false_iff, Bool.and_eq_false_iff, decide_eq_false_iff_not, beq_eq_false_iff_ne] at h k
    have e : a = b := by omega
    subst e
    rw [ltc_tri r t (h.2.resolve_left (fun z => z rfl)) (k.2.resolve_left (fun z => z rfl))]
theorem ltc_trans : ∀ a b c : List Nat, ltCps a b = true → ltCps b c = true → ltCps a c = true
  | [], [], _, h, _ => by simp [ltCps] at h
  | _ :: _, [], _, h, _ => by simp [ltCps] at h
  | _, _ :: _, [], _, h => by simp [ltCps] at h
  | [], _ :: _, _ :: _, _, _ => rfl
  | a :: r, b :: t, c :: u, h, k => by
    simp only [ltCps, Bool.or_eq_true, Bool.and_eq_true, decide_eq_true_eq, beq_iff_eq] at h k ⊢
    rcases h with h | ⟨rfl, h⟩
    · rcases k with k | ⟨rfl, k⟩
      · exact .inl (by omega)
      · exact .inl h
    · rcases k with k | ⟨rfl, k⟩
      · exact .inl k
      · exact .inr ⟨rfl, ltc_trans r t u h k⟩
/-- texts, each greater than the one ahead -/
theorem rising_pw : ∀ (p : Str) (l : List Str), risingS p l = true → (p :: l).Nodup → (p :: l).Pairwise fun a b => ltCps a.cps.toList b.cps.toList = true
  | p, [], _, _ => by simp
  | p, x :: r, h, nd => by
    have h' : (!ltCps x.cps.toList p.cps.toList && risingS x r) = true := h
    rw [Bool.and_eq_true] at h'
    have ih := rising_pw x r h'.2 (List.nodup_cons.mp nd).2
    have lt : ltCps p.cps.toList x.cps.toList = true := by
      cases q : ltCps p.cps.toList x.cps.toList with
      | true => rfl
      | false =>
        exfalso
        have e := str_ext (ltc_tri _ _ q (by simpa using h'.1))
        exact (List.nodup_cons.mp nd).1 (by rw [e]; simp)
    refine List.pairwise_cons.mpr ⟨fun y m => ?_, ih⟩
    rcases List.mem_cons.mp m with rfl | m
    · exact lt
    · exact ltc_trans _ _ _ lt ((List.pairwise_cons.mp ih).1 y m)
theorem sorted_pw : ∀ {l : List Str}, sortedS l = true → l.Nodup → l.Pairwise fun a b => ltCps a.cps.toList b.cps.toList = true
  | [], _, _ => .nil
  | x :: r, h, nd => rising_pw x r h nd
theorem pw_uniq {α : Type} {lt : α → α → Prop} (irr : ∀ a b, lt a b → lt b a → False) : ∀ {a b : List α}, a.Pairwise lt → b.Pairwise lt → (∀ x, x ∈ a ↔ x ∈ b) → a = b
  | [], [], _, _, _ => rfl
  | [], y :: s, _, _, h => by have := (h y).mpr (by simp); simp at this
  | x :: r, [], _, _, h => by have := (h x).mp (by simp); simp at this
  | x :: r, y :: s, p, q, h => by
    obtain ⟨p1, p2⟩ := List.pairwise_cons.mp p
    obtain ⟨q1, q2⟩ := List.pairwise_cons.mp q
    have e : x = y := by
      rcases List.mem_cons.mp ((h x).mp (by simp)) with e | m
      · exact e
      · rcases List.mem_cons.mp ((h y).mpr (by simp)) with e | m2
        · exact e.symm
        · exact (irr _ _ (q1 x m) (p1 y m2)).elim
    subst e
    rw [pw_uniq irr p2 q2 fun z => ⟨fun m => by
      rcases List.mem_cons.mp ((h z).mp (by simp [m])) with e | m2
      · subst e; exact (irr _ _ (p1 z m) (p1 z m)).elim
      · exact m2, fun m => by
      rcases List.mem_cons.mp ((h z).mpr (by simp [m])) with e | m2
      · subst e; exact (irr _ _ (q1 z m) (q1 z m)).elim
      · exact m2⟩]
theorem ltc_asym (a b : List Nat) (h : ltCps a b = true) (k : ltCps b a = true) : False := by
  have := ltc_trans a b a h k
  rw [ltc_irr] at this
  cases this
/-- the same texts in order, each once: one list -/
theorem sorted_uniq {a b : List Str} (h1 : sortedS a = true) (n1 : a.Nodup) (h2 : sortedS b = true) (n2 : b.Nodup) (h : ∀ x, x ∈ a ↔ x ∈ b) : a = b :=
  pw_uniq (fun a b => ltc_asym _ _) (sorted_pw h1 n1) (sorted_pw h2 n2) h
theorem nodup_len {α : Type} [DecidableEq α] : ∀ {a b : List α}, a.Nodup → (∀ x ∈ a, x ∈ b) → a.length ≤ b.length
  | [], _, _, _ => Nat.zero_le _
  | x :: r, b, n, h => by
    obtain ⟨n1, n2⟩ := List.nodup_cons.mp n
    have hx := h x (by simp)
    have := nodup_len (b := b.erase x) n2 fun y m => (List.mem_erase_of_ne (fun e => n1 (by rw [← e]; exact m))).mpr (h y (by simp [m]))
    rw [List.length_erase_of_mem hx] at this
    have : 0 < b.length := List.length_pos_of_mem hx
    rw [List.length_cons]
    omega
/-! ### items that may be compared -/
def itemC (d : D) : Bool := pure? d && (nod? d && decide (dep d ≤ 60))
theorem itemC_lst : ∀ {zs : List D}, (∀ z ∈ zs, itemC z = true) → pureL zs = true ∧ nodL zs = true ∧ depL zs ≤ 60
  | [], _ => ⟨rfl, rfl, Nat.zero_le _⟩
  | x :: r, h => by
    obtain ⟨a, b, c⟩ := itemC_lst (zs := r) fun z m => h z (by simp [m])
    have q := h x (by simp)
    unfold itemC at q
    simp only [Bool.and_eq_true, decide_eq_true_eq] at q
    refine ⟨by rw [pureL, q.1, a]; rfl, by rw [nodL, q.2.1, b]; rfl, by rw [depL]; omega⟩
theorem cmp_items {zs : List D} (h : ∀ z ∈ zs, itemC z = true) : cmp? (.lst zs) = true := by
  obtain ⟨a, b, c⟩ := itemC_lst h
  have e : dep (.lst zs) ≤ 64 := by rw [dep]; omega
  unfold cmp?
  rw [pure?, nod?, a, b, decide_eq_true e]
  rfl
theorem cmp_itemsT {zs : List D} (h : ∀ z ∈ zs, itemC z = true) : cmp? (.tup zs) = true := by
  obtain ⟨a, b, c⟩ := itemC_lst h
  have e : dep (.tup zs) ≤ 64 := by rw [dep]; omega
  unfold cmp?
  rw [pure?, nod?, a, b, decide_eq_true e]
  rfl
theorem itemC_int (i : Int) : itemC (.int i) = true := rfl
theorem itemC_str {x : Str} (h : PyData.strOk x = true) : itemC (.str x) = true := by simp [itemC, pure?, nod?, dep, h]
theorem ne_lref {S : GS} {p : Addr} {zs : List D} {Q : D → GS → Prop} (hp : S.g p = some (.lst zs)) (h : ∀ z ∈ zs, itemC z = true) : oNe (.ref p) (.lst []) S Q = Q (.bl (!zs.isEmpty)) S := by
  unfold oNe
  have c2 : cmp? (.lst []) = true := by decide
  simp only [snap, hp, cmp_items h, eqb_nil, c2, true_and]
theorem ne_lst {S : GS} {zs : List D} {Q : D → GS → Prop} (h : ∀ z ∈ zs, itemC z = true) : oNe (.lst zs) (.lst []) S Q = Q (.bl (!zs.isEmpty)) S := by
  unfold oNe
  have c2 : cmp? (.lst []) = true := by decide
  simp only [snap, cmp_items h, eqb_nil, c2, true_and]
theorem eq_lref {S : GS} {p : Addr} {zs : List D} {Q : D → GS → Prop} (hp : S.g p = some (.lst zs)) (h : ∀ z ∈ zs, itemC z = true) : oEq (.ref p) (.lst []) S Q = Q (.bl zs.isEmpty) S := by
  unfold oEq
  have c2 : cmp? (.lst []) = true := by decide
  simp only [snap, hp, cmp_items h, eqb_nil, c2, true_and]
theorem eq_lst {S : GS} {zs : List D} {Q : D → GS → Prop} (h : ∀ z ∈ zs, itemC z = true) : oEq (.lst zs) (.lst []) S Q = Q (.bl zs.isEmpty) S := by
  unfold oEq
  have c2 : cmp? (.lst []) = true := by decide
  simp only [snap, cmp_items h, eqb_nil, c2, true_and]
/-! ### sayings as data -/
abbrev LRow := Str × Str × Str
def rowD (r : LRow) : D := .tup [.str r.1, .str r.2.1, .str r.2.2]
abbrev Cl := List LRow × List LRow
def clD (c : Cl) : D := .tup [.tup (c.1.map rowD), .tup (c.2.map rowD)]
def sayD (s : List Cl) : D := .tup (s.map clD)
end Dv

/-! Dv29: dicts of keys alone; names of sayings. -/
namespace Dv
open PySem PySem.Spec L2
open PyProof.Rows hiding St
theorem look_map {α : Type} (f : α → D) (kf : α → Key) (inj : ∀ a b, kf a = kf b → a = b) (x : α) : ∀ l : List α, x ∈ l → look (kf x) (l.map fun s => (kf s, f s)) = some (f x)
  | [], h => nomatch h
  | y :: r, h => by
    rw [List.map_cons, look]
    by_cases e : kf y = kf x
    · rw [if_pos e, inj _ _ e]
    · rw [if_neg e]
      exact look_map f kf inj x r ((List.mem_cons.mp h).resolve_left fun z => e (by rw [z]))
theorem look_nmap {α : Type} (f : α → D) (kf : α → Key) (k : Key) : ∀ l : List α, (∀ a ∈ l, kf a ≠ k) → look k (l.map fun s => (kf s, f s)) = none
  | [], h => rfl
  | y :: r, h => by
    rw [List.map_cons, look, if_neg (h y (by simp))]
    exact look_nmap f kf k r fun a m => h a (by simp [m])
/-- one more, if it is not there -/
def addN {α : Type} [DecidableEq α] (l : List α) (x : α) : List α := if x ∈ l then l else l ++ [x]
theorem mem_addN {α : Type} [DecidableEq α] {l : List α} {x y : α} : y ∈ addN l x ↔ y ∈ l ∨ y = x := by
  unfold addN
  split
  · exact ⟨.inl, fun h => h.elim id fun e => by rw [e]; assumption⟩
  · simp
theorem nodup_addN {α : Type} [DecidableEq α] {l : List α} {x : α} (h : l.Nodup) : (addN l x).Nodup := by
  unfold addN
  split
  · exact h
  · rename_i q
    exact List.nodup_append.mpr ⟨h, by simp, fun a m b mb => by rintro rfl; rw [List.mem_singleton.mp mb] at m; exact q m⟩
/-- a dict whose keys are told by kf, whose values by f -/
def dF {α : Type} (kf : α → Key) (f : α → D) (l : List α) : List (Key × D) := l.map fun s => (kf s, f s)
section
variable {α : Type} [DecidableEq α] {kf : α → Key} {f : α → D}
theorem look_dF (inj : ∀ a b, kf a = kf b → a = b) (x : α) (l : List α) (h : x ∈ l) : look (kf x) (dF kf f l) = some (f x) := look_map f kf inj x l h
theorem look_dFn (inj : ∀ a b, kf a = kf b → a = b) (x : α) (l : List α) (h : x ∉ l) : look (kf x) (dF kf f l) = none := look_nmap f kf (kf x) l fun a m e => h (by rw [← inj _ _ e]; exact m)
theorem has_dF (inj : ∀ a b, kf a = kf b → a = b) (x : α) (l : List α) : has (kf x) (dF kf f l) = decide (x ∈ l) := by
  unfold has
  by_cases h : x ∈ l
  · rw [look_dF inj x l h, decide_eq_true h]; rfl
  · rw [look_dFn inj x l h, decide_eq_false h]; rfl
/-- a key gets a value: the same function, but there -/
theorem put_dF (inj : ∀ a b, kf a = kf b → a = b) (x : α) (d : D) (l : List α) : put (kf x) d (dF kf f l) = dF kf (fun y => if y = x then d else f y) (addN l x) := by
  unfold put addN
  rw [has_dF inj]
  by_cases h : x ∈ l
  · rw [if_pos (decide_eq_true h), if_pos h]
    unfold dF
    rw [List.map_map]
    refine List.map_congr_left fun k _ => ?_
    show (if kf k = kf x then (kf k, d) else (kf k, f k)) = (kf k, if k = x then d else f k)
    by_cases e : k = x
    · rw [if_pos (by rw [e]), if_pos e]
    · rw [if_neg (fun z => e (inj _ _ z)), if_neg e]
  · rw [if_neg (by rw [decide_eq_true_eq]; exact h), if_neg h]
    unfold dF
    rw [List.map_append]
    congr 1
    · refine List.map_congr_left fun k m => ?_
      show (kf k, f k) = (kf k, if k = x then d else f k)
      rw [if_neg (fun e : k = x => h (by rw [← e]; exact m))]
    · show [(kf x, d)] = [(kf x, if x = x then d else f x)]
      rw [if_pos rfl]
theorem put_dFT (inj : ∀ a b, kf a = kf b → a = b) (x : α) (l : List α) : put (kf x) (.bl true) (dF kf (fun _ => .bl true) l) = dF kf (fun _ => .bl true) (addN l x) := by
  rw [put_dF inj]
  congr 1
  funext y
  split <;> rfl
theorem length_dF (l : List α) : (dF kf f l).length = l.length := List.length_map ..
theorem keys_dF (l : List α) : (dF kf f l).map (fun p => kD p.1) = l.map fun x => kD (kf x) := by
  unfold dF
  rw [List.map_map]
  rfl
end
/-! names -/
def occR (r : LRow) : List Str := [r.2.1, r.2.2]
def occC (c : Cl) : List Str := (c.1 ++ c.2).flatMap occR
def occ (s : List Cl) : List Str := s.flatMap occC
theorem inr_inj (a b : Str) (h : (Sum.inr a : Key) = .inr b) : a = b := by cases h; rfl
theorem inl_inj (a b : Int) (h : (Sum.inl a : Key) = .inl b) : a = b := by cases h; rfl
abbrev dN (l : List Str) : List (Key × D) := dF Sum.inr (fun _ => .bl true) l
theorem put_dN (x : Str) (l : List Str) : put (.inr x) (.bl true) (dN l) = dN (addN l x) := put_dFT inr_inj x l
structure IsNames (s : List Cl) (ys : List Str) : Prop where
  srt : sortedS ys = true
  nd : ys.Nodup
  mem : ∀ x, x ∈ ys ↔ x ∈ occ s ∧ x ≠ ("nil" : Str)
theorem IsNames.uniq {s : List Cl} {a b : List Str} (h : IsNames s a) (k : IsNames s b) : a = b :=
  sorted_uniq h.srt h.nd k.srt k.nd fun x => (h.mem x).trans (k.mem x).symm
/-! freezing, told -/
theorem x_frzD {i : Nat} {b : WS} {R : WEnds} {ρ : Env} {S : GS} {p : Addr} {kvs : List (Key × D)} (h1 : ρ[i]? = some (some (.ref p))) (h2 : S.g p = some (.dct kvs)) : wFrz i b R ρ S = b R (ρ.set i (some (.dct kvs))) (S.del p) := by
  unfold wFrz
  simp only [h1, h2]
theorem x_frzL {i : Nat} {b : WS} {R : WEnds} {ρ : Env} {S : GS} {p : Addr} {ds : List D} (h1 : ρ[i]? = some (some (.ref p))) (h2 : S.g p = some (.lst ds)) : wFrz i b R ρ S = b R (ρ.set i (some (.lst ds))) (S.del p) := by
  unfold wFrz
  simp only [h1, h2]
theorem ite_opt {Q : Option D → GS → Prop} {c : Bool} {d : D} {S : GS} : Q (if c = true then some d else none) S = (if c = true then Q (some d) S else Q none S) := by cases c <;> rfl
theorem snap_tup {S : GS} {l : List D} : snap S (.tup l) = .tup l := rfl
theorem snap_lst {S : GS} {l : List D} : snap S (.lst l) = .lst l := rfl
theorem snap_dct {S : GS} {l : List (Key × D)} : snap S (.dct l) = .dct l := rfl
theorem snap_str {S : GS} {x : Str} : snap S (.str x) = .str x := rfl
theorem snap_int {S : GS} {x : Int} : snap S (.int x) = .int x := rfl
theorem snap_bl {S : GS} {x : Bool} : snap S (.bl x) = .bl x := rfl
theorem snap_non {S : GS} : snap S .non = .non := rfl
theorem snap_say {S : GS} {s : List Cl} : snap S (sayD s) = sayD s := rfl
theorem snap_cl {S : GS} {s : Cl} : snap S (clD s) = clD s := rfl
theorem cut_take (l : List D) (k : Nat) : Dv.cutD l none (some (k : Int)) = l.take k := by
  unfold Dv.cutD
  rw [HT.sIx_nat, HT.sIx_none, List.drop_zero, Nat.sub_zero]
  by_cases h : k ≤ l.length
  · rw [Nat.min_eq_left h]
  · rw [Nat.min_eq_right (by omega), List.take_length, List.take_of_length_le (by omega)]
theorem cut_drop (l : List D) (k : Nat) : Dv.cutD l (some (k : Int)) none = l.drop k := by
  unfold Dv.cutD
  rw [HT.sIx_nat, HT.sIx_none]
  by_cases h : k ≤ l.length
  · rw [Nat.min_eq_left h, List.take_of_length_le (by rw [List.length_drop]; omega)]
  · rw [Nat.min_eq_right (by omega), Nat.sub_self, List.take_zero, List.drop_of_length_le (by omega)]
theorem perm_unmap {α β : Type} (f : α → β) : ∀ {ys ms : List β}, ys.Perm ms → ∀ l : List α, ms = l.map f → ∃ zs : List α, ys = zs.map f ∧ zs.Perm l := by
  intro ys ms h
  induction h with
  | nil => intro l e; cases l with
    | nil => exact ⟨[], rfl, .nil⟩
    | cons a r => cases e
  | cons x h ih => intro l e; cases l with
    | nil => cases e
    | cons a r =>
      rw [List.map_cons] at e
      injection e with e1 e2
      obtain ⟨zs, e3, q⟩ := ih r e2
      exact ⟨a :: zs, by rw [e3, e1]; rfl, q.cons a⟩
  | swap x y l' => intro l e; match l, e with
    | a :: b :: r, e =>
      rw [List.map_cons, List.map_cons] at e
      injection e with e1 e2
      injection e2 with e2 e3
      exact ⟨b :: a :: r, by rw [e1, e2, e3]; rfl, .swap a b r⟩
  | trans h1 h2 ih1 ih2 => intro l e
                           obtain ⟨zs, e1, q1⟩ := ih2 l e
                           obtain ⟨us, e2, q2⟩ := ih1 zs e1
                           exact ⟨us, e2, q2.trans q1⟩
end Dv

/-! Dv30: sorted, of items that are alike, of any length. -/
namespace Dv
open PySem PySem.Spec L2
open PyProof.Rows hiding St
/-- a is not greater than b -/
def leD (a b : D) : Bool := !PySem.W.dataLt (dat b) (dat a)
def sortD (ds : List D) : List D := ds.mergeSort leD
theorem leD_eq : leD = PySem.W.dataLe false dat := by
  funext a b
  rw [PySem.W.dataLe_eq]
  rfl
theorem leD_total : PySem.W.TotalLe leD := by
  rw [leD_eq]
  exact PySem.W.sortLe_total _ false _
/-- what an item is sorted by -/
def tokD (d : D) : List (Int ⊕ List Nat) := PySem.W.keyToks (dat d)
theorem leD_anti {a b : D} (h : leD a b = true) (k : leD b a = true) : tokD a = tokD b := by
  have h' : PySem.W.dataLt (dat b) (dat a) = false := by simpa [leD] using h
  have k' : PySem.W.dataLt (dat a) (dat b) = false := by simpa [leD] using k
  exact (PyProof.Rows.listOrd _).total _ _ k' h'
theorem sortD_perm (ds : List D) : (sortD ds).Perm ds := List.mergeSort_perm ..
theorem sortD_pw (ds : List D) : (sortD ds).Pairwise fun a b => leD a b = true := PySem.W.sort_pairwise leD_total ds
/-- two lists in order of the same items are one -/
theorem pw_perm_eq {α : Type} {le : α → α → Prop} : ∀ {a b : List α}, (∀ x ∈ a, ∀ y ∈ a, le x y → le y x → x = y) → a.Pairwise le → b.Pairwise le → a.Perm b → a = b
  | [], b, _, _, _, p => by rw [List.nil_perm.mp p]
  | x :: r, b, an, pa, pb, p => by
    cases b with
    | nil => exact absurd p (by simp)
    | cons y s =>
      obtain ⟨a1, a2⟩ := List.pairwise_cons.mp pa
      obtain ⟨b1, b2⟩ := List.pairwise_cons.mp pb
      have e : x = y := by
        rcases List.mem_cons.mp (p.subset (List.mem_cons_self ..)) with e | m
        · exact e
        · rcases List.mem_cons.mp (p.symm.subset (List.mem_cons_self ..)) with e | m2
          · exact e.symm
          · exact an x (List.mem_cons_self ..) y (List.mem_cons_of_mem _ m2) (a1 y m2) (b1 x m)
      subst e
      rw [pw_perm_eq (fun u mu v mv => an u (List.mem_cons_of_mem _ mu) v (List.mem_cons_of_mem _ mv)) a2 b2 ((List.perm_cons x).mp p)]
theorem sortD_uniq {a b : List D} (inj : ∀ x ∈ a, ∀ y ∈ a, tokD x = tokD y → x = y) (h : a.Pairwise fun x y => leD x y = true) (p : a.Perm b) : sortD b = a := by
  refine (pw_perm_eq (fun x mx y my h1 h2 => inj x mx y my (leD_anti h1 h2)) h (sortD_pw b) (p.trans (sortD_perm b).symm)).symm
theorem sortD_congr {a b : List D} (inj : ∀ x ∈ a, ∀ y ∈ a, tokD x = tokD y → x = y) (p : a.Perm b) : sortD a = sortD b := by
  refine (sortD_uniq (a := sortD a) (fun x mx y my => inj x ((sortD_perm a).subset mx) y ((sortD_perm a).subset my)) (sortD_pw a) ((sortD_perm a).trans p)).symm
/-- may be sorted -/
structure SortOk (ds : List D) : Prop where
  p : pureL ds = true
  n : nodL ds = true
  al : PySem.W.AllAlike (datL ds)
  so : PySem.W.Sortable (datL ds)
  dp : depL ds ≤ 60
  ln : ds.length ≤ sizeLine
theorem datL_map : ∀ ds : List D, datL ds = ds.map dat
  | [] => rfl
  | d :: ds => by rw [datL, datL_map ds]; rfl
section
variable {X : Cx} {DI : Addr → GH → Prop} {N : List Str} {sc : Scope} {k : Nat} {fns : List Fn} {cs : List (Str × D)} {bl : List Str} {fc : Bool}
theorem depL_mem : ∀ {ds : List D} {d : D}, d ∈ ds → dep d ≤ depL ds
  | x :: r, d, m => by
    rw [depL]
    rcases List.mem_cons.mp m with rfl | m
    · omega
    · have := depL_mem m
      omega
theorem zipDen {K : PySem.W.Frag} {H : Hp} : ∀ {ds : List D} {vs : List V}, DenL K H ds vs → ∀ p ∈ ds.zip vs, Den K H p.1 p.2
  | [], _, _, p, m => by simp at m
  | d :: ds, _, h, p, m => by
    cases h with
    | cons h1 h2 =>
      rcases List.mem_cons.mp m with rfl | m
      · exact h1
      · exact zipDen h2 p m
theorem denOfZip {K : PySem.W.Frag} {H : Hp} : ∀ {ps : List (D × V)}, (∀ p ∈ ps, Den K H p.1 p.2) → DenL K H (ps.map (·.1)) (ps.map (·.2))
  | [], _ => .nil
  | p :: ps, h => .cons (h p (by simp)) (denOfZip fun q m => h q (by simp [m]))
theorem each_zip {K : PySem.W.Frag} {H : Hp} : ∀ {ds : List D} {vs : List V} {us : List Value}, DenL K H ds vs → Vals vs us → PySem.W.EachIs (fun (u : Value) (p : D × V) => RelV p.2 u ∧ Den K H p.1 p.2) us (ds.zip vs)
  | [], _, _, h, r => by cases h; cases r; exact .nil
  | d :: ds, _, _, h, r => by
    cases h with
    | cons h1 h2 =>
      cases r with
      | cons r1 r2 => exact .cons ⟨r1, h1⟩ (each_zip h2 r2)
theorem each_read {pins : List (Addr × Obj)} {σ : L2.St} {H : Hp} {s : Shared} (I : Inv X pins σ H s) : ∀ {ds : List D} {vs : List V} {us : List Value}, pureL ds = true → nodL ds = true → DenL X.K H ds vs → Vals vs us → PySem.W.EachIs (fun (u : Value) (p : D × V) => ∃ as, Reads s.heap u (dat p.1) as) us (ds.zip vs)
  | [], _, _, _, _, h, r => by cases h; cases r; exact .nil
  | d :: ds, _, _, p, n, h, r => by
    rw [pureL, Bool.and_eq_true] at p
    rw [nodL, Bool.and_eq_true] at n
    cases h with
    | cons h1 h2 =>
      cases r with
      | cons r1 r2 => exact .cons (Dp.reads I _ _ _ (Den.dp _ _ p.1 n.1 h1) r1) (each_read I p.2 n.2 h2 r2)
theorem vals_each {K : PySem.W.Frag} {H : Hp} : ∀ {us : List Value} {ps : List (D × V)}, PySem.W.EachIs (fun (u : Value) (p : D × V) => RelV p.2 u ∧ Den K H p.1 p.2) us ps → Vals (ps.map (·.2)) us ∧ ∀ q ∈ ps, Den K H q.1 q.2
  | _, _, .nil => ⟨.nil, fun _ m => nomatch m⟩
  | _, _, .cons h t => ⟨.cons h.1 (vals_each t).1, fun q m => by
    rcases List.mem_cons.mp m with rfl | m
    · exact h.2
    · exact (vals_each t).2 q m⟩
def fSortD : WF := f1 fun d S Q => match asL S d with
  | some ds => SortOk ds ∧ Q (.lst (sortD ds)) S
  | none => False
theorem zip_fst {ds : List D} {vs : List V} (h : ds.length = vs.length) : (ds.zip vs).map (·.1) = ds := List.map_fst_zip (by omega)
def rSortD (X : Cx) : List V → Hp → VK → Prop := fun xs H Q => ∃ (l : Addr) (vs : List V) (ds : List D), xs = [.ref l] ∧ SqL X.K H l vs ∧ DenL X.K H ds vs ∧ SortOk ds ∧
    ∀ (p : Addr) (ps : List (D × V)), H p = none → ps.map (·.1) = sortD ds → (∀ q ∈ ps, Den X.K H q.1 q.2) → Q (.ref p) (upd H p (.lst (ps.map (·.2))))
theorem cr_sortD (hu : X.A.units + 66 < cLine) : CallR X (.builtin "sorted") (rSortD X) := by
  intro pins s σ H xs us Q I r h
  obtain ⟨l, vs, ds, rfl, hq, dl, ok, q⟩ := h
  obtain ⟨its, rv, pl, hz⟩ := I.list hq
  rw [Vals.ref1 r]
  have e1 := each_zip dl rv
  have e2 := each_read I ok.p ok.n dl rv
  have hl : (ds.zip vs).map (fun p : D × V => dat p.1) = datL ds := by
    rw [datL_map]
    show (ds.zip vs).map (dat ∘ fun p : D × V => p.1) = _
    rw [← List.map_map, zip_fst dl.length]
  have hlen : (ds.zip vs).length = ds.length := by rw [List.length_zip, ← dl.length]; omega
  refine PySem.W.sorted_data (enc := fun p : D × V => dat p.1) pl.isList e1 e2 (by rw [hl]; exact ok.al) (by rw [hl]; exact ok.so) (by rw [hlen]; exact ok.ln) (fun b mb => ?_) fun out ho he => ?_
  · have : b.1 ∈ ds := (List.of_mem_zip (show (b.1, b.2) ∈ ds.zip vs from mb)).1
    have := depL_mem this
    have := ok.dp
    rw [depth_dat]
    omega
  · obtain ⟨ep, he'⟩ := PyProof.Rows.sortedAll_at s.heap its out.toArray
    have hf : PySem.W.dataLe false (fun p : D × V => dat p.1) = fun p q : D × V => leD p.1 q.1 := by
      funext p q
      rw [PySem.W.dataLe_eq]
      rfl
    rw [hf] at he
    have hm : ((ds.zip vs).mergeSort fun p q : D × V => leD p.1 q.1).map (·.1) = sortD ds := by
      rw [PySem.W.sort_maps (s := leD) (fun p : D × V => p.1) fun _ _ _ _ => rfl, zip_fst dl.length]
      rfl
    generalize (ds.zip vs).mergeSort (fun p q : D × V => leD p.1 q.1) = ps at he hm
    obtain ⟨v1, v2⟩ := vals_each he
    have h16 : (ps.map (·.2)).length ≤ sizeLine := by
      have := congrArg List.length hm
      rw [List.length_map, (sortD_perm ds).length_eq] at this
      rw [List.length_map, this]
      exact ok.ln
    exact ⟨.ref _, upd H (s.heap.objs.size + 1) (.lst (ps.map (·.2))), I.laid (t' := s.toks) (fun _ _ => PyProof.Rows.sortedAll_old) (Nat.le_succ _) ⟨h16, out, ep, v1, he'⟩, rfl, q _ ps (I.hok.fresh (Nat.le_succ _)) hm v2⟩
/-- sorted, of a list, or of a dict whose keys are texts -/
def fSorted : WF := f1 fun d S Q => match asL S d with
  | some ds => SortOk ds ∧ Q (.lst (sortD ds)) S
  | none => match asK S d with
    | some kvs => ∃ ks : List Str, kvs.map (·.1) = ks.map Sum.inr ∧ ks.length < 64 ∧ ∀ ys : List Str, ys.Perm ks → sortedS ys = true → Q (.lst (ys.map D.str)) S
    | none => False
theorem DenK.keys {K : PySem.W.Frag} {H : Hp} : ∀ {ds : List (Key × D)} {vs : List (Key × V)}, DenK K H ds vs → vs.map (·.1) = ds.map (·.1)
  | [], _, h => by cases h; rfl
  | _ :: _, _, h => by
    cases h with
    | cons h1 h2 => rw [List.map_cons, List.map_cons, DenK.keys h2]
theorem dc_sorted (hc : X.calm = true) (hu : X.A.units + 66 < cLine) : CallR X (.builtin "sorted") (lftF X.K DI fSorted) := f1_ok (callLQ ((cr_sortD hu).or (call_sortedD hc))) fun F d v S R H Q rel den w fin => by
  split at w
  · rename_i ds e
    obtain ⟨a, vs, rfl, t, dl⟩ := asL_ok rel den e
    exact .inl ⟨a, vs, ds, rfl, .inl t, dl, w.1, fun p ps hp hm hd => fin.lst w.2 rel (.refl _) (by rw [← hm]; exact denOfZip hd) hp⟩
  · split at w
    · rename_i kvs e
      obtain ⟨a, vs, rfl, t, dl⟩ := asK_ok rel den e
      obtain ⟨ks, h1, h2, q⟩ := w
      exact .inr ⟨a, vs, ks, rfl, t, by rw [dl.keys, h1], h2, fun ys p hp hs hn => fin.lst (q ys hp hs) rel (.refl _) (den_strs ys) hn⟩
    · exact w.elim
theorem e_sorted {x : Str} {pos p2 : Pos} {e : Expr} {es : List Expr} {wa : WA} (o : Ob X DI N sc k fns cs bl fc) (ha : PAn X (e :: es) (lftA X.K DI wa)) (h : (okB bl sc x (.builtin "sorted") && ((e :: es).all nStar)) = true := by kernel_rfl) : PE X (.Call (.Name x p2) (e :: es) [] pos) (lft X.K DI (wCall fSorted wa)) := e_callB o "sorted" (dc_sorted o.hc (by have := o.u; omega)) ha h
end
/-! ### texts -/
theorem tok_str (x : Str) : tokD (.str x) = [.inr x.cps.toList] := rfl
theorem leD_str (a b : Str) : leD (.str a) (.str b) = !ltCps b.cps.toList a.cps.toList := by
  show (!PySem.W.dataLt (.str b) (.str a)) = _
  rw [PySem.W.dataLt_str, PyProof.Rows.lt_meets]
theorem leD_int (a b : Int) : leD (.int a) (.int b) = decide (a ≤ b) := by
  show (!PySem.W.dataLt (.int b) (.int a)) = _
  rw [PySem.W.dataLt_int]
  by_cases h : a ≤ b
  · rw [decide_eq_true h, decide_eq_false (by omega)]; rfl
  · rw [decide_eq_false h, decide_eq_true (by omega)]; rfl
end Dv

/-! Dv31: dict(x), x a list or tuple of pairs, or a dict. -/
namespace Dv
open PySem PySem.Spec L2
open PyProof.Rows hiding St
theorem list_choose {α : Type} : ∀ (n : Nat) (P : Nat → α → Prop), (∀ j, j < n → ∃ x, P j x) → ∃ l : List α, l.length = n ∧ ∀ j x, l[j]? = some x → P j x
  | 0, _, _ => ⟨[], rfl, fun j x e => by simp at e⟩
  | n + 1, P, h => by
    obtain ⟨l, hl, hp⟩ := list_choose n (fun j x => P (j + 1) x) fun j hj => h (j + 1) (by omega)
    obtain ⟨x, hx⟩ := h 0 (by omega)
    refine ⟨x :: l, by rw [List.length_cons, hl], fun j y e => ?_⟩
    cases j with
    | zero => cases e; exact hx
    | succ j => exact hp j y (by simpa using e)
section
variable {X : Cx} {DI : Addr → GH → Prop} {N : List Str} {sc : Scope} {k : Nat} {fns : List Fn} {cs : List (Str × D)} {bl : List Str} {fc : Bool}
theorem tpT_plain {pins : List (Addr × Obj)} {σ : L2.St} {H : Hp} {s : Shared} {a : Addr} {xs : List V} (I : Inv X pins σ H s) (h : TpT X.K H a xs) : ∃ its : List Value, Vals xs its ∧ PlainSeq "tuple" s.heap a its.toArray ∧ xs.length ≤ sizeLine := by
  rcases h with ⟨o, h, hd⟩ | ⟨o, its, n, h1, hd, hc, hs, hz, rv⟩
  · obtain ⟨e, hz, its, rv, o', e', hc, n, hs⟩ := I.hok _ _ h
    rw [e] at e'
    cases e'
    exact ⟨its, rv, ⟨o, n, e, hc, hd, hs⟩, hz⟩
  · refine ⟨its.toList, rv, ⟨o, n, I.kIn a o h1, hc, hd, by simpa using hs⟩, ?_⟩
    have e := rv.length
    simp only [Array.length_toList] at e
    omega
theorem call_dictT (hcalm : X.calm = true) : CallR X (.type "dict") (fun xs H Q => ∃ (a : Addr) (ps : List Addr) (kvs : List (Key × V)), xs = [.ref a] ∧ TpT X.K H a (ps.map V.ref) ∧ Paired (fun p kv => SqT X.K H p [kV kv.1, kv.2]) ps kvs ∧
    ∀ p, H p = none → Q (.ref p) (upd H p (.dK (mergeK [] kvs)))) := by
  intro pins s σ H xs us Q I r q
  obtain ⟨a, ps, kvs, rfl, ht, hp, q⟩ := q
  rw [Vals.ref1 r]
  obtain ⟨its, rv, pl, hz⟩ := tpT_plain I ht
  have ei := refs_at rv
  subst ei
  rw [List.length_map] at hz
  obtain ⟨prs, rel, hl, hpr⟩ := L2.pairs_of I hp
  obtain ⟨vvs, hv1, hv2⟩ := list_choose prs.length (fun j (x : Value × Value) => ∃ q b, prs[j]? = some q ∧ x.2 = q.2 ∧ keyIs q.1 x.1 = true ∧ ps[j]? = some b ∧ IsTup s.heap b #[x.1, x.2]) fun j hj => by
    obtain ⟨b, u, e1, e2, e3⟩ := hpr j _ (List.getElem?_eq_getElem hj)
    exact ⟨(u, prs[j].2), prs[j], b, List.getElem?_eq_getElem hj, rfl, e3, e1, e2⟩
  let Ts : Nat → Addr := fun j => ps.getD j 0
  have P := PairArg.tuple (prog := X.prog) (w := X.w) a (ps.map Value.ref).toArray Ts vvs
  have ok : PlainSeq "tuple" s.heap a (ps.map Value.ref).toArray ∧ PairItems s.heap (ps.map Value.ref).toArray Ts vvs := by
    refine ⟨pl, by simp [hv1, hl], fun j u v e => ?_⟩
    obtain ⟨q, b, h1, h2, h3, h4, o, h5, h6, n, h7⟩ := hv2 j _ e
    have hT : Ts j = b := by show ps.getD j 0 = b; rw [List.getD_eq_getElem?_getD, h4]; rfl
    rw [hT]
    exact ⟨by simp [h4], .inl ⟨o, h5, h6, n, h7⟩⟩
  have hc : PairsHave (mixKind X.prog X.w) vvs.length (PairRel vvs) prs := by
    refine ⟨hv1.symm, fun i u v e => ?_⟩
    obtain ⟨q, b, h1, h2, h3, h4, _⟩ := hv2 i _ e
    exact ⟨q.1, by rw [h1]; dsimp only at h2; rw [h2], h3⟩
  refine PySem.call_dict_pairs (knd := mixKind X.prog X.w) P (I.ok.hd hcalm) ok hc (by rw [hv1, hl]; exact hz) fun h' tk hd' k => ?_
  have k2 : ∀ b o, s.heap.get? b = some o → h'.get? b = some o := fun b o e => k b o (by simp) e
  have hm : (s.heap.objs.size == sysModules) = false := beq_eq_false_iff_ne.mpr (Nat.ne_of_gt I.big)
  have hlen : (mergeK [] kvs).length ≤ sizeLine := by
    have := length_mergeK kvs []
    have e := rel.length
    rw [List.length_nil, Nat.zero_add] at this
    omega
  exact ⟨.ref s.heap.objs.size, upd H s.heap.objs.size (.dK (mergeK [] kvs)), I.laid (t' := tk) k2 (Nat.le_refl _) (show ObjOk X.prog X.w _ _ _ (.dK (mergeK [] kvs)) from ⟨hlen, hm, merged [] prs, KV.merge rel .nil, hd'⟩), rfl, q _ (I.hok.fresh (Nat.le_refl _))⟩
/-- the pairs that the items are -/
def pairsK : List D → Option (List (Key × D))
  | [] => some []
  | .tup [x, y] :: r => match keyOf x, pairsK r with
    | some k, some l => some ((k, y) :: l)
    | _, _ => none
  | _ :: _ => none
theorem pairsK_ok {K : PySem.W.Frag} {H : Hp} : ∀ {ds : List D} {vs : List V} {kvs : List (Key × D)}, DenL K H ds vs → pairsK ds = some kvs → ∃ (ps : List Addr) (kv : List (Key × V)), vs = ps.map V.ref ∧ Paired (fun p kv => SqT K H p [kV kv.1, kv.2]) ps kv ∧ DenK K H kvs kv
  | [], _, _, h, e => by cases h; cases e; exact ⟨[], [], rfl, .nil, .nil⟩
  | d :: r, _, kvs, h, e => by
    cases h with
    | cons h1 h2 =>
      unfold pairsK at e
      split at e
      · rename_i heq; cases heq
      · rename_i x y r' heq
        cases heq
        split at e
        · rename_i k l e1 e2
          cases e
          obtain ⟨ps, kv, e3, e4, e5⟩ := pairsK_ok h2 e2
          cases h1 with
          | tup t dl =>
            obtain ⟨v, u, rfl, dv, du⟩ := dl.twoV
            have := keyOf_ok dv e1
            subst this
            exact ⟨_ :: ps, (k, u) :: kv, by rw [e3]; rfl, .cons t.sq e4, .cons du e5⟩
        · cases e
      · cases e
def dictOf (S : GS) (Q : List (Key × D) → Prop) (d : D) : Prop := match d with
  | .tup ds => match pairsK ds with
    | some l => Q (mergeD [] l)
    | none => False
  | d => match asL S d with
    | some ds => match pairsK ds with
      | some l => Q (mergeD [] l)
      | none => False
    | none => match asK S d with
      | some kvs => Q kvs
      | none => False
def fDictA : WF := f1 fun d S Q => dictOf S (fun l => Q (.dct l) S) d
def fDictAN : WF := f1 fun d S Q => dictOf S (fun l => ∀ p, S.g p = none → Q (.ref p) (S.set p (.dct l))) d
theorem dc_dictA (hc : X.calm = true) : CallR X (.type "dict") (lftF X.K DI fDictA) := f1_ok (callLQ ((call_dictT hc).or ((call_dictP hc).or call_dictD))) fun F d v S R H Q rel den w fin => by
  unfold dictOf at w
  split at w
  · split at w
    · rename_i l e
      obtain ⟨a, vs, rfl, t, dl⟩ := den.tupV
      obtain ⟨ps, kv, rfl, e4, e5⟩ := pairsK_ok dl e
      exact .inl ⟨a, ps, kv, rfl, t, e4, fun p hp => fin.dct w rel (.refl _) (merge_ok e5 .nil) hp⟩
    · exact w.elim
  · split at w
    · rename_i ds e0
      split at w
      · rename_i l e
        obtain ⟨a, vs, rfl, t, dl⟩ := asL_ok rel den e0
        obtain ⟨ps, kv, rfl, e4, e5⟩ := pairsK_ok dl e
        exact .inr (.inl ⟨a, ps, kv, rfl, .inl t, e4, fun p hp => fin.dct w rel (.refl _) (merge_ok e5 .nil) hp⟩)
      · exact w.elim
    · split at w
      · rename_i kvs e
        obtain ⟨a, vs, rfl, t, dl⟩ := asK_ok rel den e
        exact .inr (.inr ⟨a, vs, rfl, t, fun p hp => fin.dct w rel (.refl _) dl hp⟩)
      · exact w.elim
theorem dc_dictAN (hc : X.calm = true) : CallR X (.type "dict") (lftF X.K DI fDictAN) := f1_ok ((call_dictT hc).or ((call_dictP hc).or call_dictD)) fun F d v S R H Q rel den w fin => by
  unfold dictOf at w
  split at w
  · split at w
    · rename_i l e
      obtain ⟨a, vs, rfl, t, dl⟩ := den.tupV
      obtain ⟨ps, kv, rfl, e4, e5⟩ := pairsK_ok dl e
      exact .inl ⟨a, ps, kv, rfl, t, e4, fun p hp => fin.newD (w p (rel.free hp)) rel (.refl _) (merge_ok e5 .nil) hp⟩
    · exact w.elim
  · split at w
    · rename_i ds e0
      split at w
      · rename_i l e
        obtain ⟨a, vs, rfl, t, dl⟩ := asL_ok rel den e0
        obtain ⟨ps, kv, rfl, e4, e5⟩ := pairsK_ok dl e
        exact .inr (.inl ⟨a, ps, kv, rfl, .inl t, e4, fun p hp => fin.newD (w p (rel.free hp)) rel (.refl _) (merge_ok e5 .nil) hp⟩)
      · exact w.elim
    · split at w
      · rename_i kvs e
        obtain ⟨a, vs, rfl, t, dl⟩ := asK_ok rel den e
        exact .inr (.inr ⟨a, vs, rfl, t, fun p hp => fin.newD (w p (rel.free hp)) rel (.refl _) dl hp⟩)
      · exact w.elim
theorem e_dictA {x : Str} {pos p2 : Pos} {e : Expr} {es : List Expr} {wa : WA} (o : Ob X DI N sc k fns cs bl fc) (ha : PAn X (e :: es) (lftA X.K DI wa)) (h : (okB bl sc x (.type "dict") && ((e :: es).all nStar)) = true := by kernel_rfl) : PE X (.Call (.Name x p2) (e :: es) [] pos) (lft X.K DI (wCall fDictA wa)) := e_callT o "dict" (dc_dictA o.hc) ha h
theorem e_dictAN {x : Str} {pos p2 : Pos} {e : Expr} {es : List Expr} {wa : WA} (o : Ob X DI N sc k fns cs bl fc) (ha : PAn X (e :: es) (lftA X.K DI wa)) (h : (okB bl sc x (.type "dict") && ((e :: es).all nStar)) = true := by kernel_rfl) : PE X (.Call (.Name x p2) (e :: es) [] pos) (lft X.K DI (wCall fDictAN wa)) := e_callT o "dict" (dc_dictAN o.hc) ha h
end
end Dv

/-! Dv32: zip of any two things that are walked, as what dict() gets. -/
namespace PySem
open Sem (wp)
section
variable {prog : Program} {w : World} {A : Around} {E : Value → Shared → Prop} {z TI TO T i1 i2 : Addr} {fa fb : List Addr} {n1 n2 i : Nat} {Pa Pb : Nat → Value → Prop} {Sa Sb : Nat → Heap → Prop} {f : Bool} {oT : Obj}
theorem zipH_item {hp : Heap} {tk0 : Tok} {s : Shared} {Q : Value → Shared → Prop} (C : ZipSep2 z TI TO i1 i2 fa fb) (Da : Draws prog w A i1 fa n1 Pa Sa) (Db : Draws prog w A i2 fb n2 Pb Sb)
    (hz : IsZipHeld s.heap z TI TO T f) (hT : s.heap.get? T = some oT) (hTI : IsTupOf2 s.heap TI (.ref i1) (.ref i2)) (sa : Sa i s.heap) (sb : Sb i s.heap) (la : i < n1) (lb : i < n2)
    (hQ : ∀ x y g tk, Pa i x → Pb i y → IsZipHeld g z TI TO T true → Sa (i + 1) g → Sb (i + 1) g → IsTupOf2 g s.heap.objs.size x y →
      (∀ c o, c ≠ z → c ≠ i1 → c ≠ i2 → s.heap.get? c = some o → g.get? c = some o) → Q (.ref s.heap.objs.size) { s with heap := g, toks := tk }) :
    wpAny (model prog w) A (Builtin.«zip.__next__» ⟨[.ref z], []⟩) (fun fin s' => ∃ v, fin = .done (.ret v) ∧ Q v s') E s := by
  obtain ⟨hp, g, d, tk0, os⟩ := s
  show wpAny _ _ (field (.ref z) 2 >>= _) _ _ _
  refine wpAny_bind (wpAny_field hz rfl (x := .bool false) rfl ?_)
  show wpAny _ _ (field (.ref z) 3 >>= _) _ _ _
  refine wpAny_bind (wpAny_field hz rfl (x := .ref TI) rfl (wpAny_bind (wpAny_seqItems hTI rfl ?_)))
  refine wpAny_bind (wpAny_tupleHeld_zip (s := ⟨hp, g, d, tk0, os⟩) hz hT fun ga hza hsa => ?_)
  replace hsa : Heap.SameBut z hp ga := hsa
  simp only [Bool.false_eq_true, if_false]
  refine wpAny_bind ?_
  rw [← Array.forIn_toList]
  simp only [List.forIn_cons, List.forIn_nil]
  refine wpAny_bind (wpAny_bind (wpAny_holding ?_))
  show wpAny _ _ (Builtin.SmallTypes.nextOf (.ref i1) >>= _) _ _ ⟨ga, g, d, tk0, os⟩
  refine wpAny_bind (Da.item i _ _ _ la (Da.over sa hsa C.zf1) fun x gb tka px sa1 hsb => wpAny_pure (wpAny_pure ?_))
  replace hsb : Heap.SameBut i1 ga gb := hsb
  refine wpAny_bind (wpAny_bind (wpAny_holding ?_))
  show wpAny _ _ (Builtin.SmallTypes.nextOf (.ref i2) >>= _) _ _ ⟨gb, g, d, tka, os⟩
  refine wpAny_bind (Db.item i _ _ _ lb (Db.over (Db.over sb hsa C.zf2) hsb C.sep1_2) fun y gc tkb py sb1 hsc => wpAny_pure (wpAny_pure (wpAny_pure ?_)))
  replace hsc : Heap.SameBut i2 gb gc := hsc
  show wpAny _ _ (newTuple [x, y] >>= _) _ _ ⟨gc, g, d, tkb, os⟩
  refine wpAny_bind (wpAny_newTuple (wpAny_pure ⟨_, rfl, ?_⟩))
  have e1 : gc.objs.size = hp.objs.size := by rw [hsc.1, hsb.1, hsa.1]
  have zc : IsZipHeld gc z TI TO T true := hsc.extBut _ _ C.zi2 (hsb.extBut _ _ C.zi1 hza)
  have kp : ∀ c o, c ≠ z → c ≠ i1 → c ≠ i2 → hp.get? c = some o → gc.get? c = some o := fun c o c1 c2 c3 e => hsc.extBut _ _ c3 (hsb.extBut _ _ c2 (hsa.extBut _ _ c1 e))
  have ta : IsTupOf2 (gc.push { cls := .type "tuple", data := .seq #[x, y] }) gc.objs.size x y := Heap.get?_push_size gc rfl
  show Q (.ref gc.objs.size) ⟨gc.push { cls := .type "tuple", data := .seq #[x, y] }, g, d, tkb, os⟩
  rw [e1] at ta ⊢
  exact hQ x y _ tkb px py (Heap.get?_push_of_some _ zc) (Da.frame _ _ _ (Da.over sa1 hsc C.sep2_1) fun b _ o e => Heap.get?_push_of_some _ e) (Db.frame _ _ _ sb1 fun b _ o e => Heap.get?_push_of_some _ e) ta
    fun c o c1 c2 c3 e => Heap.get?_push_of_some _ (kp c o c1 c2 c3 e)
theorem zipH_end {s : Shared} {Q : Fin → Shared → Prop} (C : ZipSep2 z TI TO i1 i2 fa fb) (Da : Draws prog w A i1 fa n1 Pa Sa) (Db : Draws prog w A i2 fb n2 Pb Sb)
    (hz : IsZipHeld s.heap z TI TO T f) (hT : s.heap.get? T = some oT) (hTI : IsTupOf2 s.heap TI (.ref i1) (.ref i2)) (sa : Sa i s.heap) (sb : Sb i s.heap) (la : i ≤ n1) (lb : i ≤ n2) (hend : i = n1 ∨ i = n2)
    (hE : ∀ g tk e, (∀ c o, c ≠ z → c ≠ i1 → c ≠ i2 → s.heap.get? c = some o → g.get? c = some o) → (∃ o, g.get? e = some o ∧ o.cls = .type "StopIteration") → E (.ref e) { s with heap := g, toks := tk }) :
    wpAny (model prog w) A (Builtin.«zip.__next__» ⟨[.ref z], []⟩) Q E s := by
  obtain ⟨hp, g, d, tk0, os⟩ := s
  show wpAny _ _ (field (.ref z) 2 >>= _) _ _ _
  refine wpAny_bind (wpAny_field hz rfl (x := .bool false) rfl ?_)
  show wpAny _ _ (field (.ref z) 3 >>= _) _ _ _
  refine wpAny_bind (wpAny_field hz rfl (x := .ref TI) rfl (wpAny_bind (wpAny_seqItems hTI rfl ?_)))
  refine wpAny_bind (wpAny_tupleHeld_zip (s := ⟨hp, g, d, tk0, os⟩) hz hT fun ga hza hsa => ?_)
  replace hsa : Heap.SameBut z hp ga := hsa
  simp only [Bool.false_eq_true, if_false]
  refine wpAny_bind ?_
  rw [← Array.forIn_toList]
  simp only [List.forIn_cons, List.forIn_nil]
  refine wpAny_bind (wpAny_bind (wpAny_holding ?_))
  show wpAny _ _ (Builtin.SmallTypes.nextOf (.ref i1) >>= _) _ _ ⟨ga, g, d, tk0, os⟩
  by_cases lt : i < n1
  · refine wpAny_bind (Da.item i _ _ _ lt (Da.over sa hsa C.zf1) fun x gb tka px sa1 hsb => wpAny_pure (wpAny_pure ?_))
    replace hsb : Heap.SameBut i1 ga gb := hsb
    have e2 : i = n2 := by omega
    refine wpAny_bind (wpAny_bind (wpAny_holding ?_))
    show wpAny _ _ (Builtin.SmallTypes.nextOf (.ref i2) >>= _) _ _ ⟨gb, g, d, tka, os⟩
    refine wpAny_bind (Db.done ⟨gb, g, d, tka, os⟩ _ _ (e2 ▸ Db.over (Db.over sb hsa C.zf2) hsb C.sep1_2) fun gc e hsc he => ?_)
    replace hsc : Heap.ExtBut i2 gb gc := hsc
    exact hE gc tka e (fun c o c1 c2 c3 q => hsc _ _ c3 (hsb.extBut _ _ c2 (hsa.extBut _ _ c1 q))) he
  · have e1 : i = n1 := by omega
    refine wpAny_bind (Da.done ⟨ga, g, d, tk0, os⟩ _ _ (e1 ▸ Da.over sa hsa C.zf1) fun gb e hsb he => ?_)
    replace hsb : Heap.ExtBut i1 ga gb := hsb
    exact hE gb tk0 e (fun c o c1 c2 c3 q => hsb _ _ c2 (hsa.extBut _ _ c1 q)) he
theorem zipH_next {s : Shared} {Q : Option Value → Shared → Prop} (C : ZipSep2 z TI TO i1 i2 fa fb) (Da : Draws prog w A.in1 i1 fa n1 Pa Sa) (Db : Draws prog w A.in1 i2 fb n2 Pb Sb)
    (hz : IsZipHeld s.heap z TI TO T f) (hT : s.heap.get? T = some oT) (hTI : IsTupOf2 s.heap TI (.ref i1) (.ref i2)) (sa : Sa i s.heap) (sb : Sb i s.heap) (la : i < n1) (lb : i < n2)
    (hQ : ∀ x y g tk, Pa i x → Pb i y → IsZipHeld g z TI TO T true → Sa (i + 1) g → Sb (i + 1) g → IsTupOf2 g s.heap.objs.size x y →
      (∀ c o, c ≠ z → c ≠ i1 → c ≠ i2 → s.heap.get? c = some o → g.get? c = some o) → Q (some (.ref s.heap.objs.size)) { s with heap := g, toks := tk }) :
    wpAny (model prog w) A (pyNext (.ref z)) Q E s := by
  have ty : s.TypeIs (.ref z) "zip" := ⟨_, hz, rfl⟩
  unfold pyNext
  refine wpAny_bind (wpAny_attempt (wpAny_callSpecial?_slot (name := Str.ofString "__next__") ty F.slot_zip_next (wpAny_call_entry F.slot_zip_next ty F.entry_zip_next ?_ (F.args_zip_next_1 _))))
  exact zipH_item (hp := s.heap) (tk0 := s.toks) C Da Db hz hT hTI sa sb la lb fun x y g tk a1 a2 a3 a4 a5 a6 a7 => wpAny_pure (hQ x y g tk a1 a2 a3 a4 a5 a6 a7)
theorem zipH_stop {s : Shared} {Q : Option Value → Shared → Prop} (C : ZipSep2 z TI TO i1 i2 fa fb) (Da : Draws prog w A.in1 i1 fa n1 Pa Sa) (Db : Draws prog w A.in1 i2 fb n2 Pb Sb)
    (hz : IsZipHeld s.heap z TI TO T f) (hT : s.heap.get? T = some oT) (hTI : IsTupOf2 s.heap TI (.ref i1) (.ref i2)) (sa : Sa i s.heap) (sb : Sb i s.heap) (la : i ≤ n1) (lb : i ≤ n2) (hend : i = n1 ∨ i = n2)
    (hQ : ∀ g tk, (∀ c o, c ≠ z → c ≠ i1 → c ≠ i2 → s.heap.get? c = some o → g.get? c = some o) → Q none { s with heap := g, toks := tk }) :
    wpAny (model prog w) A (pyNext (.ref z)) Q E s := by
  have ty : s.TypeIs (.ref z) "zip" := ⟨_, hz, rfl⟩
  unfold pyNext
  refine wpAny_bind (wpAny_attempt (wpAny_callSpecial?_slot (name := Str.ofString "__next__") ty F.slot_zip_next (wpAny_call_entry F.slot_zip_next ty F.entry_zip_next ?_ (F.args_zip_next_1 _))))
  refine zipH_end C Da Db hz hT hTI sa sb la lb hend fun g tk e kp ⟨o, ho, hc⟩ => ?_
  exact wpAny_bind (wpAny_isInstance (T := "StopIteration") (b := true) ⟨o, ho, hc⟩ isSubtype_stop (wpAny_pure (hQ g tk kp)))
/-- an iterator over a range, lo, lo + 1, .. -/
theorem Draws.range (hh : A.handled = none) (it : Addr) (lo : Int) (n : Nat) :
    Draws prog w A it [it] n (fun i v => ∃ t, v = .int (lo + i) t) (fun i h => IsRangeIter h it (lo + i) ((n : Int) - i) 1) where
  live := fun _ _ st => ⟨_, st⟩
  frame := fun _ _ _ st hk => hk it (by simp) _ st
  item := fun i s Q E hi st hQ => by
    have ty : s.TypeIs (.ref it) "range_iterator" := ⟨_, st, rfl⟩
    unfold Builtin.SmallTypes.nextOf
    refine wpAny_bind (wpAny_callSpecial?_slot (name := Str.ofString "__next__") ty F.slot_range_iterator_next ?_)
    refine call_meets F.slot_range_iterator_next ty F.entry_range_iterator_next (F.args_range_iterator_next_1 _) (AutoRange.range_iterator___next___range_iterator_1 it (lo + i) ((n : Int) - i) 1 (by omega)) ⟨st, ?_⟩
    refine wpAny_pure (hQ _ _ _ ⟨_, rfl⟩ ?_ ((Heap.SameBut.update ..).trans (Heap.SameBut.update ..)))
    have := Heap.get?_update_self (Obj.mapFields fun x => x.setIfInBounds 1 (rawInt ((n : Int) - i - 1))) (Heap.get?_update_self (Obj.mapFields fun x => x.setIfInBounds 0 (rawInt (lo + i + 1))) st rfl) rfl
    rw [show lo + ((i + 1 : Nat) : Int) = lo + i + 1 by omega, show (n : Int) - ((i + 1 : Nat) : Int) = (n : Int) - i - 1 by omega]
    exact this
  done := fun s Q E st hE => by
    have ty : s.TypeIs (.ref it) "range_iterator" := ⟨_, st, rfl⟩
    unfold Builtin.SmallTypes.nextOf
    refine wpAny_bind (wpAny_callSpecial?_slot (name := Str.ofString "__next__") ty F.slot_range_iterator_next (wpAny_call_entry F.slot_range_iterator_next ty F.entry_range_iterator_next ?_ (F.args_range_iterator_next_1 _)))
    show wpAny _ _ (field (.ref it) 0 >>= _) _ _ s
    refine wpAny_bind (wpAny_field st rfl (x := rawInt (lo + n)) rfl ?_)
    show wpAny _ _ (field (.ref it) 1 >>= _) _ _ s
    refine wpAny_bind (wpAny_field st rfl (x := rawInt ((n : Int) - n)) rfl ?_)
    show wpAny _ _ (field (.ref it) 2 >>= _) _ _ s
    refine wpAny_bind (wpAny_field st rfl (x := rawInt 1) rfl ?_)
    show wpAny _ _ (if (n : Int) - n ≤ 0 then _ else _) _ _ s
    rw [if_pos (by omega)]
    refine wpAny_bind (wpAny_rule (wpAny_bind ?_))
    show wpAny _ _ (newExc (.type "StopIteration") [] >>= _) _ _ _
    refine wpAny_bind ?_
    simp only [newExc, newTuple]
    refine wpAny_bind (wpAny_newObj_type ?_ (by size_fits))
    refine wpAny_bind (m := firstArgMember _ _) (wpAny_of_eq (a := Value.none) (by first | rfl | (simp only [firstArgMember]; rfl)) (wpAny_newObj_type ?_ (by size_fits)))
    simp only [raiseNew]
    refine wpAny_bind (wpAny_handled ?_)
    first | rw [show A.in1.handled = none from hh] | rw [hh]
    refine wpAny_bind (wpAny_pure (wpAny_throw (hE _ _ (((Heap.ExtBut.refl it s.heap).push _).push _) ⟨_, Heap.get?_push_size _ rfl, rfl⟩)))
end
end PySem

/-! Dv33: dict(zip(a, b)), a and b lists, tuples, or b a range. -/
namespace PySem
open Sem (wp)
theorem PairArg.zipD {prog : Program} {w : World} (z TI TO i1 i2 : Addr) {fa fb : List Addr} {n1 n2 : Nat} {Pa Pb : Nat → Value → Prop} {Sa Sb : Nat → Heap → Prop} (C : ZipSep2 z TI TO i1 i2 fa fb)
    (Da : ∀ A : Around, A.handled = none → Draws prog w A i1 fa n1 Pa Sa) (Db : ∀ A : Around, A.handled = none → Draws prog w A i2 fb n2 Pb Sb) (A0 : Around) (hA0 : A0.handled = none)
    (la : ∀ i h, Sa i h → ∀ b ∈ fa, ∃ o, h.get? b = some o) (lb : ∀ i h, Sb i h → ∀ b ∈ fb, ∃ o, h.get? b = some o) :
    PairArg prog w "zip" z (z :: TI :: TO :: (fa ++ fb)) [z, TO, i1, i2] (min n1 n2) (fun i k v => Pa i k ∧ Pb i v)
      (fun h => IsZip h z TI TO .none ∧ IsTupOf2 h TI (.ref i1) (.ref i2) ∧ (∃ a b, IsTupOf2 h TO a b) ∧ Sa 0 h ∧ Sb 0 h) where
  type := fun s ok => ⟨_, ok.1, rfl⟩
  notDict := by decide
  keep := fun h h' ⟨c1, c2, ⟨a, b, c3⟩, c4, c5⟩ hk => ⟨hk _ _ c1, hk _ _ c2, ⟨a, b, hk _ _ c3⟩, (Da A0 hA0).frame _ _ _ c4 fun b _ o e => hk b o e, (Db A0 hA0).frame _ _ _ c5 fun b _ o e => hk b o e⟩
  there := fun h ⟨c1, c2, ⟨a, b, c3⟩, c4, c5⟩ x hx => by
    rcases List.mem_cons.mp hx with rfl | hx
    · exact ⟨_, c1⟩
    rcases List.mem_cons.mp hx with rfl | hx
    · exact ⟨_, c2⟩
    rcases List.mem_cons.mp hx with rfl | hx
    · exact ⟨_, c3⟩
    rcases List.mem_append.mp hx with hx | hx
    · exact la 0 h c4 x hx
    · exact lb 0 h c5 x hx
  sub := fun x hx => by
    have h1 := C.mem1
    have h2 := C.mem2
    simp only [List.mem_cons, List.not_mem_nil, or_false, List.mem_append] at hx ⊢
    rcases hx with rfl | rfl | rfl | rfl
    · exact .inl rfl
    · exact .inr (.inr (.inl rfl))
    · exact .inr (.inr (.inr (.inl h1)))
    · exact .inr (.inr (.inr (.inr h2)))
  noKeys := fun A s Q E hA ok h => getAttrOr_miss_zip ok.1 rfl rfl rfl zip_no_keys (by decide +kernel) hA h
  iter := fun A s d Q E hA ok hd hdf h => by
    obtain ⟨c1, c2, ⟨a, b, c3⟩, c4, c5⟩ := ok
    simp only [List.mem_cons, List.mem_append, not_or] at hdf
    obtain ⟨dz, dTI, dTO, da, db⟩ := hdf
    have hA2 : A.in1.handled = none := hA
    refine wpAny_pyIter_zip c1 (h z [z, TO, i1, i2] (fun i h => IsTupOf2 h TI (.ref i1) (.ref i2) ∧ Sa i h ∧ Sb i h ∧
      ((IsZip h z TI TO .none ∧ ∃ a b, IsTupOf2 h TO a b) ∨ ∃ T f oT, IsZipHeld h z TI TO T f ∧ h.get? T = some oT ∧ T ≠ z ∧ T ≠ i1 ∧ T ≠ i2 ∧ T ≠ d)) s.heap s.toks ?_
      ⟨c2, c4, c5, .inl ⟨c1, a, b, c3⟩⟩ (fun _ _ e => e) fun b hb => .inl hb)
    refine { off := fun hm => ?_, frame := fun i h₁ h₂ st hk => ?_, item := fun i t Q₁ E₁ hi st hds hQ => ?_, done := fun t Q₁ E₁ st hQ => ?_ }
    · simp only [List.mem_cons, List.not_mem_nil, or_false] at hm
      rcases hm with e | e | e | e
      · exact dz e
      · exact dTO e
      · exact da (e ▸ C.mem1)
      · exact db (e ▸ C.mem2)
    · obtain ⟨k1, k2, k3, k4⟩ := st
      refine ⟨hk _ _ (Ne.symm dTI) k1, (Da A hA).frame _ _ _ k2 fun b hb o e => hk b o (fun q => da (q ▸ hb)) e, (Db A hA).frame _ _ _ k3 fun b hb o e => hk b o (fun q => db (q ▸ hb)) e, ?_⟩
      rcases k4 with ⟨k5, a, b, k6⟩ | ⟨T, f, oT, k5, k6, r1, r2, r3, r4⟩
      · exact .inl ⟨hk _ _ (Ne.symm dz) k5, a, b, hk _ _ (Ne.symm dTO) k6⟩
      · exact .inr ⟨T, f, oT, hk _ _ (Ne.symm dz) k5, hk _ _ r4 k6, r1, r2, r3, r4⟩
    · obtain ⟨k1, k2, k3, k4⟩ := st
      have ia : i < n1 := Nat.lt_of_lt_of_le hi (Nat.min_le_left ..)
      have ib : i < n2 := Nat.lt_of_lt_of_le hi (Nat.min_le_right ..)
      have lt : ∀ {c o}, t.heap.get? c = some o → t.heap.objs.size ≠ c := fun e => Nat.ne_of_gt (Heap.lt_size e)
      have m1 : t.heap.objs.size ≠ i1 := let ⟨_, e⟩ := (Da A hA).live _ _ k2; lt e
      have m2 : t.heap.objs.size ≠ i2 := let ⟨_, e⟩ := (Db A hA).live _ _ k3; lt e
      rcases k4 with ⟨k5, a, b, k6⟩ | ⟨T, f, oT, k5, k6, r1, r2, r3, r4⟩
      · refine wpAny_pyNext_zipD2_item C (Da A.in1 hA2) (Db A.in1 hA2) k5 k1 k6 k2 k3 ia ib fun x y g tk px py b1 b2 d1 d2 b5 b6 kp => ?_
        exact hQ t.heap.objs.size x y g tk ⟨px, py⟩ (.inl ⟨_, b5, rfl, _, rfl⟩)
          ⟨kp _ _ C.TIz C.TITO C.TIi1 C.TIi2 k1, d1, d2, .inr ⟨t.heap.objs.size, false, _, b1, b5, lt k5, m1, m2, Nat.ne_of_gt hds⟩⟩
          fun c o hc e => kp c o (fun q => hc (by simp [q])) (fun q => hc (by simp [q])) (fun q => hc (by simp [q])) (fun q => hc (by simp [q])) e
      · refine zipH_next C (Da A.in1 hA2) (Db A.in1 hA2) k5 k6 k1 k2 k3 ia ib fun x y g tk px py b1 d1 d2 b5 kp => ?_
        exact hQ t.heap.objs.size x y g tk ⟨px, py⟩ (.inl ⟨_, b5, rfl, _, rfl⟩)
          ⟨kp _ _ C.TIz C.TIi1 C.TIi2 k1, d1, d2, .inr ⟨T, true, oT, b1, kp _ _ r1 r2 r3 k6, r1, r2, r3, r4⟩⟩
          fun c o hc e => kp c o (fun q => hc (by simp [q])) (fun q => hc (by simp [q])) (fun q => hc (by simp [q])) e
    · obtain ⟨k1, k2, k3, k4⟩ := st
      have en : min n1 n2 = n1 ∨ min n1 n2 = n2 := by omega
      rcases k4 with ⟨k5, a, b, k6⟩ | ⟨T, f, oT, k5, k6, _⟩
      · exact wpAny_pyNext_zipD2_end C (Da A.in1 hA2) (Db A.in1 hA2) k5 k1 k6 k2 k3 (Nat.min_le_left ..) (Nat.min_le_right ..) en fun g tk kp => hQ g tk fun c o hc e => kp c o (fun q => hc (by simp [q])) (fun q => hc (by simp [q])) (fun q => hc (by simp [q])) (fun q => hc (by simp [q])) e
      · exact zipH_stop C (Da A.in1 hA2) (Db A.in1 hA2) k5 k6 k1 k2 k3 (Nat.min_le_left ..) (Nat.min_le_right ..) en fun g tk kp => hQ g tk fun c o hc e => kp c o (fun q => hc (by simp [q])) (fun q => hc (by simp [q])) (fun q => hc (by simp [q])) e
end PySem
namespace Dv
open PySem PySem.Spec L2
open PyProof.Rows hiding St
/-- dict(x), x whatever gives pairs -/
theorem dict_argV {prog : Program} {w : World} {A : Around} {E : Value → Shared → Prop} {s : Shared} {T : String} {a : Addr} {fp wr : List Addr} {n : Nat} {Rel : Nat → Value → Value → Prop} {OK : Heap → Prop} {Q : Value → Shared → Prop}
    (P : PairArg prog w T a fp wr n Rel OK) (hh : A.handled = none) (ok : OK s.heap) (kv : List (Key × V)) (hn : kv.length = n) (hrel : ∀ i u v, i < n → Rel i u v → ∃ q, kv[i]? = some q ∧ keyIs q.1 u = true ∧ RelV q.2 v) (hz : n ≤ sizeLine)
    (h : ∀ h' tk vs, KV (mergeK [] kv) vs → h'.DictOf (mixKind prog w) s.heap.objs.size vs → (∀ b o, b ∉ wr → s.heap.get? b = some o → h'.get? b = some o) → Q (.ref s.heap.objs.size) { s with heap := h', toks := tk }) :
    wpAny (model prog w) A (call (.type "dict") [.ref a]) Q E s := by
  refine call_dict_arg P ok fun s1 e1 hdf ok1 => ?_
  subst e1
  refine updateFrom_arg (A := A.in1) (Tab := fun i h => ∃ vs, KV (mergeK [] (kv.take i)) vs ∧ h.DictOf (mixKind prog w) s.heap.objs.size vs) P .none hh ok1 hdf ⟨[], .nil, Heap.DictOf.new s.heap⟩ (fun _ _ ⟨_, _, tb⟩ => tb.lt_size)
    (fun i h h' wr' hd _ ⟨vs, r, tb⟩ hk => ⟨vs, r, tb.at' fun o e => hk _ o hd e⟩) ?_ ?_
  · rintro i u v t Q' E' hi hr ⟨vs, r, tb⟩ _ hQ
    obtain ⟨q, eq, ku, rv⟩ := hrel i u v hi hr
    have lv : vs.length ≤ sizeLine := by
      have := length_mergeK (kv.take i) []
      rw [List.length_nil, Nat.zero_add, List.length_take] at this
      rw [← r.length]
      omega
    refine wpAny_dictSet_pairs (knd := mixKind prog w) (hsz := lv) ku tb fun h' hm hs => hQ h' _ ⟨_, ?_, hm⟩ hs
    have e2 : kv.take (i + 1) = kv.take i ++ [q] := by
      rw [List.take_add_one, eq]
      rfl
    rw [e2]
    unfold mergeK
    rw [List.foldl_append]
    exact r.put q.1 rv
  · rintro h' tk ⟨vs, r, tb⟩ hk
    rw [List.take_of_length_le (by omega)] at r
    exact ⟨rfl, h h' tk vs r tb fun b o hw e => hk b o (Nat.ne_of_lt (Heap.lt_size e)) hw (Heap.get?_push_of_some _ e)⟩
end Dv

/-! Dv34: the rules of dict(zip(a, b)) and dict(zip(a, range(n))). -/
namespace Dv
open PySem PySem.Spec L2
open PyProof.Rows hiding St
/-- what zip can walk: v is walked by a new thing o, whose state is st -/
structure ZSrc (prog : Program) (w : World) (v : Value) (fa : List Addr) (n : Nat) (P : Nat → Value → Prop) (OK : Heap → Prop) where
  o : Obj
  st : Addr → Nat → Heap → Prop
  beg : Begins v o OK
  draws : ∀ (A : Around) (it : Addr), A.handled = none → it ∉ fa → Draws prog w A it (it :: fa) n P (st it)
  start : ∀ (h : Heap) (it : Addr), h.get? it = some o → OK h → st it 0 h
  live : ∀ (h : Heap), OK h → ∀ b ∈ fa, ∃ o, h.get? b = some o
  lv : ∀ (h : Heap) (it : Addr) (i : Nat), st it i h → ∀ b ∈ it :: fa, ∃ o, h.get? b = some o
def zsrc_list {prog : Program} {w : World} (l : Addr) (items : Array Value) : ZSrc prog w (.ref l) [l] items.size (fun i v => items[i]? = some v) (fun h => h.IsList l items) where
  o := _
  st := fun it i h => h.IsListIter it l i ∧ h.IsList l items
  beg := begins_list l items
  draws := fun A it hA hn => Draws.list hA it l (fun e => hn (by simp [e])) items
  start := fun h it e ok => ⟨⟨_, e, rfl, rfl⟩, ok⟩
  live := fun h ok b hb => by rw [List.mem_singleton.mp hb]; obtain ⟨o, e, _⟩ := ok; exact ⟨o, e⟩
  lv := fun h it i s b hb => by
    obtain ⟨⟨o, e, _⟩, ⟨o2, e2, _⟩⟩ := s
    simp only [List.mem_cons, List.not_mem_nil, or_false] at hb
    rcases hb with rfl | rfl
    · exact ⟨o, e⟩
    · exact ⟨o2, e2⟩
def zsrc_tup {prog : Program} {w : World} (l : Addr) (items : Array Value) : ZSrc prog w (.ref l) [l] items.size (fun i v => items[i]? = some v) (fun h => h.IsTuple l items) where
  o := _
  st := fun it i h => h.IsTupleIter it l i ∧ h.IsTuple l items
  beg := begins_tuple l items
  draws := fun A it hA hn => Draws.tuple hA it l (fun e => hn (by simp [e])) items
  start := fun h it e ok => ⟨⟨_, e, rfl, rfl⟩, ok⟩
  live := fun h ok b hb => by rw [List.mem_singleton.mp hb]; obtain ⟨o, e, _⟩ := ok; exact ⟨o, e⟩
  lv := fun h it i s b hb => by
    obtain ⟨⟨o, e, _⟩, ⟨o2, e2, _⟩⟩ := s
    simp only [List.mem_cons, List.not_mem_nil, or_false] at hb
    rcases hb with rfl | rfl
    · exact ⟨o, e⟩
    · exact ⟨o2, e2⟩
def zsrc_range {prog : Program} {w : World} (r : Addr) (a b : Int) (t u v : Tok) (hs : Builtin.Range.small a b 1 = true) : ZSrc prog w (.ref r) [] (b - a).toNat (fun i x => ∃ t, x = .int (a + i) t) (fun h => IsRange h r a b 1 t u v) where
  o := { cls := .type "range_iterator", data := .fields #[rawInt a, rawInt (Builtin.Range.rangeSize a b 1), rawInt 1] }
  st := fun it i h => IsRangeIter h it (a + i) ((((b - a).toNat : Nat) : Int) - i) 1
  beg := ⟨fun prog w A E s Q ok h => wpAny_pyIter_range ok hs h, fun h h' ok hk => hk _ _ ok, rfl⟩
  draws := fun A it hA hn => Draws.range hA it a (b - a).toNat
  start := fun h it e ok => by
    show h.get? it = _
    rw [e, rangeSize_nat]
    simp
  live := fun h ok b hb => nomatch hb
  lv := fun h it i s b hb => by rw [List.mem_singleton.mp hb]; exact ⟨_, s⟩
theorem dict_zip {prog : Program} {w : World} {A : Around} {E : Value → Shared → Prop} {s : Shared} {v1 v2 : Value} {fa fb : List Addr} {n1 n2 : Nat} {P1 P2 : Nat → Value → Prop} {O1 O2 : Heap → Prop} {Q : Value → Shared → Prop}
    (Z1 : ZSrc prog w v1 fa n1 P1 O1) (Z2 : ZSrc prog w v2 fb n2 P2 O2) (hh : A.handled = none) (h1 : O1 s.heap) (h2 : O2 s.heap) (kv : List (Key × V)) (hn : kv.length = min n1 n2)
    (hrel : ∀ i u v, i < min n1 n2 → P1 i u → P2 i v → ∃ q, kv[i]? = some q ∧ keyIs q.1 u = true ∧ RelV q.2 v) (hz : min n1 n2 ≤ sizeLine)
    (h : ∀ p h' tk vs, s.heap.objs.size ≤ p → KV (mergeK [] kv) vs → h'.DictOf (mixKind prog w) p vs → (∀ b o, s.heap.get? b = some o → h'.get? b = some o) → Q (.ref p) { s with heap := h', toks := tk }) :
    wpAny (model prog w) A (call (.type "zip") [v1, v2]) (fun v s1 => wpAny (model prog w) A (call (.type "dict") [v]) Q E s1) E s := by
  refine zip_begins2 Z1.beg Z2.beg h1 h2 fun g gz gT gO g1 g2 gs gk => ?_
  generalize hS : s.heap.objs.size = S at *
  have old : ∀ (b : Nat) o, s.heap.get? b = some o → b < S := fun b o e => by rw [← hS]; exact Heap.lt_size e
  have nfa : ∀ x : Nat, S ≤ x → x ∉ fa := fun x hx m => by
    obtain ⟨o, e⟩ := Z1.live _ h1 x m
    exact absurd (Nat.lt_of_lt_of_le (old x o e) hx) (Nat.lt_irrefl _)
  have nfb : ∀ x : Nat, S ≤ x → x ∉ fb := fun x hx m => by
    obtain ⟨o, e⟩ := Z2.live _ h2 x m
    exact absurd (Nat.lt_of_lt_of_le (old x o e) hx) (Nat.lt_irrefl _)
  have ne : ∀ a b : Nat, a ≠ b → S + a ≠ S + b := fun a b h e => h (Nat.add_left_cancel e)
  have nia : ∀ a : Nat, a ≠ 0 → S + a ∉ S :: fa := fun a h m => (List.mem_cons.mp m).elim (ne a 0 h) (nfa _ (Nat.le_add_right _ _))
  have nib : ∀ a : Nat, a ≠ 1 → S + a ∉ (S + 1) :: fb := fun a h m => (List.mem_cons.mp m).elim (ne a 1 h) (nfb _ (Nat.le_add_right _ _))
  have C : ZipSep2 (S + 4) (S + 2) (S + 3) S (S + 1) (S :: fa) ((S + 1) :: fb) := {
    TIz := ne 2 4 (by decide), TOz := ne 3 4 (by decide), TITO := ne 2 3 (by decide), TIi1 := ne 2 0 (by decide), mem1 := List.mem_cons_self .., zf1 := nia 4 (by decide), Tf1 := nia 3 (by decide)
    TIi2 := ne 2 1 (by decide), mem2 := List.mem_cons_self .., zf2 := nib 4 (by decide), Tf2 := nib 3 (by decide), sep1_2 := nib 0 (by decide), sep2_1 := nia 1 (by decide) }
  have P := PairArg.zipD (prog := prog) (w := w) (S + 4) (S + 2) (S + 3) S (S + 1) C (fun A hA => Z1.draws A S hA (nfa S (Nat.le_refl _))) (fun A hA => Z2.draws A (S + 1) hA (nfb _ (Nat.le_add_right _ _))) A hh
    (fun i h st b hb => Z1.lv h S i st b hb) (fun i h st b hb => Z2.lv h (S + 1) i st b hb)
  refine dict_argV (s := { s with heap := g }) P hh ⟨gz, gT, ⟨_, _, gO⟩, Z1.start g S g1 (Z1.beg.keeps _ _ h1 gk), Z2.start g (S + 1) g2 (Z2.beg.keeps _ _ h2 gk)⟩ kv hn (fun i u v hi hr => hrel i u v hi hr.1 hr.2) hz fun h' tk vs r d k => ?_
  refine h g.objs.size h' tk vs (by rw [gs]; exact Nat.le_add_right _ _) r d fun b o e => k b o (fun m => ?_) (gk b o e)
  have lt := old b o e
  simp only [List.mem_cons, List.not_mem_nil, or_false] at m
  rcases m with m | m | m | m <;> (subst m; first | exact absurd lt (Nat.not_lt.mpr (Nat.le_add_right _ _)) | exact absurd lt (Nat.lt_irrefl _))
/-- the pairs of a zip, as a dict's -/
def zipK : List D → List D → Option (List (Key × D))
  | x :: xs, y :: ys => match keyOf x, zipK xs ys with
    | some k, some l => some ((k, y) :: l)
    | _, _ => none
  | _, _ => some []
theorem zipK_ok {K : PySem.W.Frag} {H : Hp} : ∀ {xs ys : List D} {us vs : List V} {l : List (Key × D)}, DenL K H xs us → DenL K H ys vs → zipK xs ys = some l →
    ∃ kv : List (Key × V), DenK K H l kv ∧ kv.length = min us.length vs.length ∧ ∀ (i : Nat) (x y : V), us[i]? = some x → vs[i]? = some y → ∃ q : Key × V, kv[i]? = some q ∧ x = kV q.1 ∧ y = q.2
  | [], _, _, _, _, h1, _, e => by cases h1; cases e; exact ⟨[], .nil, by simp, fun i x y e => by simp at e⟩
  | _ :: _, [], _, _, _, h1, h2, e => by cases h2; cases e; exact ⟨[], .nil, by simp, fun i x y _ e => by simp at e⟩
  | x :: xs, y :: ys, _, _, l, h1, h2, e => by
    cases h1 with
    | cons a1 a2 =>
      cases h2 with
      | cons b1 b2 =>
        unfold zipK at e
        split at e
        · rename_i k l' e1 e2
          cases e
          obtain ⟨kv, d, hl, hp⟩ := zipK_ok a2 b2 e2
          have := keyOf_ok a1 e1
          subst this
          refine ⟨(k, _) :: kv, .cons b1 d, by simp only [List.length_cons, hl]; omega, fun i x y ex ey => ?_⟩
          cases i with
          | zero => cases ex; cases ey; exact ⟨_, rfl, rfl, rfl⟩
          | succ i => exact hp i x y (by simpa using ex) (by simpa using ey)
        · cases e
section
variable {X : Cx} {DI : Addr → GH → Prop} {N : List Str} {sc : Scope} {k : Nat} {fns : List Fn} {cs : List (Str × D)} {bl : List Str} {fc : Bool}
/-- a list or tuple, as what zip walks -/
theorem seq_zsrc {pins : List (Addr × Obj)} {σ : L2.St} {H : Hp} {s : Shared} {a : Addr} {vs : List V} (I : Inv X pins σ H s) (t : SqL X.K H a vs ∨ SqT X.K H a vs) :
    ∃ (n : Nat) (P : Nat → Value → Prop) (OK : Heap → Prop) (_ : ZSrc X.prog X.w (.ref a) [a] n P OK), OK s.heap ∧ n = vs.length ∧ vs.length ≤ sizeLine ∧ ∀ i u, P i u → ∃ y, vs[i]? = some y ∧ RelV y u := by
  rcases t with t | t
  · obtain ⟨its, rv, pl, hz⟩ := I.list t
    refine ⟨_, _, _, zsrc_list a its.toArray, pl.isList, by rw [List.size_toArray, ← rv.length], hz, fun i u e => ?_⟩
    have e' : its[i]? = some u := by simpa using e
    have hi : i < vs.length := by rw [rv.length]; exact (List.getElem?_eq_some_iff.mp e').1
    obtain ⟨u2, e2, r2⟩ := rv.get (List.getElem?_eq_getElem hi)
    rw [e'] at e2
    cases e2
    exact ⟨_, List.getElem?_eq_getElem hi, r2⟩
  · obtain ⟨its, rv, pl, hz⟩ := I.tuple t
    refine ⟨_, _, _, zsrc_tup a its.toArray, pl, by rw [List.size_toArray, ← rv.length], hz, fun i u e => ?_⟩
    have e' : its[i]? = some u := by simpa using e
    have hi : i < vs.length := by rw [rv.length]; exact (List.getElem?_eq_some_iff.mp e').1
    obtain ⟨u2, e2, r2⟩ := rv.get (List.getElem?_eq_getElem hi)
    rw [e'] at e2
    cases e2
    exact ⟨_, List.getElem?_eq_getElem hi, r2⟩
def kDict (DI : Addr → GH → Prop) (new : Bool) : List (Key × D) → GS → (D → GS → Prop) → Prop := fun l S Q => if new = true then ∀ p, S.g p = none → Q (.ref p) (S.set p (.dct (mergeD [] l))) else Q (.dct (mergeD [] l)) S
def wDictZip (DI : Addr → GH → Prop) (new : Bool) (a : WA) : W := fun ρ S Q => a ρ S fun ds S1 => match ds with
  | [x, y] => match asQ S1 x, asQ S1 y with
    | some xs, some ys => match zipK xs ys with
      | some l => kDict DI new l S1 Q
      | none => False
    | _, _ => False
  | _ => False
def wDictZipR (DI : Addr → GH → Prop) (new : Bool) (a b : W) : W := fun ρ S Q => a ρ S fun x S1 => b ρ S1 fun y S2 => match asQ S2 x, y with
  | some xs, .int n => -(2 ^ 62) ≤ n ∧ n < 2 ^ 62 ∧ match zipK xs (rgD 0 n.toNat) with
      | some l => kDict DI new l S2 Q
      | none => False
  | _, _ => False
theorem keyIs_kV (P : Program) (w : World) {k : Key} {u : Value} (r : RelV (kV k) u) : keyIs k u = true := kV_is (P := P) (w := w) r
theorem laidDict {pins : List (Addr × Obj)} {σ : L2.St} {H : Hp} {s : Shared} {p : Addr} {h' : Heap} {tk : Tok} {kv : List (Key × V)} {vs : List (Key × Value)} {Q : VK} (I : Inv X pins σ H s) (hp : s.heap.objs.size ≤ p) (hl : kv.length ≤ sizeLine) (r : KV (mergeK [] kv) vs) (d : h'.DictOf (mixKind X.prog X.w) p vs)
    (k2 : ∀ b o, s.heap.get? b = some o → h'.get? b = some o) (q : ∀ p, H p = none → Q (.ref p) (upd H p (.dK (mergeK [] kv)))) : EP X pins σ Q (.ref p) { s with heap := h', toks := tk } := by
  have hm : (p == sysModules) = false := beq_eq_false_iff_ne.mpr (Nat.ne_of_gt (Nat.lt_of_lt_of_le I.big hp))
  have hlen : (mergeK [] kv).length ≤ sizeLine := by
    have := length_mergeK kv []
    rw [List.length_nil, Nat.zero_add] at this
    omega
  exact ⟨.ref p, upd H p (.dK (mergeK [] kv)), I.laid (t' := tk) k2 hp (show ObjOk X.prog X.w _ _ _ (.dK (mergeK [] kv)) from ⟨hlen, hm, vs, r, d⟩), rfl, q _ (I.hok.fresh hp)⟩
variable {x : Str} {p p2 p3 q q2 pos : Pos} {e e2 : Expr} {a b : W} {wa : WA}
theorem len_min {A B : List V} {n1 n2 : Nat} (h1 : n1 = A.length) (h2 : n2 = B.length) : min A.length B.length = min n1 n2 := by rw [h1, h2]
theorem seqV {F H : Hp} {S : GS} {d : D} {v : V} {ds : List D} (rel : Rel X.K DI F S H) (den : Den X.K H d v) (h : asQ S d = some ds) : ∃ a vs, v = .ref a ∧ (SqL X.K H a vs ∨ SqT X.K H a vs) ∧ DenL X.K H ds vs := asQ_ok rel den h
theorem kDict_fin {F H H' : Hp} {S : GS} {l : List (Key × D)} {kv : List (Key × V)} {R : D → GS → Prop} {Q : VK} {new : Bool} {p : Addr} (fin : Fin X.K DI F H R Q) (w : kDict DI new l S R) (rel : Rel X.K DI F S H') (k : Kp H H') (d : DenK X.K H' l kv) (hp : H' p = none) : LQ Q (.ref p) (upd H' p (.dK (mergeK [] kv))) := by
  unfold kDict at w
  cases new with
  | false => exact fin.dct (by simpa using w) rel k (merge_ok d .nil) hp
  | true => exact .inl (fin.newD (by have := w; simp only [if_true] at this; exact this p (rel.free hp)) rel k (merge_ok d .nil) hp)
def zipOk (xs ys : List V) (kv : List (Key × V)) : Prop := kv.length = min xs.length ys.length ∧ ∀ (i : Nat) (x y : V), xs[i]? = some x → ys[i]? = some y → ∃ q : Key × V, kv[i]? = some q ∧ x = kV q.1 ∧ y = q.2
def tDictZip (K : PySem.W.Frag) (ta : TA) : TE := fun σ H Q => ta σ H fun vs H1 => ∃ (a b : Addr) (xs ys : List V) (kv : List (Key × V)), vs = [.ref a, .ref b] ∧ (SqL K H1 a xs ∨ SqT K H1 a xs) ∧ (SqL K H1 b ys ∨ SqT K H1 b ys) ∧ zipOk xs ys kv ∧
  ∀ p, H1 p = none → Q (.ref p) (upd H1 p (.dK (mergeK [] kv)))
theorem pe_dictZip {ta : TA} (hc : X.calm = true) (g1 : Gl X "dict") (m1 : X.mg "dict" = none) (g2 : Gl X "zip") (m2 : X.mg "zip" = none) (ha : PA X [e, e2] ta) (n1 : starEach [e, e2] X.env = (false, eval e X.env) :: starEach [e2] X.env) (n2 : (backTo q (starEach [e2] X.env)).any (·.1) = false) :
    PE X (.Call (.Name "dict" p) [.Call (.Name "zip" p2) [e, e2] [] q] [] pos) (tDictZip X.K ta) := by
  refine ⟨fun pins s σ H Q I h => ?_⟩
  refine Call_ (ld_blt I g1 m1 PyProof.Rows.boot_dict (PyProof.Rows.callWith_type1 (args_cons ?_ rfl) rfl rfl))
  refine Call_ (ld_blt I g2 m2 PyProof.Rows.boot_zip (PyProof.Rows.callWith_type1 (thn (ha.run q pins s σ H _ I h) ?_) n1 n2))
  rintro us s1 ⟨vs, H1, I1, r1, a, b, xs, ys, kv, rfl, ta, tb, ⟨z1, z2⟩, q1⟩
  cases r1 with
  | cons ra rr =>
    cases rr with
    | cons rb rr =>
      cases rr
      cases ra
      cases rb
      obtain ⟨na, Pa, Oa, Za, oa, ea, la, pa⟩ := seq_zsrc I1 ta
      obtain ⟨nb, Pb, Ob, Zb, ob, eb, lb, pb⟩ := seq_zsrc I1 tb
      refine thn (dict_zip (E := X.xe) Za Zb (I1.ok.hd hc) oa ob kv (by rw [z1, ea, eb]) (fun i u v hi h1 h2 => ?_) (by omega) fun p2 h' tk ws hp r d k2 => ?_) fun v s2 z => args_nil z
      · obtain ⟨x, ex, rx⟩ := pa i u h1
        obtain ⟨y, ey, ry⟩ := pb i v h2
        obtain ⟨q, e1, rfl, rfl⟩ := z2 i x y ex ey
        exact ⟨q, e1, keyIs_kV X.prog X.w rx, ry⟩
      · exact laidDict I1 hp (by rw [z1]; omega) r d k2 q1
theorem e_dictZip {new : Bool} (o : Ob X DI N sc k fns cs bl fc) (ha : PAn X [e, e2] (lftA X.K DI wa)) (h : (okB bl sc "dict" (.type "dict") && (okB bl sc "zip" (.type "zip") && (nStar e && nStar e2))) = true := by kernel_rfl) : PE X (.Call (.Name "dict" p) [.Call (.Name "zip" p2) [e, e2] [] q] [] pos) (lft X.K DI (wDictZip DI new wa)) := by
  simp only [Bool.and_eq_true] at h
  obtain ⟨h1, h2, h3, h4⟩ := h
  obtain ⟨m1, g1, _⟩ := okB_ok o h1
  obtain ⟨m2, g2, _⟩ := okB_ok o h2
  refine (peLQ (pe_dictZip o.hc g1 m1 g2 m2 ha.pa (star_cons h3) (star_pl (by simp [h4])))).imp fun σ H Q z => ?_
  obtain ⟨F, ρ, S, R, rel, env, w, fin⟩ := z
  refine ⟨F, ρ, S, _, rel, env, w, fun ds S1 vs H1 q1 rel1 k1 d1 => ?_⟩
  split at q1
  · obtain ⟨v, u, rfl, dv, du⟩ := d1.twoV
    split at q1
    · rename_i xs ys e1 e2
      split at q1
      · rename_i l e3
        obtain ⟨a, us, rfl, ta, da⟩ := asQ_ok rel1 dv e1
        obtain ⟨b, ws, rfl, tb, db⟩ := asQ_ok rel1 du e2
        obtain ⟨kv, dk, z1, z2⟩ := zipK_ok da db e3
        exact ⟨a, b, us, ws, kv, rfl, ta, tb, ⟨z1, z2⟩, fun p hp => kDict_fin fin q1 rel1 k1 dk hp⟩
      · exact q1.elim
    · exact q1.elim
  · exact q1.elim
def kZipR (K : PySem.W.Frag) (x : V) (Q : VK) : Int → Int → Hp → Prop := fun i n H2 => i = 0 ∧ ∃ (a : Addr) (xs : List V) (kv : List (Key × V)), x = .ref a ∧ -(2 ^ 62) ≤ n ∧ n < 2 ^ 62 ∧ (SqL K H2 a xs ∨ SqT K H2 a xs) ∧
  zipOk xs (rgV 0 n) kv ∧ ∀ p, H2 p = none → Q (.ref p) (upd H2 p (.dK (mergeK [] kv)))
def tDictZipR (K : PySem.W.Frag) (ta tb : TE) : TE := fun σ H Q => ta σ H fun x H1 => tRg1 tb σ H1 (kZipR K x Q)
theorem rgV_at {n : Int} {i : Nat} (h : i < n.toNat) : (rgV 0 n)[i]? = some (.int (0 + (i : Nat))) := by
  unfold rgV
  rw [List.getElem?_map, List.getElem?_range (by omega)]
  rfl
theorem rgD_den {K : PySem.W.Frag} {H : Hp} (n : Int) : DenL K H (rgD 0 n.toNat) (rgV 0 n) := by
  unfold rgD rgV
  rw [Int.sub_zero]
  generalize List.range n.toNat = l
  induction l with
  | nil => exact .nil
  | cons x r ih => exact .cons (.int _) ih
theorem pe_dictZipR {ta tb : TE} (hc : X.calm = true) (g1 : Gl X "dict") (m1 : X.mg "dict" = none) (g2 : Gl X "zip") (m2 : X.mg "zip" = none) (g3 : Gl X "range") (m3 : X.mg "range" = none) (ha : PE X e ta) (hb : PE X e2 tb)
    (n1 : starEach [e, .Call (.Name "range" p3) [e2] [] q2] X.env = (false, eval e X.env) :: starEach [.Call (.Name "range" p3) [e2] [] q2] X.env) (n2 : (backTo q (starEach [.Call (.Name "range" p3) [e2] [] q2] X.env)).any (·.1) = false) (n3 : starEach [e2] X.env = (false, eval e2 X.env) :: starEach [] X.env) :
    PE X (.Call (.Name "dict" p) [.Call (.Name "zip" p2) [e, .Call (.Name "range" p3) [e2] [] q2] [] q] [] pos) (tDictZipR X.K ta tb) := by
  refine ⟨fun pins s σ H Q I h => ?_⟩
  refine Call_ (ld_blt I g1 m1 PyProof.Rows.boot_dict (PyProof.Rows.callWith_type1 (args_cons ?_ rfl) rfl rfl))
  refine Call_ (ld_blt I g2 m2 PyProof.Rows.boot_zip (PyProof.Rows.callWith_type1 (args_cons (thn (ha.run pins s σ H _ I h) ?_) n1) n1 n2))
  rintro v s1 ⟨x, H1, I1, rx, h1⟩
  refine args_cons (thn (prg_1 g3 m3 hb n3 pins s1 σ H1 (kZipR X.K x Q) I1 h1) ?_) rfl
  rintro u s2 ⟨r, i, j, t, u1, u2, H2, rfl, hr, I2, rfl, a, xs, kv, rfl, b1, b2, tx, ⟨z1, z2⟩, q1⟩
  cases rx
  refine args_nil ?_
  obtain ⟨na, Pa, Oa, Za, oa, ea, la, pa⟩ := seq_zsrc I2 tx
  have Zb := zsrc_range (prog := X.prog) (w := X.w) r 0 j t u1 u2 (small_one (by decide) (by decide) b1 b2)
  refine thn (dict_zip (E := X.xe) Za Zb (I2.ok.hd hc) oa hr kv (by rw [z1, ea, rgV_length]) (fun i u v hi h1 h2 => ?_) (by omega) fun p2 h' tk ws hp r d k2 => ?_) fun v s2 z => args_nil z
  · obtain ⟨x, ex, rx⟩ := pa i u h1
    obtain ⟨t, rfl⟩ := h2
    obtain ⟨q, e1, rfl, e2⟩ := z2 i x _ ex (rgV_at (by omega))
    exact ⟨q, e1, keyIs_kV X.prog X.w rx, by rw [← e2]; exact ⟨t, rfl⟩⟩
  · exact laidDict I2 hp (by rw [z1]; omega) r d k2 q1
theorem e_dictZipR {new : Bool} (o : Ob X DI N sc k fns cs bl fc) (ha : PE X e (lft X.K DI a)) (hb : PE X e2 (lft X.K DI b)) (h : (okB bl sc "dict" (.type "dict") && (okB bl sc "zip" (.type "zip") && (okB bl sc "range" (.type "range") && (nStar e && nStar e2)))) = true := by kernel_rfl) : PE X (.Call (.Name "dict" p) [.Call (.Name "zip" p2) [e, .Call (.Name "range" p3) [e2] [] q2] [] q] [] pos) (lft X.K DI (wDictZipR DI new a b)) := by
  simp only [Bool.and_eq_true] at h
  obtain ⟨h1, h2, h3, h4, h5⟩ := h
  obtain ⟨m1, g1, _⟩ := okB_ok o h1
  obtain ⟨m2, g2, _⟩ := okB_ok o h2
  obtain ⟨m3, g3, _⟩ := okB_ok o h3
  refine (peLQ (pe_dictZipR o.hc g1 m1 g2 m2 g3 m3 ha hb (star_cons h4) (star_pl (by rfl)) (star_cons h5))).imp fun σ H Q z => ?_
  obtain ⟨F, ρ, S, R, rel, env, w, fin⟩ := z
  refine ⟨F, ρ, S, _, rel, env, w, fun x S1 v H1 q1 rel1 k1 d1 => ?_⟩
  refine ⟨F, ρ, S1, _, rel1, env.mn k1, q1, fun y S2 u H2 q2 rel2 k2 d2 => ?_⟩
  have d1' := d1.mn k2
  split at q2
  · rename_i xs n e1
    cases d2
    obtain ⟨b1, b2, q3⟩ := q2
    split at q3
    · rename_i l e3
      obtain ⟨a, us, rfl, ta, da⟩ := asQ_ok rel2 d1' e1
      obtain ⟨kv, dk, z1, z2⟩ := zipK_ok da (rgD_den n) e3
      exact ⟨n, rfl, rfl, a, us, kv, rfl, b1, b2, ta, ⟨z1, z2⟩, fun p hp => kDict_fin fin q3 rel2 (k1.trans k2) dk hp⟩
    · exact q3.elim
  · exact q2.elim
end
end Dv

/-! Dv35: several new things at once; list(d.items()), sorted(d.items()). -/
namespace Dv
open PySem PySem.Spec L2
open PyProof.Rows hiding St
section
variable {X : Cx} {DI : Addr → GH → Prop} {N : List Str} {sc : Scope} {k : Nat} {fns : List Fn} {cs : List (Str × D)} {bl : List Str} {fc : Bool}
/-- H, and new things -/
def putH (H : Hp) (as : List Addr) (f : Addr → HO) : Hp := fun b => if b ∈ as then some (f b) else H b
theorem putH_in {H : Hp} {as : List Addr} {f : Addr → HO} {b : Addr} (h : b ∈ as) : putH H as f b = some (f b) := if_pos h
theorem putH_out {H : Hp} {as : List Addr} {f : Addr → HO} {b : Addr} (h : b ∉ as) : putH H as f b = H b := if_neg h
theorem laidMany {pins : List (Addr × Obj)} {σ : L2.St} {H : Hp} {s : Shared} {h' : Heap} {tk : Tok} (I : Inv X pins σ H s) (as : List Addr) (f : Addr → HO) (hk : ∀ b o, s.heap.get? b = some o → h'.get? b = some o)
    (new : ∀ b ∈ as, s.heap.objs.size ≤ b) (ok : ∀ b ∈ as, ObjOk X.prog X.w (putH H as f) h' b (f b)) : Inv X pins σ (putH H as f) { s with heap := h', toks := tk } := by
  have low : ∀ b o, s.heap.get? b = some o → b ∉ as := fun b o e m => absurd (Heap.lt_size e) (Nat.not_lt.mpr (new b m))
  have kp : ∀ b u, H b = some u → putH H as f b = some u := fun b u e => by
    rw [putH_out (fun m => by rw [I.hok.fresh (new b m)] at e; cases e)]
    exact e
  refine I.call' (ch := []) rfl ⟨fun b o q _ _ _ => hk b o q, fun b o q _ _ _ => ⟨o.slots, hk b o q⟩, fun b o q n _ => ?_, fun b o q _ => ⟨o, hk b o q⟩, fun b xs q => kp b _ q, fun b o u q => kp b _ q, fun b ps q => ⟨#[], by rw [kp b _ q]; simp⟩⟩ (fun b u q => ?_) I.bare fun b z => by simp at z
  · rw [putH_out (low b o q)]
    exact n
  · by_cases hb : b ∈ as
    · rw [putH_in hb] at q
      cases q
      exact ok b hb
    · rw [putH_out hb] at q
      exact (I.hok b u q).stay (fun d v _ y => hk d v y) (fun d y => kp d _ y) fun d xs y => kp d _ y
/-- new tuples of two, and what they are -/
theorem laidPairs {pins : List (Addr × Obj)} {σ : L2.St} {H : Hp} {s : Shared} {h' : Heap} {tk : Tok} (I : Inv X pins σ H s) {kvs : List (Key × V)} {vs : List (Key × Value)} {as : List Addr} (kv : KV kvs vs) (hk : ∀ b o, s.heap.get? b = some o → h'.get? b = some o)
    (hl : as.length = vs.length) (hG : PySem.W.KdxG (mixKind X.prog X.w) vs s.heap.objs.size h' as) :
    ∃ g : Addr → HO, (∀ (j : Nat) (a : Addr) (q : Key × V), as[j]? = some a → kvs[j]? = some q → ∃ o : Obj, g a = .frz o (.tup [kV q.1, q.2]) ∧ o.dict = none) ∧ ∀ (bs : List Addr) (f : Addr → HO), (∀ b ∈ as, b ∈ bs ∧ f b = g b) → ∀ b ∈ as, ObjOk X.prog X.w (putH H bs f) h' b (f b) := by
  have nd : as.Nodup := List.Pairwise.imp (fun {a b} (h : a < b) => Nat.ne_of_lt h) hG.rise
  have lk : kvs.length = vs.length := Paired.length kv
  have at_ : ∀ (j : Nat) (a : Addr), as[j]? = some a → ∃ (q : Key × V) (u v : Value), kvs[j]? = some q ∧ RelV (kV q.1) u ∧ RelV q.2 v ∧ h'.get? a = some (tupO [u, v]) := fun j a e => by
    obtain ⟨key, k, x, f1, f2, f3⟩ := hG.pairs j a e
    have hj : j < kvs.length := by rw [lk]; exact (List.getElem?_eq_some_iff.mp f1).1
    obtain ⟨q2, g1, g2, g3⟩ := LiI.paired_get kv (List.getElem?_eq_getElem hj)
    rw [f1] at g1
    cases g1
    exact ⟨_, key, x, List.getElem?_eq_getElem hj, by rw [g2]; exact relV_key (show keyIs k key = true from f2), g3, f3⟩
  refine ⟨fun a => match h'.get? a, kvs[as.idxOf a]? with
    | some o, some q => .frz o (.tup [kV q.1, q.2])
    | _, _ => .tup [], fun j a q e1 e2 => ?_, fun bs f hf b hb => ?_⟩
  · obtain ⟨q', u, v, e3, _, _, e4⟩ := at_ j a e1
    rw [e2] at e3
    cases e3
    have ix : as.idxOf a = j := by
      obtain ⟨hj, e⟩ := List.getElem?_eq_some_iff.mp e1
      rw [← e]
      exact List.Nodup.idxOf_getElem nd j hj
    refine ⟨tupO [u, v], ?_, rfl⟩
    show (match h'.get? a, kvs[as.idxOf a]? with | some o, some q => HO.frz o (.tup [kV q.1, q.2]) | _, _ => .tup []) = _
    rw [ix, e2, e4]
  · obtain ⟨h1, h2⟩ := hf b hb
    obtain ⟨j, hj⟩ := List.mem_iff_getElem?.mp hb
    obtain ⟨q, u, v, e3, r1, r2, e4⟩ := at_ j b hj
    have ix : as.idxOf b = j := by
      obtain ⟨hj', e⟩ := List.getElem?_eq_some_iff.mp hj
      rw [← e]
      exact List.Nodup.idxOf_getElem nd j hj'
    rw [h2]
    show ObjOk X.prog X.w _ h' b (match h'.get? b, kvs[as.idxOf b]? with | some o, some q => HO.frz o (.tup [kV q.1, q.2]) | _, _ => .tup [])
    rw [ix, e3, e4]
    exact ⟨e4, by show 2 ≤ sizeLine; decide, [u, v], .cons r1 (.cons r2 .nil), ⟨_, e4, rfl, _, rfl⟩⟩
theorem upd_putH {H : Hp} {as : List Addr} {g : Addr → HO} {p : Addr} {o : HO} (hp : p ∉ as) : upd (putH H as g) p o = putH H (p :: as) (fun b => if b = p then o else g b) := by
  funext b
  unfold upd putH
  by_cases h : b = p
  · subst h; simp
  · simp [h]
theorem kp_putH {H : Hp} {as : List Addr} {g : Addr → HO} (new : ∀ t ∈ as, H t = none) : Kp H (putH H as g) :=
  ⟨fun b xs e => by rw [putH_out (fun m => by rw [new b m] at e; cases e)]; exact e, fun b o u e => by rw [putH_out (fun m => by rw [new b m] at e; cases e)]; exact e⟩
theorem rel_putH {F H : Hp} {S : GS} {as : List Addr} {g : Addr → HO} (r : Rel X.K DI F S H) (new : ∀ t ∈ as, H t = none) : Rel X.K DI F S (putH H as g) :=
  r.keep (kp_putH new) fun a q => putH_out fun m => q (new a m)
def newPairs (H : Hp) (kvs : List (Key × V)) (Q : List Addr → Hp → Prop) : Prop := ∀ (ts : List Addr) (g : Addr → HO), (∀ t ∈ ts, H t = none) → ts.length = kvs.length →
  (∀ (j : Nat) (a : Addr) (q : Key × V), ts[j]? = some a → kvs[j]? = some q → ∃ o : Obj, g a = .frz o (.tup [kV q.1, q.2]) ∧ o.dict = none) → Q ts (putH H ts g)
/-- the pairs of a dict as data -/
def pairD (p : Key × D) : D := .tup [kD p.1, p.2]
theorem den_pairs {K : PySem.W.Frag} {H : Hp} {g : Addr → HO} {ts : List Addr} : ∀ {l : List (Key × D)} {kvs : List (Key × V)} {us : List Addr}, (∀ t ∈ ts, H t = none) → DenK K H l kvs → us.length = kvs.length → (∀ t ∈ us, t ∈ ts) →
    (∀ (j : Nat) (a : Addr) (q : Key × V), us[j]? = some a → kvs[j]? = some q → ∃ o : Obj, g a = .frz o (.tup [kV q.1, q.2]) ∧ o.dict = none) → DenL K (putH H ts g) (l.map pairD) (us.map V.ref)
  | [], _, us, new, h, hl, _, _ => by cases h; cases us with | nil => exact .nil | cons a r => cases hl
  | (k, d) :: l, _, us, new, h, hl, hs, hg => by
    cases h with
    | cons h1 h2 =>
      cases us with
      | nil => cases hl
      | cons a us =>
        obtain ⟨o, e1, e2⟩ := hg 0 a _ rfl rfl
        refine .cons (.tup (.inl ⟨o, by rw [putH_in (hs a (by simp)), e1], e2⟩) (.cons (kD_den k) (.cons (h1.mn (kp_putH new)) .nil))) ?_
        exact den_pairs new h2 (by simpa using hl) (fun t m => hs t (by simp [m])) fun j b q e3 e4 => hg (j + 1) b q (by simpa using e3) (by simpa using e4)
def tListItemsF (te : TE) : TE := fun σ H Q => te σ H fun x H1 => ∃ (d : Addr) (kvs : List (Key × V)), x = .ref d ∧ Rd H1 d (.dK kvs) ∧ newPairs H1 kvs fun ts H2 => ∀ p, H2 p = none → Q (.ref p) (upd H2 p (.lst (ts.map V.ref)))
variable {p apos cpos pos : Pos} {e : Expr} {te : TE}
theorem rd_dict {pins : List (Addr × Obj)} {σ : L2.St} {H : Hp} {s : Shared} {d : Addr} {kvs : List (Key × V)} (I : Inv X pins σ H s) (h : Rd H d (.dK kvs)) : kvs.length ≤ sizeLine ∧ (d == sysModules) = false ∧ ∃ vs, KV kvs vs ∧ s.heap.DictOf (mixKind X.prog X.w) d vs := by
  rcases h with h | ⟨o, h⟩
  · exact I.hok d _ h
  · exact (I.hok d _ h).2
theorem pe_listItemsF (hc : X.calm = true) (he : PE X e te) (hg : Gl X "list") (hm : X.mg "list" = none) (hbase : attributeBase e "items" X.env (eval e X.env) = eval e X.env) (hline : (apos.endLine == cpos.line) = true) :
    PE X (.Call (.Name "list" p) [.Call (.Attribute e "items" apos) [] [] cpos] [] pos) (tListItemsF te) := by
  refine ⟨fun pins s σ H Q I hq => ?_⟩
  refine Call_ (ld_blt I hg hm boot_list (PyProof.Rows.callWith_type1 (args_cons ?_ rfl) rfl rfl))
  refine wpAny_Call_method (T := "dict") (id := "dict.items") hbase rfl hline F.plainAttrs_dict F.slot_dict_items F.type_dict_items (thn (he.run pins s σ H _ I hq) ?_)
  rintro u s1 ⟨x, H1, I1, rx, d, kvs, rfl, hd, q⟩
  obtain rfl : u = Value.ref d := rx
  obtain ⟨hz, hs0, vs, kv, hdo⟩ := rd_dict I1 hd
  obtain ⟨ep, hat⟩ := hdo.dictAt
  have lk : kvs.length = vs.length := Paired.length kv
  have I2 : Inv X pins σ H1 { s1 with heap := s1.heap.push { cls := .type "dict_items", data := .fields #[.ref d] } } := I1.kept (t' := s1.toks) fun b ob z => Heap.get?_push_of_some _ z
  refine ⟨hdo.typeIs, hdo.mapOf.noDict, ?_⟩
  show wpAny _ _ (callWith cpos (.builtin "dict.items") [.ref d] [] []) _ X.xe s1
  refine method_meetsIn F.slot_dict_items F.entry_dict_items rfl (PySem.evalArgs_none ⟨rfl, hdo.typeIs, F.args_dict_items_1 _, _, meets_dict_items (mixKind X.prog X.w) d hs0, ⟨vs, hdo⟩, ?_⟩)
  refine args_nil ?_
  refine PySem.W.kdx_call (knd := mixKind X.prog X.w) (kvs := vs) (ep := ep) (I1.ok.hd hc) ⟨_, Heap.get?_push_size _ rfl, rfl, rfl⟩ (hat.push _) (by omega) fun h' tk acc c as hk hS hl hG hacc => ?_
  generalize hB : (s1.heap.push { cls := .type "dict_items", data := .fields #[.ref d] } : Heap) = hp at *
  obtain ⟨g, g1, g2⟩ := laidPairs (s := { s1 with heap := hp }) (tk := tk) I2 kv hk hl hG
  have nS : hp.objs.size ∉ as := fun z => Nat.lt_irrefl _ (hG.above _ z)
  have J := laidMany (s := { s1 with heap := hp }) (tk := tk) I2 (hp.objs.size :: as) (fun b => if b = hp.objs.size then .lst (as.map V.ref) else g b) hk (fun b m => by
    rcases List.mem_cons.mp m with rfl | m
    · exact Nat.le_refl _
    · exact Nat.le_of_lt (hG.above b m)) (fun b m => by
    rcases List.mem_cons.mp m with rfl | m
    · rw [if_pos rfl]
      exact ⟨by rw [List.length_map]; omega, acc.toList, c, by rw [hacc]; exact LiI.vals_refs as, by rw [Array.toArray_toList]; exact hS⟩
    · exact g2 _ _ (fun b m2 => ⟨List.mem_cons_of_mem _ m2, if_neg (fun z => nS (by rw [← z]; exact m2))⟩) b m)
  rw [← upd_putH nS] at J
  have newS : H1 hp.objs.size = none := I2.hok.fresh (Nat.le_refl _)
  exact ⟨.ref hp.objs.size, _, J, rfl, q as g (fun t m => I2.hok.fresh (Nat.le_of_lt (hG.above t m))) (by omega) g1 _ (by rw [putH_out nS]; exact newS)⟩
/-- sorted(e.items()) -/
def tSortItemsF (X : Cx) (te : TE) : TE := fun σ H Q => te σ H fun x H1 => ∃ (d : Addr) (kvs : List (Key × V)) (l : List (Key × D)), x = .ref d ∧ Rd H1 d (.dK kvs) ∧ DenK X.K H1 l kvs ∧ SortOk (l.map pairD) ∧ newPairs H1 kvs fun _ H2 => ∀ (p : Addr) (ps : List (D × V)), H2 p = none → ps.map (·.1) = sortD (l.map pairD) → (∀ q ∈ ps, Den X.K H2 q.1 q.2) → Q (.ref p) (upd H2 p (.lst (ps.map (·.2))))
theorem pe_sortItemsF (hc : X.calm = true) (hu : X.A.units + 66 < cLine) (he : PE X e te) (hg : Gl X "sorted") (hm : X.mg "sorted" = none) (hbase : attributeBase e "items" X.env (eval e X.env) = eval e X.env) (hline : (apos.endLine == cpos.line) = true) :
    PE X (.Call (.Name "sorted" p) [.Call (.Attribute e "items" apos) [] [] cpos] [] pos) (tSortItemsF X te) := by
  refine ⟨fun pins s σ H Q I hq => ?_⟩
  refine Call_ (ld_blt I hg hm boot_sorted (PyProof.Rows.callWith_builtin1 (args_cons ?_ rfl) rfl rfl))
  refine wpAny_Call_method (T := "dict") (id := "dict.items") hbase rfl hline F.plainAttrs_dict F.slot_dict_items F.type_dict_items (thn (he.run pins s σ H _ I hq) ?_)
  rintro u s1 ⟨x, H1, I1, rx, d, kvs, l, rfl, hd, dk, ok, q⟩
  obtain rfl : u = Value.ref d := rx
  obtain ⟨hz, hs0, vs, kv, hdo⟩ := rd_dict I1 hd
  obtain ⟨ep, hat⟩ := hdo.dictAt
  have lk : kvs.length = vs.length := Paired.length kv
  have I2 : Inv X pins σ H1 { s1 with heap := s1.heap.push { cls := .type "dict_items", data := .fields #[.ref d] } } := I1.kept (t' := s1.toks) fun b ob z => Heap.get?_push_of_some _ z
  refine ⟨hdo.typeIs, hdo.mapOf.noDict, ?_⟩
  show wpAny _ _ (callWith cpos (.builtin "dict.items") [.ref d] [] []) _ X.xe s1
  refine method_meetsIn F.slot_dict_items F.entry_dict_items rfl (PySem.evalArgs_none ⟨rfl, hdo.typeIs, F.args_dict_items_1 _, _, meets_dict_items (mixKind X.prog X.w) d hs0, ⟨vs, hdo⟩, ?_⟩)
  refine args_nil ?_
  refine Calls.call_function_entry kind_sorted plain_sorted entry_sorted (args_sorted1 _) ?_
  unfold Builtin.«sorted»
  refine wpAny_bind (m := checkCount "sorted" 1 1 _) (wpAny_pure (wpAny_bind ?_))
  refine PySem.W.kdx_collect (A := X.A.in1) (knd := mixKind X.prog X.w) (kvs := vs) (ep := ep) (I1.ok.hd hc) ⟨_, Heap.get?_push_size _ rfl, rfl, rfl⟩ (hat.push _) (by omega) fun h' tk as hk hl hG => ?_
  generalize hB : (s1.heap.push { cls := .type "dict_items", data := .fields #[.ref d] } : Heap) = hp at *
  obtain ⟨g, g1, g2⟩ := laidPairs (s := { s1 with heap := hp }) (tk := tk) I2 kv hk hl hG
  have new : ∀ t ∈ as, H1 t = none := fun t m => I2.hok.fresh (Nat.le_of_lt (hG.above t m))
  have J := laidMany (s := { s1 with heap := hp }) (tk := tk) I2 as g hk (fun b m => Nat.le_of_lt (hG.above b m)) (g2 as g fun b m => ⟨m, rfl⟩)
  have dl : DenL X.K (putH H1 as g) (l.map pairD) (as.map V.ref) := den_pairs new dk (by omega) (fun t m => m) g1
  have hll : (l.map pairD).length = as.length := by rw [dl.length, List.length_map]
  have er := each_read J ok.p ok.n dl (LiI.vals_refs as)
  have ee := each_zip dl (LiI.vals_refs as)
  refine wpAny_bind (wpAny_newList ?_ (by rw [List.length_map, ← hll]; exact ok.ln))
  have hB2 : (h'.push (seqObj "list" (as.map Value.ref).toArray 0)).get? h'.objs.size = some (seqObj "list" (as.map Value.ref).toArray 0) := Heap.get?_push_size h' rfl
  have hl2 : ((l.map pairD).zip (as.map V.ref)).map (fun p : D × V => dat p.1) = datL (l.map pairD) := by
    rw [datL_map]
    show ((l.map pairD).zip (as.map V.ref)).map (dat ∘ fun p : D × V => p.1) = _
    rw [← List.map_map, zip_fst dl.length]
  have hlen : ((l.map pairD).zip (as.map V.ref)).length = (l.map pairD).length := by rw [List.length_zip, List.length_map (as := as), ← hll]; omega
  refine wpAny_bind (wpAny_holding ?_)
  have em : PySem.W.EachIs (fun (u : Value) (p : D × V) => ∃ bs, Reads (h'.push (seqObj "list" (as.map Value.ref).toArray 0)) u (dat p.1) bs ∧ h'.objs.size ∉ bs) (as.map Value.ref) ((l.map pairD).zip (as.map V.ref)) := er.mono fun u p ⟨bs, r⟩ => ⟨bs, Reads.keeps (fun b o z => Heap.get?_push_of_some _ z) r, fun m => by
    obtain ⟨o, ho⟩ := PyProof.On.reads_mem_get r _ m
    exact absurd (Heap.lt_size ho) (Nat.lt_irrefl _)⟩
  refine PySem.W.list_sort_data (s := { s1 with heap := h'.push (seqObj "list" (as.map Value.ref).toArray 0), toks := tk }) (enc := fun p : D × V => dat p.1) hB2 ee em (by rw [hl2]; exact ok.al) (by rw [hl2]; exact ok.so) (by rw [hlen]; exact ok.ln) ?depth ?last
  case depth =>
    intro b mb
    have m1 : b.1 ∈ l.map pairD := (List.of_mem_zip (show (b.1, b.2) ∈ (l.map pairD).zip (as.map V.ref) from mb)).1
    have := depL_mem m1
    have := ok.dp
    have hu2 : X.A.in1.units = X.A.units + 1 := rfl
    rw [depth_dat]
    omega
  case last =>
    intro out ho he
    obtain ⟨ep2, he'⟩ := PyProof.Rows.sortedHeap_at (vs := as.map Value.ref) (out := out.toArray) hB2
    have hf : PySem.W.dataLe false (fun p : D × V => dat p.1) = fun p q : D × V => leD p.1 q.1 := by
      funext p q
      rw [PySem.W.dataLe_eq]
      rfl
    rw [hf] at he
    have hm2 : (((l.map pairD).zip (as.map V.ref)).mergeSort fun p q : D × V => leD p.1 q.1).map (·.1) = sortD (l.map pairD) := by
      rw [PySem.W.sort_maps (s := leD) (fun p : D × V => p.1) fun _ _ _ _ => rfl, zip_fst dl.length]
      rfl
    generalize ((l.map pairD).zip (as.map V.ref)).mergeSort (fun p q : D × V => leD p.1 q.1) = ps at he hm2
    obtain ⟨v1, v2⟩ := vals_each he
    have h16 : (ps.map (·.2)).length ≤ sizeLine := by
      have := congrArg List.length hm2
      rw [List.length_map, (sortD_perm _).length_eq] at this
      rw [List.length_map, this]
      exact ok.ln
    have old : ∀ b o, h'.get? b = some o → (sortedHeap (h'.push (seqObj "list" (as.map Value.ref).toArray 0)) h'.objs.size (as.map Value.ref) out.toArray).get? b = some o := fun b o z => by
      have lt := Heap.lt_size z
      rw [PyProof.Rows.sortedHeap_old (Nat.ne_of_lt lt) (by rw [Heap.size_push]; exact Nat.lt_succ_of_lt lt)]
      exact Heap.get?_push_of_some _ z
    refine wpAny_pure ⟨_, rfl, .ref h'.objs.size, upd (putH H1 as g) h'.objs.size (.lst (ps.map (·.2))), ?_, rfl, ?_⟩
    · exact J.laid (t' := tk) old (Nat.le_refl _) ⟨h16, out, ep2, v1, he'⟩
    · exact q as g new (by omega) g1 _ ps (J.hok.fresh (Nat.le_refl _)) hm2 v2
variable {a : W}
def wListItems (new : Bool) (a : W) : W := fun ρ S Q => a ρ S fun d S1 => match asK S1 d with
  | some kvs => if new = true then ∀ p, S1.g p = none → Q (.ref p) (S1.set p (.lst (kvs.map pairD))) else Q (.lst (kvs.map pairD)) S1
  | none => False
def wSortItems (a : W) : W := fun ρ S Q => a ρ S fun d S1 => match asK S1 d with
  | some kvs => SortOk (kvs.map pairD) ∧ Q (.lst (sortD (kvs.map pairD))) S1
  | none => False
theorem e_listItems {new : Bool} (o : Ob X DI N sc k fns cs bl fc) (he : PE X e (lft X.K DI a)) (h : (okB bl sc "list" (.type "list") && (nBase e && (apos.endLine == cpos.line))) = true := by kernel_rfl) : PE X (.Call (.Name "list" p) [.Call (.Attribute e "items" apos) [] [] cpos] [] pos) (lft X.K DI (wListItems new a)) := by
  simp only [Bool.and_eq_true] at h
  obtain ⟨h1, h2, h3⟩ := h
  obtain ⟨m1, g1, _⟩ := okB_ok o h1
  refine (peLQ (pe_listItemsF o.hc he g1 m1 (base_of h2) h3)).imp fun σ H Q z => ?_
  obtain ⟨F, ρ, S, R, rel, env, w, fin⟩ := z
  refine ⟨F, ρ, S, _, rel, env, w, fun d S1 v H1 q1 rel1 k1 d1 => ?_⟩
  split at q1
  · rename_i kvs e1
    obtain ⟨b, vs, rfl, t, dk⟩ := asK_ok rel1 d1 e1
    refine ⟨b, vs, rfl, t, fun ts g nw hl hg p hp => ?_⟩
    have dl := den_pairs nw dk hl (fun t m => m) hg
    cases new with
    | false => exact (fin.up k1).lst (by simpa using q1) (rel_putH rel1 nw) (kp_putH nw) dl hp
    | true =>
      simp only [if_true] at q1
      exact .inl ((fin.up k1).newL (q1 p ((rel_putH rel1 nw).free hp)) (rel_putH rel1 nw) (kp_putH nw) dl hp)
  · exact q1.elim
theorem e_sortItems (o : Ob X DI N sc k fns cs bl fc) (he : PE X e (lft X.K DI a)) (h : (okB bl sc "sorted" (.builtin "sorted") && (nBase e && (apos.endLine == cpos.line))) = true := by kernel_rfl) : PE X (.Call (.Name "sorted" p) [.Call (.Attribute e "items" apos) [] [] cpos] [] pos) (lft X.K DI (wSortItems a)) := by
  simp only [Bool.and_eq_true] at h
  obtain ⟨h1, h2, h3⟩ := h
  obtain ⟨m1, g1, _⟩ := okB_ok o h1
  refine (peLQ (pe_sortItemsF o.hc (by have := o.u; omega) he g1 m1 (base_of h2) h3)).imp fun σ H Q z => ?_
  obtain ⟨F, ρ, S, R, rel, env, w, fin⟩ := z
  refine ⟨F, ρ, S, _, rel, env, w, fun d S1 v H1 q1 rel1 k1 d1 => ?_⟩
  split at q1
  · rename_i kvs e1
    obtain ⟨b, vs, rfl, t, dk⟩ := asK_ok rel1 d1 e1
    refine ⟨b, vs, kvs, rfl, t, dk, q1.1, fun ts g nw hl hg p ps hp hm hd => ?_⟩
    exact (fin.up k1).lst q1.2 (rel_putH rel1 nw) (kp_putH nw) (by rw [← hm]; exact denOfZip hd) hp
  · exact q1.elim
end
end Dv

/-! Dv36: list(dict), list(range), a new list by +, index, extend, items, values, zip as what is walked, sum, max and min of a list; a comprehension stored in a cell. -/
namespace Dv
open PySem PySem.Spec L2
open PyProof.Rows hiding St
section
variable {X : Cx} {DI : Addr → GH → Prop} {N : List Str} {sc : Scope} {k : Nat} {fns : List Fn} {cs : List (Str × D)} {bl : List Str} {fc : Bool}
variable {x : Str} {p p2 p3 q apos cpos pos : Pos} {e e2 e3 : Expr} {es : List Expr} {a b : W} {wa : WA} {tg : Expr}
/-! list(x) -/
def listOf (S : GS) (d : D) : Option (List D) := match asQ S d with
  | some ds => some ds
  | none => (asK S d).map fun kvs => kvs.map fun p => kD p.1
theorem den_keys {K : PySem.W.Frag} {H : Hp} : ∀ {l : List (Key × D)} {kvs : List (Key × V)}, DenK K H l kvs → DenL K H (l.map fun p => kD p.1) (kvs.map fun kv => kV kv.1)
  | [], _, h => by cases h; exact .nil
  | _ :: _, _, h => by
    cases h with
    | cons h1 h2 => exact .cons (kD_den _) (den_keys h2)
def fListA : WF := f1 fun d S Q => match listOf S d with
  | some ds => Q (.lst ds) S
  | none => False
def fListAN : WF := f1 fun d S Q => match listOf S d with
  | some ds => ∀ p, S.g p = none → Q (.ref p) (S.set p (.lst ds))
  | none => False
theorem dc_listA (hc : X.calm = true) : CallR X (.type "list") (lftF X.K DI fListA) := f1_ok (callLQ (call_list_of.or (call_listD hc))) fun F d v S R H Q rel den w fin => by
  unfold listOf at w
  split at w
  · rename_i ds e
    split at e
    · rename_i ds' e'
      cases e
      obtain ⟨a, vs, rfl, t, dl⟩ := asQ_ok rel den e'
      exact .inl ⟨a, vs, rfl, t, fun p hp => fin.lst w rel (.refl _) dl hp⟩
    · obtain ⟨kvs, e1, rfl⟩ := Option.map_eq_some_iff.mp e
      obtain ⟨a, vs, rfl, t, dk⟩ := asK_ok rel den e1
      exact .inr ⟨a, vs, rfl, t, fun p hp => fin.lst w rel (.refl _) (den_keys dk) hp⟩
  · exact w.elim
theorem dc_listAN (hc : X.calm = true) : CallR X (.type "list") (lftF X.K DI fListAN) := f1_ok (call_list_of.or (call_listD hc)) fun F d v S R H Q rel den w fin => by
  unfold listOf at w
  split at w
  · rename_i ds e
    split at e
    · rename_i ds' e'
      cases e
      obtain ⟨a, vs, rfl, t, dl⟩ := asQ_ok rel den e'
      exact .inl ⟨a, vs, rfl, t, fun p hp => fin.newL (w p (rel.free hp)) rel (.refl _) dl hp⟩
    · obtain ⟨kvs, e1, rfl⟩ := Option.map_eq_some_iff.mp e
      obtain ⟨a, vs, rfl, t, dk⟩ := asK_ok rel den e1
      exact .inr ⟨a, vs, rfl, t, fun p hp => fin.newL (w p (rel.free hp)) rel (.refl _) (den_keys dk) hp⟩
  · exact w.elim
theorem e_listA (o : Ob X DI N sc k fns cs bl fc) (ha : PAn X (e :: es) (lftA X.K DI wa)) (h : (okB bl sc x (.type "list") && ((e :: es).all nStar)) = true := by kernel_rfl) : PE X (.Call (.Name x p2) (e :: es) [] pos) (lft X.K DI (wCall fListA wa)) := e_callT o "list" (dc_listA o.hc) ha h
theorem e_listAN (o : Ob X DI N sc k fns cs bl fc) (ha : PAn X (e :: es) (lftA X.K DI wa)) (h : (okB bl sc x (.type "list") && ((e :: es).all nStar)) = true := by kernel_rfl) : PE X (.Call (.Name x p2) (e :: es) [] pos) (lft X.K DI (wCall fListAN wa)) := e_callT o "list" (dc_listAN o.hc) ha h
/-! list(range(..)) -/
def kRg (i j : Int) (S : GS) (Q : D → GS → Prop) : Prop := -(2 ^ 62) ≤ i ∧ i < 2 ^ 62 ∧ -(2 ^ 62) ≤ j ∧ j < 2 ^ 62 ∧ (j - i).toNat ≤ 1000000 ∧ Q (.lst (rgD i (j - i).toNat)) S
def wListRg1 (a : W) : W := fun ρ S Q => a ρ S fun d S1 => match d with
  | .int n => kRg 0 n S1 Q
  | _ => False
def wListRg2 (a b : W) : W := fun ρ S Q => a ρ S fun d S1 => b ρ S1 fun d2 S2 => match d, d2 with
  | .int i, .int j => kRg i j S2 Q
  | _, _ => False
theorem rgD_denV {K : PySem.W.Frag} {H : Hp} (i j : Int) : DenL K H (rgD i (j - i).toNat) (rgV i j) := by
  unfold rgD rgV
  generalize List.range (j - i).toNat = l
  induction l with
  | nil => exact .nil
  | cons x r ih => exact .cons (.int _) ih
theorem e_listRg1 (o : Ob X DI N sc k fns cs bl fc) (ha : PE X e (lft X.K DI a)) (h : (okB bl sc "list" (.type "list") && (okB bl sc "range" (.type "range") && nStar e)) = true := by kernel_rfl) : PE X (.Call (.Name "list" p) [.Call (.Name "range" p2) [e] [] q] [] pos) (lft X.K DI (wListRg1 a)) := by
  simp only [Bool.and_eq_true] at h
  obtain ⟨h1, h2, h3⟩ := h
  obtain ⟨m1, g1, _⟩ := okB_ok o h1
  obtain ⟨m2, g2, _⟩ := okB_ok o h2
  refine (peLQ (pe_listRg o.hc g1 m1 (prg_1 g2 m2 ha (star_cons h3)) rfl)).imp fun σ H Q z => ?_
  obtain ⟨F, ρ, S, R, rel, env, w, fin⟩ := z
  refine ⟨F, ρ, S, _, rel, env, w, fun d S1 v H1 q1 rel1 k1 d1 => ?_⟩
  split at q1
  · cases d1
    obtain ⟨b1, b2, b3, b4, b5, q2⟩ := q1
    exact ⟨_, rfl, ⟨b1, b2, b3, b4, by omega⟩, fun p hp => (fin.up k1).lst q2 rel1 (.refl _) (rgD_denV 0 _) hp⟩
  · exact q1.elim
theorem e_listRg2 (o : Ob X DI N sc k fns cs bl fc) (ha : PE X e (lft X.K DI a)) (hb : PE X e2 (lft X.K DI b)) (h : (okB bl sc "list" (.type "list") && (okB bl sc "range" (.type "range") && (nStar e && nStar e2))) = true := by kernel_rfl) : PE X (.Call (.Name "list" p) [.Call (.Name "range" p2) [e, e2] [] q] [] pos) (lft X.K DI (wListRg2 a b)) := by
  simp only [Bool.and_eq_true] at h
  obtain ⟨h1, h2, h3, h4⟩ := h
  obtain ⟨m1, g1, _⟩ := okB_ok o h1
  obtain ⟨m2, g2, _⟩ := okB_ok o h2
  refine (peLQ (pe_listRg o.hc g1 m1 (prg_2 g2 m2 ha hb (star_cons h3) (star_cons h4) (star_pl (by simp [h4]))) rfl)).imp fun σ H Q z => ?_
  obtain ⟨F, ρ, S, R, rel, env, w, fin⟩ := z
  refine ⟨F, ρ, S, _, rel, env, w, fun d S1 v H1 q1 rel1 k1 d1 => ?_⟩
  refine ⟨F, ρ, S1, _, rel1, env.mn k1, q1, fun d2 S2 v2 H2 q2 rel2 k2 d2' => ?_⟩
  split at q2
  · cases d1
    cases d2'
    obtain ⟨b1, b2, b3, b4, b5, q3⟩ := q2
    exact ⟨_, _, rfl, rfl, ⟨b1, b2, b3, b4, by omega⟩, fun p hp => (fin.up (k1.trans k2)).lst q3 rel2 (.refl _) (rgD_denV _ _) hp⟩
  · exact q2.elim
/-! x + y, the new list known by its address -/
def oAddN : W2 := fun x y S Q => match asL S x, asL S y with
  | some xs, some ys => xs.length + ys.length ≤ sizeLine ∧ ∀ p, S.g p = none → Q (.ref p) (S.set p (.lst (xs ++ ys)))
  | _, _ => False
theorem dop_addN : OpR X (binaryOp .Add) (lft2 X.K DI oAddN) := by
  refine OpR.imp op_catR fun v u H Q h => ?_
  obtain ⟨F, x, y, S, R, rel, d1, d2, w, f⟩ := h
  unfold oAddN at w
  split at w
  · rename_i xs ys q1 q2
    obtain ⟨a, vs, rfl, t1, e1⟩ := asL_ok rel d1 q1
    obtain ⟨b, us, rfl, t2, e2⟩ := asL_ok rel d2 q2
    have l1 := e1.length
    have l2 := e2.length
    exact ⟨a, b, vs, us, rfl, rfl, t1, t2, by omega, fun p hp => f.newL (w.2 p (rel.free hp)) rel (.refl H) (e1.append e2) hp⟩
  · exact w.elim
theorem e_addN (ha : PE X e (lft X.K DI a)) (hb : PE X e2 (lft X.K DI b)) : PE X (.BinOp e .Add e2 pos) (lft X.K DI (wOp oAddN a b)) := de_op dop_addN ha hb
/-! l.index(x) -/
def fIndex : D → WF := fun d ds S Q => match asL S d, ds with
  | some xs, [y] => pureL xs = true ∧ nodL xs = true ∧ depL xs ≤ 60 ∧ cmp? y = true ∧ ∃ j z, xs[j]? = some z ∧ eqb z y = true ∧ (∀ m z', m < j → xs[m]? = some z' → eqb z' y = false) ∧ Q (.int (j : Nat)) S
  | _, _ => False
theorem dm_index (hu : X.A.units + 65 < cLine) : MtR X "list.index" (lftM X.K DI fIndex) := MtR.imp (mt_indexD hu) fun x xs H Q q => by
  obtain ⟨F, d, ds, S, R, rel, den, dl, w, f⟩ := q
  unfold fIndex at w
  split at w
  · rename_i xs' y e
    obtain ⟨p1, n1, dp, cy, j, z, e1, e2, e3, r⟩ := w
    obtain ⟨b, vs, rfl, t, dxs⟩ := asL_ok rel den e
    obtain ⟨u, rfl, du⟩ := dl.oneV
    obtain ⟨c1, c2⟩ := cmp_parts cy
    have hl : cmp? (.lst xs') = true := by
      have e : dep (.lst xs') ≤ 64 := by rw [dep]; omega
      unfold cmp?
      rw [pure?, nod?, p1, n1, decide_eq_true e]
      rfl
    have s1 := cmp_shaped hl
    rw [dat] at s1
    refine ⟨b, u, dat y, datL xs', j, dat z, rfl, rfl, .lst (.inl t) (DenL.dp _ _ p1 n1 dxs), Den.dp _ _ c1 c2 du, s1, cmp_shaped cy, by rw [datL_map, List.getElem?_map, e1]; rfl, e2, fun m z' hm hz => ?_, f.at0 r rel (.int _)⟩
    rw [datL_map, List.getElem?_map] at hz
    obtain ⟨z2, h1, h2⟩ := Option.map_eq_some_iff.mp hz
    rw [← h2]
    exact e3 m z2 hm h1
  · exact w.elim
theorem e_index (o : Ob X DI N sc k fns cs bl fc) (ho : PE X e (lft X.K DI a)) (ha : PAn X (e2 :: es) (lftA X.K DI wa)) (h : (nBase e && ((apos.endLine == pos.line) && ((e2 :: es).all nStar && decide ((e2 :: es).length < 30)))) = true := by kernel_rfl) : PE X (.Call (.Attribute e "index" apos) (e2 :: es) [] pos) (lft X.K DI (wMl fIndex a wa)) :=
  m_list PySem.F.slot_list_index PySem.F.type_list_index (dm_index (by have := o.u; omega)) ho ha h
end
end Dv

/-! Dv37: a comprehension stored in a cell; readings of Dv30..Dv36 told by equations. -/
namespace Dv
open PySem PySem.Spec L2
open PyProof.Rows hiding St
section
variable {X : Cx} {DI : Addr → GH → Prop} {N : List Str} {sc : Scope} {k : Nat} {fns : List Fn} {cs : List (Str × D)} {bl : List Str} {fc : Bool}
variable {p2 pos : Pos} {e e2 : Expr} {a b : W} {wa : WA} {tg : Expr} {ifs : List Expr} {scope : Scope} {wi : WI} {t : TG} {g : WG} {ta : WT}
def okCl (fc : Bool) (N : List Str) (sc : Scope) (i : Nat) (y : Str) : Bool := okT fc N sc i y && !decide (sc.names.lookup y = some .local)
theorem sw_cell {y : Str} {py lpos : Pos} {gens : List Comprehension} {l : Nat} (o : Ob X DI N sc k fns cs bl fc) (h : (!decide (sc.names.lookup y = some .local)) = true) : swapsWith (.ListComp e2 gens scope lpos) (some (.Name y py)) l X.env = pure false := by
  show pure _ = _
  have b2 : (X.env.kindOf y == some .local) = false := by
    show (X.env.scope.names.lookup y == some .local) = false
    rw [o.hsc]
    have h' : sc.names.lookup y ≠ some .local := by simpa using h
    cases q : sc.names.lookup y with
    | none => rfl
    | some z => rw [q] at h'; cases z <;> first | rfl | exact absurd rfl h'
  rw [b2]
  simp
theorem s_cell {y : Str} {py : Pos} (o : Ob X DI N sc k fns cs bl fc) (i : Nat) (own : List (Str × Nat)) (hi : PI X tg e (lftI X.K DI wi)) (hg : CG X.K DI N (relS scope sc) k fns cs bl tg (own.map (·.2)) t g) (ht : ∀ Y : Cx, Y.K = X.K → Ob Y DI N (relS scope sc) k fns cs bl false → PTs Y ifs (lftT Y.K DI ta))
    (he : ∀ Y : Cx, Y.K = X.K → Ob Y DI N (relS scope sc) k fns cs bl false → PE Y e2 (lft Y.K DI a)) (h : (blkC N sc scope own && nSet e) = true := by kernel_rfl) (h2 : okCl fc N sc i y = true := by kernel_rfl) : PS X (.Assign [.Name y py] (.ListComp e2 [⟨tg, e, ifs, 0⟩] scope p2) pos) (lftS X.K DI (wAsg (wLc wi g ta a (own.map (·.2))) (gN i))) := by
  unfold okCl okT at h2
  simp only [Bool.and_eq_true, decide_eq_true_eq] at h2
  obtain ⟨⟨h3, h4⟩, h5⟩ := h2
  obtain ⟨l1, l2⟩ := loc_of o h4
  exact ds_set (by rw [o.hN]; exact o.nd) (by rw [o.hN]; exact h3) l1 (de_lc (lc_txt o hi hg ht he h)) (sw_cell o h5) l2
theorem s_cellN {y : Str} {py : Pos} (o : Ob X DI N sc k fns cs bl fc) (i : Nat) (own : List (Str × Nat)) (hi : PI X tg e (lftI X.K DI wi)) (hg : CG X.K DI N (relS scope sc) k fns cs bl tg (own.map (·.2)) t g) (ht : ∀ Y : Cx, Y.K = X.K → Ob Y DI N (relS scope sc) k fns cs bl false → PTs Y ifs (lftT Y.K DI ta))
    (he : ∀ Y : Cx, Y.K = X.K → Ob Y DI N (relS scope sc) k fns cs bl false → PE Y e2 (lft Y.K DI a)) (h : (blkC N sc scope own && nSet e) = true := by kernel_rfl) (h2 : okCl fc N sc i y = true := by kernel_rfl) : PS X (.Assign [.Name y py] (.ListComp e2 [⟨tg, e, ifs, 0⟩] scope p2) pos) (lftS X.K DI (wAsg (wLcN wi g ta a (own.map (·.2))) (gN i))) := by
  unfold okCl okT at h2
  simp only [Bool.and_eq_true, decide_eq_true_eq] at h2
  obtain ⟨⟨h3, h4⟩, h5⟩ := h2
  obtain ⟨l1, l2⟩ := loc_of o h4
  exact ds_set (by rw [o.hN]; exact o.nd) (by rw [o.hN]; exact h3) l1 (de_lcN (lc_txt o hi hg ht he h)) (sw_cell o h5) l2
variable {ρ : Env} {S : GS} {Q : D → GS → Prop}
theorem turn_name {i : Nat} {te : W} {d : D} {Q : Option D → GS → Prop} : turnLc (gN i) wYes te ρ d S Q = te (ρ.set i (some d)) S fun y S' => Q (some y) S' := propext ⟨id, id⟩
theorem turn_nameT {i : Nat} {tt : WT} {te : W} {d : D} {Q : Option D → GS → Prop} : turnLc (gN i) tt te ρ d S Q = tt (ρ.set i (some d)) S fun b S2 => if b = true then te (ρ.set i (some d)) S2 fun y S' => Q (some y) S' else Q none S2 := propext ⟨id, id⟩
theorem x_zipR : wDictZipR DI false a b ρ S Q = a ρ S fun x S1 => b ρ S1 fun y S2 => (match asQ S2 x, y with
  | some xs, .int n => -(2 ^ 62) ≤ n ∧ n < 2 ^ 62 ∧ (match zipK xs (rgD 0 n.toNat) with
      | some l => Q (.dct (mergeD [] l)) S2
      | none => False)
  | _, _ => False) := propext ⟨id, id⟩
theorem x_zipD : wDictZip DI false wa ρ S Q = wa ρ S fun ds S1 => (match ds with
  | [x, y] => match asQ S1 x, asQ S1 y with
    | some xs, some ys => match zipK xs ys with
      | some l => Q (.dct (mergeD [] l)) S1
      | none => False
    | _, _ => False
  | _ => False) := propext ⟨id, id⟩
theorem x_listRg1 : wListRg1 a ρ S Q = a ρ S fun d S1 => (match d with
  | .int n => kRg 0 n S1 Q
  | _ => False) := propext ⟨id, id⟩
theorem x_listRg2 : wListRg2 a b ρ S Q = a ρ S fun d S1 => b ρ S1 fun d2 S2 => (match d, d2 with
  | .int i, .int j => kRg i j S2 Q
  | _, _ => False) := propext ⟨id, id⟩
theorem x_sortItems : wSortItems a ρ S Q = a ρ S fun d S1 => (match asK S1 d with
  | some kvs => SortOk (kvs.map pairD) ∧ Q (.lst (sortD (kvs.map pairD))) S1
  | none => False) := propext ⟨id, id⟩
theorem x_listItems : wListItems false a ρ S Q = a ρ S fun d S1 => (match asK S1 d with
  | some kvs => Q (.lst (kvs.map pairD)) S1
  | none => False) := propext ⟨id, id⟩
end
end Dv

/-! Dv38: comprehensions told by a partial map; turns with two and three names; lists of ints compared. -/
namespace Dv
open PySem PySem.Spec L2
open PyProof.Rows hiding St
section
variable {ρ : Env} {S : GS}
theorem lc_fm {wi : WI} {g : WG} {tt : WT} {te : W} {vs : List Nat} {Q : List D → GS → Prop} {ds : List D} {gd : Gd} (f : D → Option D) (hi : ∀ Q : List D → Gd → GS → Prop, Q ds gd S → wi ρ S Q) (hgd : gdOk gd S) (hz : ds.length ≤ sizeLine)
    (ht : ∀ d ∈ ds, ∀ Q : Option D → GS → Prop, Q (f d) S → turnLc g tt te (wipeD ρ vs) d S Q) (hQ : Q (ds.filterMap f) S) : wLcB wi g tt te vs ρ S Q := by
  refine lc_run (fun d o => o = f d) hi hgd hz (fun d m Q q => ht d m Q (q _ rfl)) fun os hl h => ?_
  have : os = ds.map f := by
    apply List.ext_getElem?
    intro i
    rw [List.getElem?_map]
    cases q : ds[i]? with
    | none => rw [List.getElem?_eq_none (by rw [hl]; exact List.getElem?_eq_none_iff.mp q)]; rfl
    | some d =>
      have hi : i < os.length := by rw [hl]; exact (List.getElem?_eq_some_iff.mp q).1
      have e := List.getElem?_eq_getElem hi
      rw [e, h i d _ q e]
      rfl
  rw [this, List.filterMap_map]
  exact hQ
variable {i j l : Nat} {te : W} {tt : WT} {a b c : D} {Q : Option D → GS → Prop}
theorem turn_pr : turnLc (gT 2 (gsCons (gN i) (gsCons (gN j) gsNil))) tt te ρ (.pr [a, b]) S Q = tt ((ρ.set i (some a)).set j (some b)) S fun t S2 => if t = true then te ((ρ.set i (some a)).set j (some b)) S2 fun y S' => Q (some y) S' else Q none S2 :=
  propext ⟨fun h => h.2.2, fun h => ⟨rfl, rfl, h⟩⟩
theorem turn_tup : turnLc (gT 2 (gsCons (gN i) (gsCons (gN j) gsNil))) tt te ρ (.tup [a, b]) S Q = tt ((ρ.set i (some a)).set j (some b)) S fun t S2 => if t = true then te ((ρ.set i (some a)).set j (some b)) S2 fun y S' => Q (some y) S' else Q none S2 :=
  propext ⟨fun h => h.2.2, fun h => ⟨rfl, rfl, h⟩⟩
theorem turn_tup3 : turnLc (gT 3 (gsCons (gN i) (gsCons (gN j) (gsCons (gN l) gsNil)))) tt te ρ (.tup [a, b, c]) S Q = tt (((ρ.set i (some a)).set j (some b)).set l (some c)) S fun t S2 => if t = true then te (((ρ.set i (some a)).set j (some b)).set l (some c)) S2 fun y S' => Q (some y) S' else Q none S2 :=
  propext ⟨fun h => h.2.2, fun h => ⟨rfl, rfl, h⟩⟩
end
theorem eqb_ints : ∀ l m : List Int, eqb (.lst (l.map D.int)) (.lst (m.map D.int)) = decide (l = m) := by
  have key : ∀ l m : List Int, PyData.eqvAll (datL (l.map D.int)) (datL (m.map D.int)) = decide (l = m) := by
    intro l
    induction l with
    | nil => intro m; cases m <;> rfl
    | cons x r ih =>
      intro m
      cases m with
      | nil => rfl
      | cons y s =>
        show (PyData.eqv (.int x) (.int y) && PyData.eqvAll (datL (r.map D.int)) (datL (s.map D.int))) = _
        rw [ih]
        by_cases h : x = y
        · subst h; simp [PyData.eqv]
        · simp [PyData.eqv, h]
  exact key
end Dv

/-! Dv39: dicts by key, read, tested and asked; lists of numbers from 0 on. -/
namespace Dv
open PySem PySem.Spec L2
open PyProof.Rows hiding St
section
variable {S : GS} {Q : D → GS → Prop} {d y v : D} {kvs : List (Key × D)} {key : Key}
theorem ix_key (hk : asK S d = some kvs) (hq : asQ S d = none) (e : keyOf y = some key) (l : look key kvs = some v) : oIx d y S Q = Q v S := by
  unfold oIx
  split
  · rename_i z i; cases hk
  · rename_i x y' hne
    simp only [hq, hk, e, l]
theorem in_key (fl : Bool → Bool) (hk : asK S d = some kvs) (hq : asQ S d = none) (e : keyOf y = some key) : oInG fl y d S Q = Q (.bl (fl (has key kvs))) S := by
  unfold oInG
  split
  · cases hk
  · simp only [hq, hk, e]
theorem asQ_dct : asQ S (.dct kvs) = none := rfl
theorem asQ_dref {p : Addr} (h : S.g p = some (.dct kvs)) : asQ S (.ref p) = none := by simp only [asQ, asL, h]
theorem asK_dref {p : Addr} (h : S.g p = some (.dct kvs)) : asK S (.ref p) = some kvs := by simp only [asK, h]
theorem asQ_lref {p : Addr} {ds : List D} (h : S.g p = some (.lst ds)) : asQ S (.ref p) = some ds := by simp only [asQ, asL, h]
/-- numbers from 0 on -/
def keyN (n : Nat) : Key := .inl (n : Int)
def natD (n : Nat) : D := .int (n : Nat)
theorem keyN_inj (a b : Nat) (h : keyN a = keyN b) : a = b := by
  have : (a : Int) = b := by injection h
  omega
theorem keyOf_nat (n : Nat) : keyOf (.int (n : Nat)) = some (keyN n) := rfl
theorem eqb_nat (a b : Nat) : eqb (natD a) (natD b) = decide (a = b) := by
  show PyData.eqv (.int a) (.int b) = _
  by_cases h : a = b
  · subst h; simp [PyData.eqv]
  · have : (a : Int) ≠ b := by omega
    simp [PyData.eqv, h, this]
theorem any_nats {m : Nat} : ∀ l : List Nat, ((l.map natD).any fun z => eqb z (natD m)) = decide (m ∈ l)
  | [] => rfl
  | x :: r => by
    rw [List.map_cons, List.any_cons, any_nats r, eqb_nat]
    by_cases h : x = m
    · subst h; simp
    · have h' : m ≠ x := fun z => h z.symm
      simp [h, h']
theorem pure_nats (l : List Nat) : pureL (l.map natD) = true ∧ nodL (l.map natD) = true ∧ depL (l.map natD) = 0 := by
  induction l with
  | nil => exact ⟨rfl, rfl, rfl⟩
  | cons x r ih => simp [natD, pureL, nodL, depL, pure?, nod?, dep, ih.1, ih.2.1, ih.2.2]
theorem in_nats (fl : Bool → Bool) {m : Nat} {l : List Nat} (hq : asQ S d = some (l.map natD)) : oInG fl (.int (m : Nat)) d S Q = Q (.bl (fl (decide (m ∈ l)))) S := by
  obtain ⟨p1, p2, _⟩ := pure_nats l
  have e : ((l.map natD).any fun z => eqb z (snap S (.int (m : Nat)))) = decide (m ∈ l) := any_nats l
  have c : cmp? (snap S (.int (m : Nat))) = true := rfl
  unfold oInG
  split
  · cases hq
  · rename_i hne
    simp only [hq, e, c, p1, p2, true_and]
theorem itemC_nat (n : Nat) : itemC (natD n) = true := rfl
/-- [n for n ..] over a dict by functions -/
theorem put_new : ∀ {l : List (Key × D)} {k : Key}, (∀ p ∈ l, p.1 ≠ k) → put k v l = l ++ [(k, v)] := by
  intro l k h
  have e : ∀ l : List (Key × D), (∀ p ∈ l, p.1 ≠ k) → look k l = none := by
    intro l
    induction l with
    | nil => exact fun _ => rfl
    | cons x r ih =>
      intro h
      unfold look
      rw [if_neg (h x (by simp))]
      exact ih fun p m => h p (List.mem_cons_of_mem _ m)
  have e2 : has k l = false := by
    unfold has
    rw [e l h]
    rfl
  unfold put
  rw [e2]
  rfl
theorem merge_new : ∀ {l acc : List (Key × D)}, (acc ++ l).Pairwise (fun a b => a.1 ≠ b.1) → mergeD acc l = acc ++ l
  | [], acc, _ => by rw [List.append_nil]; rfl
  | x :: r, acc, h => by
    show mergeD (put x.1 x.2 acc) r = _
    have hx : ∀ p ∈ acc, p.1 ≠ x.1 := fun p m => (List.pairwise_append.mp h).2.2 p m x (by simp)
    rw [put_new hx, merge_new (by rw [List.append_assoc]; exact h), List.append_assoc]
    rfl
theorem merge_dF {α : Type} {kf : α → Key} {f : α → D} {l : List α} (inj : ∀ a b, kf a = kf b → a = b) (nd : l.Nodup) : mergeD [] (dF kf f l) = dF kf f l := by
  refine merge_new (acc := []) ?_
  show (dF kf f l).Pairwise _
  unfold dF
  rw [List.pairwise_map]
  exact nd.imp fun h e => h (inj _ _ e)
/-- pairs that are a dict's -/
theorem pairs_dF {α : Type} (kf : α → Key) (f : α → D) (yf : α → D) (h : ∀ a, keyOf (yf a) = some (kf a)) : ∀ l : List α, pairsK (l.map fun a => .tup [yf a, f a]) = some (dF kf f l)
  | [] => rfl
  | x :: r => by
    rw [List.map_cons]
    unfold pairsK
    simp only [h x, pairs_dF kf f yf h r]
    rfl
theorem zip_dF {α : Type} (kf : α → Key) (yf : α → D) (h : ∀ a, keyOf (yf a) = some (kf a)) : ∀ (l : List α) (f : α → D) (zs : List D), zs = l.map f → zipK (l.map yf) zs = some (dF kf f l)
  | [], f, zs, e => by subst e; rfl
  | x :: r, f, zs, e => by
    subst e
    rw [List.map_cons, List.map_cons]
    unfold zipK
    simp only [h x, zip_dF kf yf h r f _ rfl]
    rfl
/-- places in a list -/
theorem rg_idx {l : List Nat} (nd : l.Nodup) : rgD 0 l.length = l.map fun n => natD (l.idxOf n) := by
  apply List.ext_getElem?
  intro i
  unfold rgD
  rw [List.getElem?_map, List.getElem?_map]
  by_cases h : i < l.length
  · rw [List.getElem?_eq_getElem (by simpa using h), List.getElem?_eq_getElem h]
    simp only [Option.map_some, List.getElem_range]
    rw [List.Nodup.idxOf_getElem nd i h]
    show some (D.int (0 + (i : Int))) = some (D.int (i : Int))
    rw [Int.zero_add]
  · rw [List.getElem?_eq_none (by simp; omega), List.getElem?_eq_none (by omega)]
    rfl
end
end Dv

/-! Dv40: a for whose walked thing is made on the way. -/
namespace Dv
open PySem PySem.Spec L2
open PyProof.Rows hiding St
/-- what is left of a for once its walked thing is known (S0: what need not be forgotten) -/
theorem for_body {g : WG} {b : WS} {R : WEnds} {ρ : Env} {S : GS} {ds : List D} {gd : Gd} (P : List D → Env → GS → Prop) (S0 : GS) (l0 : Less S0 S) (h0 : P ds ρ S0)
    (hs : ∀ d r ρ S, P (d :: r) ρ S → gdOk gd S ∧ ∃ ρ', (∀ S2 (Q : Env → GS → Prop), Q ρ' S2 → g d ρ S2 Q) ∧ b (WEnds.less { nx := P r, ct := P r, bk := R.nx, rt := R.rt }) ρ' S)
    (he : ∀ ρ S, P [] ρ S → gdOk gd S ∧ R.nx ρ S) : ∃ P : List D → Env → GS → Prop, P ds ρ S ∧
  (∀ d r ρ S, P (d :: r) ρ S → gdOk gd S ∧ g d ρ S fun ρ' S' => wL b { WEnds.less R with nx := P r, ct := P r, bk := (WEnds.less R).nx } ρ' S') ∧ ∀ ρ S, P [] ρ S → gdOk gd S ∧ (WEnds.less R).nx ρ S := by
  have ok : ∀ {S2 S : GS}, Less S2 S → gdOk gd S2 → gdOk gd S := fun {S2 S} l => by
    clear hs he h0
    induction gd with
    | nil => exact fun _ => trivial
    | cons x r ih => exact fun h => ⟨l.1 _ _ h.1, ih h.2⟩
  refine ⟨fun r ρ S => ∃ S2, Less S2 S ∧ P r ρ S2, ⟨S0, l0, h0⟩, ?_, ?_⟩
  · rintro d r ρ S ⟨S2, l, p⟩
    obtain ⟨h1, ρ', h2, h3⟩ := hs d r ρ S2 p
    refine ⟨ok l h1, h2 S _ ⟨S2, l, ?_⟩⟩
    have e2 : WEnds.less { nx := fun ρ S => ∃ S2, Less S2 S ∧ P r ρ S2, ct := fun ρ S => ∃ S2, Less S2 S ∧ P r ρ S2, bk := (WEnds.less R).nx, rt := (WEnds.less R).rt } = WEnds.less { nx := P r, ct := P r, bk := R.nx, rt := R.rt } := by
      unfold WEnds.less
      simp only [less_lift]
    exact e2 ▸ h3
  · rintro ρ S ⟨S2, l, p⟩
    obtain ⟨h1, h2⟩ := he ρ S2 p
    exact ⟨ok l h1, S2, l, h2⟩
section
variable {S : GS} {Q : D → GS → Prop}
theorem cmp_str {a : Str} (ha : PyData.strOk a = true) : cmp? (.str a) = true := by simp [cmp?, pure?, nod?, dep, ha]
theorem eq_strs {a b : Str} (ha : PyData.strOk a = true) (hb : PyData.strOk b = true) : oEq (.str a) (.str b) S Q = Q (.bl (decide (a = b))) S := by
  unfold oEq
  simp only [snap, cmp_str ha, cmp_str hb, true_and, eqb_str]
theorem ne_strs {a b : Str} (ha : PyData.strOk a = true) (hb : PyData.strOk b = true) : oNe (.str a) (.str b) S Q = Q (.bl (!decide (a = b))) S := by
  unfold oNe
  simp only [snap, cmp_str ha, cmp_str hb, true_and, eqb_str]
theorem eqb_int (i j : Int) : eqb (.int i) (.int j) = decide (i = j) := by
  show PyData.eqv (.int i) (.int j) = _
  by_cases h : i = j
  · subst h; simp [PyData.eqv]
  · simp [PyData.eqv, h]
theorem eq_ints {i j : Int} : oEq (.int i) (.int j) S Q = Q (.bl (decide (i = j))) S := by
  have c : ∀ i : Int, cmp? (.int i) = true := fun _ => rfl
  unfold oEq
  simp only [snap, c, true_and, eqb_int]
theorem ne_ints {i j : Int} : oNe (.int i) (.int j) S Q = Q (.bl (!decide (i = j))) S := by
  have c : ∀ i : Int, cmp? (.int i) = true := fun _ => rfl
  unfold oNe
  simp only [snap, c, true_and, eqb_int]
theorem eq_bls {i j : Bool} : oEq (.bl i) (.bl j) S Q = Q (.bl (i == j)) S := by
  unfold oEq
  cases i <;> cases j <;> exact propext ⟨fun h => h.2.2, fun h => ⟨rfl, rfl, h⟩⟩
theorem ne_bls {i j : Bool} : oNe (.bl i) (.bl j) S Q = Q (.bl (!(i == j))) S := by
  unfold oNe
  cases i <;> cases j <;> exact propext ⟨fun h => h.2.2, fun h => ⟨rfl, rfl, h⟩⟩
theorem keyOf_natD (n : Nat) : keyOf (natD n) = some (keyN n) := rfl
theorem dec_nat (a b : Nat) : decide ((a : Int) = (b : Int)) = decide (a = b) := by
  by_cases h : a = b
  · subst h; simp
  · have : (a : Int) ≠ b := by omega
    simp [h, this]
theorem ne_nat {a b : Nat} : oNe (natD a) (natD b) S Q = Q (.bl (!decide (a = b))) S := by
  rw [← dec_nat]
  exact ne_ints
theorem eq_nat {a b : Nat} : oEq (natD a) (natD b) S Q = Q (.bl (decide (a = b))) S := by
  rw [← dec_nat]
  exact eq_ints
theorem set_key {p : Addr} {i v : D} {kvs : List (Key × D)} {key : Key} {Q : GS → Prop} (h : S.g p = some (.dct kvs)) (e : keyOf i = some key) : oSet (.ref p) i v S Q = (kvs.length < sizeLine ∧ Q (S.set p (.dct (put key v kvs)))) := by
  unfold oSet
  simp only [h, e]
end
/-! ### maps over lists of numbers -/
def fmN (p : Nat → Bool) (it : Nat → D) : D → Option D
  | .int i => if p i.toNat = true then some (it i.toNat) else none
  | _ => none
def mapN (it : Nat → D) : D → D
  | .int i => it i.toNat
  | _ => .non
theorem fmN_nat {p : Nat → Bool} {it : Nat → D} {n : Nat} : fmN p it (natD n) = if p n = true then some (it n) else none := rfl
theorem mapN_nat {it : Nat → D} {n : Nat} : mapN it (natD n) = it n := rfl
theorem fm_nats (p : Nat → Bool) (it : Nat → D) : ∀ l : List Nat, (l.map natD).filterMap (fmN p it) = (l.filter p).map it
  | [] => rfl
  | x :: r => by
    rw [List.map_cons, List.filterMap_cons, List.filter_cons, fmN_nat, fm_nats p it r]
    cases q : p x <;> rfl
theorem map_nats (it : Nat → D) (l : List Nat) : (l.map natD).map (mapN it) = l.map it := by
  rw [List.map_map]
  rfl
def mapS (it : Str → D) : D → D
  | .str x => it x
  | _ => .non
theorem map_strs (it : Str → D) (l : List Str) : (l.map D.str).map (mapS it) = l.map it := by
  rw [List.map_map]
  rfl
/-! ### turns, with what is then known told -/
section
variable {ρ ρ' : Env} {S : GS} {i j l : Nat} {te : W} {tt : WT} {a b c : D} {Q : Option D → GS → Prop}
theorem turn_nE (ρ' : Env) (e : ρ.set i (some a) = ρ') (h : te ρ' S fun y S' => Q (some y) S') : turnLc (gN i) wYes te ρ a S Q := by subst e; exact h
theorem turn_nT (ρ' : Env) (e : ρ.set i (some a) = ρ') (h : tt ρ' S fun t S2 => if t = true then te ρ' S2 fun y S' => Q (some y) S' else Q none S2) : turnLc (gN i) tt te ρ a S Q := by subst e; exact h
theorem turn_prT (ρ' : Env) (e : (ρ.set i (some a)).set j (some b) = ρ') (h : tt ρ' S fun t S2 => if t = true then te ρ' S2 fun y S' => Q (some y) S' else Q none S2) : turnLc (gT 2 (gsCons (gN i) (gsCons (gN j) gsNil))) tt te ρ (.pr [a, b]) S Q := by subst e; rw [turn_pr]; exact h
theorem turn_tupT (ρ' : Env) (e : (ρ.set i (some a)).set j (some b) = ρ') (h : tt ρ' S fun t S2 => if t = true then te ρ' S2 fun y S' => Q (some y) S' else Q none S2) : turnLc (gT 2 (gsCons (gN i) (gsCons (gN j) gsNil))) tt te ρ (.tup [a, b]) S Q := by subst e; rw [turn_tup]; exact h
theorem turn_tupE (ρ' : Env) (e : (ρ.set i (some a)).set j (some b) = ρ') (h : te ρ' S fun y S' => Q (some y) S') : turnLc (gT 2 (gsCons (gN i) (gsCons (gN j) gsNil))) wYes te ρ (.tup [a, b]) S Q := by subst e; rw [turn_tup]; exact h
theorem turn_tup3E (ρ' : Env) (e : ((ρ.set i (some a)).set j (some b)).set l (some c) = ρ') (h : te ρ' S fun y S' => Q (some y) S') : turnLc (gT 3 (gsCons (gN i) (gsCons (gN j) (gsCons (gN l) gsNil)))) wYes te ρ (.tup [a, b, c]) S Q := by subst e; rw [turn_tup3]; exact h
theorem for_L3 {wi : WI} {g : WG} {b : WS} {R : WEnds} (T : List D → Gd → GS → Prop) (hi : ∀ Q : List D → Gd → GS → Prop, (∀ ds gd S1, T ds gd S1 → Q ds gd S1) → wi ρ S Q)
    (hb : ∀ ds gd S1, T ds gd S1 → ∃ P : List D → Env → GS → Prop, P ds ρ S1 ∧
  (∀ d r ρ S, P (d :: r) ρ S → gdOk gd S ∧ g d ρ S fun ρ' S' => wL b { WEnds.less R with nx := P r, ct := P r, bk := (WEnds.less R).nx } ρ' S') ∧ ∀ ρ S, P [] ρ S → gdOk gd S ∧ (WEnds.less R).nx ρ S) : wL (wFor wi g (wL b)) R ρ S :=
  ⟨S, .refl S, hi _ hb⟩
theorem for_L4 {wi : WI} {g : WG} {b : WS} {R : WEnds} (S0 : GS) (l : Less S0 S) (T : List D → Gd → GS → Prop) (hi : ∀ Q : List D → Gd → GS → Prop, (∀ ds gd S1, T ds gd S1 → Q ds gd S1) → wi ρ S0 Q)
    (hb : ∀ ds gd S1, T ds gd S1 → ∃ P : List D → Env → GS → Prop, P ds ρ S1 ∧
  (∀ d r ρ S, P (d :: r) ρ S → gdOk gd S ∧ g d ρ S fun ρ' S' => wL b { WEnds.less R with nx := P r, ct := P r, bk := (WEnds.less R).nx } ρ' S') ∧ ∀ ρ S, P [] ρ S → gdOk gd S ∧ (WEnds.less R).nx ρ S) : wL (wFor wi g (wL b)) R ρ S :=
  ⟨S0, l, hi _ hb⟩
end
theorem rgD_nat (n : Nat) : rgD 1 n = ((List.range n).map (· + 1)).map natD := by
  unfold rgD
  rw [List.map_map]
  refine List.map_congr_left fun i _ => ?_
  show D.int (1 + (i : Int)) = D.int ((i + 1 : Nat) : Int)
  congr 1
  omega
theorem addN_new {α : Type} [DecidableEq α] {l : List α} {x : α} (h : x ∉ l) : addN l x = l ++ [x] := if_neg h
theorem max_nat {S : GS} {Q : D → GS → Prop} {a b : Nat} : fMax [natD a, natD b] S Q = Q (natD (max a b)) S := by
  show Q (.int (if (b : Int) > (a : Int) then (b : Int) else (a : Int))) S = _
  by_cases h : b > a
  · have h' : (b : Int) > (a : Int) := by omega
    rw [if_pos h', Nat.max_eq_right (by omega)]
    rfl
  · have h' : ¬ (b : Int) > (a : Int) := by omega
    rw [if_neg h', Nat.max_eq_left (by omega)]
    rfl
theorem add_nat {S : GS} {Q : D → GS → Prop} {a b : Nat} : oAdd (natD a) (natD b) S Q = Q (natD (a + b)) S := rfl
end Dv

/-! Dv41: enumerated lists, partial maps in general, pairs of a name and a number. -/
namespace Dv
open PySem PySem.Spec L2
open PyProof.Rows hiding St
theorem fm_gen {α : Type} {g : α → D} {f : D → Option D} {p : α → Bool} {it : α → D} (h : ∀ a, f (g a) = if p a = true then some (it a) else none) : ∀ l : List α, (l.map g).filterMap f = (l.filter p).map it
  | [] => rfl
  | x :: r => by
    rw [List.map_cons, List.filterMap_cons, List.filter_cons, h, fm_gen h r]
    cases q : p x <;> rfl
theorem enD_map {α : Type} (it : α → D) (z : α) : ∀ (l : List α) (n : Nat), enD n (l.map it) = (List.range l.length).map fun i => .pr [natD (n + i), it (l.getD i z)]
  | [], n => rfl
  | x :: r, n => by
    rw [List.map_cons, enD, enD_map it z r (n + 1), List.length_cons, List.range_succ_eq_map, List.map_cons, List.map_map]
    congr 1
    refine List.map_congr_left fun i _ => ?_
    show D.pr [natD (n + 1 + i), it (r.getD i z)] = D.pr [natD (n + (i + 1)), it ((x :: r).getD (i + 1) z)]
    rw [show n + 1 + i = n + (i + 1) by omega]
    rfl
theorem mul_nat {S : GS} {Q : D → GS → Prop} {a : Nat} {i : Int} (h : a ≤ 1000000) (q : Q (.int (a * i)) S) : oMul (natD a) (.int i) S Q := ⟨.inl (.inl ⟨by omega, by omega⟩), q⟩
/-- a name with a number -/
def nvD (p : Str × Int) : D := .tup [.str p.1, .int p.2]
def iiD (p : Int × Int) : D := .tup [.int p.1, .int p.2]
/-- lists within lists, one after the other, with a number for each -/
def storeL (vals : List Int) : Nat → List (List Str) → List (Str × Int)
  | _, [] => []
  | n, l :: r => l.map (fun x => (x, vals.getD n 0)) ++ storeL vals (n + 1) r
theorem mem_storeL {vals : List Int} {p : Str × Int} : ∀ {ls : List (List Str)} {n : Nat}, p ∈ storeL vals n ls ↔ ∃ j l, ls[j]? = some l ∧ p.1 ∈ l ∧ p.2 = vals.getD (n + j) 0
  | [], n => by simp [storeL]
  | x :: r, n => by
    rw [storeL, List.mem_append, mem_storeL]
    constructor
    · rintro (h | ⟨j, l, h1, h2, h3⟩)
      · obtain ⟨y, my, rfl⟩ := List.mem_map.mp h
        exact ⟨0, x, rfl, my, rfl⟩
      · exact ⟨j + 1, l, h1, h2, by rw [h3, show n + 1 + j = n + (j + 1) by omega]⟩
    · rintro ⟨j, l, h1, h2, h3⟩
      cases j with
      | zero =>
        cases h1
        exact .inl (List.mem_map.mpr ⟨p.1, h2, by rw [show (n : Nat) + 0 = n from rfl] at h3; rw [← h3]⟩)
      | succ j => exact .inr ⟨j, l, h1, h2, by rw [h3, show n + 1 + j = n + (j + 1) by omega]⟩
theorem storeL_fst (vals : List Int) : ∀ (ls : List (List Str)) (n : Nat), (storeL vals n ls).map (·.1) = ls.flatten
  | [], n => rfl
  | x :: r, n => by
    rw [storeL, List.map_append, storeL_fst vals r, List.map_map, List.flatten_cons]
    congr 1
    exact List.map_id _
theorem flat_nodup {α : Type} : ∀ {ls : List (List α)}, (∀ l ∈ ls, l.Nodup) → (∀ (i j : Nat) (li lj : List α) (x : α), ls[i]? = some li → ls[j]? = some lj → x ∈ li → x ∈ lj → i = j) → ls.flatten.Nodup
  | [], _, _ => List.nodup_nil
  | l :: r, h1, h2 => by
    rw [List.flatten_cons]
    refine List.nodup_append.mpr ⟨h1 l (by simp), flat_nodup (fun m k => h1 m (by simp [k])) (fun i j li lj x a b c d => ?_), fun a ma b mb => ?_⟩
    · have := h2 (i + 1) (j + 1) li lj x a b c d
      omega
    · rintro rfl
      obtain ⟨m, k1, k2⟩ := List.mem_flatten.mp mb
      obtain ⟨j, hj⟩ := List.mem_iff_getElem?.mp k1
      have := h2 0 (j + 1) l m a rfl hj ma k2
      omega
/-- a comprehension whose turns change what is known -/
theorem lc_gen {ρ : Env} {S : GS} {wi : WI} {g : WG} {tt : WT} {te : W} {vs : List Nat} {Q : List D → GS → Prop} {ds : List D} {gd : Gd} (P : List D → List D → GS → Prop) (hi : ∀ Q : List D → Gd → GS → Prop, Q ds gd S → wi ρ S Q) (h0 : P ds [] S)
    (hs : ∀ d r acc S, P (d :: r) acc S → gdOk gd S ∧ turnLc g tt te (wipeD ρ vs) d S fun o S' => match o with | some y => acc.length < sizeLine ∧ P r (acc ++ [y]) S' | none => P r acc S')
    (he : ∀ acc S, P [] acc S → gdOk gd S ∧ Q acc S) : wLcB wi g tt te vs ρ S Q := hi _ ⟨P, h0, hs, he⟩
/-! ### chains of cells -/
def csK (cs : List (Int × Int)) : List (Key × D) := cs.map fun p => (Sum.inl p.1, D.int p.2)
theorem cs_put {cs : List (Int × Int)} {i v : Int} (h : ∀ p ∈ cs, p.1 ≠ i) : put (.inl i) (.int v) (csK cs) = csK (cs ++ [(i, v)]) := by
  unfold csK
  rw [put_new fun q m => by
    obtain ⟨p, mp, rfl⟩ := List.mem_map.mp m
    intro e
    exact h p mp (by injection e)]
  rw [List.map_append]
  rfl
def openL : Int → List Int → List (Int × Int)
  | _, [] => []
  | a, x :: r => (a, x) :: openL x r
def chainL (a : Int) (ch : List Int) (e : Int) : List (Int × Int) := openL a ch ++ [(ch.getLastD a, e)]
theorem openL_snoc : ∀ (a : Int) (ch : List Int) (x : Int), openL a (ch ++ [x]) = openL a ch ++ [(ch.getLastD a, x)]
  | a, [], x => rfl
  | a, y :: r, x => by
    show (a, y) :: openL y (r ++ [x]) = (a, y) :: (openL y r ++ [((y :: r).getLastD a, x)])
    rw [openL_snoc y r x]
    cases r <;> rfl
theorem openL_len : ∀ (a : Int) (ch : List Int), (openL a ch).length = ch.length
  | a, [] => rfl
  | a, y :: r => by show (openL y r).length + 1 = r.length + 1; rw [openL_len]
theorem openL_key : ∀ {a : Int} {ch : List Int} {p : Int × Int}, p ∈ openL a ch → p.1 = a ∨ p.1 ∈ ch.dropLast
  | a, [], p, m => by cases m
  | a, y :: r, p, m => by
    rcases List.mem_cons.mp m with m | m
    · rw [m]; exact .inl rfl
    · cases r with
      | nil => cases m
      | cons z s =>
        rcases openL_key m with q | q
        · rw [q]; exact .inr (by simp)
        · exact .inr (by rw [List.dropLast_cons₂]; exact List.mem_cons_of_mem _ q)
def heapL (vals : List Int) : List (Nat × Str × Nat) → List (List Int) → List (Int × Int)
  | a :: as, ch :: chs => chainL (vals.getD a.1 0) ch (vals.getD a.2.2 0) ++ heapL vals as chs
  | _, _ => []
theorem heapL_snoc {vals : List Int} {a : Nat × Str × Nat} {ch : List Int} : ∀ {as : List (Nat × Str × Nat)} {chs : List (List Int)}, as.length = chs.length → heapL vals (as ++ [a]) (chs ++ [ch]) = heapL vals as chs ++ chainL (vals.getD a.1 0) ch (vals.getD a.2.2 0)
  | [], [], _ => by show chainL _ _ _ ++ [] = [] ++ chainL _ _ _; simp
  | x :: r, y :: s, h => by
    show chainL _ _ _ ++ heapL vals (r ++ [a]) (s ++ [ch]) = (chainL _ _ _ ++ heapL vals r s) ++ _
    rw [heapL_snoc (by simpa using h), List.append_assoc]
  | [], _ :: _, h => by cases h
  | _ :: _, [], h => by cases h
theorem heapL_len {vals : List Int} : ∀ {as : List (Nat × Str × Nat)} {chs : List (List Int)}, as.length = chs.length → (heapL vals as chs).length = as.length + chs.flatten.length
  | [], [], _ => rfl
  | x :: r, y :: s, h => by
    show (chainL _ _ _ ++ heapL vals r s).length = _
    rw [List.length_append, heapL_len (by simpa using h), List.flatten_cons, List.length_append, chainL, List.length_append, openL_len]
    simp only [List.length_cons, List.length_nil]
    omega
  | [], _ :: _, h => by cases h
  | _ :: _, [], h => by cases h
theorem heapL_key {vals : List Int} {p : Int × Int} : ∀ {as : List (Nat × Str × Nat)} {chs : List (List Int)}, p ∈ heapL vals as chs → (∃ a ∈ as, p.1 = vals.getD a.1 0) ∨ p.1 ∈ chs.flatten
  | [], _, m => by unfold heapL at m; cases m
  | _ :: _, [], m => by unfold heapL at m; cases m
  | x :: r, y :: s, m => by
    rcases List.mem_append.mp (show p ∈ chainL _ _ _ ++ heapL vals r s from m) with m | m
    · rcases List.mem_append.mp (show p ∈ openL _ _ ++ _ from m) with m | m
      · rcases openL_key m with q | q
        · exact .inl ⟨x, by simp, q⟩
        · exact .inr (by rw [List.flatten_cons]; exact List.mem_append_left _ (List.dropLast_subset _ q))
      · rw [List.mem_singleton.mp m]
        cases hy : y.reverse with
        | nil =>
          have : y = [] := by simpa using hy
          subst this
          exact .inl ⟨x, by simp, rfl⟩
        | cons z t =>
          have e : y = t.reverse ++ [z] := by rw [← List.reverse_reverse y, hy, List.reverse_cons]
          refine .inr ?_
          rw [e, List.flatten_cons]
          refine List.mem_append_left _ ?_
          show (t.reverse ++ [z]).getLastD _ ∈ _
          rw [List.getLastD_concat]
          simp
    · rcases heapL_key m with ⟨a, ma, q⟩ | q
      · exact .inl ⟨a, by simp [ma], q⟩
      · exact .inr (by rw [List.flatten_cons]; exact List.mem_append_right _ q)
end Dv

/-! Dv42: d.update(list of pairs), d.update(dict), l.extend(list), methods of dicts. -/
namespace Dv
open PySem PySem.Spec L2
open PyProof.Rows hiding St
section
variable {X : Cx} {DI : Addr → GH → Prop} {N : List Str} {sc : Scope} {k : Nat} {fns : List Fn} {cs : List (Str × D)} {bl : List Str} {fc : Bool}
variable {x : Str} {p p2 q apos pos : Pos} {e e2 e3 : Expr} {es : List Expr} {a b : W} {wa : WA}
/-! a dict known by its address, as a method's base -/
def isDr (S : GS) : D → Bool
  | .ref p => match S.g p with
    | some (.dct _) => true
    | _ => false
  | _ => false
theorem isDr_ok {K : PySem.W.Frag} {F H : Hp} {S : GS} {d : D} {v : V} (rel : Rel K DI F S H) (den : Den K H d v) (h : isDr S d = true) : tyV K "dict" v H := by
  cases den with
  | ref p =>
    unfold isDr at h
    simp only at h
    split at h
    · rename_i es q
      obtain ⟨vs, e1, e2⟩ := rel.rep p _ q
      exact .inr (.inr (.inl ⟨rfl, .inl ⟨vs, e1⟩⟩))
    · cases h
  | _ => cases h
def wMd (f : D → WF) (a : W) (as : WA) : W := fun ρ S Q => a ρ S fun d S1 => isDr S1 d = true ∧ as ρ S1 fun ds S2 => f d ds S2 Q
theorem x_md {ρ : Env} {S : GS} {Q : D → GS → Prop} {f : D → WF} : wMd f a wa ρ S Q = a ρ S fun d S1 => isDr S1 d = true ∧ wa ρ S1 fun ds S2 => f d ds S2 Q := propext ⟨id, id⟩
theorem md_of {f : D → WF} {σ : L2.St} {H : Hp} {Q : VK} (h : lft X.K DI (wMd f a wa) σ H Q) : tBM X.K "dict" (lftM X.K DI f) (lft X.K DI a) (lftA X.K DI wa) σ H Q := by
  obtain ⟨F, ρ, S, R, rel, env, w, fin⟩ := h
  refine ⟨F, ρ, S, _, rel, env, w, fun d S1 v H1 q1 rel1 k1 d1 => ⟨isDr_ok rel1 d1 q1.1, ?_⟩⟩
  exact ⟨F, ρ, S1, _, rel1, env.mn k1, q1.2, fun ds S2 vs H2 q2 rel2 k2 d2 => ⟨F, d, ds, S2, R, rel2, d1.mn k2, d2, q2, fin.up (k1.trans k2)⟩⟩
theorem m_dict {name : Str} {id : String} {f : D → WF} (slot : Slot "dict" name id) (hty : typeOf (.builtin id) = pure (.type "method_descriptor")) (hm : MtR X id (lftM X.K DI f)) (ho : PE X e (lft X.K DI a)) (ha : PAn X (e2 :: es) (lftA X.K DI wa))
    (h : (nBase e && ((apos.endLine == pos.line) && ((e2 :: es).all nStar && decide ((e2 :: es).length < 30)))) = true) : PE X (.Call (.Attribute e name apos) (e2 :: es) [] pos) (lft X.K DI (wMd f a wa)) := by
  simp only [Bool.and_eq_true] at h
  obtain ⟨h1, h2, h3, h4⟩ := h
  have h3' := h3
  rw [List.all_cons, Bool.and_eq_true] at h3'
  exact (pe_bm PySem.F.plainAttrs_dict slot hty hm ho ha.pa (base_of h1) (few_of (by rw [h3, h4]; rfl)) h2 (star_cons h3'.1) (star_pl h3'.2)).imp fun _ _ _ q => md_of q
/-! update -/
def rUpd (X : Cx) : V → List V → Hp → VK → Prop := fun x xs H Q => ∃ (d l : Addr) (ps : List Addr) (kvs acc : List (Key × V)), x = .ref d ∧ xs = [.ref l] ∧ H d = some (.dK acc) ∧ SqL X.K H l (ps.map V.ref) ∧ Paired (fun p kv => SqT X.K H p [kV kv.1, kv.2]) ps kvs ∧
  acc.length + kvs.length ≤ sizeLine ∧ Q .non (upd H d (.dK (mergeK acc kvs)))
theorem mt_upd (hc : X.calm = true) : MtR X "dict.update" (rUpd X) := by
  intro pins s σ H x xs v us Q I rx rv h
  obtain ⟨d, l, ps, kvs, acc, rfl, rfl, hD, hq, hp, hz, q⟩ := h
  cases rx
  obtain ⟨u, rfl, ru⟩ := rv.one
  cases ru
  obtain ⟨its, rv2, pl, hl⟩ := I.list hq
  have ei := refs_at rv2
  subst ei
  obtain ⟨prs, rel, hlen, hpr⟩ := L2.pairs_of I hp
  obtain ⟨z, hdm, vs, rel2, dd⟩ := dk_of I.hok hD
  obtain ⟨o, n, ho, hcl, hdi, hdat⟩ := pl
  have hkl : kvs.length = prs.length := Paired.length rel
  obtain ⟨ks, ksl, ksp⟩ := list_choose prs.length (fun j (u : Value) => ∀ q : Key × Value, prs[j]? = some q → ∃ b, ps[j]? = some b ∧ IsTup s.heap b #[u, q.2] ∧ keyIs q.1 u = true) fun j hj => by
    obtain ⟨b, u, e1, e2, e3⟩ := hpr j _ (List.getElem?_eq_getElem hj)
    refine ⟨u, fun q e => ?_⟩
    rw [List.getElem?_eq_getElem hj] at e
    cases e
    exact ⟨b, e1, e2, e3⟩
  have at_ : ∀ j k v, (ks.zip (prs.map (·.2)))[j]? = some (k, v) → ∃ (b : Addr) (q : Key × Value), prs[j]? = some q ∧ ps[j]? = some b ∧ IsTup s.heap b #[k, v] ∧ keyIs q.1 k = true ∧ q.2 = v := fun j k v e => by
    obtain ⟨h1, h2⟩ := List.getElem?_zip_eq_some.mp e
    rw [List.getElem?_map] at h2
    obtain ⟨q, h3, h4⟩ := Option.map_eq_some_iff.mp h2
    have h4 : q.2 = v := h4
    obtain ⟨b, g1, g2, g3⟩ := ksp j k h1 q h3
    rw [h4] at g2
    exact ⟨b, q, h3, g1, g2, g3, h4⟩
  have zl : (ks.zip (prs.map (·.2))).length = prs.length := by rw [List.length_zip, List.length_map, ksl, Nat.min_self]
  have P := PairArg.list (prog := X.prog) (w := X.w) l (ps.map Value.ref).toArray (fun j => ps.getD j 0) (ks.zip (prs.map (·.2)))
  have pit : PairItems s.heap (ps.map Value.ref).toArray (fun j => ps.getD j 0) (ks.zip (prs.map (·.2))) := by
    refine ⟨by rw [zl, hlen]; simp, fun j k v e => ?_⟩
    obtain ⟨b, q, h1, h2, h3, h4, h5⟩ := at_ j k v e
    have eb : ps.getD j 0 = b := by rw [List.getD_eq_getElem?_getD, h2]; rfl
    refine ⟨by simp [h2], ?_⟩
    show PairAt s.heap (ps.getD j 0) k v
    rw [eb]
    obtain ⟨o, g1, g2, n, g3⟩ := h3
    exact .inl ⟨o, g1, g2, n, g3⟩
  obtain ⟨od, god, cod⟩ := (show s.TypeIs (.ref d) "dict" from Heap.DictOf.typeIs dd)
  refine call_update_pairs (knd := mixKind X.prog X.w) (acc := vs) (kvs := prs) P (I.ok.hd hc) ⟨⟨o, n, ho, hcl, hdi, hdat⟩, pit⟩ (fun m => ?_) ⟨zl.symm, fun i key v hrel => ?_⟩ dd (by rw [zl, ← hkl, ← Paired.length rel2]; exact hz) fun h' tk hd' hk => ?_
  · rcases List.mem_cons.mp m with m | m
    · rw [m, ho] at god
      cases god
      rw [hcl] at cod
      injection cod with h
      exact absurd h (by decide)
    · obtain ⟨j, mj, e⟩ := List.mem_map.mp m
      have hj := List.mem_range.mp mj
      obtain ⟨kk, vv⟩ : ∃ kv, (ks.zip (prs.map (·.2)))[j]? = some kv := ⟨_, List.getElem?_eq_getElem hj⟩
      obtain ⟨b, q, h1, h2, h3, h4, h5⟩ := at_ j kk.1 kk.2 vv
      have eb : ps.getD j 0 = b := by rw [List.getD_eq_getElem?_getD, h2]; rfl
      obtain ⟨o2, g1, g2, _⟩ := h3
      have e' : ps.getD j 0 = d := e
      rw [eb] at e'
      rw [e', god] at g1
      cases g1
      rw [g2] at cod
      injection cod with h
      exact absurd h (by decide)
  · obtain ⟨b, q, h1, h2, h3, h4, h5⟩ := at_ i key v hrel
    exact ⟨q.1, by rw [h1, ← h5], h4⟩
  · have rel3 : KV (mergeK acc kvs) (merged vs prs) := KV.merge rel rel2
    refine ⟨.non, _, I.write (x := d) (e := d) (by rw [hD]; exact trivial) (.inl rfl) (fun b u hb hu => hk b u hb (fun z => nomatch z) hu) ?_ (dk_new (Nat.le_trans (length_mergeK kvs acc) hz) hdm rel3 hd'), rfl, q⟩
    obtain ⟨od2, g, _⟩ := (show Shared.TypeIs { s with heap := h', toks := tk } (.ref d) "dict" from Heap.DictOf.typeIs hd')
    exact ⟨od2, g⟩
def fUpdate : D → WF := fun d ds S Q => match d, ds with
  | .ref p, [y] => match S.g p, asL S y with
    | some (.dct acc), some ys => match pairsK ys with
      | some l => acc.length + l.length ≤ sizeLine ∧ Q .non (S.set p (.dct (mergeD acc l)))
      | none => False
    | _, _ => False
  | _, _ => False
theorem dm_update (hc : X.calm = true) : MtR X "dict.update" (lftM X.K DI fUpdate) := MtR.imp (mt_upd hc) fun x xs H Q q => by
  obtain ⟨F, d, ds, S, R, rel, den, dl, w, fin⟩ := q
  unfold fUpdate at w
  split at w
  · rename_i p y
    split at w
    · rename_i acc ys e1 e2
      split at w
      · rename_i l e3
        cases den
        obtain ⟨u, rfl, du⟩ := dl.oneV
        obtain ⟨b, vs, rfl, t, dys⟩ := asL_ok rel du e2
        obtain ⟨ps, kv, rfl, hp, dk⟩ := pairsK_ok dys e3
        obtain ⟨vs2, r1, r2⟩ := rel.rep p _ e1
        have kp : Kp H (upd H p (.dK (mergeK vs2 kv))) := .dct r1
        exact ⟨p, b, ps, kv, vs2, rfl, rfl, r1, .inl t, hp, by rw [← r2.length, ← dk.length]; exact w.1, fin _ _ _ _ w.2 (rel.set kp (.inr ⟨_, e1⟩) ⟨_, upd_same, (merge_ok dk r2).mn kp⟩) kp .non⟩
      · exact w.elim
    · exact w.elim
  · exact w.elim
theorem e_update (o : Ob X DI N sc k fns cs bl fc) (ho : PE X e (lft X.K DI a)) (ha : PAn X (e2 :: es) (lftA X.K DI wa)) (h : (nBase e && ((apos.endLine == pos.line) && ((e2 :: es).all nStar && decide ((e2 :: es).length < 30)))) = true := by kernel_rfl) : PE X (.Call (.Attribute e "update" apos) (e2 :: es) [] pos) (lft X.K DI (wMd fUpdate a wa)) :=
  m_dict PySem.F.slot_dict_update PySem.F.type_dict_update (dm_update o.hc) ho ha h
end
end Dv

/-! Dv43: a tuple times 0 or 1. -/
namespace L2
open PySem PySem.Spec PyProof.Rows
theorem tuple_mul1 (l : Addr) (items : Array Value) (n : Nat) (dd : Option Addr) (sl : Array (Option Value)) (u : Tok) :
    Meets (Builtin.«tuple.__mul__» ⟨[.ref l, .int 1 u], []⟩) (fun _ R s => s.heap.get? l = some { cls := .type "tuple", dict := dd, data := .seq items n, slots := sl } ∧ R (.ok (.ret (.ref l))) s) :=
  .of_wp fun prog w A R s h => by
    obtain ⟨hp, g, d, tk, os⟩ := s
    obtain ⟨hl, h⟩ := h
    have f1 := AutoSeq1.idx_int
    have c0 : (decide ((1 : Int) < -(2 ^ 63)) || decide ((1 : Int) ≥ 2 ^ 63)) = false := by decide
    have c1 : (items.isEmpty || (1 : Int) == 1) = true := by simp
    wp_walk using wpAny_loadPart' hl
    repeat (first
      | (refine wpAny_ite_false (decide_eq_false (by rw [c0]; exact Bool.false_ne_true)) ?_; wp_walk using wpAny_loadPart' hl)
      | (refine wpAny_ite_true (decide_eq_true (by rw [c1])) ?_; wp_walk using wpAny_loadPart' hl))
    exact ⟨_, rfl, h⟩
theorem tuple_mul0 (l : Addr) (items : Array Value) (n : Nat) (dd : Option Addr) (sl : Array (Option Value)) (u : Tok) (hne : items.isEmpty = false) :
    Meets (Builtin.«tuple.__mul__» ⟨[.ref l, .int 0 u], []⟩) (fun _ R s => s.heap.get? l = some { cls := .type "tuple", dict := dd, data := .seq items n, slots := sl } ∧
      R (.ok (.ret (Value.ref s.heap.objs.size))) { s with heap := s.heap.push { cls := Value.type "tuple", data := Data.seq #[] }, toks := s.toks }) :=
  .of_wp fun prog w A R s h => by
    obtain ⟨hp, g, d, tk, os⟩ := s
    obtain ⟨hl, h⟩ := h
    have f1 := AutoSeq1.idx_int
    have c0 : (decide ((0 : Int) < -(2 ^ 63)) || decide ((0 : Int) ≥ 2 ^ 63)) = false := by decide
    have c1 : (items.isEmpty || (0 : Int) == 1) = false := by simp [hne]
    have c2 : (decide ((0 : Int) ≤ 0) || items.isEmpty) = true := by simp
    wp_walk using wpAny_loadPart' hl
    repeat (first
      | (refine wpAny_ite_false (decide_eq_false (by rw [c0]; exact Bool.false_ne_true)) ?_; wp_walk using wpAny_loadPart' hl)
      | (refine wpAny_ite_false (decide_eq_false (by rw [c1]; exact Bool.false_ne_true)) ?_; wp_walk using wpAny_loadPart' hl)
      | (refine wpAny_ite_true (decide_eq_true (by rw [c2])) ?_; wp_walk using wpAny_loadPart' hl))
    exact ⟨_, rfl, h⟩
section
variable {X : Cx}
theorem op_rep1 : OpR X (binaryOp .Mult) (fun x y H Q => ∃ (l : Addr) (xs : List V), x = .ref l ∧ y = .int 1 ∧ SqT X.K H l xs ∧ Q (.ref l) H) := by
  intro pins s σ H x y v u Q I rx ry h
  obtain ⟨l, xs, rfl, rfl, hT, q⟩ := h
  cases rx
  obtain ⟨t, rfl⟩ := ry
  obtain ⟨its, rv, ⟨⟨cl, dd, da, sl⟩, ho, hc, n, hd⟩, _⟩ := I.tuple hT
  simp only at hc hd
  subst hc hd
  refine wpAny_binaryOp_repeat_ref (T := "tuple") (U := "int") (by decide) ⟨_, ho, rfl⟩ (fun s' => typeIs_int s' 1 t) noFill_tuple_mul F.fills_int_mul F.slot_int_rmul repeat_tuple F.slot_int_index.lookup ?_
  refine call_meets F.slot_int_rmul (typeIs_int s 1 t) F.entry_int_rmul (F.args_int_rmul_2 _ _) (int_rmul_tuple 1 t l its.toArray n dd sl) ⟨ho, rfl, ⟨_, ho, rfl⟩, ?_⟩
  refine call_meets F.slot_tuple_mul ⟨_, ho, rfl⟩ F.entry_tuple_mul (F.args_tuple_mul_2 _ _) (tuple_mul1 l its.toArray n dd sl t) ⟨ho, ?_⟩
  exact ⟨.ref l, H, I, rfl, q⟩
theorem op_rep0 : OpR X (binaryOp .Mult) (fun x y H Q => ∃ (l : Addr) (xs : List V), x = .ref l ∧ y = .int 0 ∧ SqT X.K H l xs ∧ xs ≠ [] ∧ NewT H [] Q) := by
  intro pins s σ H x y v u Q I rx ry h
  obtain ⟨l, xs, rfl, rfl, hT, hne, q⟩ := h
  cases rx
  obtain ⟨t, rfl⟩ := ry
  obtain ⟨its, rv, ⟨⟨cl, dd, da, sl⟩, ho, hc, n, hd⟩, _⟩ := I.tuple hT
  simp only at hc hd
  subst hc hd
  have ie : its.toArray.isEmpty = false := by
    cases its with
    | nil => exact absurd (List.eq_nil_of_length_eq_zero rv.length) hne
    | cons a b => rfl
  refine wpAny_binaryOp_repeat_ref (T := "tuple") (U := "int") (by decide) ⟨_, ho, rfl⟩ (fun s' => typeIs_int s' 0 t) noFill_tuple_mul F.fills_int_mul F.slot_int_rmul repeat_tuple F.slot_int_index.lookup ?_
  refine call_meets F.slot_int_rmul (typeIs_int s 0 t) F.entry_int_rmul (F.args_int_rmul_2 _ _) (int_rmul_tuple 0 t l its.toArray n dd sl) ⟨ho, rfl, ⟨_, ho, rfl⟩, ?_⟩
  refine call_meets F.slot_tuple_mul ⟨_, ho, rfl⟩ F.entry_tuple_mul (F.args_tuple_mul_2 _ _) (tuple_mul0 l its.toArray n dd sl t ie) ⟨ho, ?_⟩
  exact newT I .nil (Nat.zero_le _) q
end
end L2
namespace Dv
open PySem PySem.Spec L2
open PyProof.Rows hiding St
section
variable {X : Cx} {DI : Addr → GH → Prop}
/-- times, a tuple also 0 or 1 times -/
def oMulS : W2 := fun x y S Q => match x, y with
  | .tup xs, .int k => if k = 1 then Q (.tup xs) S else if k = 0 then xs ≠ [] ∧ Q (.tup []) S else oMul (.tup xs) (.int k) S Q
  | x, y => oMul x y S Q
theorem dop_mulS : OpR X (binaryOp .Mult) (lft2 X.K DI oMulS) := by
  refine OpR.imp (op_rep1.or (op_rep0.or (dop_mul (DI := DI)))) fun v u H Q h => ?_
  obtain ⟨F, x, y, S, R, rel, d1, d2, w, f⟩ := h
  unfold oMulS at w
  split at w
  · rename_i xs k
    split at w
    · rename_i hk
      subst hk
      have d1' := d1
      obtain ⟨a, vs, rfl, t1, e1⟩ := d1.tupV
      cases d2
      exact .inl ⟨a, vs, rfl, rfl, t1.sq, f _ _ _ _ w rel (.refl H) d1'⟩
    · split at w
      · rename_i hk
        subst hk
        obtain ⟨a, vs, rfl, t1, e1⟩ := d1.tupV
        cases d2
        have l1 := e1.length
        exact .inr (.inl ⟨a, vs, rfl, rfl, t1.sq, fun e => w.1 (List.eq_nil_of_length_eq_zero (by rw [l1, e]; rfl)), fun p o od hp => f.tup w.2 rel (.refl H) .nil od hp⟩)
      · exact .inr (.inr ⟨F, _, _, S, R, rel, d1, d2, w, f⟩)
  · exact .inr (.inr ⟨F, _, _, S, R, rel, d1, d2, w, f⟩)
theorem e_mulS {e e2 : Expr} {a b : W} {pos : Pos} (ha : PE X e (lft X.K DI a)) (hb : PE X e2 (lft X.K DI b)) : PE X (.BinOp e .Mult e2 pos) (lft X.K DI (wOp oMulS a b)) := de_op dop_mulS ha hb
end
end Dv

/-! Dv44: comprehensions over what is told by a list of anything; dicts of keys; all, any of truths. -/
namespace Dv
open PySem PySem.Spec L2
open PyProof.Rows hiding St
section
variable {ρ : Env} {S : GS} {wi : WI} {g : WG} {tt : WT} {te : W} {vs : List Nat} {Q : List D → GS → Prop} {gd : Gd} {α : Type}
theorem lc_fmA (l : List α) (it : α → D) (f : α → Option D) (hi : ∀ Q : List D → Gd → GS → Prop, Q (l.map it) gd S → wi ρ S Q) (hgd : gdOk gd S) (hz : l.length ≤ sizeLine)
    (ht : ∀ a ∈ l, ∀ Q : Option D → GS → Prop, Q (f a) S → turnLc g tt te (wipeD ρ vs) (it a) S Q) (hQ : Q (l.filterMap f) S) : wLcB wi g tt te vs ρ S Q := by
  refine lc_gen (fun rest acc S' => ∃ done todo : List α, rest = todo.map it ∧ l = done ++ todo ∧ acc = done.filterMap f ∧ S = S') hi ⟨[], l, rfl, rfl, rfl, rfl⟩ ?_ ?_
  · rintro d r acc _ ⟨done, todo, hr, hl, rfl, rfl⟩
    cases todo with
    | nil => cases hr
    | cons a todo =>
    rw [List.map_cons] at hr
    obtain ⟨rfl, rfl⟩ := List.cons.inj hr
    refine ⟨hgd, ht a (by rw [hl]; simp) _ ?_⟩
    have hlen : done.length < l.length := by rw [hl, List.length_append, List.length_cons]; omega
    cases q : f a with
    | none => exact ⟨done ++ [a], todo, rfl, by rw [hl]; simp, by rw [List.filterMap_append]; simp [q], rfl⟩
    | some y =>
      refine ⟨?_, done ++ [a], todo, rfl, by rw [hl]; simp, by rw [List.filterMap_append]; simp [q], rfl⟩
      exact Nat.lt_of_lt_of_le (Nat.lt_of_le_of_lt (List.length_filterMap_le f done) hlen) hz
  · rintro acc _ ⟨done, todo, hr, hl, rfl, rfl⟩
    have ht : todo = [] := by cases todo with | nil => rfl | cons a b => cases hr
    subst ht
    rw [List.append_nil] at hl
    rw [← hl]
    exact ⟨hgd, hQ⟩
theorem lc_mapA (l : List α) (it : α → D) (f : α → D) (hi : ∀ Q : List D → Gd → GS → Prop, Q (l.map it) gd S → wi ρ S Q) (hgd : gdOk gd S) (hz : l.length ≤ sizeLine)
    (ht : ∀ a ∈ l, ∀ Q : Option D → GS → Prop, Q (some (f a)) S → turnLc g tt te (wipeD ρ vs) (it a) S Q) (hQ : Q (l.map f) S) : wLcB wi g tt te vs ρ S Q := by
  refine lc_fmA l it (fun a => some (f a)) hi hgd hz ht ?_
  rw [show l.filterMap (fun a => some (f a)) = l.map f from List.filterMap_eq_map' .. ▸ rfl]
  exact hQ
theorem fm_filter (p : α → Bool) (it : α → D) : ∀ l : List α, l.filterMap (fun a => if p a = true then some (it a) else none) = (l.filter p).map it
  | [] => rfl
  | x :: r => by
    rw [List.filterMap_cons, List.filter_cons, fm_filter p it r]
    cases q : p x <;> rfl
end
/-- numbers as a dict's keys -/
def usedK (u : List Nat) : List (Key × D) := u.map fun n => (keyN n, .bl true)
theorem has_used (n : Nat) (u : List Nat) : has (keyN n) (usedK u) = decide (n ∈ u) := has_dF (f := fun _ => .bl true) keyN_inj n u
theorem merge_used {u r : List Nat} (h : (u ++ r).Nodup) : mergeD (usedK u) (usedK r) = usedK (u ++ r) := by
  have e : usedK u ++ usedK r = usedK (u ++ r) := by unfold usedK; rw [List.map_append]
  rw [merge_new, e]
  rw [e]
  unfold usedK
  rw [List.pairwise_map]
  exact h.imp fun h e => h (keyN_inj _ _ e)
theorem pairs_used (r : List Nat) : pairsK (r.map fun n => D.tup [natD n, .bl true]) = some (usedK r) := pairs_dF keyN (fun _ => .bl true) natD keyOf_natD r
theorem in_used {S : GS} {Q : D → GS → Prop} {p : Addr} {u : List Nat} {n : Nat} (h : S.g p = some (.dct (usedK u))) : oIn (natD n) (.ref p) S Q = Q (.bl (decide (n ∈ u))) S :=
  (in_key id (asK_dref h) (asQ_dref h) (keyOf_natD n)).trans (by rw [has_used]; rfl)
end Dv

/-! Dv45: comprehensions whose own name an inner comprehension takes (a cell of the block). -/
namespace Dv
open PySem PySem.Spec L2
open PyProof.Rows hiding St
section
variable {X : Cx} {DI : Addr → GH → Prop} {N : List Str} {sc : Scope} {k : Nat} {fns : List Fn} {cs : List (Str × D)} {bl : List Str} {fc : Bool}
variable {x : Str} {tpos p2 pos : Pos} {e e2 : Expr} {a : W} {ifs : List Expr} {scope : Scope} {wi : WI} {ta : WT}
def okBC (N : List Str) (sc scope : Scope) (own : List (Str × Nat)) (j : Nat) (x : Str) : Bool := decide (N[j]? = some x) && (decide (scope.names.lookup x = some .cell) && (decide ((relS scope sc).names.lookup x = some .cell) && (own.map (·.2)).contains j))
theorem lc_txtC (o : Ob X DI N sc k fns cs bl fc) {own : List (Str × Nat)} (j : Nat) (hi : PI X (.Name x tpos) e (lftI X.K DI wi)) (ht : ∀ Y : Cx, Y.K = X.K → Ob Y DI N (relS scope sc) k fns cs bl false → PTs Y ifs (lftT Y.K DI ta))
    (he : ∀ Y : Cx, Y.K = X.K → Ob Y DI N (relS scope sc) k fns cs bl false → PE Y e2 (lft Y.K DI a)) (h : (blkC N sc scope own && nSet e) = true) (h2 : okBC N sc scope own j x = true) : LcTxt X (.Name x tpos) e e2 ifs scope own DI wi (gName j) (gN j) ta a := by
  rw [Bool.and_eq_true] at h
  have B := blkOk_by h.1
  unfold okBC at h2
  simp only [Bool.and_eq_true, decide_eq_true_eq] at h2
  obtain ⟨h3, h4, h5, h6⟩ := h2
  refine ⟨o.hc, by rw [o.hN]; exact o.nd, hi, by rw [o.hN, o.hsc]; exact B, fun s H C cl fp => ?_, gok_name (by simpa using h6), fun s H C cl fp => ht _ rfl (o.blk B.kind s H C cl fp), fun s H C cl fp => he _ rfl (o.blk B.kind s H C cl fp), fold_of h.2⟩
  have ob := o.blk (scope := scope) B.kind s H C cl fp
  refine pg_name (by rw [ob.hN]; exact ob.nd) (by rw [ob.hN]; exact h3) (by rw [ob.hsc]; exact .inr h5) (.inl ?_)
  show (scope.names.lookup x == some .cell) = true
  rw [h4]
  rfl
theorem e_lcC (o : Ob X DI N sc k fns cs bl fc) (own : List (Str × Nat)) (j : Nat) (hi : PI X (.Name x tpos) e (lftI X.K DI wi)) (ht : ∀ Y : Cx, Y.K = X.K → Ob Y DI N (relS scope sc) k fns cs bl false → PTs Y ifs (lftT Y.K DI ta))
    (he : ∀ Y : Cx, Y.K = X.K → Ob Y DI N (relS scope sc) k fns cs bl false → PE Y e2 (lft Y.K DI a)) (h : (blkC N sc scope own && nSet e) = true := by kernel_rfl) (h2 : okBC N sc scope own j x = true := by kernel_rfl) : PE X (.ListComp e2 [⟨.Name x tpos, e, ifs, 0⟩] scope pos) (lft X.K DI (wLc wi (gN j) ta a (own.map (·.2)))) := de_lc (lc_txtC o j hi ht he h h2)
theorem s_lcC {y : Str} {py : Pos} (o : Ob X DI N sc k fns cs bl fc) (i : Nat) (own : List (Str × Nat)) (j : Nat) (hi : PI X (.Name x tpos) e (lftI X.K DI wi)) (ht : ∀ Y : Cx, Y.K = X.K → Ob Y DI N (relS scope sc) k fns cs bl false → PTs Y ifs (lftT Y.K DI ta))
    (he : ∀ Y : Cx, Y.K = X.K → Ob Y DI N (relS scope sc) k fns cs bl false → PE Y e2 (lft Y.K DI a)) (h : (blkC N sc scope own && nSet e) = true := by kernel_rfl) (h2 : okS N sc scope i y py p2 = true := by kernel_rfl) (h3 : okBC N sc scope own j x = true := by kernel_rfl) : PS X (.Assign [.Name y py] (.ListComp e2 [⟨.Name x tpos, e, ifs, 0⟩] scope p2) pos) (lftS X.K DI (wAsg (wLc wi (gN j) ta a (own.map (·.2))) (gN i))) := by
  obtain ⟨h4, h5, h6⟩ := okS_ok (e2 := e2) (gens := [⟨.Name x tpos, e, ifs, 0⟩]) (l := pos.line) o h2
  exact ds_setLc h4 h5 h6 (lc_txtC o j hi ht he h h3)
end
end Dv

/-! Dv46: a slice of a list known by its address; an empty tuple times any number. -/
namespace L2
open PySem PySem.Spec PyProof.Rows
theorem tuple_mulE (l : Addr) (n : Nat) (dd : Option Addr) (sl : Array (Option Value)) (x : Int) (u : Tok) (c0 : (decide (x < -(2 ^ 63)) || decide (x ≥ 2 ^ 63)) = false) :
    Meets (Builtin.«tuple.__mul__» ⟨[.ref l, .int x u], []⟩) (fun _ R s => s.heap.get? l = some { cls := .type "tuple", dict := dd, data := .seq #[] n, slots := sl } ∧ R (.ok (.ret (.ref l))) s) :=
  .of_wp fun prog w A R s h => by
    obtain ⟨hp, g, d, tk, os⟩ := s
    obtain ⟨hl, h⟩ := h
    have f1 := AutoSeq1.idx_int
    have c1 : ((#[] : Array Value).isEmpty || x == 1) = true := by simp
    wp_walk using wpAny_loadPart' hl
    repeat (first
      | (refine wpAny_ite_false (decide_eq_false (by rw [c0]; exact Bool.false_ne_true)) ?_; wp_walk using wpAny_loadPart' hl)
      | (refine wpAny_ite_true (decide_eq_true (by rw [c1])) ?_; wp_walk using wpAny_loadPart' hl))
    exact ⟨_, rfl, h⟩
section
variable {X : Cx}
theorem op_repE : OpR X (binaryOp .Mult) (fun x y H Q => ∃ (l : Addr) (k : Int), x = .ref l ∧ y = .int k ∧ SqT X.K H l [] ∧ 0 ≤ k ∧ k ≤ 1000 ∧ Q (.ref l) H) := by
  intro pins s σ H x y v u Q I rx ry h
  obtain ⟨l, k, rfl, rfl, hT, k0, k1, q⟩ := h
  cases rx
  obtain ⟨t, rfl⟩ := ry
  obtain ⟨its, rv, ⟨⟨cl, dd, da, sl⟩, ho, hc, n, hd⟩, _⟩ := I.tuple hT
  simp only at hc hd
  subst hc hd
  have hn : its = [] := List.eq_nil_of_length_eq_zero rv.length.symm
  subst hn
  have c0 : (decide (k < -(2 ^ 63)) || decide (k ≥ 2 ^ 63)) = false := Bool.or_eq_false_iff.mpr ⟨decide_eq_false (by omega), decide_eq_false (by omega)⟩
  refine wpAny_binaryOp_repeat_ref (T := "tuple") (U := "int") (by decide) ⟨_, ho, rfl⟩ (fun s' => typeIs_int s' k t) noFill_tuple_mul F.fills_int_mul F.slot_int_rmul repeat_tuple F.slot_int_index.lookup ?_
  refine call_meets F.slot_int_rmul (typeIs_int s k t) F.entry_int_rmul (F.args_int_rmul_2 _ _) (int_rmul_tuple k t l #[] n dd sl) ⟨ho, rfl, ⟨_, ho, rfl⟩, ?_⟩
  refine call_meets F.slot_tuple_mul ⟨_, ho, rfl⟩ F.entry_tuple_mul (F.args_tuple_mul_2 _ _) (tuple_mulE l n dd sl k t c0) ⟨ho, ?_⟩
  exact ⟨.ref l, H, I, rfl, q⟩
end
end L2
namespace Dv
open PySem PySem.Spec L2
open PyProof.Rows hiding St
section
variable {X : Cx} {DI : Addr → GH → Prop}
/-- times, of a tuple that may be empty -/
def oMulE : W2 := fun x y S Q => match x, y with
  | .tup xs, .int k => if xs = [] then 0 ≤ k ∧ k ≤ 1000 ∧ Q (.tup []) S else oMulS (.tup xs) (.int k) S Q
  | x, y => oMulS x y S Q
theorem dop_mulE : OpR X (binaryOp .Mult) (lft2 X.K DI oMulE) := by
  refine OpR.imp (op_repE.or (dop_mulS (DI := DI))) fun v u H Q h => ?_
  obtain ⟨F, x, y, S, R, rel, d1, d2, w, f⟩ := h
  unfold oMulE at w
  split at w
  · rename_i xs k
    split at w
    · rename_i hx
      subst hx
      have d1' := d1
      obtain ⟨a, vs, rfl, t1, e1⟩ := d1.tupV
      cases d2
      have hv : vs = [] := List.eq_nil_of_length_eq_zero e1.length.symm
      subst hv
      exact .inl ⟨a, k, rfl, rfl, t1.sq, w.1, w.2.1, f _ _ _ _ w.2.2 rel (.refl H) d1'⟩
    · exact .inr ⟨F, _, _, S, R, rel, d1, d2, w, f⟩
  · exact .inr ⟨F, _, _, S, R, rel, d1, d2, w, f⟩
theorem e_mulE {e e2 : Expr} {a b : W} {pos : Pos} (ha : PE X e (lft X.K DI a)) (hb : PE X e2 (lft X.K DI b)) : PE X (.BinOp e .Mult e2 pos) (lft X.K DI (wOp oMulE a b)) := de_op dop_mulE ha hb
/-- a slice of a list, known by its address -/
def wSliceN (a : W) (l h : WO) : W := fun ρ S Q => a ρ S fun x S1 => l ρ S1 fun lo S2 => h ρ S2 fun hi S3 => match asL S3 x with
  | some ds => ∀ p, S3.g p = none → Q (.ref p) (S3.set p (.lst (cutD ds lo hi)))
  | none => False
theorem x_sliceN {ρ : Env} {S : GS} {Q : D → GS → Prop} {a : W} {l h : WO} : wSliceN a l h ρ S Q = a ρ S fun x S1 => l ρ S1 fun lo S2 => h ρ S2 fun hi S3 => (match asL S3 x with
  | some ds => ∀ p, S3.g p = none → Q (.ref p) (S3.set p (.lst (cutD ds lo hi)))
  | none => False) := propext ⟨id, id⟩
theorem e_sliceN {e : Expr} {lo hi : Option Expr} {wa : W} {wl wh : WO} {p2 pos : Pos} (he : PE X e (lft X.K DI wa)) (hl : PO X lo (lftO X.K DI wl)) (hh : PO X hi (lftO X.K DI wh)) : PE X (.Subscript e (.Slice lo hi none p2) pos) (lft X.K DI (wSliceN wa wl wh)) := by
  refine (pe_slice sl_listR he hl hh).imp fun σ H Q h => ?_
  obtain ⟨F, ρ, S, R, rel, env, w, f⟩ := h
  refine ⟨F, ρ, S, _, rel, env, w, fun x S1 v H1 q1 rel1 k1 d1 => ?_⟩
  refine ⟨F, ρ, S1, _, rel1, env.mn k1, q1, fun lo S2 H2 q2 rel2 k2 => ?_⟩
  refine ⟨F, ρ, S2, _, rel2, env.mn (k1.trans k2), q2, fun hi S3 H3 q3 rel3 k3 => ?_⟩
  have kk := k1.trans (k2.trans k3)
  have dx : Den X.K H3 x v := d1.mn (k2.trans k3)
  clear d1
  split at q3
  · rename_i ds e
    obtain ⟨a, vs, rfl, t, den⟩ := asL_ok rel3 dx e
    exact ⟨a, vs, rfl, t, fun p hp => (f.up kk).newL (q3 p (rel3.free hp)) rel3 (.refl _) (den.cut lo hi) hp⟩
  · exact q3.elim
end
end Dv

/-! Dv47: for x, y in zip(a, b): a, b lists or tuples, in any mixture. -/
namespace Dv
open PySem PySem.Spec L2
open PyProof.Rows hiding St
def SqK (K : PySem.W.Frag) (k : Bool) (H : Hp) (a : Addr) (xs : List V) : Prop := (k = true ∧ SqL K H a xs) ∨ (k = false ∧ SqT K H a xs)
def ItK (h : Heap) (k : Bool) (it l : Addr) (i : Nat) : Prop := (k = true ∧ h.IsListIter it l i) ∨ (k = false ∧ h.IsTupleIter it l i)
def ScK (h : Heap) (k : Bool) (l : Addr) (its : Array Value) : Prop := (k = true ∧ h.IsList l its) ∨ (k = false ∧ h.IsTuple l its)
theorem ItK.at' {h h' : Heap} {k : Bool} {it l : Addr} {i : Nat} (x : ItK h k it l i) (hk : ∀ o, h.get? it = some o → h'.get? it = some o) : ItK h' k it l i := by
  rcases x with ⟨e, x⟩ | ⟨e, x⟩
  · exact .inl ⟨e, x.at hk⟩
  · exact .inr ⟨e, x.at hk⟩
theorem ItK.obj {h : Heap} {k : Bool} {it l : Addr} {i : Nat} (x : ItK h k it l i) : ∃ o, h.get? it = some o ∧ ∀ v, o.data ≠ .cell v := by
  rcases x with ⟨e, o, e1, _, d1⟩ | ⟨e, o, e1, _, d1⟩
  · exact ⟨o, e1, fun v q => by rw [d1] at q; cases q⟩
  · exact ⟨o, e1, fun v q => by rw [d1] at q; cases q⟩
theorem drawK {prog : Program} {w : World} {A : Around} (hh : A.handled = none) (k : Bool) (it l : Addr) (hne : l ≠ it) (items : Array Value) :
    Draws prog w A it [it, l] items.size (fun i v => items[i]? = some v) (fun i h => ItK h k it l i ∧ ScK h k l items) := by
  cases k with
  | true =>
    have D := Draws.list (prog := prog) (w := w) hh it l hne items
    refine { live := fun i h st => let ⟨o, e, _⟩ := st.1.obj; ⟨o, e⟩, frame := fun i h h' st hk => ⟨st.1.at' fun o e => hk it (by simp) o e, ?_⟩, item := fun i s Q E hi st hQ => ?_, done := fun s Q E st hE => ?_ }
    · rcases st.2 with ⟨e, x⟩ | ⟨e, x⟩
      · exact .inl ⟨e, x.at fun o e => hk l (by simp) o e⟩
      · cases e
    · obtain ⟨⟨_, s1⟩ | ⟨e, _⟩, ⟨_, s2⟩ | ⟨e, _⟩⟩ := st <;> first | (cases e; done) | skip
      exact D.item i s Q E hi ⟨s1, s2⟩ fun x h' tk p st' sb => hQ x h' tk p ⟨.inl ⟨rfl, st'.1⟩, .inl ⟨rfl, st'.2⟩⟩ sb
    · obtain ⟨⟨_, s1⟩ | ⟨e, _⟩, ⟨_, s2⟩ | ⟨e, _⟩⟩ := st <;> first | (cases e; done) | skip
      exact D.done s Q E ⟨s1, s2⟩ hE
  | false =>
    have D := Draws.tuple (prog := prog) (w := w) hh it l hne items
    refine { live := fun i h st => let ⟨o, e, _⟩ := st.1.obj; ⟨o, e⟩, frame := fun i h h' st hk => ⟨st.1.at' fun o e => hk it (by simp) o e, ?_⟩, item := fun i s Q E hi st hQ => ?_, done := fun s Q E st hE => ?_ }
    · rcases st.2 with ⟨e, x⟩ | ⟨e, x⟩
      · cases e
      · exact .inr ⟨e, x.at fun o e => hk l (by simp) o e⟩
    · obtain ⟨⟨e, _⟩ | ⟨_, s1⟩, ⟨e, _⟩ | ⟨_, s2⟩⟩ := st <;> first | (cases e; done) | skip
      exact D.item i s Q E hi ⟨s1, s2⟩ fun x h' tk p st' sb => hQ x h' tk p ⟨.inr ⟨rfl, st'.1⟩, .inr ⟨rfl, st'.2⟩⟩ sb
    · obtain ⟨⟨e, _⟩ | ⟨_, s1⟩, ⟨e, _⟩ | ⟨_, s2⟩⟩ := st <;> first | (cases e; done) | skip
      exact D.done s Q E ⟨s1, s2⟩ hE
section
variable {X : Cx} {pins : List (Addr × Obj)} {σ : L2.St} {H : Hp} {s : Shared}
theorem sqk_src {k : Bool} {a : Addr} {xs : List V} (I : Inv X pins σ H s) (h : SqK X.K k H a xs) : ∃ its, Vals xs its ∧ ScK s.heap k a its.toArray ∧ a < s.heap.objs.size ∧ xs.length ≤ sizeLine := by
  rcases h with ⟨e, h⟩ | ⟨e, h⟩
  · obtain ⟨its, rv, p, hz⟩ := I.list h
    exact ⟨its, rv, .inl ⟨e, p.isList⟩, p.lt, hz⟩
  · obtain ⟨its, rv, p, hz⟩ := I.tuple h
    have p' : s.heap.IsTuple a its.toArray := p
    obtain ⟨o, ho, _⟩ := id p'
    exact ⟨its, rv, .inr ⟨e, p'⟩, Heap.lt_size ho, hz⟩
theorem sqk_inj {k : Bool} {a : Addr} {xs ys : List V} (I : Inv X pins σ H s) (h : SqK X.K k H a xs) (h' : SqK X.K k H a ys) : xs = ys := by
  rcases h with ⟨e, h⟩ | ⟨e, h⟩ <;> rcases h' with ⟨e', h'⟩ | ⟨e', h'⟩
  · exact I.list_inj h h'
  · rw [e] at e'; cases e'
  · rw [e] at e'; cases e'
  · exact I.tuple_inj h h'
end
/-- what zip walks: k1, k2 tell whether a, b are lists; n1, n2 how many there are -/
def ItzB (K : PySem.W.Frag) (k1 k2 : Bool) (n1 n2 : Nat) (a b : Addr) : It :=
  ⟨fun i H => ∃ (xs ys : List V) (x y : V), SqK K k1 H a xs ∧ SqK K k2 H b ys ∧ xs.length = n1 ∧ ys.length = n2 ∧ xs[i]? = some x ∧ ys[i]? = some y,
    fun i H v H' => ∃ T x y, v = .ref T ∧ H T = none ∧ H' = upd H T (.tup [x, y]) ∧ (∀ xs, SqK K k1 H a xs → xs[i]? = some x) ∧ ∀ ys, SqK K k2 H b ys → ys[i]? = some y,
    fun i H => ∃ xs ys : List V, SqK K k1 H a xs ∧ SqK K k2 H b ys ∧ xs.length = n1 ∧ ys.length = n2 ∧ (n1 ≤ i ∨ n2 ≤ i)⟩
theorem turn_zipB {P : Program} {w : World} {K : PySem.W.Frag} {elts : List Expr} {kk : Nat} {tpos : Pos} {k1 k2 : Bool} {n1 n2 : Nat} {a b z TI TO i1 i2 : Addr} (D : ZipSep2 z TI TO i1 i2 [i1, a] [i2, b]) (na : a ≠ i1) (nb : b ≠ i2) :
    Turn P w K (.Tuple elts kk tpos) (ItzB K k1 k2 n1 n2 a b) [z, TI, TO, i1, i2] z (fun i h => i ≤ n1 ∧ i ≤ n2 ∧ IsZip h z TI TO .none ∧ IsTupOf2 h TI (.ref i1) (.ref i2) ∧ (∃ x y, IsTupOf2 h TO x y) ∧ ItK h k1 i1 a i ∧ ItK h k2 i2 b i) where
  mem := by simp
  obj := fun i h st c hc => by
    obtain ⟨_, _, hz, hTI, ⟨x, y, hTO⟩, h1, h2⟩ := st
    simp only [List.mem_cons, List.not_mem_nil, or_false] at hc
    rcases hc with q | q | q | q | q
    · rw [q]; exact ⟨_, hz, fun v q => nomatch q⟩
    · rw [q]; exact ⟨_, hTI, fun v q => nomatch q⟩
    · rw [q]; exact ⟨_, hTO, fun v q => nomatch q⟩
    · rw [q]; exact h1.obj
    · rw [q]; exact h2.obj
  keep := fun i h h' st k => by
    obtain ⟨l1, l2, hz, hTI, ⟨x, y, hTO⟩, h1, h2⟩ := st
    exact ⟨l1, l2, k z (by simp) _ hz, k TI (by simp) _ hTI, ⟨x, y, k TO (by simp) _ hTO⟩, h1.at' fun o q => k i1 (by simp) o q, h2.at' fun o q => k i2 (by simp) o q⟩
  item := by
    intro X hP hw hK hc i pins s σ H E I hf st hg
    subst hP hw hK
    obtain ⟨l1, l2, hz, hTI, ⟨x0, y0, hTO⟩, h1, h2⟩ := st
    obtain ⟨xs, ys, x, y, hqx, hqy, e1, e2, hx, hy⟩ := hg
    obtain ⟨its, rv, p, pa, _⟩ := sqk_src I hqx
    obtain ⟨its2, rv2, p2, pb, _⟩ := sqk_src I hqy
    obtain ⟨u, hu, ru⟩ := rv.get hx
    obtain ⟨u2, hu2, ru2⟩ := rv2.get hy
    have hzl : z < s.heap.objs.size := Heap.lt_size hz
    have lx : i < xs.length := (List.getElem?_eq_some_iff.mp hx).1
    have ly : i < ys.length := (List.getElem?_eq_some_iff.mp hy).1
    refine wpAny_pyNext_zipD2_item D (drawK (A := X.A.in1) (I.ok.hd hc) k1 i1 a na its.toArray) (drawK (A := X.A.in1) (I.ok.hd hc) k2 i2 b nb its2.toArray) hz hTI hTO ⟨h1, p⟩ ⟨h2, p2⟩ (by rw [List.size_toArray, ← rv.length]; exact lx) (by rw [List.size_toArray, ← rv2.length]; exact ly) fun v1 v2 h' tk q1 q2 z' TO' st1 st2 hT hsz hk => ?_
    have g1 : v1 = u := by
      have q1' : its[i]? = some v1 := by simpa using q1
      rw [hu] at q1'; cases q1'; rfl
    have g2 : v2 = u2 := by
      have q2' : its2[i]? = some v2 := by simpa using q2
      rw [hu2] at q2'; cases q2'; rfl
    subst g1 g2
    refine ⟨_, rfl, wpAny_letOwnedTupleGo_zip (s := { s with heap := h', toks := tk }) z' fun h'' z'' sb => ?_⟩
    have hT2 : h''.get? s.heap.objs.size = some { cls := .type "tuple", data := .seq #[v1, v2] } := (sb.2 _ (Nat.ne_of_gt hzl)).trans hT
    have new : ObjOk X.prog X.w (upd H s.heap.objs.size (.tup [x, y])) h'' s.heap.objs.size (.tup [x, y]) :=
      ⟨by show 2 ≤ sizeLine; decide, [v1, v2], .cons ru (.cons ru2 .nil), ⟨_, hT2, rfl, _, rfl⟩⟩
    have I1 : Inv X pins σ (upd H s.heap.objs.size (.tup [x, y])) { s with heap := h'', toks := tk } :=
      I.turnedNew (t' := tk) (ch := [z, TI, TO, i1, i2]) (fun c o hb q => (sb.2 c (fun q' => hb (by simp [q']))).trans (hk c o (fun q' => hb (by simp [q'])) (fun q' => hb (by simp [q'])) (fun q' => hb (by simp [q'])) (fun q' => hb (by simp [q'])) q)) hf (Nat.le_refl _) new
    have ne1 : i1 ≠ z := fun e => D.zf1 (by simp [e])
    have ne2 : i2 ≠ z := fun e => D.zf2 (by simp [e])
    refine ⟨.ref s.heap.objs.size, _, I1, rfl, ⟨_, x, y, rfl, I.hok.fresh (Nat.le_refl _), rfl, fun l hl => by rw [sqk_inj I hl hqx]; exact hx, fun l hl => by rw [sqk_inj I hl hqy]; exact hy⟩, ⟨by omega, by omega, z'', ?_, ⟨v1, v2, ?_⟩, ?_, ?_⟩, fun c hcm => ?_⟩
    · exact (sb.2 _ D.TIz).trans (hk _ _ D.TIz D.TITO D.TIi1 D.TIi2 hTI)
    · exact (sb.2 _ D.TOz).trans TO'
    · exact st1.1.at' fun o q => (sb.2 _ ne1).trans q
    · exact st2.1.at' fun o q => (sb.2 _ ne2).trans q
    · have hlt : c < s.heap.objs.size := by
        simp only [List.mem_cons, List.not_mem_nil, or_false] at hcm
        rcases hcm with q | q | q | q | q
        · rw [q]; exact hzl
        · rw [q]; exact Heap.lt_size hTI
        · rw [q]; exact Heap.lt_size hTO
        · rw [q]; obtain ⟨_, e1, _⟩ := h1.obj; exact Heap.lt_size e1
        · rw [q]; obtain ⟨_, e2, _⟩ := h2.obj; exact Heap.lt_size e2
      rw [upd_ne (Nat.ne_of_lt hlt)]
      exact (hf c hcm).1
  done := by
    intro X hP hw hK hc i pins s σ H E I hf st hg
    subst hP hw hK
    obtain ⟨l1, l2, hz, hTI, ⟨x0, y0, hTO⟩, h1, h2⟩ := st
    obtain ⟨xs, ys, hqx, hqy, e1, e2, hend⟩ := hg
    obtain ⟨its, rv, p, pa, _⟩ := sqk_src I hqx
    obtain ⟨its2, rv2, p2, pb, _⟩ := sqk_src I hqy
    have m1 := rv.length
    have m2 := rv2.length
    refine wpAny_pyNext_zipD2_end D (drawK (A := X.A.in1) (I.ok.hd hc) k1 i1 a na its.toArray) (drawK (A := X.A.in1) (I.ok.hd hc) k2 i2 b nb its2.toArray) hz hTI hTO ⟨h1, p⟩ ⟨h2, p2⟩ (by rw [List.size_toArray]; omega) (by rw [List.size_toArray]; omega) (by rw [List.size_toArray, List.size_toArray]; omega) fun h' tk hk => ?_
    exact ⟨rfl, I.turnedL (t' := tk) (ch := [z, TI, TO, i1, i2]) (fun c o hb q =>
      hk c o (fun q' => hb (by simp [q'])) (fun q' => hb (by simp [q'])) (fun q' => hb (by simp [q'])) (fun q' => hb (by simp [q'])) q) hf⟩
  self := fun A i s Q E st h => wpAny_pyIter_zip st.2.2.1 h
section
variable {X : Cx}
def iZipB (K : PySem.W.Frag) (ta : TA) : TI := fun σ H R => ta σ H fun vs H1 => ∃ (k1 k2 : Bool) (a b : Addr) (xs ys : List V), vs = [.ref a, .ref b] ∧ SqK K k1 H1 a xs ∧ SqK K k2 H1 b ys ∧ R (ItzB K k1 k2 xs.length ys.length a b) H1
theorem begK {k : Bool} {l : Addr} (its : Array Value) : ∃ o, Begins (.ref l) o (fun h => ScK h k l its) ∧ ∀ h it, h.get? it = some o → ItK h k it l 0 := by
  cases k with
  | true =>
    have B := begins_list l its
    refine ⟨_, ⟨fun prog w A E s Q ok h => ?_, fun h h' ok hk => ?_, B.3⟩, fun h it e => .inl ⟨rfl, _, e, rfl, rfl⟩⟩
    · rcases ok with ⟨_, x⟩ | ⟨e, x⟩
      · exact B.1 prog w A E s Q x h
      · cases e
    · rcases ok with ⟨_, x⟩ | ⟨e, x⟩
      · exact .inl ⟨rfl, B.2 h h' x hk⟩
      · cases e
  | false =>
    have B := begins_tuple l its
    refine ⟨_, ⟨fun prog w A E s Q ok h => ?_, fun h h' ok hk => ?_, B.3⟩, fun h it e => .inr ⟨rfl, _, e, rfl, rfl⟩⟩
    · rcases ok with ⟨e, x⟩ | ⟨_, x⟩
      · cases e
      · exact B.1 prog w A E s Q x h
    · rcases ok with ⟨e, x⟩ | ⟨_, x⟩
      · cases e
      · exact .inr ⟨rfl, B.2 h h' x hk⟩
theorem pi_zipB {e e2 : Expr} {ta : TA} {p pos tpos : Pos} {elts : List Expr} {kk : Nat} (hg : Gl X "zip") (hm : X.mg "zip" = none) (ha : PA X [e, e2] ta)
    (hs : starEach [e, e2] X.env = (false, eval e X.env) :: starEach [e2] X.env) (hpl : (backTo pos (starEach [e2] X.env)).any (·.1) = false) :
    PI X (.Tuple elts kk tpos) (.Call (.Name "zip" p) [e, e2] [] pos) (iZipB X.K ta) := by
  refine ⟨fun pins s σ H R I h => ?_⟩
  refine Call_ (ld_blt I hg hm PyProof.Rows.boot_zip (PyProof.Rows.callWith_type1 (thn (ha.run pos pins s σ H _ I h) fun us s1 ⟨vs, H1, I1, r1, q1⟩ => ?_) hs hpl))
  obtain ⟨k1, k2, a, b, xs, ys, ex, hqx, hqy, q⟩ := q1
  subst ex
  cases r1 with
  | cons r rr =>
    cases rr with
    | cons r' rr =>
      cases rr
      cases r
      cases r'
      obtain ⟨its, rv, p, pa, _⟩ := sqk_src I1 hqx
      obtain ⟨its2, rv2, p2, pb, _⟩ := sqk_src I1 hqy
      obtain ⟨o1, B1, b1⟩ := begK (k := k1) (l := a) its.toArray
      obtain ⟨o2, B2, b2⟩ := begK (k := k2) (l := b) its2.toArray
      refine zip_begins2 B1 B2 p p2 fun g gz gT gO g1 g2 gs gk => wpAny_pyIter_zip gz ?_
      have I2 : Inv X pins σ H1 { s1 with heap := g } := I1.kept (t' := s1.toks) gk
      generalize hS : s1.heap.objs.size = S at *
      have ne : ∀ a b : Nat, a ≠ b → S + a ≠ S + b := fun a b h e => h (Nat.add_left_cancel e)
      have n0 : ∀ x : Nat, x < S → ∀ j : Nat, x ≠ S + j := fun x h j e => by omega
      have n00 : ∀ x : Nat, x < S → x ≠ S := fun x h e => by omega
      have D : ZipSep2 (S + 4) (S + 2) (S + 3) S (S + 1) [S, a] [S + 1, b] := {
        TIz := ne 2 4 (by decide), TOz := ne 3 4 (by decide), TITO := ne 2 3 (by decide), TIi1 := ne 2 0 (by decide), mem1 := by simp,
        zf1 := fun m => by simp only [List.mem_cons, List.not_mem_nil, or_false] at m; rcases m with m | m; exact ne 4 0 (by decide) m; exact n0 a pa 4 m.symm,
        Tf1 := fun m => by simp only [List.mem_cons, List.not_mem_nil, or_false] at m; rcases m with m | m; exact ne 3 0 (by decide) m; exact n0 a pa 3 m.symm,
        TIi2 := ne 2 1 (by decide), mem2 := by simp,
        zf2 := fun m => by simp only [List.mem_cons, List.not_mem_nil, or_false] at m; rcases m with m | m; exact ne 4 1 (by decide) m; exact n0 b pb 4 m.symm,
        Tf2 := fun m => by simp only [List.mem_cons, List.not_mem_nil, or_false] at m; rcases m with m | m; exact ne 3 1 (by decide) m; exact n0 b pb 3 m.symm,
        sep1_2 := fun m => by simp only [List.mem_cons, List.not_mem_nil, or_false] at m; rcases m with m | m; exact ne 0 1 (by decide) m; exact n00 b pb m.symm,
        sep2_1 := fun m => by simp only [List.mem_cons, List.not_mem_nil, or_false] at m; rcases m with m | m; exact ne 1 0 (by decide) m; exact n0 a pa 1 m.symm }
      refine ⟨S + 4, [S + 4, S + 2, S + 3, S, S + 1], _, _, H1, rfl, I2, turn_zipB D (n00 a pa) (n0 b pb 1), ⟨Nat.zero_le _, Nat.zero_le _, gz, gT, ⟨_, _, gO⟩, b1 g S g1, b2 g (S + 1) g2⟩, fun c hcm => ?_, q⟩
      have hle : S ≤ c := by
        simp only [List.mem_cons, List.not_mem_nil, or_false] at hcm
        rcases hcm with q | q | q | q | q <;> rw [q] <;> first | exact Nat.le_refl _ | exact Nat.le_add_right _ _
      rw [← hS] at hle
      exact I1.fpOk hle (I1.hok.fresh hle)
/-! by data -/
def gdOf (S : GS) : D → Gd
  | .ref p => match S.g p with
    | some (.lst ds) => [(p, ds)]
    | _ => []
  | _ => []
def SrcOk (K : PySem.W.Frag) (DI : Addr → GH → Prop) (H1 : Hp) (k : Bool) (a : Addr) (n : Nat) (xs : List D) (gd : Gd) : Prop := ∀ (F H : Hp) (S : GS), Rel K DI F S H → Kp H1 H → gdOk gd S → ∃ vs, SqK K k H a vs ∧ DenL K H xs vs ∧ vs.length = n
variable {DI : Addr → GH → Prop}
theorem gdOk_app {g1 g2 : Gd} {S : GS} : gdOk (g1 ++ g2) S ↔ gdOk g1 S ∧ gdOk g2 S := by
  induction g1 with
  | nil => exact ⟨fun h => ⟨trivial, h⟩, fun h => h.2⟩
  | cons x r ih => exact ⟨fun h => ⟨⟨h.1, (ih.mp h.2).1⟩, (ih.mp h.2).2⟩, fun h => ⟨h.1.1, ih.mpr ⟨h.1.2, h.2⟩⟩⟩
theorem src_ok {K : PySem.W.Frag} {F H : Hp} {S : GS} {d : D} {v : V} {xs : List D} (rel : Rel K DI F S H) (den : Den K H d v) (h : asQ S d = some xs) : ∃ a k, v = .ref a ∧ (∃ vs, SqK K k H a vs ∧ DenL K H xs vs ∧ vs.length = xs.length) ∧ SrcOk K DI H k a xs.length xs (gdOf S d) := by
  cases den with
  | tup h1 h2 =>
    cases h
    exact ⟨_, false, rfl, ⟨_, .inr ⟨rfl, h1.sq⟩, h2, h2.length.symm⟩, fun F' H' S' rel' k g => ⟨_, .inr ⟨rfl, k.sqT h1.sq⟩, h2.mn k, h2.length.symm⟩⟩
  | pr h1 h2 =>
    cases h
    exact ⟨_, false, rfl, ⟨_, .inr ⟨rfl, h1⟩, h2, h2.length.symm⟩, fun F' H' S' rel' k g => ⟨_, .inr ⟨rfl, k.sqT h1⟩, h2.mn k, h2.length.symm⟩⟩
  | lst h1 h2 =>
    cases h
    exact ⟨_, true, rfl, ⟨_, .inl ⟨rfl, .inl (.inr ⟨_, h1⟩)⟩, h2, h2.length.symm⟩, fun F' H' S' rel' k g => ⟨_, .inl ⟨rfl, .inl (.inr ⟨_, k.f _ _ _ h1⟩)⟩, h2.mn k, h2.length.symm⟩⟩
  | ref p =>
    unfold asQ asL at h
    simp only at h
    split at h
    · rename_i ds e
      cases h
      obtain ⟨vs, e1, e2⟩ := rel.rep p _ e
      refine ⟨p, true, rfl, ⟨vs, .inl ⟨rfl, .inl (.inl e1)⟩, e2, e2.length.symm⟩, fun F' H' S' rel' k g => ?_⟩
      have g' : S'.g p = some (.lst xs) := by
        unfold gdOf at g
        simp only [e] at g
        exact g.1
      obtain ⟨vs, e1, e2⟩ := rel'.rep p _ g'
      exact ⟨vs, .inl ⟨rfl, .inl (.inl e1)⟩, e2, e2.length.symm⟩
    · cases h
  | _ => cases h
def zipD (xs ys : List D) : List D := List.zipWith (fun x y => .pr [x, y]) xs ys
theorem it_zipB {K : PySem.W.Frag} {H1 : Hp} {k1 k2 : Bool} {a b : Addr} {xs ys : List D} {g1 g2 : Gd} (s1 : SrcOk K DI H1 k1 a xs.length xs g1) (s2 : SrcOk K DI H1 k2 b ys.length ys g2) : ItOk K DI H1 (ItzB K k1 k2 xs.length ys.length a b) (zipD xs ys) (g1 ++ g2) where
  go := fun F i H S d e rel k g => by
    obtain ⟨x, y, ex, ey, _⟩ := List.getElem?_zipWith_eq_some.mp e
    obtain ⟨us, t1, d1, l1⟩ := s1 F H S rel k (gdOk_app.mp g).1
    obtain ⟨vs, t2, d2, l2⟩ := s2 F H S rel k (gdOk_app.mp g).2
    obtain ⟨u, eu, _⟩ := d1.get ex
    obtain ⟨v, ev, _⟩ := d2.get ey
    exact ⟨us, vs, u, v, t1, t2, l1, l2, eu, ev⟩
  yld := fun F i H S d v H' e rel k g yy => by
    obtain ⟨x, y, ex, ey, rfl⟩ := List.getElem?_zipWith_eq_some.mp e
    obtain ⟨us, t1, d1, l1⟩ := s1 F H S rel k (gdOk_app.mp g).1
    obtain ⟨vs, t2, d2, l2⟩ := s2 F H S rel k (gdOk_app.mp g).2
    obtain ⟨T, u, v, rfl, hT, rfl, q1, q2⟩ := yy
    obtain ⟨u', eu, du⟩ := d1.get ex
    obtain ⟨v', ev, dv⟩ := d2.get ey
    have a1 := q1 us t1
    rw [eu] at a1
    cases a1
    have a2 := q2 vs t2
    rw [ev] at a2
    cases a2
    have kn : Kp H (upd H T (.tup [u, v])) := .new hT
    exact ⟨rel.new hT, kn, .pr (.inl (.inl upd_same)) (.cons (du.mn kn) (.cons (dv.mn kn) .nil))⟩
  stop := fun F i H S e rel k g => by
    obtain ⟨us, t1, d1, l1⟩ := s1 F H S rel k (gdOk_app.mp g).1
    obtain ⟨vs, t2, d2, l2⟩ := s2 F H S rel k (gdOk_app.mp g).2
    refine ⟨us, vs, t1, t2, l1, l2, ?_⟩
    unfold zipD at e
    rw [List.length_zipWith] at e
    omega
def wiZip (a : WA) : WI := fun ρ S Q => a ρ S fun ds S' => match ds with
  | [x, y] => match asQ S' x, asQ S' y with
    | some xs, some ys => Q (zipD xs ys) (gdOf S' x ++ gdOf S' y) S'
    | _, _ => False
  | _ => False
variable {N : List Str} {sc : Scope} {k : Nat} {fns : List Fn} {cs : List (Str × D)} {bl : List Str} {fc : Bool}
variable {pos p2 tpos : Pos} {e e2 : Expr} {elts : List Expr} {kk : Nat} {wa : WA}
theorem x_iZip {ρ : Env} {S : GS} {Q : List D → Gd → GS → Prop} {a b : W} : wiZip (wCons a (wCons b wNil)) ρ S Q = a ρ S fun x S1 => b ρ S1 fun y S' => match asQ S' x, asQ S' y with
    | some xs, some ys => Q (zipD xs ys) (gdOf S' x ++ gdOf S' y) S'
    | _, _ => False := propext ⟨id, id⟩
theorem i_zip (o : Ob X DI N sc k fns cs bl fc) (ha : PAn X [e, e2] (lftA X.K DI wa)) (h : (okB bl sc "zip" (.type "zip") && (nStar e && nStar e2)) = true := by kernel_rfl) : PI X (.Tuple elts kk tpos) (.Call (.Name "zip" p2) [e, e2] [] pos) (lftI X.K DI (wiZip wa)) := by
  simp only [Bool.and_eq_true] at h
  obtain ⟨h1, h3, h4⟩ := h
  obtain ⟨m1, g1, _⟩ := okB_ok o h1
  refine (pi_zipB g1 m1 ha.pa (star_cons h3) (star_pl (by simp [h4]))).imp fun σ H R q => ?_
  obtain ⟨F, ρ, S, R', rel, env, w, f⟩ := q
  refine ⟨F, ρ, S, _, rel, env, w, fun ds S1 vs H1 q1 rel1 k1 d1 => ?_⟩
  split at q1
  · obtain ⟨v, u, rfl, dv, du⟩ := d1.twoV
    split at q1
    · rename_i xs ys e1 e2
      obtain ⟨a, ka, rfl, ⟨us, ta, da, la⟩, sa⟩ := src_ok rel1 dv e1
      obtain ⟨b, kb, rfl, ⟨ws, tb, db, lb⟩, sb⟩ := src_ok rel1 du e2
      refine ⟨ka, kb, a, b, us, ws, rfl, ta, tb, ?_⟩
      rw [la, lb]
      exact f _ _ _ _ _ q1 rel1 k1 (it_zipB sa sb)
    · exact q1.elim
  · exact q1.elim
end
end Dv

/-! Dv48: l.extend(list), sum(list of ints), {x: True for x in list}. -/
namespace Dv
open PySem PySem.Spec L2
open PyProof.Rows hiding St
section
variable {X : Cx} {DI : Addr → GH → Prop} {N : List Str} {sc : Scope} {k : Nat} {fns : List Fn} {cs : List (Str × D)} {bl : List Str} {fc : Bool}
variable {x : Str} {p p2 q pos apos px : Pos} {e e2 e3 : Expr} {es : List Expr} {a b : W} {wa : WA} {j0 : Nat}
/-! extend -/
def rExt2 : V → List V → Hp → VK → Prop := fun x vs H Q => ∃ l b xs zs, x = .ref l ∧ vs = [.ref b] ∧ H l = some (.lst xs) ∧ Rd H b (.lst zs) ∧ xs.length + zs.length ≤ sizeLine ∧ Q .non (upd H l (.lst (xs ++ zs)))
theorem mt_ext2 : MtR X "list.extend" rExt2 := by
  intro pins s σ H x vs v us Q I rx rv h
  obtain ⟨l, b, xs, zs, rfl, rfl, hH, hB, hz, q⟩ := h
  cases rx
  obtain ⟨u, rfl, ru⟩ := rv.one
  cases ru
  obtain ⟨z, its, n, r, hl, e⟩ := I.lstM hH
  obtain ⟨z2, its2, n2, r2, e2⟩ := hB.ok I.hok
  have lz : zs.length = its2.length := r2.length
  have lx : xs.length = its.length := r.length
  have hlong : ¬ (!its.toArray.isEmpty && Builtin.List.listTooLong (its.toArray.size + its2.toArray.size)) = true := by
    rw [notLongL (by rw [List.size_toArray, List.size_toArray]; omega), Bool.and_false]
    exact Bool.false_ne_true
  refine call_meets PySem.F.slot_list_extend ⟨_, e, rfl⟩ PySem.F.entry_list_extend (PySem.F.args_list_extend_2 _ _)
    (AutoSeq1.list_extend_list_list_0 l its.toArray n b its2.toArray n2 hlong (by rw [List.size_toArray]; omega) (by rw [List.size_toArray, List.size_toArray]; omega)) ⟨e, e2, ?_⟩
  exact ⟨.non, _, I.lset (its' := its ++ its2) hH e (by simp) (r.append r2) (by rw [List.length_append]; omega), rfl, q⟩
def fExtend : D → WF := fun d ds S Q => match d, ds with
  | .ref p, [y] => match S.g p, asL S y with
    | some (.lst xs), some ys => xs.length + ys.length ≤ sizeLine ∧ Q .non (S.set p (.lst (xs ++ ys)))
    | _, _ => False
  | _, _ => False
theorem dm_extend : MtR X "list.extend" (lftM X.K DI fExtend) := MtR.imp mt_ext2 fun x xs H Q q => by
  obtain ⟨F, d, ds, S, R, rel, den, dl, w, fin⟩ := q
  unfold fExtend at w
  split at w
  · rename_i p y
    split at w
    · rename_i acc ys e1 e2
      cases den
      obtain ⟨u, rfl, du⟩ := dl.oneV
      obtain ⟨b, vs, rfl, t, dys⟩ := asL_ok rel du e2
      obtain ⟨vs2, r1, r2⟩ := rel.rep p _ e1
      have kp : Kp H (upd H p (.lst (vs2 ++ vs))) := .lst r1
      exact ⟨p, b, vs2, vs, rfl, rfl, r1, t, by rw [← r2.length, ← dys.length]; exact w.1, fin _ _ _ _ w.2 (rel.set kp (.inr ⟨_, e1⟩) ⟨_, upd_same, (r2.append dys).mn kp⟩) kp .non⟩
    · exact w.elim
  · exact w.elim
theorem e_extend (ho : PE X e (lft X.K DI a)) (ha : PAn X (e2 :: es) (lftA X.K DI wa)) (h : (nBase e && ((apos.endLine == pos.line) && ((e2 :: es).all nStar && decide ((e2 :: es).length < 30)))) = true := by kernel_rfl) : PE X (.Call (.Attribute e "extend" apos) (e2 :: es) [] pos) (lft X.K DI (wMl fExtend a wa)) :=
  m_list PySem.F.slot_list_extend PySem.F.type_list_extend dm_extend ho ha h
/-! sum -/
def intsD : List D → Option (List Int)
  | [] => some []
  | .int i :: r => (intsD r).map (i :: ·)
  | _ :: _ => none
theorem intsD_ok {K : PySem.W.Frag} {H : Hp} : ∀ {ds : List D} {vs : List V} {ns : List Int}, DenL K H ds vs → intsD ds = some ns → vs = ns.map V.int
  | [], _, _, h, e => by cases h; cases e; rfl
  | d :: r, _, _, h, e => by
    cases h with
    | cons h1 h2 =>
      cases d with
      | int i =>
        obtain ⟨ns, e1, rfl⟩ := Option.map_eq_some_iff.mp (show (intsD r).map (i :: ·) = some _ from e)
        cases h1
        rw [intsD_ok h2 e1]
        rfl
      | _ => cases e
theorem intsD_map : ∀ ns : List Int, intsD (ns.map D.int) = some ns
  | [] => rfl
  | n :: r => by
    rw [List.map_cons]
    unfold intsD
    rw [intsD_map r]
    rfl
def fSum : WF := f1 fun d S Q => match asL S d with
  | some ds => match intsD ds with
    | some ns => Q (.int ns.sum) S
    | none => False
  | none => False
theorem dc_sum (hc : X.calm = true) : CallR X (.builtin "sum") (lftF X.K DI fSum) := f1_ok (cr_sum hc) fun F d v S R H Q rel den w fin => by
  split at w
  · rename_i ds e
    split at w
    · rename_i ns e2
      obtain ⟨a, vs, rfl, t, dl⟩ := asL_ok rel den e
      have := intsD_ok dl e2
      subst this
      exact ⟨a, ns, rfl, .inl t, fin.at0 w rel (.int _)⟩
    · exact w.elim
  · exact w.elim
theorem e_sum (o : Ob X DI N sc k fns cs bl fc) (ha : PAn X (e :: es) (lftA X.K DI wa)) (h : (okB bl sc x (.builtin "sum") && ((e :: es).all nStar)) = true := by kernel_rfl) : PE X (.Call (.Name x p2) (e :: es) [] pos) (lft X.K DI (wCall fSum wa)) := e_callB o "sum" (dc_sum o.hc) ha h
/-! {x: True for x in list} -/
def tDcT (K : PySem.W.Frag) (te : TE) : TE := fun σ H Q => te σ H fun v H1 => ∃ (a : Addr) (ks : List Key), v = .ref a ∧ SqL K H1 a (ks.map kV) ∧ ∀ p, H1 p = none → Q (.ref p) (upd H1 p (.dK (mergeK [] (ks.map fun k => (k, V.bl true)))))
theorem merge_snoc {ks : List Key} {k : Key} {i : Nat} {vs : List (Key × Value)} (e : ks[i]? = some k) (r : KV (mergeK [] ((ks.take i).map fun k => (k, V.bl true))) vs) : KV (mergeK [] ((ks.take (i + 1)).map fun k => (k, V.bl true))) (stored vs k (.bool true)) := by
  rw [List.take_add_one, e, List.map_append]
  unfold mergeK
  rw [List.foldl_append]
  exact KV.put r k (y := V.bl true) (u := .bool true) rfl
theorem pe_dcT {iter : Expr} {scope : Scope} {own : List (Str × Nat)} {te : TE} (hc : X.calm = true) (he : PE X iter te) (ok : BlkOk X.N X.env.scope scope own) (hcell : ∀ y ∈ scope.names, y.2 ≠ .cell) (hx : scope.names.lookup x = some .local) (hd : (x == ("__debug__" : Str)) = false)
    (hs : ∀ u, foldedSetIterable iter X.env u = pure u) : PE X (.DictComp (.Name x p) (.Constant (.bool true) j0 p2) [⟨.Name x px, iter, [], 0⟩] scope pos) (tDcT X.K te) := by
  refine ⟨fun pins s σ H Q I h => ?_⟩
  have hfree : ∀ y ∈ scope.names, y.2 = .free → ∃ c, X.env.cells.lookup y.1 = some c := fun y hy e => by
    rcases ok.free y hy e with k | k
    · exact I.ok.has _ (.inl k)
    · exact I.ok.has _ (.inr k)
  refine DictComp_goes (closure_ok hfree) hcell ok.kind (fun y hy e => by rw [ok.uniq y hy, e]) (thn (he.run pins s σ H _ I h) fun xv s1 hx1 => ?_) hs
  obtain ⟨v, H1, I1, rv, a, ks, rfl, hq, q⟩ := hx1
  cases rv
  obtain ⟨its, rvs, pl, hz⟩ := I1.list hq
  have hkl : ks.length = its.length := by rw [← rvs.length, List.length_map]
  have hlt := pl.lt
  refine wpAny_pyIter_list pl.isList ⟨s1.heap.objs.size, [s1.heap.objs.size, a], [s1.heap.objs.size], its.toArray.size, _, _, rfl, Goes.list (I1.ok.hd hc) _ a (Nat.ne_of_lt hlt) its.toArray, ⟨⟨_, Heap.get?_push_size _ rfl, rfl, rfl⟩, pl.isList.push _⟩, ?_⟩
  intro Dd C s3 B hD0
  have nI : ∀ b o, s1.heap.get? b = some o → s3.heap.get? b = some o := fun b o e => B.old b o (Heap.get?_push_of_some _ e)
  have dI : s1.heap.objs.size ≠ Dd := fun e => by
    have h1 := B.newD
    rw [show ({ s1 with heap := s1.heap.push { cls := .type "list_iterator", data := .fields #[.ref a, .int 0 0] } } : Shared).heap.objs.size = s1.heap.objs.size + 1 from Heap.size_push .., ← e] at h1
    omega
  have cI : s1.heap.objs.size ≠ C := fun e => by
    have h1 := B.newC
    rw [show ({ s1 with heap := s1.heap.push { cls := .type "list_iterator", data := .fields #[.ref a, .int 0 0] } } : Shared).heap.objs.size = s1.heap.objs.size + 1 from Heap.size_push .., ← e] at h1
    omega
  have sD : s1.heap.objs.size ≤ Dd := by
    have h1 := B.newD
    rw [show ({ s1 with heap := s1.heap.push { cls := .type "list_iterator", data := .fields #[.ref a, .int 0 0] } } : Shared).heap.objs.size = s1.heap.objs.size + 1 from Heap.size_push ..] at h1
    omega
  have sC : s1.heap.objs.size ≤ C := by
    have h1 := B.newC
    rw [show ({ s1 with heap := s1.heap.push { cls := .type "list_iterator", data := .fields #[.ref a, .int 0 0] } } : Shared).heap.objs.size = s1.heap.objs.size + 1 from Heap.size_push ..] at h1
    omega
  have cL : (compEnvC scope (cloFrom X.env.cells scope.names []) C X.env).locals = C := rfl
  refine ⟨fun i t => ∃ (kvs : List (Key × Value)) (m : Str → Option Value) (g : Heap) (tk : Tok), t = { s1 with heap := g, toks := tk } ∧ KV (mergeK [] ((ks.take i).map fun k => (k, V.bl true))) kvs ∧ g.DictOf (mixKind X.prog X.w) Dd kvs ∧ g.Ns C m ∧ ∀ b o, s1.heap.get? b = some o → g.get? b = some o, ?_, ?_, ?_, ?_⟩
  · obtain ⟨g, tk, e⟩ := B.only
    subst e
    refine ⟨[], _, g, tk, rfl, .nil, ?_, B.names, nI⟩
    exact ⟨_, #[], 0, hD0, ⟨rfl, rfl, rfl⟩, rfl, fun _ he => by simp at he, Pairs.nil, List.nodup_nil⟩
  · rintro i t h' tk ⟨kvs, m, g, tk0, rfl, r, d, n, kp⟩ hk ht
    refine ⟨kvs, m, h', tk, rfl, r, d.at' fun o e => hk _ o (fun z => dI (List.mem_singleton.mp z).symm) e, n.at' fun o e => hk _ o (fun z => cI (List.mem_singleton.mp z).symm) e, fun b o e => ?_⟩
    exact hk b o (fun z => by rw [List.mem_singleton.mp z] at e; exact absurd (Heap.lt_size e) (Nat.lt_irrefl _)) (kp b o e)
  · rintro i u t hi hy st ⟨kvs, m, g, tk0, rfl, r, d, n, kp⟩
    have hi' : i < ks.length := by rw [hkl]; rw [List.size_toArray] at hi; exact hi
    have eu : its[i]? = some u := by simpa using hy
    have ek : ks[i]? = some ks[i] := List.getElem?_eq_getElem hi'
    obtain ⟨u2, e2, ru⟩ := rvs.get (show (ks.map kV)[i]? = some (kV ks[i]) by rw [List.getElem?_map, ek]; rfl)
    rw [eu] at e2
    cases e2
    have lk : (compEnvC scope (cloFrom X.env.cells scope.names []) C X.env).kindOf x = some .local := lookup_relabel_local hx
    refine wpAny_assign_Name (wpAny_storeName_local (m := m) lk n (fun h2 n2 s2 => ?_) (by rw [show (compEnvC scope (cloFrom X.env.cells scope.names []) C X.env).scope.kind = .function from ok.kind]; rfl))
    show wpAny _ _ (pure true) _ _ _
    refine wpAny_pure ?_
    rw [if_pos rfl]
    have n2' : h2.Ns C (fun z => if z = x then some u else m z) := n2
    refine wpAny_Name (wpAny_loadName_local (show (compEnvC scope (cloFrom X.env.cells scope.names []) C X.env).scope.kind = .function from ok.kind) lk n2 (v := u) (by simp) ?_) hd
    refine wpAny_Constant_bool ?_
    have d2 : h2.DictOf (mixKind X.prog X.w) Dd kvs := d.sameBut s2 (fun e => B.ne e)
    have lv : kvs.length ≤ sizeLine := by
      have h1 := length_mergeK ((ks.take i).map fun k => (k, V.bl true)) []
      rw [List.length_nil, Nat.zero_add, List.length_map, List.length_take] at h1
      have h2 := r.length
      rw [List.length_map] at hz
      omega
    refine wpAny_dictSet_pairs (knd := mixKind X.prog X.w) (hsz := lv) (kV_is ru) d2 fun h4 d4 s4 => ⟨⟨_, _, h4, _, rfl, merge_snoc ek r, d4, n2'.sameBut s4 (fun e => B.ne e.symm), fun b o e => ?_⟩, ?_⟩
    · have hb := Heap.lt_size e
      exact s4.extBut b o (Nat.ne_of_lt (Nat.lt_of_lt_of_le hb sD)) (s2.extBut b o (Nat.ne_of_lt (Nat.lt_of_lt_of_le hb sC)) (kp b o e))
    · refine ⟨st.1.at fun o e => s4.extBut _ o dI (s2.extBut _ o cI e), st.2.at fun o e => s4.extBut _ o (Nat.ne_of_lt (Nat.lt_of_lt_of_le hlt sD)) (s2.extBut _ o (Nat.ne_of_lt (Nat.lt_of_lt_of_le hlt sC)) e)⟩
  · rintro t ⟨kvs, m, g, tk0, rfl, r, d, n, kp⟩
    refine ⟨m, n, fun h2 s2 => ?_⟩
    rw [List.take_of_length_le (by rw [hkl, List.size_toArray]; exact Nat.le_refl _)] at r
    have d2 : h2.DictOf (mixKind X.prog X.w) Dd kvs := d.sameBut s2 (fun e => B.ne e)
    exact laidDict (s := s1) (h' := h2) (tk := tk0) I1 sD (by rw [List.length_map]; rw [List.length_map] at hz; exact hz) r d2 (fun b o e => s2.extBut b o (Nat.ne_of_lt (Nat.lt_of_lt_of_le (Heap.lt_size e) sC)) (kp b o e)) q
/-! by data -/
def keysD : List D → Option (List Key)
  | [] => some []
  | d :: r => match keyOf d, keysD r with
    | some k, some l => some (k :: l)
    | _, _ => none
theorem keysD_ok {K : PySem.W.Frag} {H : Hp} : ∀ {ds : List D} {vs : List V} {ks : List Key}, DenL K H ds vs → keysD ds = some ks → vs = ks.map kV
  | [], _, _, h, e => by cases h; cases e; rfl
  | d :: r, _, _, h, e => by
    cases h with
    | cons h1 h2 =>
      unfold keysD at e
      split at e
      · rename_i k l e1 e2
        cases e
        rw [keysD_ok h2 e2, keyOf_ok h1 e1]
        rfl
      · cases e
theorem denT {K : PySem.W.Frag} {H : Hp} : ∀ ks : List Key, DenK K H (ks.map fun k => (k, D.bl true)) (ks.map fun k => (k, V.bl true))
  | [] => .nil
  | _ :: r => .cons (.bl _) (denT r)
def wDcT (a : W) : W := fun ρ S Q => a ρ S fun d S1 => match asL S1 d with
  | some ds => match keysD ds with
    | some ks => Q (.dct (mergeD [] (ks.map fun k => (k, D.bl true)))) S1
    | none => False
  | none => False
theorem x_dcT {ρ : Env} {S : GS} {Q : D → GS → Prop} : wDcT a ρ S Q = a ρ S fun d S1 => match asL S1 d with
  | some ds => match keysD ds with
    | some ks => Q (.dct (mergeD [] (ks.map fun k => (k, D.bl true)))) S1
    | none => False
  | none => False := propext ⟨id, id⟩
def dcC (scope : Scope) (x : Str) : Bool := scope.names.all (fun y => decide (y.2 ≠ .cell)) && (decide (scope.names.lookup x = some .local) && !(x == ("__debug__" : Str)))
theorem e_dcT {scope : Scope} (o : Ob X DI N sc k fns cs bl fc) (own : List (Str × Nat)) (he : PE X e (lft X.K DI a)) (h : (blkC N sc scope own && nSet e) = true := by kernel_rfl) (h2 : dcC scope x = true := by kernel_rfl) : PE X (.DictComp (.Name x p) (.Constant (.bool true) j0 p2) [⟨.Name x px, e, [], 0⟩] scope pos) (lft X.K DI (wDcT a)) := by
  rw [Bool.and_eq_true] at h
  have B := blkOk_by h.1
  unfold dcC at h2
  simp only [Bool.and_eq_true, List.all_eq_true, decide_eq_true_eq, Bool.not_eq_true'] at h2
  refine (peLQ (pe_dcT o.hc he (by rw [o.hN, o.hsc]; exact B) (fun y hy => h2.1 y hy) h2.2.1 h2.2.2 (fold_of h.2))).imp fun σ H Q z => ?_
  obtain ⟨F, ρ, S, R, rel, env, w, fin⟩ := z
  refine ⟨F, ρ, S, _, rel, env, w, fun d S1 v H1 q1 rel1 k1 d1 => ?_⟩
  split at q1
  · rename_i ds e1
    split at q1
    · rename_i ks e2
      obtain ⟨a, vs, rfl, t, dl⟩ := asL_ok rel1 d1 e1
      have := keysD_ok dl e2
      subst this
      exact ⟨a, ks, rfl, .inl t, fun p hp => fin.dct q1 rel1 k1 (merge_ok (denT ks) .nil) hp⟩
    · exact q1.elim
  · exact q1.elim
end
end Dv

/-! Dv49: list(zip(a, b)), tuple(zip(a, b)), the first things keys. -/
namespace PySem
open Sem (wp)
theorem zx_nolen : typeLookup (.type "zip") "__len__" = pure none := by rw [typeLookup_type, builtinLookup_eq_fast]; kernel_rfl
theorem zx_nohint : typeLookup (.type "zip") "__length_hint__" = pure none := by rw [typeLookup_type, builtinLookup_eq_fast]; kernel_rfl
section
variable {prog : Program} {w : World} {A : Around} {R : Result → Shared → Prop} {s : Shared} {S z TI TO i1 i2 : Addr} {fa fb : List Addr} {n1 n2 : Nat} {Pa Pb : Nat → Value → Prop} {Sa Sb : Nat → Heap → Prop} {κ : Type} [DecidableEq κ] {kvs : List (κ × Value)} {knd : KeyKind prog w κ}
/-- the zip under way, its tuple held by the list at S -/
def ZxSt (S z TI TO i1 i2 : Addr) (Sa Sb : Nat → Heap → Prop) (i : Nat) (h : Heap) : Prop := IsTupOf2 h TI (.ref i1) (.ref i2) ∧ Sa i h ∧ Sb i h ∧
  ((IsZip h z TI TO .none ∧ ∃ a b, IsTupOf2 h TO a b) ∨ ∃ T f oT, IsZipHeld h z TI TO T f ∧ h.get? T = some oT ∧ T ≠ z ∧ T ≠ i1 ∧ T ≠ i2 ∧ T ≠ S)
structure ZxC (prog : Program) (w : World) (S z TI TO i1 i2 : Addr) (fa fb : List Addr) (n1 n2 : Nat) (Pa Pb : Nat → Value → Prop) (Sa Sb : Nat → Heap → Prop) : Prop where
  sep : ZipSep2 z TI TO i1 i2 fa fb
  da : ∀ A : Around, A.handled = none → Draws prog w A i1 fa n1 Pa Sa
  db : ∀ A : Around, A.handled = none → Draws prog w A i2 fb n2 Pb Sb
  z : S ≠ z
  ti : S ≠ TI
  tO : S ≠ TO
  a : S ∉ fa
  b : S ∉ fb
theorem ZxSt.keep (C : ZxC prog w S z TI TO i1 i2 fa fb n1 n2 Pa Pb Sa Sb) (hA : A.handled = none) {i : Nat} {h h' : Heap} (st : ZxSt S z TI TO i1 i2 Sa Sb i h) (hk : ∀ b o, b ≠ S → h.get? b = some o → h'.get? b = some o) : ZxSt S z TI TO i1 i2 Sa Sb i h' := by
  obtain ⟨k1, k2, k3, k4⟩ := st
  refine ⟨hk _ _ C.ti.symm k1, (C.da A hA).frame _ _ _ k2 fun b hb o e => hk b o (fun q => C.a (q ▸ hb)) e, (C.db A hA).frame _ _ _ k3 fun b hb o e => hk b o (fun q => C.b (q ▸ hb)) e, ?_⟩
  rcases k4 with ⟨k5, a, b, k6⟩ | ⟨T, f, oT, k5, k6, r1, r2, r3, r4⟩
  · exact .inl ⟨hk _ _ C.z.symm k5, a, b, hk _ _ C.tO.symm k6⟩
  · exact .inr ⟨T, f, oT, hk _ _ C.z.symm k5, hk _ _ r4 k6, r1, r2, r3, r4⟩
theorem zx_item (C : ZxC prog w S z TI TO i1 i2 fa fb n1 n2 Pa Pb Sa Sb) (hA : A.handled = none) {i : Nat} {E : Value → Shared → Prop} {Q : Option Value → Shared → Prop} (st : ZxSt S z TI TO i1 i2 Sa Sb i s.heap) (ia : i < n1) (ib : i < n2) (hS : S < s.heap.objs.size)
    (hQ : ∀ x y g tk, Pa i x → Pb i y → ZxSt S z TI TO i1 i2 Sa Sb (i + 1) g → IsTupOf2 g s.heap.objs.size x y → (∀ c o, c ≠ z → c ≠ TO → c ≠ i1 → c ≠ i2 → s.heap.get? c = some o → g.get? c = some o) → Q (some (.ref s.heap.objs.size)) { s with heap := g, toks := tk }) :
    wpAny (model prog w) A (pyNext (.ref z)) Q E s := by
  obtain ⟨k1, k2, k3, k4⟩ := st
  have hA2 : A.in1.handled = none := hA
  have lt : ∀ {c o}, s.heap.get? c = some o → s.heap.objs.size ≠ c := fun e => Nat.ne_of_gt (Heap.lt_size e)
  have m1 : s.heap.objs.size ≠ i1 := let ⟨_, e⟩ := (C.da A hA).live _ _ k2; lt e
  have m2 : s.heap.objs.size ≠ i2 := let ⟨_, e⟩ := (C.db A hA).live _ _ k3; lt e
  rcases k4 with ⟨k5, a, b, k6⟩ | ⟨T, f, oT, k5, k6, r1, r2, r3, r4⟩
  · refine wpAny_pyNext_zipD2_item C.sep (C.da A.in1 hA2) (C.db A.in1 hA2) k5 k1 k6 k2 k3 ia ib fun x y g tk px py b1 b2 d1 d2 b5 b6 kp => ?_
    exact hQ x y g tk px py ⟨kp _ _ C.sep.TIz C.sep.TITO C.sep.TIi1 C.sep.TIi2 k1, d1, d2, .inr ⟨s.heap.objs.size, false, _, b1, b5, lt k5, m1, m2, Nat.ne_of_gt hS⟩⟩ b5 kp
  · refine zipH_next C.sep (C.da A.in1 hA2) (C.db A.in1 hA2) k5 k6 k1 k2 k3 ia ib fun x y g tk px py b1 d1 d2 b5 kp => ?_
    exact hQ x y g tk px py ⟨kp _ _ C.sep.TIz C.sep.TIi1 C.sep.TIi2 k1, d1, d2, .inr ⟨T, true, oT, b1, kp _ _ r1 r2 r3 k6, r1, r2, r3, r4⟩⟩ b5 fun c o c1 _ c3 c4 e => kp c o c1 c3 c4 e
theorem zx_done (C : ZxC prog w S z TI TO i1 i2 fa fb n1 n2 Pa Pb Sa Sb) (hA : A.handled = none) {i : Nat} {E : Value → Shared → Prop} {Q : Option Value → Shared → Prop} (st : ZxSt S z TI TO i1 i2 Sa Sb i s.heap) (ia : i ≤ n1) (ib : i ≤ n2) (en : i = n1 ∨ i = n2)
    (hQ : ∀ g tk, (∀ c o, c ≠ z → c ≠ TO → c ≠ i1 → c ≠ i2 → s.heap.get? c = some o → g.get? c = some o) → Q none { s with heap := g, toks := tk }) :
    wpAny (model prog w) A (pyNext (.ref z)) Q E s := by
  obtain ⟨k1, k2, k3, k4⟩ := st
  have hA2 : A.in1.handled = none := hA
  rcases k4 with ⟨k5, a, b, k6⟩ | ⟨T, f, oT, k5, k6, _⟩
  · exact wpAny_pyNext_zipD2_end C.sep (C.da A.in1 hA2) (C.db A.in1 hA2) k5 k1 k6 k2 k3 ia ib en hQ
  · exact zipH_stop C.sep (C.da A.in1 hA2) (C.db A.in1 hA2) k5 k6 k1 k2 k3 ia ib en fun g tk kp => hQ g tk fun c o c1 _ c3 c4 e => kp c o c1 c3 c4 e
theorem zx_loop (C : ZxC prog w S z TI TO i1 i2 fa fb n1 n2 Pa Pb Sa Sb) (hh : A.handled = none) (hl : kvs.length = min n1 n2) (hn : kvs.length ≤ sizeLine) (hrel : ∀ i u v, i < kvs.length → Pa i u → Pb i v → ∃ k, kvs[i]? = some (k, v) ∧ knd.is k u = true) (res : Value) {h1 : Heap} {lo : Addr}
    (hR : ∀ h' tk acc c as, (∀ b o, b ≠ S → b ∉ [z, TO, i1, i2] → h1.get? b = some o → h'.get? b = some o) → h'.get? S = some { cls := .type "list", dict := none, data := .seq acc c, slots := #[] } → as.length = kvs.length → PySem.W.KdxG knd kvs lo h' as →
      acc.toList = as.map Value.ref → R (.ok (.ret res)) { s with heap := h', toks := tk }) (low : ∀ b ∈ [S, z, TO, i1, i2], b ≤ lo) :
    ∀ (k i : Nat) (h : Heap) (tk c : Nat) (acc : Array Value) (as : List Addr), kvs.length - i = k → i ≤ kvs.length → ZxSt S z TI TO i1 i2 Sa Sb i h → (∀ b o, b ≠ S → b ∉ [z, TO, i1, i2] → h1.get? b = some o → h.get? b = some o) →
      h.get? S = some { cls := .type "list", dict := none, data := .seq acc c, slots := #[] } → acc.toList = as.map Value.ref → as.length = i → PySem.W.KdxG knd kvs lo h as → lo < h.objs.size →
      codeAny (model prog w) A (.builtin "list.extend.loop" ⟨[.ref S, .ref z, res], []⟩) R { s with heap := h, toks := tk } := by
  have nS : S ∉ [z, TO, i1, i2] := fun m => by
    simp only [List.mem_cons, List.not_mem_nil, or_false] at m
    rcases m with m | m | m | m
    · exact C.z m
    · exact C.tO m
    · exact C.a (m ▸ C.sep.mem1)
    · exact C.b (m ▸ C.sep.mem2)
  have hi : ∀ {b : Addr}, lo < b → b ∉ [z, TO, i1, i2] := fun hb m => Nat.lt_irrefl _ (Nat.lt_of_lt_of_le hb (low _ (List.mem_cons_of_mem _ m)))
  have hiS : ∀ {b : Addr}, lo < b → b ≠ S := fun hb e => Nat.lt_irrefl _ (Nat.lt_of_lt_of_le (e ▸ hb) (low S (by simp)))
  have four : ∀ {b : Addr}, b ∉ [z, TO, i1, i2] → b ≠ z ∧ b ≠ TO ∧ b ≠ i1 ∧ b ≠ i2 := fun h => by simpa using h
  intro k
  induction k with
  | zero =>
    intro i h tk c acc as hk hik st keep hS hacc hal hG hlo
    have hin : i = kvs.length := by omega
    refine codeAny_builtin PySem.F.entry_extend_loop ?_
    have e0 := Around.under_plainId (A := A) PySem.F.plain_extend_loop ⟨[.ref S, .ref z, res], []⟩
    rw [e0]
    refine wpAny_bind (m := pyNext (.ref z)) (zx_done (s := { s with heap := h, toks := tk }) C (A := A.in1) hh st (by omega) (by omega) (by omega) fun g tk' kp => ?_)
    have kp' : ∀ b o, b ∉ [z, TO, i1, i2] → h.get? b = some o → g.get? b = some o := fun b o nb e => let ⟨c1, c2, c3, c4⟩ := four nb; kp b o c1 c2 c3 c4 e
    refine wpAny_pure (hR g tk' acc c as (fun b o b1 b2 e => kp' b o b2 (keep b o b1 b2 e)) (kp' S _ nS hS) (by omega) ⟨hG.rise, hG.above, fun j a hj => ?_⟩ hacc)
    obtain ⟨key, kk, x, e1, e2, e3⟩ := hG.pairs j a hj
    exact ⟨key, kk, x, e1, e2, kp' a _ (hi (hG.above a (List.mem_of_getElem? hj))) e3⟩
  | succ k ih =>
    intro i h tk c acc as hk hik st keep hS hacc hal hG hlo
    have hlt : i < kvs.length := by omega
    have hsz : acc.size = i := by rw [← Array.length_toList, hacc, List.length_map, hal]
    have hSl : S < h.objs.size := Heap.lt_size hS
    refine codeAny_builtin PySem.F.entry_extend_loop ?_
    have e0 := Around.under_plainId (A := A) PySem.F.plain_extend_loop ⟨[.ref S, .ref z, res], []⟩
    rw [e0]
    refine wpAny_bind (m := pyNext (.ref z)) (zx_item (s := { s with heap := h, toks := tk }) C (A := A.in1) hh st (by omega) (by omega) hSl fun x y g tk' px py st' hT kp => ?_)
    obtain ⟨kk, hkv, hkx⟩ := hrel i x y hlt px py
    have kp' : ∀ b o, b ∉ [z, TO, i1, i2] → h.get? b = some o → g.get? b = some o := fun b o nb e => let ⟨c1, c2, c3, c4⟩ := four nb; kp b o c1 c2 c3 c4 e
    have hS' := kp' S _ nS hS
    have up : ∀ b o, b ≠ S → g.get? b = some o → (g.update S (Obj.mapSeq (·.push (Value.ref h.objs.size)))).get? b = some o := fun b o hb e => (Heap.get?_update_other _ _ (Ne.symm hb)).trans e
    refine wpAny_bind (m := updateSeq S (·.push (Value.ref h.objs.size))) ?_
    refine wpAny_updateSeq hS' rfl (wpAny_pure ⟨plainId_quiet PySem.F.plain_extend_loop _, ih (i + 1) _ _ _ (acc.push (Value.ref h.objs.size)) (as ++ [h.objs.size]) (by omega) hlt (st'.keep C (A := A) hh up)
      (fun b o b1 b2 e => up b o b1 (kp' b o b2 (keep b o b1 b2 e))) (Heap.get?_update_self _ hS' rfl) (by rw [Array.toList_push, hacc, List.map_append]; rfl) (by rw [List.length_append, hal]; rfl) ⟨?_, ?_, ?_⟩ ?_⟩) (by rw [hsz]; omega) (by show (acc.push (Value.ref h.objs.size)).size ≤ sizeLine + 1; rw [Array.size_push, hsz]; omega)
    · refine List.pairwise_append.mpr ⟨hG.rise, List.pairwise_singleton _ _, fun a ha b hb => ?_⟩
      rw [List.mem_singleton.mp hb]
      exact hG.there ha
    · intro a ha
      rcases List.mem_append.mp ha with ha | ha
      · exact hG.above a ha
      · rw [List.mem_singleton.mp ha]; exact hlo
    · intro j b hj
      rcases Nat.lt_trichotomy j as.length with q1 | q1 | q1
      · rw [List.getElem?_append_left q1] at hj
        obtain ⟨key', k', x', e1, e2, e3⟩ := hG.pairs j b hj
        have hb := hG.above b (List.mem_of_getElem? hj)
        exact ⟨key', k', x', e1, e2, up b _ (hiS hb) (kp' b _ (hi hb) e3)⟩
      · subst q1
        have hb : h.objs.size = b := by simpa using hj
        subst hb
        exact ⟨x, kk, y, by rw [hal]; exact hkv, hkx, up _ _ (Nat.ne_of_gt hSl) hT⟩
      · have hnone : (as ++ [h.objs.size])[j]? = none := List.getElem?_eq_none (by rw [List.length_append, List.length_singleton]; omega)
        rw [hnone] at hj; cases hj
    · have e : (g.update S (Obj.mapSeq (·.push (Value.ref h.objs.size)))).get? h.objs.size = _ := up _ _ (Nat.ne_of_gt hSl) hT
      exact Nat.lt_trans hlo (Heap.lt_size e)
/-- [].extend(zip) -/
theorem zx_extend (C : ZxC prog w S z TI TO i1 i2 fa fb n1 n2 Pa Pb Sa Sb) (hh : A.handled = none) (hl : kvs.length = min n1 n2) (hn : kvs.length ≤ sizeLine) (hrel : ∀ i u v, i < kvs.length → Pa i u → Pb i v → ∃ k, kvs[i]? = some (k, v) ∧ knd.is k u = true) (res : Value) (c0 : Nat)
    (hz : IsZip s.heap z TI TO .none) (st : ZxSt S z TI TO i1 i2 Sa Sb 0 s.heap) (hS : s.heap.get? S = some { cls := .type "list", data := .seq #[] c0 }) (low : ∀ b ∈ [S, z, TO, i1, i2], b < s.heap.objs.size)
    (hR : ∀ h' tk acc c as, (∀ b o, b ≠ S → b ∉ [z, TO, i1, i2] → s.heap.get? b = some o → h'.get? b = some o) → h'.get? S = some { cls := .type "list", dict := none, data := .seq acc c, slots := #[] } → as.length = kvs.length → PySem.W.KdxG knd kvs (s.heap.objs.size - 1) h' as →
      acc.toList = as.map Value.ref → R (.ok (.ret res)) { s with heap := h', toks := tk }) :
    wpAny (model prog w) A.in1 (Builtin.List.listExtendWith (.ref S) (.ref z) res)
      (fun fin s' => match fin with | .done f => R (.ok f) s' | .again c' => c'.quiet = true ∧ codeAny (model prog w) A c' R s') (fun e s' => R (.error e) s') s := by
  have ty : s.TypeIs (.ref z) "zip" := ⟨_, hz, rfl⟩
  have hpos : 0 < s.heap.objs.size := Nat.lt_of_le_of_lt (Nat.zero_le _) (low S (by simp))
  have low' : ∀ b ∈ [S, z, TO, i1, i2], b ≤ s.heap.objs.size - 1 := fun b m => Nat.le_sub_one_of_lt (low b m)
  have key : ∀ (h : Heap) (c₁ tk : Nat), h.objs.size = s.heap.objs.size → (∀ b o, b ≠ S → s.heap.get? b = some o → h.get? b = some o) → h.get? S = some { cls := .type "list", data := .seq #[] c₁ } → codeAny (model prog w) A (.builtin "list.extend.loop" ⟨[.ref S, .ref z, res], []⟩) R { s with heap := h, toks := tk } := fun h c₁ tk hs hk hS₁ =>
    zx_loop (h1 := s.heap) (lo := s.heap.objs.size - 1) C hh hl hn hrel res hR low' kvs.length 0 h tk c₁ #[] [] (Nat.sub_zero _) (Nat.zero_le _) (st.keep C (A := A) hh hk) (fun b o b1 _ e => hk b o b1 e) hS₁ rfl rfl ⟨List.Pairwise.nil, (fun _ ha => nomatch ha), (fun j a hj => by simp at hj)⟩ (by rw [hs]; exact Nat.sub_lt hpos Nat.one_pos)
  unfold Builtin.List.listExtendWith
  refine wpAny_bind (wpAny_typeOf ty ?_)
  have q1 : Builtin.List.listSameRef (.ref S) (.ref z) = false := by simp [Builtin.List.listSameRef, C.z]
  have q2 : (Value.type "zip" == Value.type "list") = false := by decide
  have q3 : (Value.type "zip" == Value.type "tuple") = false := by decide
  simp only [q1, q2, q3, Bool.or_false, Bool.false_eq_true, if_false]
  refine wpAny_bind (wpAny_pyIter_zip hz ?_)
  refine wpAny_bind (wpAny_holding ?_)
  unfold Builtin.List.listLengthHint
  refine wpAny_bind (wpAny_specialOf ty zx_nolen ?_)
  refine wpAny_bind (m := specialOf (Value.ref z) (Str.ofString "__length_hint__")) (wpAny_specialOf ty zx_nohint (wpAny_pure ?_))
  refine wpAny_bind (m := rule "list.extend.makes-room") (wpAny_rule (wpAny_bind ?_))
  refine wpAny_bind (m := updateSeq S (·.push .none)) (wpAny_updateSeq hS rfl ?_)
  have hS₂ := Heap.get?_update_self (Obj.mapSeq (·.push Value.none)) hS rfl
  refine wpAny_updateSeq (hz := by seq_fits) hS₂ rfl ?_
  have hS₃ := Heap.get?_update_self (Obj.mapSeq (·.pop)) hS₂ rfl
  refine wpAny_pure ⟨plainId_quiet PySem.F.plain_extend_loop _, key _ _ _ ?_ (fun b o hb e => ?_) hS₃⟩
  · rw [(Heap.SameBut.update ..).1, (Heap.SameBut.update ..).1]
  · exact (Heap.get?_update_other _ _ (Ne.symm hb)).trans ((Heap.get?_update_other _ _ (Ne.symm hb)).trans e)
end
end PySem

/-! Dv50: list(zip(a, b)) by data. -/
namespace PySem
open Sem (wp)
section
variable {prog : Program} {w : World} {A : Around} {E : Value → Shared → Prop} {s : Shared} {z TI TO i1 i2 : Addr} {fa fb : List Addr} {n1 n2 : Nat} {Pa Pb : Nat → Value → Prop} {Sa Sb : Nat → Heap → Prop} {κ : Type} [DecidableEq κ] {kvs : List (κ × Value)} {knd : KeyKind prog w κ}
theorem zx_call {Q : Value → Shared → Prop} (sep : ZipSep2 z TI TO i1 i2 fa fb) (da : ∀ A : Around, A.handled = none → Draws prog w A i1 fa n1 Pa Sa) (db : ∀ A : Around, A.handled = none → Draws prog w A i2 fb n2 Pb Sb) (hh : A.handled = none)
    (hl : kvs.length = min n1 n2) (hn : kvs.length ≤ sizeLine) (hrel : ∀ i u v, i < kvs.length → Pa i u → Pb i v → ∃ k, kvs[i]? = some (k, v) ∧ knd.is k u = true)
    (hz : IsZip s.heap z TI TO .none) (hTI : IsTupOf2 s.heap TI (.ref i1) (.ref i2)) (hTO : ∃ a b, IsTupOf2 s.heap TO a b) (sa : Sa 0 s.heap) (sb : Sb 0 s.heap) (lo : ∀ b ∈ z :: TI :: TO :: (fa ++ fb), b < s.heap.objs.size)
    (hQ : ∀ h' tk acc c as, (∀ b o, b ∉ [z, TO, i1, i2] → s.heap.get? b = some o → h'.get? b = some o) → h'.get? s.heap.objs.size = some { cls := .type "list", dict := none, data := .seq acc c, slots := #[] } → as.length = kvs.length → PySem.W.KdxG knd kvs s.heap.objs.size h' as →
      acc.toList = as.map Value.ref → Q (.ref s.heap.objs.size) { s with heap := h', toks := tk }) :
    wpAny (model prog w) A (call (.type "list") [.ref z]) Q E s := by
  generalize hS : s.heap.objs.size = S at *
  have ne : ∀ b ∈ z :: TI :: TO :: (fa ++ fb), S ≠ b := fun b m => Nat.ne_of_gt (lo b m)
  have C : ZxC prog w S z TI TO i1 i2 fa fb n1 n2 Pa Pb Sa Sb := ⟨sep, da, db, ne z (by simp), ne TI (by simp), ne TO (by simp), fun m => ne S (by simp [m]) rfl, fun m => ne S (by simp [m]) rfl⟩
  refine callType_codes (Q₁ := fun obj s₁ => obj = .ref S ∧ s₁ = { s with heap := s.heap.push { cls := .type "list", data := .seq #[] } }) PySem.F.called_list (PySem.F.typeCall_list_1 _) PySem.F.entry_list_init
    (code_list_new _ ⟨by rw [hS], rfl⟩) fun obj s₁ q => ?_
  obtain ⟨rfl, rfl⟩ := q
  have hN : (s.heap.push { cls := .type "list", data := .seq #[] }).get? S = some { cls := .type "list", data := .seq #[] } := by rw [← hS]; exact Heap.get?_push_size _ rfl
  refine ⟨⟨_, hN, rfl⟩, PySem.F.args_list_init_2 _ _, ?_⟩
  show wpAny _ _ (do let was ← Builtin.List.listItems (.ref S); Builtin.List.listUpdate (.ref S) (fun _ => #[]); letGo was.toList.reverse; Builtin.List.listExtendWith (.ref S) (.ref z) .none) _ _ _
  refine wpAny_bind ?_
  unfold Builtin.List.listItems
  refine wpAny_bind (wpAny_seqItems hN rfl (wpAny_pure ?_))
  refine wpAny_bind (m := updateSeq S fun _ => #[]) (wpAny_updateSeq hN rfl ?_)
  have hN2 := Heap.get?_update_self (Obj.mapSeq (fun _ => (#[] : Array Value))) hN rfl
  have oth : ∀ b o, b ≠ S → s.heap.get? b = some o → ((s.heap.push { cls := .type "list", data := .seq #[] }).update S (Obj.mapSeq (fun _ => (#[] : Array Value)))).get? b = some o :=
    fun b o hb e => (Heap.get?_update_other _ _ (Ne.symm hb)).trans (Heap.get?_push_of_some _ e)
  have sz : ((s.heap.push { cls := .type "list", data := .seq #[] }).update S (Obj.mapSeq (fun _ => (#[] : Array Value)))).objs.size = S + 1 := by
    rw [(Heap.SameBut.update ..).1, Heap.size_push, hS]
  refine wpAny_bind (wpAny_letGo ?_)
  have st0 : ZxSt S z TI TO i1 i2 Sa Sb 0 s.heap := ⟨hTI, sa, sb, .inl ⟨hz, hTO⟩⟩
  refine zx_extend (knd := knd) (kvs := kvs) C (A := A.in1) hh hl hn hrel .none _ (oth _ _ C.z.symm hz) (st0.keep C (A := A) hh oth) hN2 (fun b m => ?_) fun h' tk acc c as hk hS' ha hG hacc => ?_
  · rw [sz]
    rcases List.mem_cons.mp m with m | m
    · rw [m]; exact Nat.lt_succ_self _
    · refine Nat.lt_succ_of_lt (lo b ?_)
      have m1 := sep.mem1
      have m2 := sep.mem2
      simp only [List.mem_cons, List.not_mem_nil, or_false, List.mem_append] at m ⊢
      rcases m with rfl | rfl | rfl | rfl
      · exact .inl rfl
      · exact .inr (.inr (.inl rfl))
      · exact .inr (.inr (.inr (.inl m1)))
      · exact .inr (.inr (.inr (.inr m2)))
  · rw [show ({ s with heap := (s.heap.push { cls := .type "list", data := .seq #[] }).update S (Obj.mapSeq (fun _ => (#[] : Array Value))) } : Shared).heap.objs.size = S + 1 from sz, Nat.add_sub_cancel] at hG
    exact ⟨rfl, hQ h' tk acc c as (fun b o b2 e => hk b o (fun z => by rw [z, ← hS] at e; exact absurd (Heap.lt_size e) (Nat.lt_irrefl _)) b2 (oth b o (fun z => by rw [z, ← hS] at e; exact absurd (Heap.lt_size e) (Nat.lt_irrefl _)) e)) hS' ha hG hacc⟩
end
end PySem
namespace Dv
open PySem PySem.Spec L2
open PyProof.Rows hiding St
theorem list_zip {prog : Program} {w : World} {A : Around} {E : Value → Shared → Prop} {s : Shared} {v1 v2 : Value} {fa fb : List Addr} {n1 n2 : Nat} {P1 P2 : Nat → Value → Prop} {O1 O2 : Heap → Prop} {Q : Value → Shared → Prop} {kvs : List (Key × Value)}
    (Z1 : ZSrc prog w v1 fa n1 P1 O1) (Z2 : ZSrc prog w v2 fb n2 P2 O2) (hh : A.handled = none) (h1 : O1 s.heap) (h2 : O2 s.heap) (hl : kvs.length = min n1 n2) (hn : kvs.length ≤ sizeLine)
    (hrel : ∀ i u v, i < kvs.length → P1 i u → P2 i v → ∃ k, kvs[i]? = some (k, v) ∧ keyIs k u = true)
    (h : ∀ p h' tk acc c as, s.heap.objs.size ≤ p → (∀ b o, s.heap.get? b = some o → h'.get? b = some o) → h'.get? p = some { cls := .type "list", dict := none, data := .seq acc c, slots := #[] } → as.length = kvs.length → PySem.W.KdxG (mixKind prog w) kvs p h' as → acc.toList = as.map Value.ref → Q (.ref p) { s with heap := h', toks := tk }) :
    wpAny (model prog w) A (call (.type "zip") [v1, v2]) (fun v s1 => wpAny (model prog w) A (call (.type "list") [v]) Q E s1) E s := by
  refine zip_begins2 Z1.beg Z2.beg h1 h2 fun g gz gT gO g1 g2 gs gk => ?_
  generalize hS : s.heap.objs.size = S at *
  have old : ∀ (b : Nat) o, s.heap.get? b = some o → b < S := fun b o e => by rw [← hS]; exact Heap.lt_size e
  have nfa : ∀ x : Nat, S ≤ x → x ∉ fa := fun x hx m => by
    obtain ⟨o, e⟩ := Z1.live _ h1 x m
    exact absurd (Nat.lt_of_lt_of_le (old x o e) hx) (Nat.lt_irrefl _)
  have nfb : ∀ x : Nat, S ≤ x → x ∉ fb := fun x hx m => by
    obtain ⟨o, e⟩ := Z2.live _ h2 x m
    exact absurd (Nat.lt_of_lt_of_le (old x o e) hx) (Nat.lt_irrefl _)
  have ne : ∀ a b : Nat, a ≠ b → S + a ≠ S + b := fun a b h e => h (Nat.add_left_cancel e)
  have nia : ∀ a : Nat, a ≠ 0 → S + a ∉ S :: fa := fun a h m => (List.mem_cons.mp m).elim (ne a 0 h) (nfa _ (Nat.le_add_right _ _))
  have nib : ∀ a : Nat, a ≠ 1 → S + a ∉ (S + 1) :: fb := fun a h m => (List.mem_cons.mp m).elim (ne a 1 h) (nfb _ (Nat.le_add_right _ _))
  have C : ZipSep2 (S + 4) (S + 2) (S + 3) S (S + 1) (S :: fa) ((S + 1) :: fb) := {
    TIz := ne 2 4 (by decide), TOz := ne 3 4 (by decide), TITO := ne 2 3 (by decide), TIi1 := ne 2 0 (by decide), mem1 := List.mem_cons_self .., zf1 := nia 4 (by decide), Tf1 := nia 3 (by decide)
    TIi2 := ne 2 1 (by decide), mem2 := List.mem_cons_self .., zf2 := nib 4 (by decide), Tf2 := nib 3 (by decide), sep1_2 := nib 0 (by decide), sep2_1 := nia 1 (by decide) }
  have sa0 := Z1.start g S g1 (Z1.beg.keeps _ _ h1 gk)
  have sb0 := Z2.start g (S + 1) g2 (Z2.beg.keeps _ _ h2 gk)
  refine zx_call (s := { s with heap := g }) (knd := mixKind prog w) (kvs := kvs) C (fun A hA => Z1.draws A S hA (nfa S (Nat.le_refl _))) (fun A hA => Z2.draws A (S + 1) hA (nfb _ (Nat.le_add_right _ _))) hh hl hn (fun i u v hi p1 p2 => ?_) gz gT ⟨_, _, gO⟩ sa0 sb0 (fun b m => ?_) fun h' tk acc c as hk hL ha hG hacc => ?_
  · exact hrel i u v hi p1 p2
  · simp only [List.mem_cons, List.mem_append] at m
    rcases m with m | m | m | (m | m) | (m | m)
    · rw [m]; exact Heap.lt_size gz
    · rw [m]; exact Heap.lt_size gT
    · rw [m]; exact Heap.lt_size gO
    · rw [m]; exact Heap.lt_size g1
    · obtain ⟨o, e⟩ := Z1.lv _ _ _ sa0 b (List.mem_cons_of_mem _ m); exact Heap.lt_size e
    · rw [m]; exact Heap.lt_size g2
    · obtain ⟨o, e⟩ := Z2.lv _ _ _ sb0 b (List.mem_cons_of_mem _ m); exact Heap.lt_size e
  · refine h g.objs.size h' tk acc c as (by rw [gs]; exact Nat.le_add_right _ _) (fun b o e => hk b o (fun m => ?_) (gk b o e)) hL ha hG hacc
    have lt := old b o e
    simp only [List.mem_cons, List.not_mem_nil, or_false] at m
    rcases m with m | m | m | m <;> (subst m; first | exact absurd lt (Nat.not_lt.mpr (Nat.le_add_right _ _)) | exact absurd lt (Nat.lt_irrefl _))
section
variable {X : Cx} {DI : Addr → GH → Prop} {N : List Str} {sc : Scope} {k : Nat} {fns : List Fn} {cs : List (Str × D)} {bl : List Str} {fc : Bool}
variable {p p2 q pos : Pos} {e e2 : Expr} {wa : WA}
theorem paired_of {α β : Type} {P : α → β → Prop} : ∀ {xs : List α} {ys : List β}, xs.length = ys.length → (∀ (i : Nat) (x : α) (y : β), xs[i]? = some x → ys[i]? = some y → P x y) → Paired P xs ys
  | [], [], _, _ => .nil
  | [], _ :: _, h, _ => by cases h
  | _ :: _, [], h, _ => by cases h
  | x :: xs, y :: ys, h, g => .cons (g 0 x y rfl rfl) (paired_of (by simpa using h) fun i a b e1 e2 => g (i + 1) a b (by simpa using e1) (by simpa using e2))
/-- a list or tuple's items, as what zip walks, told exactly -/
theorem seq_zsrcE {pins : List (Addr × Obj)} {σ : L2.St} {H : Hp} {s : Shared} {a : Addr} {vs : List V} (I : Inv X pins σ H s) (t : SqL X.K H a vs ∨ SqT X.K H a vs) :
    ∃ (its : List Value) (OK : Heap → Prop) (_ : ZSrc X.prog X.w (.ref a) [a] its.length (fun i u => its[i]? = some u) OK), OK s.heap ∧ Vals vs its ∧ vs.length ≤ sizeLine := by
  rcases t with t | t
  · obtain ⟨its, rv, pl, hz⟩ := I.list t
    have Z := zsrc_list (prog := X.prog) (w := X.w) a its.toArray
    have e : (fun (i : Nat) (u : Value) => its.toArray[i]? = some u) = fun i u => its[i]? = some u := by funext i u; simp
    rw [e, List.size_toArray] at Z
    exact ⟨its, _, Z, pl.isList, rv, hz⟩
  · obtain ⟨its, rv, pl, hz⟩ := I.tuple t
    have Z := zsrc_tup (prog := X.prog) (w := X.w) a its.toArray
    have e : (fun (i : Nat) (u : Value) => its.toArray[i]? = some u) = fun i u => its[i]? = some u := by funext i u; simp
    rw [e, List.size_toArray] at Z
    exact ⟨its, _, Z, pl, rv, hz⟩
def tListZip (K : PySem.W.Frag) (ta : TA) : TE := fun σ H Q => ta σ H fun vs H1 => ∃ (a b : Addr) (xs ys : List V) (kv : List (Key × V)), vs = [.ref a, .ref b] ∧ (SqL K H1 a xs ∨ SqT K H1 a xs) ∧ (SqL K H1 b ys ∨ SqT K H1 b ys) ∧ zipOk xs ys kv ∧
  newPairs H1 kv fun ts H2 => ∀ p, H2 p = none → Q (.ref p) (upd H2 p (.lst (ts.map V.ref)))
theorem pe_listZip {ta : TA} (hc : X.calm = true) (g1 : Gl X "list") (m1 : X.mg "list" = none) (g2 : Gl X "zip") (m2 : X.mg "zip" = none) (ha : PA X [e, e2] ta) (n1 : starEach [e, e2] X.env = (false, eval e X.env) :: starEach [e2] X.env) (n2 : (backTo q (starEach [e2] X.env)).any (·.1) = false) :
    PE X (.Call (.Name "list" p) [.Call (.Name "zip" p2) [e, e2] [] q] [] pos) (tListZip X.K ta) := by
  refine ⟨fun pins s σ H Q I h => ?_⟩
  refine Call_ (ld_blt I g1 m1 boot_list (PyProof.Rows.callWith_type1 (args_cons ?_ rfl) rfl rfl))
  refine Call_ (ld_blt I g2 m2 PyProof.Rows.boot_zip (PyProof.Rows.callWith_type1 (thn (ha.run q pins s σ H _ I h) ?_) n1 n2))
  rintro us s1 ⟨vs, H1, I1, r1, a, b, xs, ys, kv, rfl, ta, tb, ⟨z1, z2⟩, q1⟩
  cases r1 with
  | cons ra rr =>
    cases rr with
    | cons rb rr =>
      cases rr
      cases ra
      cases rb
      obtain ⟨ia, Oa, Za, oa, va, la⟩ := seq_zsrcE I1 ta
      obtain ⟨ib, Ob, Zb, ob, vb, lb⟩ := seq_zsrcE I1 tb
      have l1 := va.length
      have l2 := vb.length
      let vs : List (Key × Value) := kv.zipWith (fun q u => (q.1, u)) ib
      have hvl : vs.length = min ia.length ib.length := by
        show (List.zipWith _ kv ib).length = _
        rw [List.length_zipWith, z1]; omega
      have hv : ∀ i u v, i < vs.length → ia[i]? = some u → ib[i]? = some v → ∃ q : Key × V, kv[i]? = some q ∧ RelV (kV q.1) u ∧ RelV q.2 v ∧ vs[i]? = some (q.1, v) := fun i u v hi h1 h2 => by
        have hi1 : i < xs.length := by rw [l1]; exact (List.getElem?_eq_some_iff.mp h1).1
        have hi2 : i < ys.length := by rw [l2]; exact (List.getElem?_eq_some_iff.mp h2).1
        obtain ⟨u', e1, r1⟩ := va.get (List.getElem?_eq_getElem hi1)
        obtain ⟨v', e2, r2⟩ := vb.get (List.getElem?_eq_getElem hi2)
        rw [h1] at e1
        cases e1
        rw [h2] at e2
        cases e2
        obtain ⟨q, eq, ex, ey⟩ := z2 i _ _ (List.getElem?_eq_getElem hi1) (List.getElem?_eq_getElem hi2)
        rw [ex] at r1
        rw [ey] at r2
        refine ⟨q, eq, r1, r2, ?_⟩
        show (List.zipWith _ kv ib)[i]? = _
        rw [List.getElem?_zipWith, eq, h2]
      have hKV : KV kv vs := by
        refine paired_of (by rw [hvl, z1, l1, l2]) fun i q p e1 e2 => ?_
        have hi : i < vs.length := (List.getElem?_eq_some_iff.mp e2).1
        have hi1 : i < ia.length := by omega
        have hi2 : i < ib.length := by omega
        obtain ⟨q', f1, _, f2, f3⟩ := hv i _ _ hi (List.getElem?_eq_getElem hi1) (List.getElem?_eq_getElem hi2)
        rw [e1] at f1
        cases f1
        rw [e2] at f3
        cases f3
        exact ⟨rfl, f2⟩
      refine thn (list_zip (E := X.xe) (kvs := vs) Za Zb (I1.ok.hd hc) oa ob hvl (by rw [hvl]; omega) (fun i u v hi h1 h2 => ?_) fun p2 h' tk acc c as hp hk hL hal hG hacc => ?_) fun v s2 z => args_nil z
      · obtain ⟨q, _, r1, _, f⟩ := hv i u v hi h1 h2
        exact ⟨q.1, f, keyIs_kV X.prog X.w r1⟩
      · have hG' : PySem.W.KdxG (mixKind X.prog X.w) vs s1.heap.objs.size h' as := ⟨hG.rise, fun a m => Nat.lt_of_le_of_lt hp (hG.above a m), hG.pairs⟩
        obtain ⟨g, gg1, gg2⟩ := laidPairs (tk := tk) I1 hKV hk hal hG'
        have nS : p2 ∉ as := fun z => Nat.lt_irrefl _ (hG.above _ z)
        have J := laidMany (s := s1) (tk := tk) I1 (p2 :: as) (fun b => if b = p2 then .lst (as.map V.ref) else g b) hk (fun b m => by
          rcases List.mem_cons.mp m with rfl | m
          · exact hp
          · exact Nat.le_of_lt (hG'.above b m)) (fun b m => by
          rcases List.mem_cons.mp m with rfl | m
          · rw [if_pos rfl]
            exact ⟨by rw [List.length_map]; omega, acc.toList, c, by rw [hacc]; exact LiI.vals_refs as, by rw [Array.toArray_toList]; exact hL⟩
          · exact gg2 _ _ (fun b m2 => ⟨List.mem_cons_of_mem _ m2, if_neg (fun z => nS (by rw [← z]; exact m2))⟩) b m)
        rw [← upd_putH nS] at J
        have lk : kv.length = vs.length := Paired.length hKV
        exact ⟨.ref p2, _, J, rfl, q1 as g (fun t m => I1.hok.fresh (Nat.le_of_lt (hG'.above t m))) (by omega) gg1 _ (by rw [putH_out nS]; exact I1.hok.fresh hp)⟩
def wListZip (new : Bool) (a : WA) : W := fun ρ S Q => a ρ S fun ds S1 => match ds with
  | [x, y] => match asQ S1 x, asQ S1 y with
    | some xs, some ys => match zipK xs ys with
      | some l => if new = true then ∀ p, S1.g p = none → Q (.ref p) (S1.set p (.lst (l.map pairD))) else Q (.lst (l.map pairD)) S1
      | none => False
    | _, _ => False
  | _ => False
theorem x_listZip {ρ : Env} {S : GS} {Q : D → GS → Prop} {a b : W} : wListZip false (wCons a (wCons b wNil)) ρ S Q = a ρ S fun x S0 => b ρ S0 fun y S1 => match asQ S1 x, asQ S1 y with
    | some xs, some ys => match zipK xs ys with
      | some l => Q (.lst (l.map pairD)) S1
      | none => False
    | _, _ => False := propext ⟨id, id⟩
theorem e_listZip {new : Bool} (o : Ob X DI N sc k fns cs bl fc) (ha : PAn X [e, e2] (lftA X.K DI wa)) (h : (okB bl sc "list" (.type "list") && (okB bl sc "zip" (.type "zip") && (nStar e && nStar e2))) = true := by kernel_rfl) : PE X (.Call (.Name "list" p) [.Call (.Name "zip" p2) [e, e2] [] q] [] pos) (lft X.K DI (wListZip new wa)) := by
  simp only [Bool.and_eq_true] at h
  obtain ⟨h1, h2, h3, h4⟩ := h
  obtain ⟨m1, g1, _⟩ := okB_ok o h1
  obtain ⟨m2, g2, _⟩ := okB_ok o h2
  refine (peLQ (pe_listZip o.hc g1 m1 g2 m2 ha.pa (star_cons h3) (star_pl (by simp [h4])))).imp fun σ H Q z => ?_
  obtain ⟨F, ρ, S, R, rel, env, w, fin⟩ := z
  refine ⟨F, ρ, S, _, rel, env, w, fun ds S1 vs H1 q1 rel1 k1 d1 => ?_⟩
  split at q1
  · obtain ⟨v, u, rfl, dv, du⟩ := d1.twoV
    split at q1
    · rename_i xs ys e1 e2
      split at q1
      · rename_i l e3
        obtain ⟨a, us, rfl, ta, da⟩ := asQ_ok rel1 dv e1
        obtain ⟨b, ws, rfl, tb, db⟩ := asQ_ok rel1 du e2
        obtain ⟨kv, dk, z1, z2⟩ := zipK_ok da db e3
        refine ⟨a, b, us, ws, kv, rfl, ta, tb, ⟨z1, z2⟩, fun ts g nw hl hg p hp => ?_⟩
        have dl := den_pairs nw dk hl (fun t m => m) hg
        cases new with
        | false => exact (fin.up k1).lst (by simpa using q1) (rel_putH rel1 nw) (kp_putH nw) dl hp
        | true =>
          simp only [if_true] at q1
          exact .inl ((fin.up k1).newL (q1 p ((rel_putH rel1 nw).free hp)) (rel_putH rel1 nw) (kp_putH nw) dl hp)
      · exact q1.elim
    · exact q1.elim
  · exact q1.elim
end
end Dv

/-! Dv51: d.update(a told dict or a list of pairs). -/
namespace Dv
open PySem PySem.Spec L2
open PyProof.Rows hiding St
section
variable {X : Cx} {DI : Addr → GH → Prop} {N : List Str} {sc : Scope} {k : Nat} {fns : List Fn} {cs : List (Str × D)} {bl : List Str} {fc : Bool}
variable {apos pos : Pos} {e e2 : Expr} {es : List Expr} {a : W} {wa : WA}
def rUpd2 (X : Cx) : V → List V → Hp → VK → Prop := fun x xs H Q => ∃ (d b : Addr) (ob : Obj) (kvs acc : List (Key × V)), x = .ref d ∧ xs = [.ref b] ∧ H d = some (.dK acc) ∧ H b = some (.frz ob (.dK kvs)) ∧
  acc.length + kvs.length ≤ sizeLine ∧ Q .non (upd H d (.dK (mergeK acc kvs)))
theorem mt_upd2 : MtR X "dict.update" (rUpd2 X) := by
  intro pins s σ H x xs v us Q I rx rv h
  obtain ⟨d, b, ob, kvs, acc, rfl, rfl, hD, hB, hz, q⟩ := h
  cases rx
  obtain ⟨u, rfl, ru⟩ := rv.one
  cases ru
  obtain ⟨z, hdm, vs, rel2, dd⟩ := dk_of I.hok hD
  obtain ⟨z2, hbm, ws, rel3, db⟩ := rd_dict I (.inr ⟨ob, hB⟩)
  have ne : d ≠ b := fun e => by rw [e, hB] at hD; cases hD
  have l1 : acc.length = vs.length := Paired.length rel2
  have l2 : kvs.length = ws.length := Paired.length rel3
  refine call_meetsIn PySem.F.slot_dict_update dd.typeIs PySem.F.entry_dict_update (PySem.F.args_dict_update_2 _ _) (meets_dict_update (mixKind X.prog X.w) d b ne hbm) ⟨vs, ws, dd, db, by omega, fun h' hd' ho' hs' => ?_⟩
  have rel4 : KV (mergeK acc kvs) (merged vs ws) := KV.merge rel3 rel2
  refine ⟨.non, _, I.write (x := d) (e := d) (t' := s.toks) (by rw [hD]; exact trivial) (.inl rfl) (fun b' u hb hu => (hs'.2 b' hb).trans hu) ?_ (dk_new (Nat.le_trans (length_mergeK kvs acc) hz) hdm rel4 hd'), rfl, q⟩
  obtain ⟨od2, g, _⟩ := (show Shared.TypeIs { s with heap := h' } (.ref d) "dict" from Heap.DictOf.typeIs hd')
  exact ⟨od2, g⟩
def fUpdD : D → WF := fun d ds S Q => match d, ds with
  | .ref p, [.dct l] => match S.g p with
    | some (.dct acc) => acc.length + l.length ≤ sizeLine ∧ Q .non (S.set p (.dct (mergeD acc l)))
    | _ => False
  | _, _ => False
theorem dm_updD : MtR X "dict.update" (lftM X.K DI fUpdD) := MtR.imp mt_upd2 fun x xs H Q q => by
  obtain ⟨F, d, ds, S, R, rel, den, dl, w, fin⟩ := q
  unfold fUpdD at w
  split at w
  · rename_i p l
    split at w
    · rename_i acc e1
      cases den
      obtain ⟨u, rfl, du⟩ := dl.oneV
      cases du with
      | @dct _ _ ks _ h1 h2 =>
        obtain ⟨vs2, r1, r2⟩ := rel.rep p _ e1
        have kp : Kp H (upd H p (.dK (mergeK vs2 ks))) := .dct r1
        exact ⟨p, _, _, _, vs2, rfl, rfl, r1, h1, by rw [← r2.length, ← h2.length]; exact w.1, fin _ _ _ _ w.2 (rel.set kp (.inr ⟨_, e1⟩) ⟨_, upd_same, (merge_ok h2 r2).mn kp⟩) kp .non⟩
    · exact w.elim
  · exact w.elim
theorem e_updD (ho : PE X e (lft X.K DI a)) (ha : PAn X (e2 :: es) (lftA X.K DI wa)) (h : (nBase e && ((apos.endLine == pos.line) && ((e2 :: es).all nStar && decide ((e2 :: es).length < 30)))) = true := by kernel_rfl) : PE X (.Call (.Attribute e "update" apos) (e2 :: es) [] pos) (lft X.K DI (wMd fUpdD a wa)) :=
  m_dict PySem.F.slot_dict_update PySem.F.type_dict_update dm_updD ho ha h
end
end Dv

/-! Dv52: d.pop(key); max(a list of ints). -/
namespace Dv
open PySem PySem.Spec L2
open PyProof.Rows hiding St
section
variable {X : Cx} {DI : Addr → GH → Prop} {N : List Str} {sc : Scope} {k : Nat} {fns : List Fn} {cs : List (Str × D)} {bl : List Str} {fc : Bool}
variable {x : Str} {p p2 apos pos : Pos} {e e2 : Expr} {es : List Expr} {a b : W} {wa : WA}
def dropD (k : Key) (l : List (Key × D)) : List (Key × D) := l.filter fun q => decide (q.1 ≠ k)
theorem drop_ok {K : PySem.W.Frag} {H : Hp} {k : Key} : ∀ {l : List (Key × D)} {vs : List (Key × V)}, DenK K H l vs → DenK K H (dropD k l) (dropK vs k)
  | [], _, h => by cases h; exact .nil
  | (j, d) :: r, _, h => by
    cases h with
    | cons h1 h2 =>
      unfold dropD dropK
      rw [List.filter_cons, List.filter_cons]
      by_cases q : j = k
      · simp only [q, ne_eq, not_true_eq_false, decide_false, Bool.false_eq_true, if_false]
        exact drop_ok h2
      · simp only [ne_eq, q, not_false_eq_true, decide_true, if_true]
        exact .cons h1 (drop_ok h2)
def wDPop (a b : W) : W := fun ρ S Q => a ρ S fun d S1 => isDr S1 d = true ∧ b ρ S1 fun y S2 => match d, keyOf y with
  | .ref p, some key => match S2.g p with
    | some (.dct kvs) => match look key kvs with
      | some v => Q v (S2.set p (.dct (dropD key kvs)))
      | none => False
    | _ => False
  | _, _ => False
theorem x_dpop {ρ : Env} {S : GS} {Q : D → GS → Prop} : wDPop a b ρ S Q = a ρ S fun d S1 => isDr S1 d = true ∧ b ρ S1 fun y S2 => match d, keyOf y with
  | .ref p, some key => match S2.g p with
    | some (.dct kvs) => match look key kvs with
      | some v => Q v (S2.set p (.dct (dropD key kvs)))
      | none => False
    | _ => False
  | _, _ => False := propext ⟨id, id⟩
theorem e_dpop (ha : PE X e (lft X.K DI a)) (hb : PE X e2 (lft X.K DI b)) (h : (nBase e && ((apos.endLine == pos.line) && nStar e2)) = true := by kernel_rfl) : PE X (.Call (.Attribute e "pop" apos) [e2] [] pos) (lft X.K DI (wDPop a b)) :=
  (pe_dpop1 ha hb (m1_of h)).imp fun σ H Q q => by
    obtain ⟨F, ρ, S, R, rel, env, w, fin⟩ := q
    refine ⟨F, ρ, S, _, rel, env, w, fun d S1 v H1 q1 rel1 k1 d1 => ?_⟩
    obtain ⟨hd, q1⟩ := q1
    have hd' : isDc S1 d = true := by
      cases d with
      | ref p =>
        unfold isDr at hd
        unfold isDc
        simp only at hd ⊢
        split at hd
        · rename_i e1; rw [e1]
        · cases hd
      | _ => cases hd
    obtain ⟨p, rfl, hdd⟩ := isDc_ok rel1 d1 hd'
    refine ⟨p, rfl, hdd, F, ρ, S1, _, rel1, env.mn k1, q1, fun y S2 u H2 q2 rel2 k2 d2 => ?_⟩
    split at q2
    · rename_i p' key e2
      cases d1
      split at q2
      · rename_i kvs e3
        split at q2
        · rename_i v' e4
          obtain ⟨vs, r1, r2⟩ := rel2.rep p _ e3
          obtain ⟨l1, _⟩ := r2.look (k := key)
          obtain ⟨u', e5, e6⟩ := l1 v' e4
          have kp : Kp H2 (upd H2 p (.dK (dropK vs key))) := .dct r1
          exact ⟨vs, key, u', r1, keyOf_ok d2 e2, e5, fin _ _ _ _ q2 (rel2.set kp (.inr ⟨_, e3⟩) ⟨_, upd_same, (drop_ok r2).mn kp⟩) ((k1.trans k2).trans kp) (e6.mn kp)⟩
        · exact q2.elim
      · exact q2.elim
    · exact q2.elim
def fMaxL : WF := f1 fun d S Q => match asL S d with
  | some ds => match intsD ds with
    | some ns => ns ≠ [] ∧ ∀ m, m ∈ ns → (∀ y ∈ ns, y ≤ m) → Q (.int m) S
    | none => False
  | none => False
theorem dc_maxL (hc : X.calm = true) : CallR X (.builtin "max") (lftF X.K DI fMaxL) := f1_ok (cr_max hc) fun F d v S R H Q rel den w fin => by
  split at w
  · rename_i ds e
    split at w
    · rename_i ns e2
      obtain ⟨a, vs, rfl, t, dl⟩ := asL_ok rel den e
      have := intsD_ok dl e2
      subst this
      exact ⟨a, ns, rfl, .inl t, List.length_pos_iff.mpr w.1, fun m hm hle => fin.at0 (w.2 m hm hle) rel (.int _)⟩
    · exact w.elim
  · exact w.elim
theorem e_maxL (o : Ob X DI N sc k fns cs bl fc) (ha : PAn X (e :: es) (lftA X.K DI wa)) (h : (okB bl sc x (.builtin "max") && ((e :: es).all nStar)) = true := by kernel_rfl) : PE X (.Call (.Name x p2) (e :: es) [] pos) (lft X.K DI (wCall fMaxL wa)) := e_callB o "max" (dc_maxL o.hc) ha h
end
end Dv

/-! Dv53: dicts of whole numbers compared by == and !=. -/
namespace Dv
open PySem PySem.Spec L2
open PyProof.Rows hiding St
def vK (l : List (Key × Int)) : List (Key × V) := l.map fun p => (p.1, V.int p.2)
def findI (l : List (Key × Int)) (k : Key) : Option Int := (l.find? fun q => decide (q.1 = k)).map (·.2)
def eqI (a b : List (Key × Int)) : Bool := a.length == b.length && a.all fun p => decide (findI b p.1 = some p.2)
theorem val_vK (k : Key) : ∀ l : List (Key × Int), valV (vK l) k = (findI l k).map V.int
  | [] => rfl
  | p :: r => by
    unfold findI
    rw [List.find?_cons]
    by_cases h : p.1 = k
    · rw [show valV (vK (p :: r)) k = some (V.int p.2) from valV_pos (p := (p.1, V.int p.2)) (r := vK r) h]
      simp [h]
    · rw [show valV (vK (p :: r)) k = valV (vK r) k from valV_neg (p := (p.1, V.int p.2)) (r := vK r) h, val_vK k r]
      simp [h, findI]
section
variable {A : Around} {s : Shared}
theorem hits_i {ls : List (Key × Int)} {vb : List (Key × Value)} (rb : KV (vK ls) vb) : ∀ {ks : List (Key × Int)} {va : List (Key × Value)}, KV (vK ks) va → PySem.W.KeqHits A s vb va (ks.all fun p => decide (findI ls p.1 = some p.2))
  | [], _, .nil => .nil
  | p :: ks, _, .cons (b := q) ⟨h1, h2⟩ t => by
    have ih := hits_i rb t
    obtain ⟨k, v⟩ := q
    obtain ⟨t1, rfl⟩ := (show RelV (V.int p.2) v from h2)
    have hk : p.1 = k := h1
    have rr : RelO (valV (vK ls) p.1) (valueAt vb p.1) := rb.val p.1
    rw [val_vK] at rr
    rw [List.all_cons]
    cases e : findI ls p.1 with
    | none =>
      rw [e] at rr
      have hn : valueAt vb k = none := by
        rw [← hk]
        cases q : valueAt vb p.1 with
        | none => rfl
        | some y => rw [q] at rr; cases rr
      simp only [reduceCtorEq, decide_false, Bool.false_and]
      exact .miss hn
    | some z =>
      rw [e] at rr
      obtain ⟨y, hy, ry⟩ := rr.some_of
      obtain ⟨t2, rfl⟩ := ry
      rw [hk] at hy
      have e2 : decide (some z = some p.2) = (p.2 == z) := by
        by_cases q : z = p.2
        · subst q; simp
        · have : ¬ p.2 = z := fun h => q h.symm
          simp [q, this]
      rw [e2]
      exact .hit hy (SeqAt.EqAt.int_int p.2 t1 z t2) ih
end
section
variable {X : Cx} {DI : Addr → GH → Prop}
def rEqI (f : Bool → Bool) (K : PySem.W.Frag) : R2 := fun x y H Q => ∃ a b ks ls, x = .ref a ∧ y = .ref b ∧ Rd H a (.dK (vK ks)) ∧ Rd H b (.dK (vK ls)) ∧ Q (.bl (f (eqI ks ls))) H
theorem op_eqI (hu : X.A.units < cLine) : OpR X (compareOp .Eq) (rEqI id X.K) := by
  intro pins s σ H x y v u Q I rx ry h
  obtain ⟨a, b, ks, ls, rfl, rfl, ea, eb, q⟩ := h
  obtain rfl : v = Value.ref a := rx
  obtain rfl : u = Value.ref b := ry
  obtain ⟨_, ya, va, ra, da⟩ := rd_dict I ea
  obtain ⟨_, yb, vb, rb, db⟩ := rd_dict I eb
  have la : ks.length = va.length := by have := Paired.length ra; rw [← this]; exact (List.length_map ..).symm
  have lb : ls.length = vb.length := by have := Paired.length rb; rw [← this]; exact (List.length_map ..).symm
  exact PySem.W.keq_eq (knd := mixKind X.prog X.w) ya yb da db hu (fun _ => hits_i rb ra) (fin_bl I q (by unfold eqI; rw [la, lb]; rfl))
theorem op_neI (hu : X.A.units < cLine) : OpR X (compareOp .NotEq) (rEqI (fun b => !b) X.K) := by
  intro pins s σ H x y v u Q I rx ry h
  obtain ⟨a, b, ks, ls, rfl, rfl, ea, eb, q⟩ := h
  obtain rfl : v = Value.ref a := rx
  obtain rfl : u = Value.ref b := ry
  obtain ⟨_, ya, va, ra, da⟩ := rd_dict I ea
  obtain ⟨_, yb, vb, rb, db⟩ := rd_dict I eb
  have la : ks.length = va.length := by have := Paired.length ra; rw [← this]; exact (List.length_map ..).symm
  have lb : ls.length = vb.length := by have := Paired.length rb; rw [← this]; exact (List.length_map ..).symm
  exact PySem.W.keq_ne (knd := mixKind X.prog X.w) ya yb da db hu (fun _ => hits_i rb ra) (fin_bl I q (by unfold eqI; rw [la, lb]))
def intsK : List (Key × D) → Option (List (Key × Int))
  | [] => some []
  | (k, .int i) :: r => (intsK r).map ((k, i) :: ·)
  | _ :: _ => none
theorem intsK_ok {K : PySem.W.Frag} {H : Hp} : ∀ {l : List (Key × D)} {vs : List (Key × V)} {ns : List (Key × Int)}, DenK K H l vs → intsK l = some ns → vs = vK ns
  | [], _, _, h, e => by cases h; cases e; rfl
  | (k, d) :: r, _, _, h, e => by
    cases h with
    | cons h1 h2 =>
      cases d with
      | int i =>
        obtain ⟨ns, e1, rfl⟩ := Option.map_eq_some_iff.mp (show (intsK r).map ((k, i) :: ·) = some _ from e)
        cases h1
        rw [intsK_ok h2 e1]
        rfl
      | _ => cases e
def oEqG (f : Bool → Bool) : W2 := fun x y S Q => match asK S x, asK S y with
  | some a, some b => match intsK a, intsK b with
    | some ks, some ls => Q (.bl (f (eqI ks ls))) S
    | _, _ => False
  | _, _ => False
abbrev oEqK : W2 := oEqG id
abbrev oNeK : W2 := oEqG fun b => !b
theorem dop_eqG {op : CmpOp} {f : Bool → Bool} (h0 : OpR X (compareOp op) (rEqI f X.K)) : OpR X (compareOp op) (lft2 X.K DI (oEqG f)) := by
  refine OpR.imp h0 fun v u H Q h => ?_
  obtain ⟨F, x, y, S, R, rel, d1, d2, w, fin⟩ := h
  unfold oEqG at w
  split at w
  · rename_i a b e1 e2
    split at w
    · rename_i ks ls e3 e4
      obtain ⟨p, vs, rfl, t1, k1⟩ := asK_ok rel d1 e1
      obtain ⟨q, us, rfl, t2, k2⟩ := asK_ok rel d2 e2
      have := intsK_ok k1 e3
      subst this
      have := intsK_ok k2 e4
      subst this
      exact ⟨p, q, ks, ls, rfl, rfl, t1, t2, fin _ _ _ _ w rel (.refl _) (.bl _)⟩
    · exact w.elim
  · exact w.elim
theorem c_eqK : CmpB X DI .Eq oEqK := ⟨fun h => dop_eqG (op_eqI (by omega))⟩
theorem c_neK : CmpB X DI .NotEq oNeK := ⟨fun h => dop_eqG (op_neI (by omega))⟩
end
end Dv

/-! Dv54: tuple(zip(a, b)) by data. -/
namespace PySem
open Sem (wp)
section
variable {prog : Program} {w : World} {A : Around} {E : Value → Shared → Prop} {s : Shared} {z TI TO i1 i2 : Addr} {fa fb : List Addr} {n1 n2 : Nat} {Pa Pb : Nat → Value → Prop} {Sa Sb : Nat → Heap → Prop} {κ : Type} [DecidableEq κ] {kvs : List (κ × Value)} {knd : KeyKind prog w κ}
theorem zt_collect {Q : List Value → Shared → Prop} (sep : ZipSep2 z TI TO i1 i2 fa fb) (da : ∀ A : Around, A.handled = none → Draws prog w A i1 fa n1 Pa Sa) (db : ∀ A : Around, A.handled = none → Draws prog w A i2 fb n2 Pb Sb) (hh : A.handled = none)
    (hl : kvs.length = min n1 n2) (hn : kvs.length ≤ sizeLine) (hrel : ∀ i u v, i < kvs.length → Pa i u → Pb i v → ∃ k, kvs[i]? = some (k, v) ∧ knd.is k u = true)
    (hz : IsZip s.heap z TI TO .none) (hTI : IsTupOf2 s.heap TI (.ref i1) (.ref i2)) (hTO : ∃ a b, IsTupOf2 s.heap TO a b) (sa : Sa 0 s.heap) (sb : Sb 0 s.heap) (lo : ∀ b ∈ z :: TI :: TO :: (fa ++ fb), b < s.heap.objs.size)
    (hQ : ∀ h' tk acc as, (∀ b o, b ∉ [z, TO, i1, i2] → s.heap.get? b = some o → h'.get? b = some o) → s.heap.objs.size ≤ h'.objs.size → as.length = kvs.length → PySem.W.KdxG knd kvs s.heap.objs.size h' as →
      acc = as.map Value.ref → Q acc { s with heap := h', toks := tk }) :
    wpAny (model prog w) A (collect (.ref z)) Q E s := by
  generalize hS : s.heap.objs.size = S at *
  have ne : ∀ b ∈ z :: TI :: TO :: (fa ++ fb), S ≠ b := fun b m => Nat.ne_of_gt (lo b m)
  have C : ZxC prog w S z TI TO i1 i2 fa fb n1 n2 Pa Pb Sa Sb := ⟨sep, da, db, ne z (by simp), ne TI (by simp), ne TO (by simp), fun m => ne S (by simp [m]) rfl, fun m => ne S (by simp [m]) rfl⟩
  have key : ∀ R : Result → Shared → Prop, (∀ h' tk acc c as, (∀ b o, b ∉ [z, TO, i1, i2] → s.heap.get? b = some o → h'.get? b = some o) → h'.get? S = some { cls := .type "list", dict := none, data := .seq acc c, slots := #[] } → as.length = kvs.length → PySem.W.KdxG knd kvs S h' as → acc.toList = as.map Value.ref → R (.ok (.ret (.ref S))) { s with heap := h', toks := tk }) →
      codeAny (model prog w) A (.builtin "proto.collect" ⟨[.ref z], []⟩) R s := by
    intro R hR
    refine codeAny_builtin PySem.F.entry_proto_collect ?_
    rw [Around.under_plainId PySem.F.plain_proto_collect _]
    show wpAny _ A.in1 (newList [] >>= fun l => again (.builtin "list.__iadd__" ⟨[l, .ref z], []⟩)) _ _ s
    refine wpAny_bind (wpAny_newObj_type ?_)
    refine wpAny_pure ⟨plainId_quiet PySem.F.plain_list_iadd _, codeAny_builtin PySem.F.entry_list_iadd ?_⟩
    rw [Around.under_plainId PySem.F.plain_list_iadd _]
    rw [hS]
    show wpAny _ A.in1 (Builtin.List.listExtendWith (.ref S) (.ref z) (.ref S)) _ _ _
    have hN : (s.heap.push { cls := .type "list", data := .seq #[] }).get? S = some { cls := .type "list", data := .seq #[] } := by rw [← hS]; exact Heap.get?_push_size _ rfl
    have oth : ∀ b o, b ≠ S → s.heap.get? b = some o → (s.heap.push { cls := .type "list", data := .seq #[] }).get? b = some o := fun b o _ e => Heap.get?_push_of_some _ e
    have sz : (s.heap.push { cls := .type "list", data := .seq #[] }).objs.size = S + 1 := by rw [Heap.size_push, hS]
    have st0 : ZxSt S z TI TO i1 i2 Sa Sb 0 s.heap := ⟨hTI, sa, sb, .inl ⟨hz, hTO⟩⟩
    refine zx_extend (s := { s with heap := s.heap.push { cls := .type "list", data := .seq #[] } }) (R := R) (knd := knd) (kvs := kvs) C (A := A) hh hl hn hrel (.ref S) _ (oth _ _ C.z.symm hz) (st0.keep C (A := A) hh oth) hN (fun b m => ?_) fun h' tk acc c as hk hS' ha hG hacc => ?_
    · rw [sz]
      rcases List.mem_cons.mp m with m | m
      · rw [m]; exact Nat.lt_succ_self _
      · refine Nat.lt_succ_of_lt (lo b ?_)
        have m1 := sep.mem1
        have m2 := sep.mem2
        simp only [List.mem_cons, List.not_mem_nil, or_false, List.mem_append] at m ⊢
        rcases m with rfl | rfl | rfl | rfl
        · exact .inl rfl
        · exact .inr (.inr (.inl rfl))
        · exact .inr (.inr (.inr (.inl m1)))
        · exact .inr (.inr (.inr (.inr m2)))
    · rw [show ({ s with heap := s.heap.push { cls := .type "list", data := .seq #[] } } : Shared).heap.objs.size = S + 1 from sz, Nat.add_sub_cancel] at hG
      exact hR h' tk acc c as (fun b o b2 e => hk b o (fun z => by rw [z, ← hS] at e; exact absurd (Heap.lt_size e) (Nat.lt_irrefl _)) b2 (oth b o (fun z => by rw [z, ← hS] at e; exact absurd (Heap.lt_size e) (Nat.lt_irrefl _)) e)) hS' ha hG hacc
  unfold collect
  refine wpAny_bind (wpAny_runValue (key _ fun h' tk acc c as hk hS' ha hG hacc => ?_))
  show wpAny _ A (load S >>= _) _ _ _
  refine wpAny_bind (wpAny_load hS' ?_)
  exact wpAny_pure (hQ h' tk acc.toList as hk (Nat.le_of_lt (Heap.lt_size hS')) ha hG hacc)
theorem zt_call {Q : Value → Shared → Prop} (sep : ZipSep2 z TI TO i1 i2 fa fb) (da : ∀ A : Around, A.handled = none → Draws prog w A i1 fa n1 Pa Sa) (db : ∀ A : Around, A.handled = none → Draws prog w A i2 fb n2 Pb Sb) (hh : A.handled = none)
    (hl : kvs.length = min n1 n2) (hn : kvs.length ≤ sizeLine) (hrel : ∀ i u v, i < kvs.length → Pa i u → Pb i v → ∃ k, kvs[i]? = some (k, v) ∧ knd.is k u = true)
    (hz : IsZip s.heap z TI TO .none) (hTI : IsTupOf2 s.heap TI (.ref i1) (.ref i2)) (hTO : ∃ a b, IsTupOf2 s.heap TO a b) (sa : Sa 0 s.heap) (sb : Sb 0 s.heap) (lo : ∀ b ∈ z :: TI :: TO :: (fa ++ fb), b < s.heap.objs.size)
    (hQ : ∀ h' tk acc as p, (∀ b o, b ∉ [z, TO, i1, i2] → s.heap.get? b = some o → h'.get? b = some o) → s.heap.objs.size ≤ p → h'.get? p = some { cls := .type "tuple", data := .seq acc } → p ∉ as → as.length = kvs.length → PySem.W.KdxG knd kvs s.heap.objs.size h' as →
      acc.toList = as.map Value.ref → Q (.ref p) { s with heap := h', toks := tk }) :
    wpAny (model prog w) A (call (.type "tuple") [.ref z]) Q E s := by
  have hnew : codeAny (model prog w) A.in1 (.call (.builtin "tuple.__new__") ⟨[.type "tuple", .ref z], []⟩) (wants (fun obj s₁ => s₁.TypeIs obj "tuple" ∧ Q obj s₁) E) s := by
    refine codeAny_of_tree ?_
    show wpAny _ A.in1.in1 (do checkBuiltinCall "tuple.__new__" ⟨[.type "tuple", .ref z], []⟩; again (.builtin "tuple.__new__" ⟨[.type "tuple", .ref z], []⟩)) _ _ s
    refine wpAny_bind (wpAny_of_eq (F.newCall_tuple_1 _) (wpAny_pure ⟨plainId_quiet F.plain_tuple_new _, codeAny_builtin F.entry_tuple_new ?_⟩))
    rw [Around.under_plainId F.plain_tuple_new _]
    have hsub := sub_tuple_self
    have hinit := init_tuple_lookup
    have hmh := madeHere_tuple
    have hTI' : s.TypeIs (.ref z) "zip" := ⟨_, hz, rfl⟩
    wp_walk using wpAny_typeOf hTI', zt_collect (A := A.in1.in1) (knd := knd) (kvs := kvs) sep da db hh hl hn hrel hz hTI hTO sa sb lo
    intro h' tk acc as hk hle ha hG hacc
    show wpAny _ _ (Builtin.Tuple.tupleExact acc.toArray >>= fun v => ret v) _ _ _
    unfold Builtin.Tuple.tupleExact
    refine wpAny_bind (wpAny_newObj_type ?_ (by show acc.toArray.size ≤ sizeLine; rw [List.size_toArray, hacc, List.length_map, ha]; exact hn))
    refine wpAny_pure ?_
    refine ⟨⟨_, Heap.get?_push_size _ rfl, rfl⟩, hQ (h'.push { cls := .type "tuple", data := .seq acc.toArray }) tk acc.toArray as h'.objs.size (fun b o nb e => Heap.get?_push_of_some _ (hk b o nb e)) hle (Heap.get?_push_size _ rfl) (fun m => ?_) ha ⟨hG.rise, hG.above, fun j a hj => ?_⟩ (by simpa using hacc)⟩
    · obtain ⟨j, hj⟩ := List.getElem?_of_mem m
      obtain ⟨_, _, _, _, _, e3⟩ := hG.pairs j _ hj
      exact absurd (Heap.lt_size e3) (Nat.lt_irrefl _)
    · obtain ⟨key, kk, x, e1, e2, e3⟩ := hG.pairs j a hj
      exact ⟨key, kk, x, e1, e2, Heap.get?_push_of_some _ e3⟩
  refine callType_codes (Q₁ := fun obj s₁ => s₁.TypeIs obj "tuple" ∧ Q obj s₁) F.called_tuple (F.typeCall_tuple_1 _) F.entry_object_init hnew fun obj s₁ h₁ => ?_
  exact ⟨h₁.1, F.args_object_init_2 obj _, object_init_meets F.called_tuple.init.lookup F.called_tuple.made (by decide) prog w A.in1 _ s₁ ⟨h₁.1, rfl, h₁.2⟩⟩
end
end PySem
namespace Dv
open PySem PySem.Spec L2
open PyProof.Rows hiding St
theorem tup_zip {prog : Program} {w : World} {A : Around} {E : Value → Shared → Prop} {s : Shared} {v1 v2 : Value} {fa fb : List Addr} {n1 n2 : Nat} {P1 P2 : Nat → Value → Prop} {O1 O2 : Heap → Prop} {Q : Value → Shared → Prop} {kvs : List (Key × Value)}
    (Z1 : ZSrc prog w v1 fa n1 P1 O1) (Z2 : ZSrc prog w v2 fb n2 P2 O2) (hh : A.handled = none) (h1 : O1 s.heap) (h2 : O2 s.heap) (hl : kvs.length = min n1 n2) (hn : kvs.length ≤ sizeLine)
    (hrel : ∀ i u v, i < kvs.length → P1 i u → P2 i v → ∃ k, kvs[i]? = some (k, v) ∧ keyIs k u = true)
    (h : ∀ p lo h' tk acc as, s.heap.objs.size ≤ p → s.heap.objs.size ≤ lo → (∀ b o, s.heap.get? b = some o → h'.get? b = some o) → h'.get? p = some { cls := .type "tuple", data := .seq acc } → p ∉ as → as.length = kvs.length → PySem.W.KdxG (mixKind prog w) kvs lo h' as → acc.toList = as.map Value.ref → Q (.ref p) { s with heap := h', toks := tk }) :
    wpAny (model prog w) A (call (.type "zip") [v1, v2]) (fun v s1 => wpAny (model prog w) A (call (.type "tuple") [v]) Q E s1) E s := by
  refine zip_begins2 Z1.beg Z2.beg h1 h2 fun g gz gT gO g1 g2 gs gk => ?_
  generalize hS : s.heap.objs.size = S at *
  have old : ∀ (b : Nat) o, s.heap.get? b = some o → b < S := fun b o e => by rw [← hS]; exact Heap.lt_size e
  have nfa : ∀ x : Nat, S ≤ x → x ∉ fa := fun x hx m => by
    obtain ⟨o, e⟩ := Z1.live _ h1 x m
    exact absurd (Nat.lt_of_lt_of_le (old x o e) hx) (Nat.lt_irrefl _)
  have nfb : ∀ x : Nat, S ≤ x → x ∉ fb := fun x hx m => by
    obtain ⟨o, e⟩ := Z2.live _ h2 x m
    exact absurd (Nat.lt_of_lt_of_le (old x o e) hx) (Nat.lt_irrefl _)
  have ne : ∀ a b : Nat, a ≠ b → S + a ≠ S + b := fun a b h e => h (Nat.add_left_cancel e)
  have nia : ∀ a : Nat, a ≠ 0 → S + a ∉ S :: fa := fun a h m => (List.mem_cons.mp m).elim (ne a 0 h) (nfa _ (Nat.le_add_right _ _))
  have nib : ∀ a : Nat, a ≠ 1 → S + a ∉ (S + 1) :: fb := fun a h m => (List.mem_cons.mp m).elim (ne a 1 h) (nfb _ (Nat.le_add_right _ _))
  have C : ZipSep2 (S + 4) (S + 2) (S + 3) S (S + 1) (S :: fa) ((S + 1) :: fb) := {
    TIz := ne 2 4 (by decide), TOz := ne 3 4 (by decide), TITO := ne 2 3 (by decide), TIi1 := ne 2 0 (by decide), mem1 := List.mem_cons_self .., zf1 := nia 4 (by decide), Tf1 := nia 3 (by decide)
    TIi2 := ne 2 1 (by decide), mem2 := List.mem_cons_self .., zf2 := nib 4 (by decide), Tf2 := nib 3 (by decide), sep1_2 := nib 0 (by decide), sep2_1 := nia 1 (by decide) }
  have sa0 := Z1.start g S g1 (Z1.beg.keeps _ _ h1 gk)
  have sb0 := Z2.start g (S + 1) g2 (Z2.beg.keeps _ _ h2 gk)
  refine zt_call (s := { s with heap := g }) (knd := mixKind prog w) (kvs := kvs) C (fun A hA => Z1.draws A S hA (nfa S (Nat.le_refl _))) (fun A hA => Z2.draws A (S + 1) hA (nfb _ (Nat.le_add_right _ _))) hh hl hn (fun i u v hi p1 p2 => ?_) gz gT ⟨_, _, gO⟩ sa0 sb0 (fun b m => ?_) fun h' tk acc as p hk hp hL hpa ha hG hacc => ?_
  · exact hrel i u v hi p1 p2
  · simp only [List.mem_cons, List.mem_append] at m
    rcases m with m | m | m | (m | m) | (m | m)
    · rw [m]; exact Heap.lt_size gz
    · rw [m]; exact Heap.lt_size gT
    · rw [m]; exact Heap.lt_size gO
    · rw [m]; exact Heap.lt_size g1
    · obtain ⟨o, e⟩ := Z1.lv _ _ _ sa0 b (List.mem_cons_of_mem _ m); exact Heap.lt_size e
    · rw [m]; exact Heap.lt_size g2
    · obtain ⟨o, e⟩ := Z2.lv _ _ _ sb0 b (List.mem_cons_of_mem _ m); exact Heap.lt_size e
  · refine h p g.objs.size h' tk acc as (Nat.le_trans (by rw [gs]; exact Nat.le_add_right _ _) hp) (by rw [gs]; exact Nat.le_add_right _ _) (fun b o e => hk b o (fun m => ?_) (gk b o e)) hL hpa ha hG hacc
    have lt := old b o e
    simp only [List.mem_cons, List.not_mem_nil, or_false] at m
    rcases m with m | m | m | m <;> (subst m; first | exact absurd lt (Nat.not_lt.mpr (Nat.le_add_right _ _)) | exact absurd lt (Nat.lt_irrefl _))
section
variable {X : Cx} {DI : Addr → GH → Prop} {N : List Str} {sc : Scope} {k : Nat} {fns : List Fn} {cs : List (Str × D)} {bl : List Str} {fc : Bool}
variable {p p2 q pos : Pos} {e e2 : Expr} {wa : WA}
def tTupZip (K : PySem.W.Frag) (ta : TA) : TE := fun σ H Q => ta σ H fun vs H1 => ∃ (a b : Addr) (xs ys : List V) (kv : List (Key × V)), vs = [.ref a, .ref b] ∧ (SqL K H1 a xs ∨ SqT K H1 a xs) ∧ (SqL K H1 b ys ∨ SqT K H1 b ys) ∧ zipOk xs ys kv ∧
  newPairs H1 kv fun ts H2 => ∀ p, H2 p = none → ∀ o : Obj, o.dict = none → Q (.ref p) (upd H2 p (.frz o (.tup (ts.map V.ref))))
theorem pe_tupZip {ta : TA} (hc : X.calm = true) (g1 : Gl X "tuple") (m1 : X.mg "tuple" = none) (g2 : Gl X "zip") (m2 : X.mg "zip" = none) (ha : PA X [e, e2] ta) (n1 : starEach [e, e2] X.env = (false, eval e X.env) :: starEach [e2] X.env) (n2 : (backTo q (starEach [e2] X.env)).any (·.1) = false) :
    PE X (.Call (.Name "tuple" p) [.Call (.Name "zip" p2) [e, e2] [] q] [] pos) (tTupZip X.K ta) := by
  refine ⟨fun pins s σ H Q I h => ?_⟩
  refine Call_ (ld_blt I g1 m1 boot_tuple (PyProof.Rows.callWith_type1 (args_cons ?_ rfl) rfl rfl))
  refine Call_ (ld_blt I g2 m2 PyProof.Rows.boot_zip (PyProof.Rows.callWith_type1 (thn (ha.run q pins s σ H _ I h) ?_) n1 n2))
  rintro us s1 ⟨vs, H1, I1, r1, a, b, xs, ys, kv, rfl, ta, tb, ⟨z1, z2⟩, q1⟩
  cases r1 with
  | cons ra rr =>
    cases rr with
    | cons rb rr =>
      cases rr
      cases ra
      cases rb
      obtain ⟨ia, Oa, Za, oa, va, la⟩ := seq_zsrcE I1 ta
      obtain ⟨ib, Ob, Zb, ob, vb, lb⟩ := seq_zsrcE I1 tb
      have l1 := va.length
      have l2 := vb.length
      let vs : List (Key × Value) := kv.zipWith (fun q u => (q.1, u)) ib
      have hvl : vs.length = min ia.length ib.length := by
        show (List.zipWith _ kv ib).length = _
        rw [List.length_zipWith, z1]; omega
      have hv : ∀ i u v, i < vs.length → ia[i]? = some u → ib[i]? = some v → ∃ q : Key × V, kv[i]? = some q ∧ RelV (kV q.1) u ∧ RelV q.2 v ∧ vs[i]? = some (q.1, v) := fun i u v hi h1 h2 => by
        have hi1 : i < xs.length := by rw [l1]; exact (List.getElem?_eq_some_iff.mp h1).1
        have hi2 : i < ys.length := by rw [l2]; exact (List.getElem?_eq_some_iff.mp h2).1
        obtain ⟨u', e1, r1⟩ := va.get (List.getElem?_eq_getElem hi1)
        obtain ⟨v', e2, r2⟩ := vb.get (List.getElem?_eq_getElem hi2)
        rw [h1] at e1
        cases e1
        rw [h2] at e2
        cases e2
        obtain ⟨q, eq, ex, ey⟩ := z2 i _ _ (List.getElem?_eq_getElem hi1) (List.getElem?_eq_getElem hi2)
        rw [ex] at r1
        rw [ey] at r2
        refine ⟨q, eq, r1, r2, ?_⟩
        show (List.zipWith _ kv ib)[i]? = _
        rw [List.getElem?_zipWith, eq, h2]
      have hKV : KV kv vs := by
        refine paired_of (by rw [hvl, z1, l1, l2]) fun i q p e1 e2 => ?_
        have hi : i < vs.length := (List.getElem?_eq_some_iff.mp e2).1
        have hi1 : i < ia.length := by omega
        have hi2 : i < ib.length := by omega
        obtain ⟨q', f1, _, f2, f3⟩ := hv i _ _ hi (List.getElem?_eq_getElem hi1) (List.getElem?_eq_getElem hi2)
        rw [e1] at f1
        cases f1
        rw [e2] at f3
        cases f3
        exact ⟨rfl, f2⟩
      refine thn (tup_zip (E := X.xe) (kvs := vs) Za Zb (I1.ok.hd hc) oa ob hvl (by rw [hvl]; omega) (fun i u v hi h1 h2 => ?_) fun p2 lo2 h' tk acc as hp hlo2 hk hL hpa hal hG hacc => ?_) fun v s2 z => args_nil z
      · obtain ⟨q, _, r1, _, f⟩ := hv i u v hi h1 h2
        exact ⟨q.1, f, keyIs_kV X.prog X.w r1⟩
      · have hG' : PySem.W.KdxG (mixKind X.prog X.w) vs s1.heap.objs.size h' as := ⟨hG.rise, fun a m => Nat.lt_of_le_of_lt hlo2 (hG.above a m), hG.pairs⟩
        obtain ⟨g, gg1, gg2⟩ := laidPairs (tk := tk) I1 hKV hk hal hG'
        have nS : p2 ∉ as := hpa
        have J := laidMany (s := s1) (tk := tk) I1 (p2 :: as) (fun b => if b = p2 then .frz ({ cls := .type "tuple", data := .seq acc } : Obj) (.tup (as.map V.ref)) else g b) hk (fun b m => by
          rcases List.mem_cons.mp m with rfl | m
          · exact hp
          · exact Nat.le_of_lt (hG'.above b m)) (fun b m => by
          rcases List.mem_cons.mp m with rfl | m
          · rw [if_pos rfl]
            exact ⟨hL, by show (as.map V.ref).length ≤ sizeLine; rw [List.length_map]; omega, acc.toList, by rw [hacc]; exact LiI.vals_refs as, ⟨_, hL, rfl, _, rfl⟩⟩
          · exact gg2 _ _ (fun b m2 => ⟨List.mem_cons_of_mem _ m2, if_neg (fun z => nS (by rw [← z]; exact m2))⟩) b m)
        rw [← upd_putH nS] at J
        have lk : kv.length = vs.length := Paired.length hKV
        exact ⟨.ref p2, _, J, rfl, q1 as g (fun t m => I1.hok.fresh (Nat.le_of_lt (hG'.above t m))) (by omega) gg1 _ (by rw [putH_out nS]; exact I1.hok.fresh hp) _ rfl⟩
def wTupZip (a : WA) : W := fun ρ S Q => a ρ S fun ds S1 => match ds with
  | [x, y] => match asQ S1 x, asQ S1 y with
    | some xs, some ys => match zipK xs ys with
      | some l => Q (.tup (l.map pairD)) S1
      | none => False
    | _, _ => False
  | _ => False
theorem x_tupZip {ρ : Env} {S : GS} {Q : D → GS → Prop} {a b : W} : wTupZip (wCons a (wCons b wNil)) ρ S Q = a ρ S fun x S0 => b ρ S0 fun y S1 => match asQ S1 x, asQ S1 y with
    | some xs, some ys => match zipK xs ys with
      | some l => Q (.tup (l.map pairD)) S1
      | none => False
    | _, _ => False := propext ⟨id, id⟩
theorem e_tupZip (o : Ob X DI N sc k fns cs bl fc) (ha : PAn X [e, e2] (lftA X.K DI wa)) (h : (okB bl sc "tuple" (.type "tuple") && (okB bl sc "zip" (.type "zip") && (nStar e && nStar e2))) = true := by kernel_rfl) : PE X (.Call (.Name "tuple" p) [.Call (.Name "zip" p2) [e, e2] [] q] [] pos) (lft X.K DI (wTupZip wa)) := by
  simp only [Bool.and_eq_true] at h
  obtain ⟨h1, h2, h3, h4⟩ := h
  obtain ⟨m1, g1, _⟩ := okB_ok o h1
  obtain ⟨m2, g2, _⟩ := okB_ok o h2
  refine ((pe_tupZip o.hc g1 m1 g2 m2 ha.pa (star_cons h3) (star_pl (by simp [h4])))).imp fun σ H Q z => ?_
  obtain ⟨F, ρ, S, R, rel, env, w, fin⟩ := z
  refine ⟨F, ρ, S, _, rel, env, w, fun ds S1 vs H1 q1 rel1 k1 d1 => ?_⟩
  split at q1
  · obtain ⟨v, u, rfl, dv, du⟩ := d1.twoV
    split at q1
    · rename_i xs ys e1 e2
      split at q1
      · rename_i l e3
        obtain ⟨a, us, rfl, ta, da⟩ := asQ_ok rel1 dv e1
        obtain ⟨b, ws, rfl, tb, db⟩ := asQ_ok rel1 du e2
        obtain ⟨kv, dk, z1, z2⟩ := zipK_ok da db e3
        refine ⟨a, b, us, ws, kv, rfl, ta, tb, ⟨z1, z2⟩, fun ts g nw hl hg p hp o od => ?_⟩
        have dl := den_pairs nw dk hl (fun t m => m) hg
        exact (fin.up k1).tup q1 (rel_putH rel1 nw) (kp_putH nw) dl od hp
      · exact q1.elim
    · exact q1.elim
  · exact q1.elim
end
end Dv

namespace K32
open PySem PySem.Spec L2 Dv
open PyProof.Rows hiding St
def topS (i : Nat) : Stmt := PySem.Challenge.pw_heldapart_k32_whole_rows_of_functions.main.body.getD i (.Pass ⟨0, 0, 0, 0⟩)
abbrev s__law_stock : Stmt := topS 7
abbrev N__law_stock : List Str := ["script", "flat", "cell"]
theorem sc__law_stock : FnScope N__law_stock ["script"] (defScope s__law_stock) := ⟨rfl, rfl, rfl, by decide +kernel, rfl, by decide +kernel, by decide +kernel⟩
abbrev s__law_draw : Stmt := topS 8
abbrev N__law_draw : List Str := ["stock", "size", "turn", "cell", "blend", "great"]
theorem sc__law_draw : FnScope N__law_draw ["stock", "size"] (defScope s__law_draw) := ⟨rfl, rfl, rfl, by decide +kernel, rfl, by decide +kernel, by decide +kernel⟩
abbrev s__law_pick : Stmt := topS 9
abbrev N__law_pick : List Str := ["stock", "row"]
theorem sc__law_pick : FnScope N__law_pick ["stock", "row"] (defScope s__law_pick) := ⟨rfl, rfl, rfl, by decide +kernel, rfl, by decide +kernel, by decide +kernel⟩
abbrev s__law_clause : Stmt := topS 11
abbrev N__law_clause : List Str := ["stock", "names", "many", "turn", "terms", "looks", "parts"]
theorem sc__law_clause : FnScope N__law_clause ["stock", "names", "many"] (defScope s__law_clause) := ⟨rfl, rfl, rfl, by decide +kernel, rfl, by decide +kernel, by decide +kernel⟩
abbrev s__law_saying : Stmt := topS 12
abbrev N__law_saying : List Str := ["stock", "names", "many", "turn"]
theorem sc__law_saying : FnScope N__law_saying ["stock", "names", "many"] (defScope s__law_saying) := ⟨rfl, rfl, rfl, by decide +kernel, rfl, by decide +kernel, by decide +kernel⟩
abbrev s__law_values : Stmt := topS 14
abbrev N__law_values : List Str := ["shape"]
theorem sc__law_values : FnScope N__law_values ["shape"] (defScope s__law_values) := ⟨rfl, rfl, rfl, by decide +kernel, rfl, by decide +kernel, by decide +kernel⟩
abbrev s__law_simple : Stmt := topS 16
abbrev N__law_simple : List Str := ["stock", "shape", "others", "values", "way", "x", "a", "b", "args", "callee", "many", "more", "turn"]
theorem sc__law_simple : FnScope N__law_simple ["stock", "shape", "others"] (defScope s__law_simple) := ⟨rfl, rfl, rfl, by decide +kernel, rfl, by decide +kernel, by decide +kernel⟩
abbrev s__law_test : Stmt := topS 15
abbrev N__law_test : List Str := ["stock", "shape", "values", "way"]
theorem sc__law_test : FnScope N__law_test ["stock", "shape"] (defScope s__law_test) := ⟨rfl, rfl, rfl, by decide +kernel, rfl, by decide +kernel, by decide +kernel⟩
abbrev s__law_statement : Stmt := topS 17
abbrev N__law_statement : List Str := ["stock", "shape", "others", "deep", "way", "names", "test", "inner"]
theorem sc__law_statement : FnScope N__law_statement ["stock", "shape", "others", "deep"] (defScope s__law_statement) := ⟨rfl, rfl, rfl, by decide +kernel, rfl, by decide +kernel, by decide +kernel⟩
abbrev s__law_statements : Stmt := topS 18
abbrev N__law_statements : List Str := ["stock", "shape", "others", "deep", "many", "turn"]
theorem sc__law_statements : FnScope N__law_statements ["stock", "shape", "others", "deep", "many"] (defScope s__law_statements) := ⟨rfl, rfl, rfl, by decide +kernel, rfl, by decide +kernel, by decide +kernel⟩
abbrev s__law_size : Stmt := topS 19
abbrev N__law_size : List Str := ["statements", "inner", "own"]
theorem sc__law_size : FnScope N__law_size ["statements"] (defScope s__law_size) := ⟨rfl, rfl, rfl, by decide +kernel, rfl, by decide +kernel, by decide +kernel⟩
abbrev s__law_function : Stmt := topS 20
abbrev N__law_function : List Str := ["stock", "name", "shape", "others", "many", "given", "head", "foot", "body"]
theorem sc__law_function : FnScope N__law_function ["stock", "name", "shape", "others", "many"] (defScope s__law_function) := ⟨rfl, rfl, rfl, by decide +kernel, rfl, by decide +kernel, by decide +kernel⟩
abbrev s_rows_of_if : Stmt := topS 2
abbrev N_rows_of_if : List Str := ["statement", "way", "start", "first", "behind", "second", "jump"]
theorem sc_rows_of_if : FnScope N_rows_of_if ["statement", "way", "start"] (defScope s_rows_of_if) := ⟨rfl, rfl, rfl, by decide +kernel, rfl, by decide +kernel, by decide +kernel⟩
abbrev s_rows_of_while : Stmt := topS 3
abbrev N_rows_of_while : List Str := ["statement", "way", "start", "body", "unless"]
theorem sc_rows_of_while : FnScope N_rows_of_while ["statement", "way", "start"] (defScope s_rows_of_while) := ⟨rfl, rfl, rfl, by decide +kernel, rfl, by decide +kernel, by decide +kernel⟩
abbrev s_rows_within : Stmt := topS 1
abbrev N_rows_within : List Str := ["statements", "way", "start", "found", "place", "statement", "own"]
theorem sc_rows_within : FnScope N_rows_within ["statements", "way", "start"] (defScope s_rows_within) := ⟨rfl, rfl, rfl, by decide +kernel, rfl, by decide +kernel, by decide +kernel⟩
abbrev s_code_of : Stmt := topS 4
abbrev N_code_of : List Str := ["function", "row", "way"]
theorem sc_code_of : FnScope N_code_of ["function"] (defScope s_code_of) := ⟨rfl, rfl, rfl, by decide +kernel, rfl, by decide +kernel, by decide +kernel⟩
abbrev s_row_ways : Stmt := topS 5
abbrev N_row_ways : List Str := ["function", "row", "way"]
theorem sc_row_ways : FnScope N_row_ways ["function"] (defScope s_row_ways) := ⟨rfl, rfl, rfl, by decide +kernel, rfl, by decide +kernel, by decide +kernel⟩
abbrev s__law_rows : Stmt := topS 22
abbrev N__law_rows : List Str := ["statements", "way", "begin", "made", "spot", "own", "here", "place", "first", "second", "behind", "inner"]
theorem sc__law_rows : FnScope N__law_rows ["statements", "way", "begin"] (defScope s__law_rows) := ⟨rfl, rfl, rfl, by decide +kernel, rfl, by decide +kernel, by decide +kernel⟩
abbrev s__law_is_told : Stmt := topS 23
abbrev N__law_is_told : List Str := ["function", "is_named", "due", "told", "known", "made", "row", "way"]
theorem sc__law_is_told : FnScope N__law_is_told ["function", "is_named"] (defScope s__law_is_told) := ⟨rfl, rfl, rfl, by decide +kernel, rfl, by decide +kernel, by decide +kernel⟩
abbrev s__law_shuffled : Stmt := topS 10
abbrev N__law_shuffled : List Str := ["stock", "row", "turn", "rest", "made"]
theorem sc__law_shuffled : FnScope N__law_shuffled ["stock", "row"] (defScope s__law_shuffled) := ⟨rfl, rfl, rfl, by decide +kernel, rfl, by decide +kernel, by decide +kernel⟩
abbrev s__law_shape : Stmt := topS 13
abbrev N__law_shape : List Str := ["stock", "most", "names", "first", "second"]
theorem sc__law_shape : FnScope N__law_shape ["stock", "most"] (defScope s__law_shape) := ⟨rfl, rfl, rfl, by decide +kernel, rfl, by decide +kernel, by decide +kernel⟩
abbrev s__law_deep : Stmt := topS 24
abbrev N__law_deep : List Str := ["stock", "statements", "many", "turn", "way"]
theorem sc__law_deep : FnScope N__law_deep ["stock", "statements", "many"] (defScope s__law_deep) := ⟨rfl, rfl, rfl, by decide +kernel, rfl, by decide +kernel, by decide +kernel⟩
abbrev s_law : Stmt := topS 25
abbrev N_law : List Str := ["script", "stock", "turn", "plain", "shape", "function", "deep"]
theorem sc_law : FnScope N_law ["script"] (defScope s_law) := ⟨rfl, rfl, rfl, by decide +kernel, rfl, by decide +kernel, by decide +kernel⟩
/-! ### the stock: [greats, flat, their sum, how many were drawn] -/
structure StockAt (S : GS) (dk gr : Addr) (xs fl : List Int) (m t : Int) : Prop where
  ne : gr ≠ dk
  d : S.g dk = some (.lst [.ref gr, .lst (fl.map D.int), .int m, .int t])
  l : S.g gr = some (.lst (xs.map D.int))
  nn : ∀ x ∈ xs, 0 ≤ x
  ln : xs.length ≤ 63
  f0 : fl ≠ []
  fn : fl.length ≤ 64
def DS : Addr → GH → Prop := fun dk G => ∃ gr xs fl m t, StockAt ⟨G, none⟩ dk gr xs fl m t ∧ ∀ a, a ≠ dk → a ≠ gr → G a = none
section
variable {S : GS} {dk gr : Addr} {xs fl : List Int} {m t : Int} {Q : D → GS → Prop}
theorem StockAt.q (A : StockAt S dk gr xs fl m t) : asQ S (.ref dk) = some [.ref gr, .lst (fl.map D.int), .int m, .int t] := by simp only [asQ, asL, A.d]
theorem StockAt.i0 (A : StockAt S dk gr xs fl m t) : oIx (.ref dk) (.int 0) S Q = Q (.ref gr) S := ix_eq (n := 0) A.q rfl
theorem StockAt.i1 (A : StockAt S dk gr xs fl m t) : oIx (.ref dk) (.int 1) S Q = Q (.lst (fl.map D.int)) S := ix_eq (n := 1) A.q rfl
theorem StockAt.i2 (A : StockAt S dk gr xs fl m t) : oIx (.ref dk) (.int 2) S Q = Q (.int m) S := ix_eq (n := 2) A.q rfl
theorem StockAt.i3 (A : StockAt S dk gr xs fl m t) : oIx (.ref dk) (.int 3) S Q = Q (.int t) S := ix_eq (n := 3) A.q rfl
end
section
variable {P : Program} {w : World} {K : PySem.W.Frag} {mg : Str → Option Value} {base : Heap} {k : Nat}
def Beside (S S2 : GS) (dk gr : Addr) : Prop := S2.o = S.o ∧ ∀ a, a ≠ dk → a ≠ gr → S2.g a = S.g a
def draw0 : WF := fun ds S R => ∃ (dk gr : Addr) (xs fl : List Int) (mi t m : Int), ds = [.ref dk, .int m] ∧ 1 ≤ m ∧ m < 1073741824 ∧ StockAt S dk gr xs fl mi t ∧
  ∀ (n : Nat) (S2 : GS) (ys : List Int) (t2 : Int), (n : Int) < m → StockAt S2 dk gr ys fl mi t2 → Beside S S2 dk gr → R (.int (n : Nat)) S2
theorem mod_nat (i : Int) {m : Int} (h : 1 ≤ m) : ∃ n : Nat, i % m = n ∧ (n : Int) < m :=
  have h0 := Int.emod_nonneg i (show m ≠ 0 by omega)
  have h1 := Int.emod_lt_of_pos i (show 0 < m by omega)
  ⟨(i % m).toNat, by omega, by omega⟩
theorem fn_draw0 (d : Df K mg "_law_draw" s__law_draw ["stock", "size"] []) (hb : BlIn mg ["int", "len"]) : FnIn P w K mg base DS (k + 1) ⟨"_law_draw", 2, draw0, []⟩ := by
  refine fn_mk d sc__law_draw rfl (fns := []) (cs := []) trivial trivial hb (fun X o => (s_cons (s_if (t_cmp o c_ne (e_ix o (e_var o 0) e_int) (e_lst a_nil))
  (s_cons (s_set o 5 (e_pop (e_ix o (e_var o 0) e_int)))
  (s_cons (s_if (t_cmp o c_ge (e_var o 5) (e_var o 1))
  (s_cons (s_expr (e_append (e_ix o (e_var o 0) e_int) (a_cons (e_fdiv (e_var o 5) (e_var o 1)) a_nil)))
  s_nil)
  s_nil)
  (s_cons (s_ret (e_mod (e_toInt o (a_cons (e_var o 5) a_nil)) (e_var o 1)))
  s_nil)))
  s_nil)
  (s_cons (s_asg (e_add (e_ix o (e_var o 0) e_int) e_int) (g_sub o (e_var o 0) e_int))
  (s_cons (s_set o 2 (e_ix o (e_var o 0) e_int))
  (s_cons (s_set o 3 (e_mod (e_toInt o (a_cons (e_ix o (e_ix o (e_var o 0) e_int) (e_mod (e_toInt o (a_cons (e_var o 2) a_nil)) (e_len o (a_cons (e_ix o (e_var o 0) e_int) a_nil)))) a_nil)) e_int))
  (s_cons (s_set o 4 (e_mod (e_toInt o (a_cons (e_add (e_add (e_mul (e_var o 3) e_int) (e_mul (e_mod (e_toInt o (a_cons (e_ix o (e_var o 0) e_int) a_nil)) e_int) e_int)) (e_mul (e_var o 2) e_int)) a_nil)) e_int))
  (s_cons (s_set o 4 (e_mod (e_toInt o (a_cons (e_add (e_add (e_mul (e_var o 4) (e_var o 4)) (e_mul (e_var o 2) e_int)) (e_var o 3)) a_nil)) e_int))
  (s_cons (s_ret (e_mod (e_fdiv (e_mod (e_toInt o (a_cons (e_add (e_mul (e_var o 4) e_int) (e_mul (e_var o 2) e_int)) a_nil)) e_int) e_int) (e_var o 1)))
  s_nil)))))))) ?_
  intro ds S R hl h
  obtain ⟨dk, gr, xs, fl, mi, t, m, rfl, h1m, hm, D0, hR⟩ := h
  show wSeq _ _ _ [some (.ref dk), some (.int m), none, none, none, none] S
  have ne : ∀ Q : D → GS → Prop, oNe (.ref gr) (.lst []) S Q = Q (.bl (!xs.isEmpty)) S := fun Q => by
    unfold oNe
    have e : eqb (.lst (xs.map D.int)) (.lst []) = xs.isEmpty := by rw [eqb_nil]; cases xs <;> rfl
    have c2 : cmp? (.lst []) = true := by decide
    simp only [snap, D0.l, cmp_ints, e, c2, true_and]
  have cm : ∀ i j : Int, -(2 ^ 64) < i → i < 2 ^ 64 → CMulA i j := fun i j h1 h2 => .inl (.inl ⟨h1, h2⟩)
  have cr : ∀ i j : Int, -(2 ^ 64) < j → j < 2 ^ 64 → CMulA i j := fun i j h1 h2 => .inl (.inr ⟨h1, h2⟩)
  simp only [x_tupZip, x_dpop, x_dcT, x_iZip, x_listZip, x_md, x_zipR, x_zipD, x_listRg1, x_listRg2, x_sortItems, x_listItems, x_back, x_ifT, x_sortSet, x_get1, x_get2, fnAt, x_lc, x_lcN, x_var, x_C, x_op, x_un, x_slice, x_noPart, x_part, x_tru, x_B, x_chain, x_and, x_or, x_not, x_andV, x_orV, x_notB, x_if, x_nil, x_cons, x_tup, x_lst, x_call, x_callK, x_gN, x_gT, x_gs0, x_gs1, x_yes, x_iSeq, x_iEn, x_words, x_ml, x_disp, x_d0, x_pnil, x_pcons, csAt, List.getD_cons_zero, List.getD_cons_succ, List.getElem?_cons_zero, List.getElem?_cons_succ, List.set_cons_zero, List.set_cons_succ, x_seq, x_skip, x_ifS, x_ret, x_retN, x_asg, x_par, x_expr, x_brk, x_cnt, f1, D0.i0, ne, wLst]
  refine ⟨Nat.zero_le _, ?_⟩
  cases xs with
  | cons x0 r0 =>
    rw [if_pos (show (!(x0 :: r0).isEmpty) = true from rfl)]
    have isl : isLs S (.ref gr) = true := by simp only [isLs, D0.l]
    generalize hxs : x0 :: r0 = xs at *
    have hne : xs ≠ [] := by rw [← hxs]; simp
    have hlast : xs[xs.length - 1]? = some (xs.getLast hne) := by rw [← List.getLast?_eq_getElem?]; exact List.getLast?_eq_getLast hne
    have hnn : 0 ≤ xs.getLast hne := D0.nn _ (List.getLast_mem hne)
    generalize xs.getLast hne = wh at *
    refine ⟨isl, ?_⟩
    unfold fPop
    simp only [D0.l]
    refine ⟨.int wh, by rw [List.length_map, List.getElem?_map, hlast]; rfl, ?_⟩
    generalize hS1 : S.set gr (.lst (List.map D.int xs).dropLast) = S1
    have D1 : StockAt S1 dk gr xs.dropLast fl mi t := by
      subst hS1
      refine ⟨D0.ne, by rw [GS.set_ne D0.ne.symm]; exact D0.d, by rw [GS.set_same, List.map_dropLast], fun x m => D0.nn x (List.dropLast_subset _ m), by rw [List.length_dropLast]; have := D0.ln; omega, D0.f0, D0.fn⟩
    have B1 : Beside S S1 dk gr := by
      subst hS1
      exact ⟨rfl, fun a h1 h2 => GS.set_ne h2⟩
    have isl1 : isLs S1 (.ref gr) = true := by simp only [isLs, D1.l]
    obtain ⟨n, e1, e2⟩ := mod_nat wh h1m
    simp only [x_tupZip, x_dpop, x_dcT, x_iZip, x_listZip, x_md, x_zipR, x_zipD, x_listRg1, x_listRg2, x_sortItems, x_listItems, x_back, x_ifT, x_sortSet, x_get1, x_get2, fnAt, x_lc, x_lcN, x_var, x_C, x_op, x_un, x_slice, x_noPart, x_part, x_tru, x_B, x_chain, x_and, x_or, x_not, x_andV, x_orV, x_notB, x_if, x_nil, x_cons, x_tup, x_lst, x_call, x_callK, x_gN, x_gT, x_gs0, x_gs1, x_yes, x_iSeq, x_iEn, x_words, x_ml, x_disp, x_d0, x_pnil, x_pcons, csAt, List.getD_cons_zero, List.getD_cons_succ, List.getElem?_cons_zero, List.getElem?_cons_succ, List.set_cons_zero, List.set_cons_succ, x_seq, x_skip, x_ifS, x_ret, x_retN, x_asg, x_par, x_expr, x_brk, x_cnt, oGe, oOrd, D1.i0, oFdiv, oInt]
    by_cases q2 : m ≤ wh
    · rw [if_pos (decide_eq_true q2)]
      refine ⟨isl1, ⟨by omega, hm⟩, ?_⟩
      unfold fAppend
      simp only [D1.l]
      refine ⟨by rw [List.length_map, List.length_dropLast, sizeLine_eq]; have := D0.ln; omega, ?_⟩
      show 0 < m ∧ R (.int (wh % m)) _
      refine ⟨by omega, ?_⟩
      rw [e1]
      refine hR n _ (xs.dropLast ++ [wh / m]) t e2 ⟨D0.ne, ?_, ?_, fun x mx => ?_, ?_, D0.f0, D0.fn⟩ ⟨B1.1, fun a h1 h2 => ?_⟩
      · rw [GS.set_ne D0.ne.symm]; exact D1.d
      · rw [GS.set_same, List.map_append]; rfl
      · rcases List.mem_append.mp mx with z | z
        · exact D1.nn x z
        · rw [List.mem_singleton.mp z]
          exact Int.ediv_nonneg hnn (by omega)
      · rw [List.length_append, List.length_dropLast]
        have := D0.ln
        have h0 : xs.length ≠ 0 := fun z => hne (List.length_eq_zero_iff.mp z)
        show xs.length - 1 + 1 ≤ 63
        omega
      · rw [GS.set_ne h2]; exact B1.2 a h1 h2
    · rw [if_neg (by rw [decide_eq_true_eq]; exact q2)]
      show 0 < m ∧ R (.int (wh % m)) _
      refine ⟨by omega, ?_⟩
      rw [e1]
      exact hR n _ xs.dropLast t e2 D1 B1
  | nil =>
    rw [if_neg (show ¬ (!([] : List Int).isEmpty) = true by decide)]
    simp only [x_tupZip, x_dpop, x_dcT, x_iZip, x_listZip, x_md, x_zipR, x_zipD, x_listRg1, x_listRg2, x_sortItems, x_listItems, x_back, x_ifT, x_sortSet, x_get1, x_get2, fnAt, x_lc, x_lcN, x_var, x_C, x_op, x_un, x_slice, x_noPart, x_part, x_tru, x_B, x_chain, x_and, x_or, x_not, x_andV, x_orV, x_notB, x_if, x_nil, x_cons, x_tup, x_lst, x_call, x_callK, x_gN, x_gT, x_gs0, x_gs1, x_yes, x_iSeq, x_iEn, x_words, x_ml, x_disp, x_d0, x_pnil, x_pcons, csAt, List.getD_cons_zero, List.getD_cons_succ, List.getElem?_cons_zero, List.getElem?_cons_succ, List.set_cons_zero, List.set_cons_succ, x_seq, x_skip, x_ifS, x_ret, x_retN, x_asg, x_par, x_expr, x_brk, x_cnt, f1, x_gS, D0.i3, oAdd]
    unfold oSet
    simp only [D0.d]
    show match ixN 4 3 with | some j => _ | none => False
    have hix : ixN 4 3 = some 3 := by decide
    simp only [hix]
    generalize hS1 : S.set dk _ = S1
    have D1 : StockAt S1 dk gr [] fl mi (t + 1) := by
      subst hS1
      exact ⟨D0.ne, by rw [GS.set_same]; rfl, by rw [GS.set_ne D0.ne]; exact D0.l, (fun x m => nomatch m), by decide, D0.f0, D0.fn⟩
    have B1 : Beside S S1 dk gr := by
      subst hS1
      exact ⟨rfl, fun a h1 h2 => GS.set_ne h1⟩
    clear hS1
    have ln : ∀ S : GS, lenD S (.lst (fl.map D.int)) = some fl.length := fun S => by
      have := len_seq (S := S) (d := .lst (fl.map D.int)) (ds := fl.map D.int) rfl
      rw [List.length_map] at this
      exact this
    have hfl : 1 ≤ (fl.length : Int) := by
      have : fl.length ≠ 0 := fun z => D0.f0 (List.length_eq_zero_iff.mp z)
      omega
    obtain ⟨j, e3, e4⟩ := mod_nat (t + 1) hfl
    have hj : j < fl.length := by omega
    have ixf : ∀ (S : GS) (Q : D → GS → Prop), oIx (.lst (fl.map D.int)) (.int (j : Nat)) S Q = Q (.int fl[j]) S := fun S Q => ix_eq (n := j) rfl (by rw [List.getElem?_map, List.getElem?_eq_getElem hj]; rfl)
    simp only [x_tupZip, x_dpop, x_dcT, x_iZip, x_listZip, x_md, x_zipR, x_zipD, x_listRg1, x_listRg2, x_sortItems, x_listItems, x_back, x_ifT, x_sortSet, x_get1, x_get2, fnAt, x_lc, x_lcN, x_var, x_C, x_op, x_un, x_slice, x_noPart, x_part, x_tru, x_B, x_chain, x_and, x_or, x_not, x_andV, x_orV, x_notB, x_if, x_nil, x_cons, x_tup, x_lst, x_call, x_callK, x_gN, x_gT, x_gs0, x_gs1, x_yes, x_iSeq, x_iEn, x_words, x_ml, x_disp, x_d0, x_pnil, x_pcons, csAt, List.getD_cons_zero, List.getD_cons_succ, List.getElem?_cons_zero, List.getElem?_cons_succ, List.set_cons_zero, List.set_cons_succ, x_seq, x_skip, x_ifS, x_ret, x_retN, x_asg, x_par, x_expr, x_brk, x_cnt, f1, D1.i3, D1.i1, D1.i2, fLen, ln, fInt, oMod, oInt, e3, ixf, oAdd, oMul, oFdiv]
    have n1 : ∀ i : Int, 0 ≤ i % 4294967291 ∧ i % 4294967291 < 4294967291 := fun i => ⟨Int.emod_nonneg i (by decide), Int.emod_lt_of_pos i (by decide)⟩
    generalize fl[j] % 1000000007 = c0 at *
    have b1 := n1 (c0 * 48271 + mi % 998244353 * 69621 + (t + 1) * 2654435761)
    generalize (c0 * 48271 + mi % 998244353 * 69621 + (t + 1) * 2654435761) % 4294967291 = a1 at *
    generalize (a1 * a1 + (t + 1) * 362437 + c0) % 4294967279 = a2 at *
    obtain ⟨n, e1, e2⟩ := mod_nat ((a2 * 40692 + (t + 1) * 65537) % 4294967231 / 4096) h1m
    rw [e1]
    exact ⟨by omega, by decide, cr _ _ (by decide) (by decide), by decide, cr _ _ (by decide) (by decide), cr _ _ (by decide) (by decide), by decide, cm _ _ (by omega) (by omega), cr _ _ (by decide) (by decide), by decide, cr _ _ (by decide) (by decide), cr _ _ (by decide) (by decide), by decide, ⟨by decide, by decide⟩, by omega, hR n _ [] (t + 1) e2 D1 B1⟩
/-- any number that may be drawn -/
def sp__law_draw : WF := fun ds S R => ∃ (dk : Addr) (m : Int), ds = [.ref dk, .int m] ∧ S.o = some dk ∧ 1 ≤ m ∧ m < 1073741824 ∧ ∀ n : Nat, (n : Int) < m → R (.int (n : Nat)) S
theorem fn__law_draw (d : Df K mg "_law_draw" s__law_draw ["stock", "size"] []) (hb : BlIn mg ["int", "len"]) : FnIn P w K mg base DS (k + 1) ⟨"_law_draw", 2, sp__law_draw, []⟩ := by
  refine (fn_draw0 d hb).imp fun vs H Q => lftF_open fun ds S R h => ?_
  obtain ⟨dk, m, rfl, ho, h1m, hm, hR⟩ := h
  refine ⟨dk, ho, fun G hG dis => ?_⟩
  obtain ⟨gr, xs, fl, mi, t, D0, oth⟩ := hG
  have gd1 : G dk = some _ := D0.d
  have gl1 : G gr = some _ := D0.l
  have pl : ∀ a x, G a = some x → (S.plus G).g a = some x := fun a x e => by unfold GS.plus; simp only [e]
  have pn : ∀ a, G a = none → (S.plus G).g a = S.g a := fun a e => by unfold GS.plus; simp only [e]
  refine ⟨dk, gr, xs, fl, mi, t, m, rfl, h1m, hm, ⟨D0.ne, pl _ _ gd1, pl _ _ gl1, D0.nn, D0.ln, D0.f0, D0.fn⟩, fun n S2 ys t2 hn D2 B2 => ?_⟩
  refine ⟨fun a => if a = dk ∨ a = gr then S2.g a else none, ⟨gr, ys, fl, mi, t2, ⟨D2.ne, ?_, ?_, D2.nn, D2.ln, D2.f0, D2.fn⟩, fun a h1 h2 => if_neg fun z => z.elim h1 h2⟩, ⟨B2.1, fun a x e => ?_, fun a x e => ?_⟩, hR n hn⟩
  · exact (if_pos (.inl rfl)).trans D2.d
  · exact (if_pos (.inr rfl)).trans D2.l
  · by_cases c : a = dk ∨ a = gr
    · exact (if_pos c).symm.trans e
    · cases (if_neg c).symm.trans e
  · have hn := dis a x e
    have h1 : a ≠ dk := fun z => by rw [z, gd1] at hn; cases hn
    have h2 : a ≠ gr := fun z => by rw [z, gl1] at hn; cases hn
    exact ⟨(B2.2 a h1 h2).trans ((pn a hn).trans e), if_neg fun z => z.elim h1 h2⟩
def sp__law_pick : WF := fun ds S R => ∃ (dk : Addr) (d : D) (xs : List D), ds = [.ref dk, d] ∧ S.o = some dk ∧ asQ S d = some xs ∧ xs ≠ [] ∧ xs.length < 1073741824 ∧ ∀ y ∈ xs, R y S
theorem fn__law_pick (c1 : FnIn P w K mg base DS k ⟨"_law_draw", 2, sp__law_draw, []⟩) (d : Df K mg "_law_pick" s__law_pick ["stock", "row"] []) (hb : BlIn mg ["len"]) : FnIn P w K mg base DS (k + 1) ⟨"_law_pick", 2, sp__law_pick, []⟩ := by
  refine fn_mk d sc__law_pick rfl (fns := [⟨"_law_draw", 2, sp__law_draw, []⟩]) (cs := []) ⟨c1, trivial⟩ trivial hb (fun X o => (s_cons (s_ret (e_ix o (e_var o 1) (e_call o 0 (a_cons (e_var o 0) (a_cons (e_len o (a_cons (e_var o 1) a_nil)) a_nil)))))
  s_nil)) ?_
  intro ds S R hl h
  obtain ⟨dk, d, xs, rfl, ho, hq, hne, hlen, hR⟩ := h
  show wSeq _ _ _ [some (.ref dk), some d] S
  simp only [x_tupZip, x_dpop, x_dcT, x_iZip, x_listZip, x_md, x_zipR, x_zipD, x_listRg1, x_listRg2, x_sortItems, x_listItems, x_back, x_ifT, x_sortSet, x_get1, x_get2, fnAt, x_lc, x_lcN, x_var, x_C, x_op, x_un, x_slice, x_noPart, x_part, x_tru, x_B, x_chain, x_and, x_or, x_not, x_andV, x_orV, x_notB, x_if, x_nil, x_cons, x_tup, x_lst, x_call, x_callK, x_gN, x_gT, x_gs0, x_gs1, x_yes, x_iSeq, x_iEn, x_words, x_ml, x_disp, x_d0, x_pnil, x_pcons, csAt, List.getD_cons_zero, List.getD_cons_succ, List.getElem?_cons_zero, List.getElem?_cons_succ, List.set_cons_zero, List.set_cons_succ, x_seq, x_skip, x_ifS, x_ret, x_retN, x_asg, x_par, x_expr, x_brk, x_cnt, fLen, f1, len_seq hq]
  have hl2 : xs.length ≠ 0 := fun z => hne (List.length_eq_zero_iff.mp z)
  refine ⟨dk, _, rfl, ho, by omega, by omega, fun n hn => ?_⟩
  have hn2 : n < xs.length := by omega
  exact ix_seq hq (List.getElem?_eq_getElem hn2) (hR _ (List.getElem_mem hn2))
end
section
variable {P : Program} {w : World} {K : PySem.W.Frag} {mg : Str → Option Value} {base : Heap} {k : Nat}
def stock0 : WF := fun ds S R => ∃ ns : List Int, ds = [.lst (ns.map D.int)] ∧ ns.length ≤ 63 ∧ ∀ dk gr xs fl m t, S.g dk = none → S.g gr = none → StockAt ((S.set gr (.lst (xs.map D.int))).set dk (.lst [.ref gr, .lst (fl.map D.int), .int m, .int t])) dk gr xs fl m t → R (.ref dk) ((S.set gr (.lst (xs.map D.int))).set dk (.lst [.ref gr, .lst (fl.map D.int), .int m, .int t]))
theorem intsD_map : ∀ l : List Int, intsD (l.map D.int) = some l
  | [] => rfl
  | x :: r => by
    rw [List.map_cons]
    show (intsD (r.map D.int)).map (x :: ·) = _
    rw [intsD_map r]
    rfl
theorem fn_stock0 (d : Df K mg "_law_stock" s__law_stock ["script"] []) (hb : BlIn mg ["len", "sum"]) : FnIn P w K mg base DS (k + 1) ⟨"_law_stock", 1, stock0, []⟩ := by
  refine fn_mk d sc__law_stock rfl (fns := []) (cs := []) trivial trivial hb (fun X o => (s_cons (s_lc o 1 [("cell", 2)] (i_seq (e_slice (e_var o 0) p_none (p_some e_int))) (cg_name 2) (fun Y _ o2 => l_nil) (fun Y _ o2 => (e_if (t_cmp o2 c_ge (e_var o2 2) e_int) (e_mul e_int (e_var o2 2)) (e_sub (e_mul (e_neg e_int) (e_var o2 2)) e_int))))
  (s_cons (s_ret (e_lstN (a_cons (e_lcN o [("cell", 2)] (i_seq (e_var o 1)) (cg_name 2) (fun Y _ o1 => (l_one (t_cmp o1 c_ge (e_var o1 2) (e_pow e_int e_int)))) (fun Y _ o1 => (e_var o1 2))) (a_cons (e_add (e_var o 1) (e_lst (a_cons (e_add (e_len o (a_cons (e_var o 1) a_nil)) e_int) a_nil))) (a_cons (e_sum o (a_cons (e_var o 1) a_nil)) (a_cons e_int a_nil))))))
  s_nil))) ?_
  intro ds S R hl h
  obtain ⟨ns, rfl, hlen, hR⟩ := h
  show wSeq _ _ _ [some (.lst (ns.map D.int)), none, none] S
  have cm : ∀ i j : Int, -(2 ^ 64) < i → i < 2 ^ 64 → CMulA i j := fun i j h1 h2 => .inl (.inl ⟨h1, h2⟩)
  rw [x_seq]
  simp only [x_tupZip, x_dpop, x_dcT, x_iZip, x_listZip, x_md, x_zipR, x_zipD, x_listRg1, x_listRg2, x_sortItems, x_listItems, x_back, x_ifT, x_sortSet, x_get1, x_get2, fnAt, x_lc, x_lcN, x_var, x_C, x_op, x_un, x_slice, x_noPart, x_part, x_tru, x_B, x_chain, x_and, x_or, x_not, x_andV, x_orV, x_notB, x_if, x_nil, x_cons, x_tup, x_lst, x_call, x_callK, x_gN, x_gT, x_gs0, x_gs1, x_yes, x_iSeq, x_iEn, x_words, x_ml, x_disp, x_d0, x_pnil, x_pcons, csAt, List.getD_cons_zero, List.getD_cons_succ, List.getElem?_cons_zero, List.getElem?_cons_succ, List.set_cons_zero, List.set_cons_succ, x_asg, f1, fLen, oAdd]
  have hc1 : (Dv.cutD (ns.map D.int) none (some 63)).length ≤ 63 := by
    unfold Dv.cutD
    rw [List.length_take, List.length_drop, List.length_map]
    omega
  have hc2 : ∀ d ∈ Dv.cutD (ns.map D.int) none (some 63), ∃ i, d = D.int i := fun d m => by
    obtain ⟨i, _, e⟩ := List.mem_map.mp (cut_mem m)
    exact ⟨i, e.symm⟩
  refine lc_all (gd := []) (fun y => ∃ i : Int, y = .int i ∧ 0 ≤ i) (fun Q q => q) trivial (by rw [sizeLine_eq]; omega) (fun y my Q hQ => ?_) fun ys hy hG => ?_
  · obtain ⟨i, rfl⟩ := hc2 y my
    rw [turn_name]
    show (wIf _ _ _) [some (.lst (ns.map D.int)), none, some (.int i)] S _
    simp only [x_tupZip, x_dpop, x_dcT, x_iZip, x_listZip, x_md, x_zipR, x_zipD, x_listRg1, x_listRg2, x_sortItems, x_listItems, x_back, x_ifT, x_sortSet, x_get1, x_get2, fnAt, x_lc, x_lcN, x_var, x_C, x_op, x_un, x_slice, x_noPart, x_part, x_tru, x_B, x_chain, x_and, x_or, x_not, x_andV, x_orV, x_notB, x_if, x_nil, x_cons, x_tup, x_lst, x_call, x_callK, x_gN, x_gT, x_gs0, x_gs1, x_yes, x_iSeq, x_iEn, x_words, x_ml, x_disp, x_d0, x_pnil, x_pcons, csAt, List.getD_cons_zero, List.getD_cons_succ, List.getElem?_cons_zero, List.getElem?_cons_succ, List.set_cons_zero, List.set_cons_succ, oGe, oOrd, oSub, oInt, oNeg]
    by_cases q : 0 ≤ i
    · rw [if_pos (decide_eq_true q)]
      exact ⟨cm _ _ (by decide) (by decide), hQ _ ⟨_, rfl, by omega⟩⟩
    · rw [if_neg (by rw [decide_eq_true_eq]; exact q)]
      exact ⟨cm _ _ (by decide) (by decide), hQ _ ⟨_, rfl, by omega⟩⟩
  obtain ⟨is, rfl, his⟩ := pick_all hG
  rw [List.length_map] at hy
  show wSeq _ _ _ [some (.lst (ns.map D.int)), some (.lst (is.map D.int)), none] S
  simp only [x_tupZip, x_dpop, x_dcT, x_iZip, x_listZip, x_md, x_zipR, x_zipD, x_listRg1, x_listRg2, x_sortItems, x_listItems, x_back, x_ifT, x_sortSet, x_get1, x_get2, fnAt, x_lc, x_lcN, x_var, x_C, x_op, x_un, x_slice, x_noPart, x_part, x_tru, x_B, x_chain, x_and, x_or, x_not, x_andV, x_orV, x_notB, x_if, x_nil, x_cons, x_tup, x_lst, x_call, x_callK, x_gN, x_gT, x_gs0, x_gs1, x_yes, x_iSeq, x_iEn, x_words, x_ml, x_disp, x_d0, x_pnil, x_pcons, csAt, List.getD_cons_zero, List.getD_cons_succ, List.getElem?_cons_zero, List.getElem?_cons_succ, List.set_cons_zero, List.set_cons_succ, x_lstN, x_lcN, x_seq, x_skip, x_ifS, x_ret, x_retN, x_asg, x_par, x_expr, x_brk, x_cnt]
  refine lc_run (gd := []) (fun y o => o = none ∨ o = some y) (fun Q q => q) trivial (by rw [List.length_map, sizeLine_eq]; omega) (fun y my Q hQ => ?_) fun os hos hT => ?_
  · obtain ⟨i, hi2, rfl⟩ := List.mem_map.mp my
    rw [turn_nameT]
    show (wB _) [some (.lst (ns.map D.int)), some (.lst (is.map D.int)), some (.int i)] S _
    simp only [x_tupZip, x_dpop, x_dcT, x_iZip, x_listZip, x_md, x_zipR, x_zipD, x_listRg1, x_listRg2, x_sortItems, x_listItems, x_back, x_ifT, x_sortSet, x_get1, x_get2, fnAt, x_lc, x_lcN, x_var, x_C, x_op, x_un, x_slice, x_noPart, x_part, x_tru, x_B, x_chain, x_and, x_or, x_not, x_andV, x_orV, x_notB, x_if, x_nil, x_cons, x_tup, x_lst, x_call, x_callK, x_gN, x_gT, x_gs0, x_gs1, x_yes, x_iSeq, x_iEn, x_words, x_ml, x_disp, x_d0, x_pnil, x_pcons, csAt, List.getD_cons_zero, List.getD_cons_succ, List.getElem?_cons_zero, List.getElem?_cons_succ, List.set_cons_zero, List.set_cons_succ, oGe, oOrd, oPow, oInt]
    refine ⟨⟨by decide, by decide, by decide⟩, ?_⟩
    split
    · exact hQ _ (.inr rfl)
    · exact hQ _ (.inl rfl)
  have hsub : ∃ xs : List Int, os.filterMap id = xs.map D.int ∧ (∀ x ∈ xs, 0 ≤ x) ∧ xs.length ≤ 63 := by
    have hm : ∀ y ∈ os.filterMap id, ∃ i : Int, y = D.int i ∧ 0 ≤ i := fun y my => by
      obtain ⟨o, mo, eo⟩ := List.mem_filterMap.mp my
      have eo' : o = some y := eo
      subst eo'
      obtain ⟨j, hj⟩ := List.mem_iff_getElem?.mp mo
      have hjl : j < (is.map D.int).length := by rw [← hos]; exact (List.getElem?_eq_some_iff.mp hj).1
      have hd := List.getElem?_eq_getElem hjl
      rcases hT j _ _ hd hj with z | z
      · cases z
      · cases z
        obtain ⟨i, mi, e⟩ := List.mem_map.mp (List.getElem_mem hjl)
        exact ⟨i, e.symm, his i mi⟩
    obtain ⟨xs, e, hx⟩ := pick_all hm
    refine ⟨xs, e, hx, ?_⟩
    have h1 : (os.filterMap id).length ≤ os.length := List.length_filterMap_le _ _
    rw [e, List.length_map, hos, List.length_map] at h1
    omega
  obtain ⟨xs, e, hx, hxl⟩ := hsub
  rw [e]
  intro gr hgr
  have ll : lenD (S.set gr (.lst (xs.map D.int))) (.lst (is.map D.int)) = some is.length := by
    have := len_seq (S := S.set gr (.lst (xs.map D.int))) (d := .lst (is.map D.int)) (ds := is.map D.int) rfl
    rw [List.length_map] at this
    exact this
  simp only [f1, ll, oAdd, fSum, la, intsD_map]
  refine ⟨lzn 1, by rw [List.length_map, sizeLine_eq]; simp only [List.length_cons, List.length_nil]; omega, lzn 4, fun dk hdk => ?_⟩
  obtain ⟨ne, hdk0⟩ := GS.set_free hdk
  rw [show is.map D.int ++ [D.int ((is.length : Nat) + 432)] = (is ++ [((is.length : Nat) : Int) + 432]).map D.int by rw [List.map_append]; rfl]
  exact hR dk gr xs (is ++ [((is.length : Nat) : Int) + 432]) _ 0 hdk0 hgr ⟨fun z => ne z.symm, GS.set_same, by rw [GS.set_ne (fun z => ne z.symm), GS.set_same], hx, hxl, by simp, by rw [List.length_append]; simp only [List.length_singleton]; omega⟩
def sp__law_stock : WF := fun ds S R => ∃ ns : List Int, ds = [.lst (ns.map D.int)] ∧ ns.length ≤ 63 ∧ S.o = none ∧ ∀ dk, R (.ref dk) ⟨S.g, some dk⟩
theorem fn__law_stock (d : Df K mg "_law_stock" s__law_stock ["script"] []) (hb : BlIn mg ["len", "sum"]) : FnIn P w K mg base DS (k + 1) ⟨"_law_stock", 1, sp__law_stock, []⟩ := by
  refine (fn_stock0 d hb).imp fun vs H Q => lftF_hide fun ds S R h => ?_
  obtain ⟨ns, rfl, hn, ho, hR⟩ := h
  refine ⟨ns, rfl, hn, fun dk gr xs fl m t hd hg D2 => ⟨dk, fun a => if a = dk ∨ a = gr then ((S.set gr (.lst (xs.map D.int))).set dk (.lst [.ref gr, .lst (fl.map D.int), .int m, .int t])).g a else none, S.g, ⟨gr, xs, fl, m, t, ⟨D2.ne, ?_, ?_, D2.nn, D2.ln, D2.f0, D2.fn⟩, fun a h1 h2 => if_neg fun z => z.elim h1 h2⟩, ⟨ho, fun a x e => ?_, fun a x e => ?_⟩, hR dk⟩⟩
  · exact (if_pos (.inl rfl)).trans D2.d
  · exact (if_pos (.inr rfl)).trans D2.l
  · by_cases c : a = dk ∨ a = gr
    · exact (if_pos c).symm.trans e
    · cases (if_neg c).symm.trans e
  · have h1 : a ≠ dk := fun z => by rw [z, hd] at e; cases e
    have h2 : a ≠ gr := fun z => by rw [z, hg] at e; cases e
    exact ⟨by rw [GS.set_ne h1, GS.set_ne h2]; exact e, if_neg fun z => z.elim h1 h2⟩
end
theorem pick_ok {dk : Addr} {S : GS} {d : D} {xs : List D} {Q : D → GS → Prop} (ho : S.o = some dk) (hq : asQ S d = some xs) (hne : xs ≠ []) (hl : xs.length ≤ 1000000) (h : ∀ y ∈ xs, Q y S) : sp__law_pick [.ref dk, d] S Q :=
  ⟨dk, d, xs, rfl, ho, hq, hne, by omega, h⟩
theorem draw_ok {dk : Addr} {S : GS} {m : Int} {Q : D → GS → Prop} (ho : S.o = some dk) (h1 : 1 ≤ m) (hm : m ≤ 1000000) (h : ∀ n : Nat, (n : Int) < m → Q (.int (n : Nat)) S) : sp__law_draw [.ref dk, .int m] S Q :=
  ⟨dk, m, rfl, ho, h1, by omega, h⟩
end K32

namespace K32
open PySem PySem.Spec L2 Dv
open PyProof.Rows hiding St
/-! ### statements, told by data -/
def NameOk (x : Str) : Prop := gd (.str x) = true ∧ PyData.strOk x = true
def TestOk (d : D) : Prop := ∃ l : List Str, d = .tup (l.map D.str) ∧ l.length ≤ 3 ∧ ∀ x ∈ l, NameOk x
def RowNm (r : LRow) : Prop := NameOk r.1 ∧ NameOk r.2.1 ∧ NameOk r.2.2
structure ClNm (c : Cl) : Prop where
  l : c.1.length ≤ 3
  p : c.2.length ≤ 3
  lo : ∀ r ∈ c.1, RowNm r
  po : ∀ r ∈ c.2, RowNm r
def KeepOk (d : D) : Prop := d = .non ∨ ∃ s : List Cl, d = sayD s ∧ s.length ≤ 2 ∧ ∀ c ∈ s, ClNm c
def simpleW : List Str := ["set", "new", "get", "put", "free"]
inductive StmOk : Nat → D → Prop
  | simp {n : Nat} {k : Str} {xs : List Str} : k ∈ simpleW → xs.length ≤ 2 → (∀ x ∈ xs, NameOk x) → StmOk (n + 1) (.tup (.str k :: xs.map D.str))
  | call {n : Nat} {x f : Str} {as bs : List Str} : NameOk x → NameOk f → as.length ≤ 10 → bs.length ≤ 10 → (∀ x ∈ as ++ bs, NameOk x) → StmOk (n + 1) (.tup [.str "call", .str x, .str f, .tup (as.map D.str), .tup (bs.map D.str)])
  | iff {n : Nat} {t : D} {a b : List D} : TestOk t → a.length ≤ 2 → b.length ≤ 2 → (∀ s ∈ a, StmOk n s) → (∀ s ∈ b, StmOk n s) → StmOk (n + 1) (.tup [.str "if", t, .tup a, .tup b])
  | whil {n : Nat} {t kp : D} {b : List D} : TestOk t → KeepOk kp → b.length ≤ 2 → (∀ s ∈ b, StmOk n s) → StmOk (n + 1) (.tup [.str "while", t, kp, .tup b])
theorem StmOk.up {n : Nat} {s : D} (h : StmOk n s) : StmOk (n + 1) s := by
  induction h with
  | simp h1 h2 h3 => exact .simp h1 h2 h3
  | call h1 h2 h3 h4 h5 => exact .call h1 h2 h3 h4 h5
  | iff h1 l1 l2 _ _ i1 i2 => exact .iff h1 l1 l2 i1 i2
  | whil h1 h2 l1 _ i1 => exact .whil h1 h2 l1 i1
/-- the parts of an if, of a while -/
def partsS : D → Option (Bool × D × List D × List D)
  | .tup [.str k, t, x, .tup b] => if k = "while" then some (true, t, b, []) else match x with
    | .tup a => some (false, t, a, b)
    | _ => none
  | _ => none
theorem parts_simp {k : Str} {xs : List Str} (h : xs.length ≤ 2) : partsS (.tup (.str k :: xs.map D.str)) = none := by
  cases xs with
  | nil => rfl
  | cons x r =>
    cases r with
    | nil => rfl
    | cons y r =>
      cases r with
      | nil => rfl
      | cons z r => simp at h
theorem parts_call {x f : Str} {as bs : List Str} : partsS (.tup [.str "call", .str x, .str f, .tup (as.map D.str), .tup (bs.map D.str)]) = none := rfl
theorem parts_if {t : D} {a b : List D} : partsS (.tup [.str "if", t, .tup a, .tup b]) = some (false, t, a, b) := by
  show (if ("if" : Str) = "while" then some (true, t, b, []) else some (false, t, a, b)) = _
  rw [if_neg (by decide +kernel)]
theorem parts_while {t kp : D} {b : List D} : partsS (.tup [.str "while", t, kp, .tup b]) = some (true, t, b, []) := by
  show (if ("while" : Str) = "while" then some (true, t, b, []) else (match kp with | .tup a => some (false, t, a, b) | _ => none)) = _
  rw [if_pos rfl]
/-- how many statements -/
def sizeS : Nat → D → Nat
  | 0, _ => 0
  | n + 1, s => 1 + match partsS s with
    | some (_, _, a, b) => (a.map (sizeS n)).sum + (b.map (sizeS n)).sum
    | none => 0
def sizeL (n : Nat) (ss : List D) : Nat := (ss.map (sizeS n)).sum
theorem sizeS_up {n : Nat} {s : D} (h : StmOk n s) : sizeS (n + 1) s = sizeS n s := by
  have key : ∀ {n : Nat} (l : List D), (∀ s ∈ l, sizeS (n + 1) s = sizeS n s) → (l.map (sizeS (n + 1))).sum = (l.map (sizeS n)).sum := fun {n} l k => by rw [List.map_congr_left k]
  induction h with
  | simp h1 h2 h3 => unfold sizeS; rw [parts_simp h2]
  | call h1 h2 h3 h4 h5 => unfold sizeS; rw [parts_call]
  | iff h1 _ _ _ _ i1 i2 =>
    conv => lhs; unfold sizeS
    conv => rhs; unfold sizeS
    rw [parts_if]
    dsimp only
    rw [key _ i1, key _ i2]
  | whil h1 h2 _ _ i1 =>
    conv => lhs; unfold sizeS
    conv => rhs; unfold sizeS
    rw [parts_while]
    dsimp only
    rw [key _ i1]
    rfl
theorem size_pos {n : Nat} {s : D} (h : StmOk n s) : 1 ≤ sizeS n s := by
  cases h <;> (unfold sizeS; omega)
theorem sum_le {B : Nat} {f : D → Nat} : ∀ {l : List D}, (∀ s ∈ l, f s ≤ B) → (l.map f).sum ≤ l.length * B
  | [], _ => Nat.zero_le _
  | s :: r, h => by
    have := sum_le (l := r) fun s m => h s (by simp [m])
    have h1 := h s (by simp)
    rw [List.map_cons, List.sum_cons, List.length_cons, Nat.add_mul]
    omega
theorem len_size {n : Nat} : ∀ {l : List D}, (∀ s ∈ l, StmOk n s) → l.length ≤ sizeL n l
  | [], _ => Nat.zero_le _
  | s :: r, h => by
    have := len_size (l := r) fun s m => h s (by simp [m])
    have h1 := size_pos (h s (by simp))
    unfold sizeL at this ⊢
    rw [List.map_cons, List.sum_cons, List.length_cons]
    omega
theorem pow4 (n : Nat) : 1 ≤ 4 ^ n := by
  induction n with
  | zero => exact Nat.le_refl _
  | succ n ih => rw [Nat.pow_succ]; omega
theorem size_le {n : Nat} {s : D} (h : StmOk n s) : 3 * sizeS n s + 1 ≤ 4 ^ n := by
  induction h with
  | @simp n k xs h1 h2 h3 =>
    unfold sizeS
    rw [parts_simp h2, Nat.pow_succ]
    have := pow4 n
    dsimp only
    omega
  | @call n x f as bs h1 h2 h3 h4 h5 =>
    unfold sizeS
    rw [parts_call, Nat.pow_succ]
    have := pow4 n
    dsimp only
    omega
  | @iff n t a b h1 l1 l2 h3 h4 i1 i2 =>
    unfold sizeS
    rw [parts_if, Nat.pow_succ]
    show 3 * (1 + ((a.map (sizeS n)).sum + (b.map (sizeS n)).sum)) + 1 ≤ 4 ^ n * 4
    have := pow4 n
    have s1 := Nat.le_trans (sum_le (B := (4 ^ n - 1) / 3) (f := sizeS n) (l := a) fun s m => by have := i1 s m; omega) (Nat.mul_le_mul_right ((4 ^ n - 1) / 3) l1)
    have s2 := Nat.le_trans (sum_le (B := (4 ^ n - 1) / 3) (f := sizeS n) (l := b) fun s m => by have := i2 s m; omega) (Nat.mul_le_mul_right ((4 ^ n - 1) / 3) l2)
    generalize 4 ^ n = z at *
    generalize (a.map (sizeS n)).sum = c1 at *
    generalize (b.map (sizeS n)).sum = c2 at *
    omega
  | @whil n t kp b h1 h2 l1 h3 i1 =>
    unfold sizeS
    rw [parts_while, Nat.pow_succ]
    show 3 * (1 + ((b.map (sizeS n)).sum + 0)) + 1 ≤ 4 ^ n * 4
    have := pow4 n
    have s1 := Nat.le_trans (sum_le (B := (4 ^ n - 1) / 3) (f := sizeS n) (l := b) fun s m => by have := i1 s m; omega) (Nat.mul_le_mul_right ((4 ^ n - 1) / 3) l1)
    generalize 4 ^ n = z at *
    generalize (b.map (sizeS n)).sum = c1 at *
    omega
/-! ### the rows -/
def wayD (w : List Int) : D := .tup (w.map D.int)
def rowW (row : D) (own : List Int) : D := .tup [row, wayD own]
def unlessD (t : D) (to : Int) : D := .tup [.str "unless", t, .int to]
def jumpD (to : Int) : D := .tup [.str "jump", .int to]
/-- a statement's own row -/
def plainS : D → D
  | .tup (.str k :: r) => if k = "call" then .tup ((.str k :: r).take 4) else .tup (.str k :: r)
  | d => d
def rowOf (rec : List D → List Int → Int → List D) (s : D) (own : List Int) (st : Int) : List D := match partsS s with
  | some (true, t, b, _) => rowW (unlessD t (st + 1 + (rec b (own ++ [0]) (st + 1)).length + 1)) own :: (rec b (own ++ [0]) (st + 1) ++ [rowW (jumpD st) own])
  | some (false, t, a, b) =>
    if b = [] then rowW (unlessD t (st + 1 + (rec a (own ++ [0]) (st + 1)).length)) own :: rec a (own ++ [0]) (st + 1)
    else rowW (unlessD t (st + 1 + (rec a (own ++ [0]) (st + 1)).length + 1)) own :: (rec a (own ++ [0]) (st + 1) ++
      (rowW (jumpD (st + 1 + (rec a (own ++ [0]) (st + 1)).length + 1 + (rec b (own ++ [1]) (st + 1 + (rec a (own ++ [0]) (st + 1)).length + 1)).length)) own :: rec b (own ++ [1]) (st + 1 + (rec a (own ++ [0]) (st + 1)).length + 1)))
  | none => [rowW (plainS s) own]
def rowsL (rec : List D → List Int → Int → List D) (way : List Int) (st : Int) : List D → Nat → List D → List D
  | [], _, acc => acc
  | s :: r, i, acc => rowsL rec way st r (i + 1) (acc ++ rowOf rec s (way ++ [(i : Int)]) (st + (acc.length : Nat)))
def rowsF : Nat → List D → List Int → Int → List D
  | 0, _, _, _ => []
  | n + 1, ss, way, st => rowsL (rowsF n) way st ss 0 []
theorem rows_len : ∀ (n : Nat) (ss : List D) (way : List Int) (st : Int), (rowsF n ss way st).length ≤ 2 * sizeL n ss
  | 0, _, _, _ => Nat.zero_le _
  | n + 1, ss, way, st => by
    have one : ∀ (s : D) (own : List Int) (st : Int), (rowOf (rowsF n) s own st).length ≤ 2 * sizeS (n + 1) s := fun s own st => by
      unfold rowOf sizeS
      cases h : partsS s with
      | none => show 1 ≤ 2 * (1 + 0); omega
      | some q =>
        obtain ⟨w, t, a, b⟩ := q
        have h1 := rows_len n a (own ++ [0]) (st + 1)
        cases w with
        | true =>
          simp only [List.length_cons, List.length_append, List.length_nil]
          unfold sizeL at h1
          omega
        | false =>
          dsimp only
          have h2 := rows_len n b (own ++ [1]) (st + 1 + (rowsF n a (own ++ [0]) (st + 1)).length + 1)
          unfold sizeL at h1 h2
          show _ ≤ 2 * (1 + ((a.map (sizeS n)).sum + (b.map (sizeS n)).sum))
          generalize (a.map (sizeS n)).sum = c1 at *
          generalize (b.map (sizeS n)).sum = c2 at *
          split
          · simp only [List.length_cons]; omega
          · simp only [List.length_cons, List.length_append]; omega
    have all : ∀ (l : List D) (i : Nat) (acc : List D), (rowsL (rowsF n) way st l i acc).length ≤ acc.length + 2 * sizeL (n + 1) l := fun l => by
      induction l with
      | nil => intro i acc; exact Nat.le_add_right _ _
      | cons s r ih =>
        intro i acc
        have h1 := ih (i + 1) (acc ++ rowOf (rowsF n) s (way ++ [(i : Int)]) (st + (acc.length : Nat)))
        have h2 := one s (way ++ [(i : Int)]) (st + (acc.length : Nat))
        have e : sizeL (n + 1) (s :: r) = sizeS (n + 1) s + sizeL (n + 1) r := by unfold sizeL; rw [List.map_cons, List.sum_cons]
        rw [List.length_append] at h1
        show (rowsL (rowsF n) way st r (i + 1) _).length ≤ _
        omega
    have := all ss 0 []
    show (rowsL (rowsF n) way st ss 0 []).length ≤ _
    rw [List.length_nil, Nat.zero_add] at this
    exact this
/-! ### what is drawn: shuffled, clauses, sayings -/
theorem listOf_q {S : GS} {d : D} {zs : List D} (h : asQ S d = some zs) : Dv.listOf S d = some zs := by
  unfold Dv.listOf
  simp only [h]
theorem seq_to {a r : WS} {R : WEnds} {ρ : Dv.Env} {S : GS} (P : Dv.Env → GS → Prop) (h1 : ∀ R' : WEnds, (∀ ρ' S', P ρ' S' → R'.nx ρ' S') → a R' ρ S) (h2 : ∀ ρ' S', P ρ' S' → r R ρ' S') : wSeq a r R ρ S := h1 _ h2
def drawnW : List Str := ["is", "isnt", "cell", "list", "nil", "result", "any"]
theorem drawn_ok : ∀ x ∈ drawnW, NameOk x := fun x m => by
  have h : drawnW.all (fun x => gd (.str x) && PyData.strOk x) = true := by decide +kernel
  have := List.all_eq_true.mp h x m
  simpa [NameOk, Bool.and_eq_true] using this
theorem y_par3 {i j l : Nat} {as : WA} {R : WEnds} {ρ : Dv.Env} {S : GS} : wPar3 i j l as R ρ S = as ρ S fun ds S1 => (match ds with | [x, y, z] => R.nx (((ρ.set i (some x)).set j (some y)).set l (some z)) S1 | _ => False) := propext ⟨id, id⟩
section
variable {P : Program} {w : World} {K : PySem.W.Frag} {mg : Str → Option Value} {base : Heap} {k : Nat}
def sp__law_shuffled : WF := fun ds S R => ∃ (dk : Addr) (d : D) (zs : List D), ds = [.ref dk, d] ∧ S.o = some dk ∧ (∀ S, asQ S d = some zs) ∧ zs.length ≤ 5000 ∧ ∀ (p : Addr) (ys : List D), ys.Perm zs → S.g p = none → R (.ref p) (S.set p (.lst ys))
theorem fn__law_shuffled (c1 : FnIn P w K mg base DS k ⟨"_law_draw", 2, sp__law_draw, []⟩) (d : Df K mg "_law_shuffled" s__law_shuffled ["stock", "row"] []) (hb : BlIn mg ["len", "list", "range"]) : FnIn P w K mg base DS (k + 1) ⟨"_law_shuffled", 2, sp__law_shuffled, []⟩ := by
  refine fn_mkL d sc__law_shuffled rfl (fns := [⟨"_law_draw", 2, sp__law_draw, []⟩]) (cs := []) ⟨c1, trivial⟩ trivial hb (fun X o => (s_cons (s_par o 3 4 (a_cons (e_listAN o (a_cons (e_var o 1) a_nil)) (a_cons (e_lstN a_nil) a_nil)))
  (s_cons (s_L (s_for o (i_rg1 o (e_len o (a_cons (e_var o 1) a_nil))) (g_name o 2)
  (ss_L (s_cons (s_expr (e_append (e_var o 4) (a_cons (e_popAt (e_var o 3) (a_cons (e_call o 0 (a_cons (e_var o 0) (a_cons (e_len o (a_cons (e_var o 3) a_nil)) a_nil))) a_nil)) a_nil)))
  s_nil))))
  (s_cons (s_ret (e_var o 4))
  s_nil)))) ?_
  intro ds S R hl h
  obtain ⟨dk, d, zs, rfl, ho, hq0, hn, hR⟩ := h
  show wSeq _ _ _ [some (.ref dk), some d, none, none, none] S
  rw [x_seq]
  simp only [x_tupZip, x_dpop, x_dcT, x_iZip, x_listZip, x_md, x_zipR, x_zipD, x_listRg1, x_listRg2, x_sortItems, x_listItems, x_back, x_ifT, x_sortSet, x_get1, x_get2, fnAt, x_lc, x_lcN, x_var, x_C, x_op, x_un, x_slice, x_noPart, x_part, x_tru, x_B, x_chain, x_and, x_or, x_not, x_andV, x_orV, x_notB, x_if, x_nil, x_cons, x_tup, x_lst, x_call, x_callK, x_gN, x_gT, x_gs0, x_gs1, x_yes, x_iSeq, x_iEn, x_words, x_ml, x_disp, x_d0, x_pnil, x_pcons, csAt, List.getD_cons_zero, List.getD_cons_succ, List.getElem?_cons_zero, List.getElem?_cons_succ, List.set_cons_zero, List.set_cons_succ, x_par, x_lstN, fListAN, f1, listOf_q (hq0 _)]
  intro pl hpl
  refine ⟨Nat.zero_le _, fun pr hpr => ?_⟩
  obtain ⟨ne, hpr0⟩ := GS.set_free hpr
  show wSeq _ _ _ [some (.ref dk), some d, none, some (.ref pl), some (.ref pr)] ((S.set pl (.lst zs)).set pr (.lst []))
  rw [x_seq]
  refine for_L4 _ (.refl _) (fun ds gd S1 => ds.length = zs.length ∧ gd = [] ∧ (S.set pl (.lst zs)).set pr (.lst []) = S1) (fun Q q => ?_) ?_
  · simp only [x_iRg1, x_tupZip, x_dpop, x_dcT, x_iZip, x_listZip, x_md, x_zipR, x_zipD, x_listRg1, x_listRg2, x_sortItems, x_listItems, x_back, x_ifT, x_sortSet, x_get1, x_get2, fnAt, x_lc, x_lcN, x_var, x_C, x_op, x_un, x_slice, x_noPart, x_part, x_tru, x_B, x_chain, x_and, x_or, x_not, x_andV, x_orV, x_notB, x_if, x_nil, x_cons, x_tup, x_lst, x_call, x_callK, x_gN, x_gT, x_gs0, x_gs1, x_yes, x_iSeq, x_iEn, x_words, x_ml, x_disp, x_d0, x_pnil, x_pcons, csAt, List.getD_cons_zero, List.getD_cons_succ, List.getElem?_cons_zero, List.getElem?_cons_succ, List.set_cons_zero, List.set_cons_succ]
    simp only [fLen, f1, len_seq (hq0 _)]
    exact ⟨_, rfl, by omega, by omega, q _ _ _ ⟨by rw [rgD_length]; rfl, rfl, rfl⟩⟩
  rintro rs0 _ _ ⟨hrl, rfl, rfl⟩
  refine for_body (fun rest ρ S' => ∃ (ls rs : List D) (x2 : Option D), rest.length = ls.length ∧ ρ = [some (.ref dk), some d, x2, some (.ref pl), some (.ref pr)] ∧ S' = (S.set pl (.lst ls)).set pr (.lst rs) ∧ (ls ++ rs).Perm zs) _ (.refl _) ⟨zs, [], none, hrl, rfl, rfl, by rw [List.append_nil]⟩ ?_ ?_
  · rintro z rest ρ S' ⟨ls, rs, x2, hrest, rfl, rfl, hp⟩
    have hlen : ls.length + rs.length = zs.length := by have := hp.length_eq; rw [List.length_append] at this; exact this
    rw [List.length_cons] at hrest
    have g1 : ((S.set pl (.lst ls)).set pr (.lst rs)).g pl = some (.lst ls) := by rw [GS.set_ne ne.symm, GS.set_same]
    have g2 : ((S.set pl (.lst ls)).set pr (.lst rs)).g pr = some (.lst rs) := GS.set_same
    have is1 : isLs ((S.set pl (.lst ls)).set pr (.lst rs)) (.ref pl) = true := by simp only [isLs, g1]
    have is2 : isLs ((S.set pl (.lst ls)).set pr (.lst rs)) (.ref pr) = true := by simp only [isLs, g2]
    have hq : asQ ((S.set pl (.lst ls)).set pr (.lst rs)) (.ref pl) = some ls := by simp only [asQ, asL, g1]
    refine ⟨trivial, [some (.ref dk), some d, some z, some (.ref pl), some (.ref pr)], fun S2 Q q => q, ?_⟩
    simp only [x_tupZip, x_dpop, x_dcT, x_iZip, x_listZip, x_md, x_zipR, x_zipD, x_listRg1, x_listRg2, x_sortItems, x_listItems, x_back, x_ifT, x_sortSet, x_get1, x_get2, fnAt, x_lc, x_lcN, x_var, x_C, x_op, x_un, x_slice, x_noPart, x_part, x_tru, x_B, x_chain, x_and, x_or, x_not, x_andV, x_orV, x_notB, x_if, x_nil, x_cons, x_tup, x_lst, x_call, x_callK, x_gN, x_gT, x_gs0, x_gs1, x_yes, x_iSeq, x_iEn, x_words, x_ml, x_disp, x_d0, x_pnil, x_pcons, csAt, List.getD_cons_zero, List.getD_cons_succ, List.getElem?_cons_zero, List.getElem?_cons_succ, List.set_cons_zero, List.set_cons_succ, x_seq, x_skip, x_ifS, x_ret, x_retN, x_asg, x_par, x_expr, x_brk, x_cnt, fLen, f1, len_seq hq]
    refine ⟨is2, is1, dk, _, rfl, ho, by omega, by omega, fun n hn' => ?_⟩
    have hn2 : n < ls.length := by omega
    unfold fPopAt
    simp only [g1]
    refine ⟨by omega, by omega, ls[n], by rw [Int.toNat_natCast, List.getElem?_eq_getElem hn2], ?_⟩
    unfold fAppend
    simp only [GS.set_ne ne, g2]
    refine ⟨by rw [sizeLine_eq]; omega, _, .refl _, ls.eraseIdx n, rs ++ [ls[n]], some z, by rw [List.length_eraseIdx_of_lt hn2]; omega, rfl, ?_, ?_⟩
    · rw [Int.toNat_natCast, GS.set_comm (S := S.set pl _) ne, GS.set_set, GS.set_set]
    · have p1 : (ls[n] :: ls.eraseIdx n).Perm ls := erase_perm ls n hn2
      refine List.Perm.trans ?_ hp
      have p2 : (ls.eraseIdx n ++ (rs ++ [ls[n]])).Perm ((ls[n] :: ls.eraseIdx n) ++ rs) := by
        rw [← List.append_assoc]
        refine (List.perm_append_singleton _ _).trans ?_
        exact List.Perm.refl _
      exact p2.trans (p1.append_right rs)
  · rintro ρ S' ⟨ls, rs, x2, hrest, rfl, rfl, hp⟩
    have : ls = [] := List.length_eq_zero_iff.mp (by simpa using hrest.symm)
    subst this
    refine ⟨trivial, ?_⟩
    simp only [x_tupZip, x_dpop, x_dcT, x_iZip, x_listZip, x_md, x_zipR, x_zipD, x_listRg1, x_listRg2, x_sortItems, x_listItems, x_back, x_ifT, x_sortSet, x_get1, x_get2, fnAt, x_lc, x_lcN, x_var, x_C, x_op, x_un, x_slice, x_noPart, x_part, x_tru, x_B, x_chain, x_and, x_or, x_not, x_andV, x_orV, x_notB, x_if, x_nil, x_cons, x_tup, x_lst, x_call, x_callK, x_gN, x_gT, x_gs0, x_gs1, x_yes, x_iSeq, x_iEn, x_words, x_ml, x_disp, x_d0, x_pnil, x_pcons, csAt, List.getD_cons_zero, List.getD_cons_succ, List.getElem?_cons_zero, List.getElem?_cons_succ, List.set_cons_zero, List.set_cons_succ, x_seq, x_skip, x_ifS, x_ret, x_retN, x_asg, x_par, x_expr, x_brk, x_cnt]
    exact ⟨S.set pr (.lst rs), .put (.new hpl), hR pr rs hp hpr0⟩
def sp__law_clause : WF := fun ds S R => ∃ (dk : Addr) (nd : D) (ns : List Str) (many : Nat), ds = [.ref dk, nd, .int many] ∧ S.o = some dk ∧ (∀ S, asQ S nd = some (ns.map D.str)) ∧ ns.length ≤ 1000 ∧ (∀ x ∈ ns, NameOk x) ∧ 1 ≤ many ∧ many ≤ 4 ∧ ∀ c : Cl, ClNm c → R (clD c) S
theorem fn__law_clause (c1 : FnIn P w K mg base DS k ⟨"_law_draw", 2, sp__law_draw, []⟩) (c2 : FnIn P w K mg base DS k ⟨"_law_pick", 2, sp__law_pick, []⟩) (d : Df K mg "_law_clause" s__law_clause ["stock", "names", "many"] []) (hb : BlIn mg ["list", "range", "tuple"]) : FnIn P w K mg base DS (k + 1) ⟨"_law_clause", 3, sp__law_clause, []⟩ := by
  refine fn_mkL d sc__law_clause rfl (fns := [⟨"_law_draw", 2, sp__law_draw, []⟩, ⟨"_law_pick", 2, sp__law_pick, []⟩]) (cs := []) ⟨c1, c2, trivial⟩ trivial hb (fun X o => (s_cons (s_par3 o 4 5 6 (a_cons (e_add (e_listA o (a_cons (e_var o 1) a_nil)) (e_lst (a_cons e_str a_nil))) (a_cons (e_lstN a_nil) (a_cons (e_lstN a_nil) a_nil))))
  (s_cons (s_L (s_for o (i_rg1 o (e_call o 0 (a_cons (e_var o 0) (a_cons (e_var o 2) a_nil)))) (g_name o 3)
  (ss_L (s_cons (s_expr (e_append (e_var o 5) (a_cons (e_tup (a_cons (e_call o 1 (a_cons (e_var o 0) (a_cons (e_lst (a_cons e_str (a_cons e_str (a_cons e_str a_nil)))) a_nil))) (a_cons (e_call o 1 (a_cons (e_var o 0) (a_cons (e_var o 4) a_nil))) (a_cons (e_call o 1 (a_cons (e_var o 0) (a_cons (e_var o 4) a_nil))) a_nil)))) a_nil)))
  s_nil))))
  (s_cons (s_L (s_for o (i_rg1 o (e_call o 0 (a_cons (e_var o 0) (a_cons (e_var o 2) a_nil)))) (g_name o 3)
  (ss_L (s_cons (s_expr (e_append (e_var o 6) (a_cons (e_tup (a_cons (e_call o 1 (a_cons (e_var o 0) (a_cons (e_lst (a_cons e_str (a_cons e_str (a_cons e_str a_nil)))) a_nil))) (a_cons (e_call o 1 (a_cons (e_var o 0) (a_cons (e_var o 4) a_nil))) (a_cons (e_call o 1 (a_cons (e_var o 0) (a_cons (e_var o 4) a_nil))) a_nil)))) a_nil)))
  s_nil))))
  (s_cons (s_ret (e_tup (a_cons (e_toTup o (a_cons (e_var o 5) a_nil)) (a_cons (e_toTup o (a_cons (e_var o 6) a_nil)) a_nil))))
  s_nil))))) ?_
  intro ds S R hl h
  obtain ⟨dk, nd, ns, many, rfl, ho, hq, hn, hns, hm1, hm2, hR⟩ := h
  show wSeq _ _ _ [some (.ref dk), some nd, some (.int many), none, none, none, none] S
  rw [x_seq]
  simp only [x_tupZip, x_dpop, x_dcT, x_iZip, x_listZip, x_md, x_zipR, x_zipD, x_listRg1, x_listRg2, x_sortItems, x_listItems, x_back, x_ifT, x_sortSet, x_get1, x_get2, fnAt, x_lc, x_lcN, x_var, x_C, x_op, x_un, x_slice, x_noPart, x_part, x_tru, x_B, x_chain, x_and, x_or, x_not, x_andV, x_orV, x_notB, x_if, x_nil, x_cons, x_tup, x_lst, x_call, x_callK, x_gN, x_gT, x_gs0, x_gs1, x_yes, x_iSeq, x_iEn, x_words, x_ml, x_disp, x_d0, x_pnil, x_pcons, csAt, List.getD_cons_zero, List.getD_cons_succ, List.getElem?_cons_zero, List.getElem?_cons_succ, List.set_cons_zero, List.set_cons_succ, y_par3, x_lstN, fListA, f1, listOf_q (hq _), addL]
  refine ⟨lzn 1, by rw [List.length_map, sizeLine_eq]; simp only [List.length_cons, List.length_nil]; omega, lzn 0, fun pl hpl => ⟨lzn 0, fun pp hpp => ?_⟩⟩
  obtain ⟨ne, hpp0⟩ := GS.set_free hpp
  rw [show ns.map D.str ++ [D.str "nil"] = (ns ++ [("nil" : Str)]).map D.str by rw [List.map_append]; rfl]
  have tn : ∀ x ∈ ns ++ [("nil" : Str)], NameOk x := fun x m => by
    rcases List.mem_append.mp m with m | m
    · exact hns x m
    · rw [List.mem_singleton.mp m]; exact drawn_ok _ (by simp [drawnW])
  have tne : (ns ++ [("nil" : Str)]).map D.str ≠ [] := by simp
  have tl : ((ns ++ [("nil" : Str)]).map D.str).length ≤ 1000000 := by rw [List.length_map, List.length_append]; simp only [List.length_cons, List.length_nil]; omega
  generalize ns ++ [("nil" : Str)] = ts at tn tne tl ⊢
  generalize hT : D.lst (ts.map D.str) = Ts
  have asT : ∀ S : GS, asQ S Ts = some (ts.map D.str) := fun S => by rw [← hT]; rfl
  have pickT : ∀ (S : GS) (Q : D → GS → Prop), S.o = some dk → (∀ x, NameOk x → Q (.str x) S) → sp__law_pick [.ref dk, Ts] S Q := fun S Q ho q => pick_ok ho (asT S) tne tl fun y hy => by
    obtain ⟨x, mx, rfl⟩ := List.mem_map.mp hy
    exact q x (tn x mx)
  have pick3 : ∀ (a b c : Str) (S : GS) (Q : D → GS → Prop), a ∈ drawnW → b ∈ drawnW → c ∈ drawnW → S.o = some dk → (∀ x, NameOk x → Q (.str x) S) → sp__law_pick [.ref dk, .lst [.str a, .str b, .str c]] S Q := fun a b c S Q h1 h2 h3 ho q => pick_ok ho rfl (List.cons_ne_nil _ _) (by show 3 ≤ 1000000; omega) fun y hy => by
    simp only [List.mem_cons, List.mem_nil_iff, or_false] at hy
    rcases hy with rfl | rfl | rfl
    · exact q _ (drawn_ok _ h1)
    · exact q _ (drawn_ok _ h2)
    · exact q _ (drawn_ok _ h3)
  show wSeq _ _ _ [some (.ref dk), some nd, some (.int many), none, some Ts, some (.ref pl), some (.ref pp)] ((S.set pl (.lst (([] : List LRow).map rowD))).set pp (.lst (([] : List LRow).map rowD)))
  refine seq_to (fun ρ' S' => ∃ (ls : List LRow) (x3 : Option D), ls.length ≤ 3 ∧ (∀ r ∈ ls, RowNm r) ∧ ρ' = [some (.ref dk), some nd, some (.int many), x3, some Ts, some (.ref pl), some (.ref pp)] ∧ S' = (S.set pl (.lst (ls.map rowD))).set pp (.lst (([] : List LRow).map rowD))) (fun R' fin => ?_) ?_
  · refine for_L4 _ (.refl _) (fun ds gd S1 => ds.length ≤ 3 ∧ gd = [] ∧ (S.set pl (.lst (([] : List LRow).map rowD))).set pp (.lst (([] : List LRow).map rowD)) = S1) (fun Q q => ?_) ?_
    · simp only [x_iRg1, x_tupZip, x_dpop, x_dcT, x_iZip, x_listZip, x_md, x_zipR, x_zipD, x_listRg1, x_listRg2, x_sortItems, x_listItems, x_back, x_ifT, x_sortSet, x_get1, x_get2, fnAt, x_lc, x_lcN, x_var, x_C, x_op, x_un, x_slice, x_noPart, x_part, x_tru, x_B, x_chain, x_and, x_or, x_not, x_andV, x_orV, x_notB, x_if, x_nil, x_cons, x_tup, x_lst, x_call, x_callK, x_gN, x_gT, x_gs0, x_gs1, x_yes, x_iSeq, x_iEn, x_words, x_ml, x_disp, x_d0, x_pnil, x_pcons, csAt, List.getD_cons_zero, List.getD_cons_succ, List.getElem?_cons_zero, List.getElem?_cons_succ, List.set_cons_zero, List.set_cons_succ]
      refine draw_ok (S := (S.set pl (.lst (([] : List LRow).map rowD))).set pp (.lst (([] : List LRow).map rowD))) ho (by omega) (by omega) fun n hn1 => ?_
      exact ⟨_, rfl, by omega, by omega, q _ _ _ ⟨by rw [rgD_length]; omega, rfl, rfl⟩⟩
    rintro rs0 _ _ ⟨hrl, rfl, rfl⟩
    refine for_body (fun rest ρ S' => ∃ (ls : List LRow) (x3 : Option D), ls.length + rest.length ≤ 3 ∧ (∀ r ∈ ls, RowNm r) ∧ ρ = [some (.ref dk), some nd, some (.int many), x3, some Ts, some (.ref pl), some (.ref pp)] ∧ S' = (S.set pl (.lst (ls.map rowD))).set pp (.lst (([] : List LRow).map rowD))) _ (.refl _) ⟨[], none, by simpa using hrl, fun r m => (by cases m), rfl, rfl⟩ ?_ ?_
    · rintro z rest ρ S' ⟨ls, x3, hl3, hls, rfl, rfl⟩
      rw [List.length_cons] at hl3
      have g1 : ((S.set pl (.lst (ls.map rowD))).set pp (.lst (([] : List LRow).map rowD))).g pl = some (.lst (ls.map rowD)) := by rw [GS.set_ne ne.symm, GS.set_same]
      have is1 : isLs ((S.set pl (.lst (ls.map rowD))).set pp (.lst (([] : List LRow).map rowD))) (.ref pl) = true := by simp only [isLs, g1]
      refine ⟨trivial, [some (.ref dk), some nd, some (.int many), some z, some Ts, some (.ref pl), some (.ref pp)], fun S2 Q q => q, ?_⟩
      simp only [x_tupZip, x_dpop, x_dcT, x_iZip, x_listZip, x_md, x_zipR, x_zipD, x_listRg1, x_listRg2, x_sortItems, x_listItems, x_back, x_ifT, x_sortSet, x_get1, x_get2, fnAt, x_lc, x_lcN, x_var, x_C, x_op, x_un, x_slice, x_noPart, x_part, x_tru, x_B, x_chain, x_and, x_or, x_not, x_andV, x_orV, x_notB, x_if, x_nil, x_cons, x_tup, x_lst, x_call, x_callK, x_gN, x_gT, x_gs0, x_gs1, x_yes, x_iSeq, x_iEn, x_words, x_ml, x_disp, x_d0, x_pnil, x_pcons, csAt, List.getD_cons_zero, List.getD_cons_succ, List.getElem?_cons_zero, List.getElem?_cons_succ, List.set_cons_zero, List.set_cons_succ, x_seq, x_skip, x_ifS, x_ret, x_retN, x_asg, x_par, x_expr, x_brk, x_cnt]
      refine ⟨is1, lzn 3, pick3 _ _ _ _ _ (by simp [drawnW]) (by simp [drawnW]) (by simp [drawnW]) ho fun a ha => pickT _ _ ho fun b hb2 => pickT _ _ ho fun c hc => ?_⟩
      refine ⟨lzn 3, ?_⟩
      unfold fAppend
      simp only [g1]
      refine ⟨by rw [List.length_map, sizeLine_eq]; omega, _, .refl _, ls ++ [(a, b, c)], some z, by rw [List.length_append]; simp only [List.length_singleton]; omega, fun r m => ?_, rfl, ?_⟩
      · rcases List.mem_append.mp m with m | m
        · exact hls r m
        · rw [List.mem_singleton.mp m]; exact ⟨ha, hb2, hc⟩
      · rw [GS.set_comm ne.symm, GS.set_set, GS.set_comm ne, List.map_append]
        rfl
    · rintro ρ S' ⟨ls, x3, hl3, hls, rfl, rfl⟩
      exact ⟨trivial, fin _ _ ⟨ls, _, by simpa using hl3, hls, rfl, rfl⟩⟩
  rintro _ _ ⟨ls, x3, hl3, hls, rfl, rfl⟩
  refine seq_to (fun ρ' S' => ∃ (ps : List LRow) (x3 : Option D), ps.length ≤ 3 ∧ (∀ r ∈ ps, RowNm r) ∧ ρ' = [some (.ref dk), some nd, some (.int many), x3, some Ts, some (.ref pl), some (.ref pp)] ∧ S' = (S.set pl (.lst (ls.map rowD))).set pp (.lst (ps.map rowD))) (fun R' fin => ?_) ?_
  · refine for_L4 _ (.refl _) (fun ds gd S1 => ds.length ≤ 3 ∧ gd = [] ∧ (S.set pl (.lst (ls.map rowD))).set pp (.lst (([] : List LRow).map rowD)) = S1) (fun Q q => ?_) ?_
    · simp only [x_iRg1, x_tupZip, x_dpop, x_dcT, x_iZip, x_listZip, x_md, x_zipR, x_zipD, x_listRg1, x_listRg2, x_sortItems, x_listItems, x_back, x_ifT, x_sortSet, x_get1, x_get2, fnAt, x_lc, x_lcN, x_var, x_C, x_op, x_un, x_slice, x_noPart, x_part, x_tru, x_B, x_chain, x_and, x_or, x_not, x_andV, x_orV, x_notB, x_if, x_nil, x_cons, x_tup, x_lst, x_call, x_callK, x_gN, x_gT, x_gs0, x_gs1, x_yes, x_iSeq, x_iEn, x_words, x_ml, x_disp, x_d0, x_pnil, x_pcons, csAt, List.getD_cons_zero, List.getD_cons_succ, List.getElem?_cons_zero, List.getElem?_cons_succ, List.set_cons_zero, List.set_cons_succ]
      refine draw_ok (S := (S.set pl (.lst (ls.map rowD))).set pp (.lst (([] : List LRow).map rowD))) ho (by omega) (by omega) fun n hn1 => ?_
      exact ⟨_, rfl, by omega, by omega, q _ _ _ ⟨by rw [rgD_length]; omega, rfl, rfl⟩⟩
    rintro rs0 _ _ ⟨hrl, rfl, rfl⟩
    refine for_body (fun rest ρ S' => ∃ (ps : List LRow) (x3 : Option D), ps.length + rest.length ≤ 3 ∧ (∀ r ∈ ps, RowNm r) ∧ ρ = [some (.ref dk), some nd, some (.int many), x3, some Ts, some (.ref pl), some (.ref pp)] ∧ S' = (S.set pl (.lst (ls.map rowD))).set pp (.lst (ps.map rowD))) _ (.refl _) ⟨[], x3, by simpa using hrl, fun r m => (by cases m), rfl, rfl⟩ ?_ ?_
    · rintro z rest ρ S' ⟨ps, x3, hp3, hps, rfl, rfl⟩
      rw [List.length_cons] at hp3
      have g1 : ((S.set pl (.lst (ls.map rowD))).set pp (.lst (ps.map rowD))).g pp = some (.lst (ps.map rowD)) := GS.set_same
      have is1 : isLs ((S.set pl (.lst (ls.map rowD))).set pp (.lst (ps.map rowD))) (.ref pp) = true := by simp only [isLs, g1]
      refine ⟨trivial, [some (.ref dk), some nd, some (.int many), some z, some Ts, some (.ref pl), some (.ref pp)], fun S2 Q q => q, ?_⟩
      simp only [x_tupZip, x_dpop, x_dcT, x_iZip, x_listZip, x_md, x_zipR, x_zipD, x_listRg1, x_listRg2, x_sortItems, x_listItems, x_back, x_ifT, x_sortSet, x_get1, x_get2, fnAt, x_lc, x_lcN, x_var, x_C, x_op, x_un, x_slice, x_noPart, x_part, x_tru, x_B, x_chain, x_and, x_or, x_not, x_andV, x_orV, x_notB, x_if, x_nil, x_cons, x_tup, x_lst, x_call, x_callK, x_gN, x_gT, x_gs0, x_gs1, x_yes, x_iSeq, x_iEn, x_words, x_ml, x_disp, x_d0, x_pnil, x_pcons, csAt, List.getD_cons_zero, List.getD_cons_succ, List.getElem?_cons_zero, List.getElem?_cons_succ, List.set_cons_zero, List.set_cons_succ, x_seq, x_skip, x_ifS, x_ret, x_retN, x_asg, x_par, x_expr, x_brk, x_cnt]
      refine ⟨is1, lzn 3, pick3 _ _ _ _ _ (by simp [drawnW]) (by simp [drawnW]) (by simp [drawnW]) ho fun a ha => pickT _ _ ho fun b hb2 => pickT _ _ ho fun c hc => ?_⟩
      refine ⟨lzn 3, ?_⟩
      unfold fAppend
      simp only [g1]
      refine ⟨by rw [List.length_map, sizeLine_eq]; omega, _, .refl _, ps ++ [(a, b, c)], some z, by rw [List.length_append]; simp only [List.length_singleton]; omega, fun r m => ?_, rfl, ?_⟩
      · rcases List.mem_append.mp m with m | m
        · exact hps r m
        · rw [List.mem_singleton.mp m]; exact ⟨ha, hb2, hc⟩
      · rw [GS.set_set, List.map_append]
        rfl
    · rintro ρ S' ⟨ps, x3, hp3, hps, rfl, rfl⟩
      exact ⟨trivial, fin _ _ ⟨ps, _, by simpa using hp3, hps, rfl, rfl⟩⟩
  rintro _ _ ⟨ps, x3, hp3, hps, rfl, rfl⟩
  have g1 : ((S.set pl (.lst (ls.map rowD))).set pp (.lst (ps.map rowD))).g pl = some (.lst (ls.map rowD)) := by rw [GS.set_ne ne.symm, GS.set_same]
  have g2 : ((S.set pl (.lst (ls.map rowD))).set pp (.lst (ps.map rowD))).g pp = some (.lst (ps.map rowD)) := GS.set_same
  simp only [x_tupZip, x_dpop, x_dcT, x_iZip, x_listZip, x_md, x_zipR, x_zipD, x_listRg1, x_listRg2, x_sortItems, x_listItems, x_back, x_ifT, x_sortSet, x_get1, x_get2, fnAt, x_lc, x_lcN, x_var, x_C, x_op, x_un, x_slice, x_noPart, x_part, x_tru, x_B, x_chain, x_and, x_or, x_not, x_andV, x_orV, x_notB, x_if, x_nil, x_cons, x_tup, x_lst, x_call, x_callK, x_gN, x_gT, x_gs0, x_gs1, x_yes, x_iSeq, x_iEn, x_words, x_ml, x_disp, x_d0, x_pnil, x_pcons, csAt, List.getD_cons_zero, List.getD_cons_succ, List.getElem?_cons_zero, List.getElem?_cons_succ, List.set_cons_zero, List.set_cons_succ, x_seq, x_skip, x_ifS, x_ret, x_retN, x_asg, x_par, x_expr, x_brk, x_cnt, tup_ref g1, tup_ref g2]
  exact ⟨lzn 2, S, (Less.new hpl).trans (.new (by rw [GS.set_ne ne]; exact hpp0)), hR (ls, ps) ⟨hl3, hp3, hls, hps⟩⟩
theorem cl_all {G : Cl → Prop} : ∀ {ys : List D}, (∀ y ∈ ys, ∃ c : Cl, y = clD c ∧ G c) → ∃ s : List Cl, ys = s.map clD ∧ ∀ c ∈ s, G c
  | [], _ => ⟨[], rfl, fun c m => by cases m⟩
  | y :: r, h => by
    obtain ⟨c, rfl, g⟩ := h y (by simp)
    obtain ⟨s, rfl, k⟩ := cl_all fun y m => h y (List.mem_cons_of_mem _ m)
    exact ⟨c :: s, rfl, fun c' m => (List.mem_cons.mp m).elim (fun e => by rw [e]; exact g) (k c')⟩
/-- a comprehension over what is only known in part -/
theorem lc_rg {ρ : Dv.Env} {S : GS} {wi : WI} {g : WG} {tt : WT} {te : W} {vs : List Nat} {Q : List D → GS → Prop} (T : List D → Prop) (hi : ∀ Q : List D → Gd → GS → Prop, (∀ ds, T ds → Q ds [] S) → wi ρ S Q) (h : ∀ ds, T ds → wLcB (fun _ S Q => Q ds [] S) g tt te vs ρ S Q) : wLcB wi g tt te vs ρ S Q := hi _ fun ds t => h ds t
def sp__law_saying : WF := fun ds S R => ∃ (dk : Addr) (nd : D) (ns : List Str) (many : Nat), ds = [.ref dk, nd, .int many] ∧ S.o = some dk ∧ (∀ S, asQ S nd = some (ns.map D.str)) ∧ ns.length ≤ 1000 ∧ (∀ x ∈ ns, NameOk x) ∧ 1 ≤ many ∧ many ≤ 10 ∧ ∀ s : List Cl, 1 ≤ s.length → s.length ≤ many → (∀ c ∈ s, ClNm c) → R (sayD s) S
theorem fn__law_saying (c1 : FnIn P w K mg base DS k ⟨"_law_draw", 2, sp__law_draw, []⟩) (c2 : FnIn P w K mg base DS k ⟨"_law_clause", 3, sp__law_clause, []⟩) (d : Df K mg "_law_saying" s__law_saying ["stock", "names", "many"] []) (hb : BlIn mg ["range", "tuple"]) : FnIn P w K mg base DS (k + 1) ⟨"_law_saying", 3, sp__law_saying, []⟩ := by
  refine fn_mkL d sc__law_saying rfl (fns := [⟨"_law_draw", 2, sp__law_draw, []⟩, ⟨"_law_clause", 3, sp__law_clause, []⟩]) (cs := []) ⟨c1, c2, trivial⟩ trivial hb (fun X o => (s_cons (s_ret (e_toTup o (a_cons (e_lc o [("turn", 3)] (i_rg1 o (e_add e_int (e_call o 0 (a_cons (e_var o 0) (a_cons (e_var o 2) a_nil))))) (cg_name 3) (fun Y _ o1 => l_nil) (fun Y _ o1 => (e_call o1 1 (a_cons (e_var o1 0) (a_cons (e_var o1 1) (a_cons e_int a_nil)))))) a_nil)))
  s_nil)) ?_
  intro ds S R hl h
  obtain ⟨dk, nd, ns, many, rfl, ho, hq, hn, hns, hm1, hm2, hR⟩ := h
  show wSeq _ _ _ [some (.ref dk), some nd, some (.int many), none] S
  simp only [x_tupZip, x_dpop, x_dcT, x_iZip, x_listZip, x_md, x_zipR, x_zipD, x_listRg1, x_listRg2, x_sortItems, x_listItems, x_back, x_ifT, x_sortSet, x_get1, x_get2, fnAt, x_lc, x_lcN, x_var, x_C, x_op, x_un, x_slice, x_noPart, x_part, x_tru, x_B, x_chain, x_and, x_or, x_not, x_andV, x_orV, x_notB, x_if, x_nil, x_cons, x_tup, x_lst, x_call, x_callK, x_gN, x_gT, x_gs0, x_gs1, x_yes, x_iSeq, x_iEn, x_words, x_ml, x_disp, x_d0, x_pnil, x_pcons, csAt, List.getD_cons_zero, List.getD_cons_succ, List.getElem?_cons_zero, List.getElem?_cons_succ, List.set_cons_zero, List.set_cons_succ, x_seq, x_skip, x_ifS, x_ret, x_retN, x_asg, x_par, x_expr, x_brk, x_cnt]
  refine lc_rg (fun ds => 1 ≤ ds.length ∧ ds.length ≤ many) (fun Q q => ?_) fun ds hd => ?_
  · simp only [x_iRg1, x_tupZip, x_dpop, x_dcT, x_iZip, x_listZip, x_md, x_zipR, x_zipD, x_listRg1, x_listRg2, x_sortItems, x_listItems, x_back, x_ifT, x_sortSet, x_get1, x_get2, fnAt, x_lc, x_lcN, x_var, x_C, x_op, x_un, x_slice, x_noPart, x_part, x_tru, x_B, x_chain, x_and, x_or, x_not, x_andV, x_orV, x_notB, x_if, x_nil, x_cons, x_tup, x_lst, x_call, x_callK, x_gN, x_gT, x_gs0, x_gs1, x_yes, x_iSeq, x_iEn, x_words, x_ml, x_disp, x_d0, x_pnil, x_pcons, csAt, List.getD_cons_zero, List.getD_cons_succ, List.getElem?_cons_zero, List.getElem?_cons_succ, List.set_cons_zero, List.set_cons_succ]
    refine draw_ok ho (by omega) (by omega) fun n hn1 => ?_
    rw [addI]
    exact ⟨_, rfl, by omega, by omega, q _ ⟨by rw [rgD_length]; omega, by rw [rgD_length]; omega⟩⟩
  refine lc_all (wi := fun _ S Q => Q ds [] S) (gd := []) (fun y => ∃ c : Cl, y = clD c ∧ ClNm c) (fun Q q => q) trivial (by rw [sizeLine_eq]; omega) (fun y my Q hQ => ?_) fun ys hy hG => ?_
  · exact ⟨dk, nd, ns, 3, rfl, ho, hq, hn, hns, by omega, by omega, fun c hc => hQ _ ⟨c, rfl, hc⟩⟩
  obtain ⟨s, rfl, hs⟩ := cl_all hG
  rw [List.length_map] at hy
  rw [tup_lst]
  exact ⟨S, .refl S, hR s (by omega) (by omega) hs⟩
end
end K32

namespace K32
open PySem PySem.Spec L2 Dv
open PyProof.Rows hiding St
/-! ### shapes, tests, simple statements -/
def poolS : List Str := ["p", "q", "a", "bc", "x", "longname", "y", "zz"]
theorem pool_nm : ∀ x ∈ poolS, NameOk x := fun x m => by
  have h : poolS.all (fun x => gd (.str x) && PyData.strOk x) = true := by decide +kernel
  have := List.all_eq_true.mp h x m
  simpa [NameOk, Bool.and_eq_true] using this
def shD (a b c : List Str) : D := .tup [.tup (a.map D.str), .tup (b.map D.str), .tup (c.map D.str)]
structure ShapeOk (a b c : List Str) : Prop where
  na : ∀ x ∈ a, NameOk x
  nb : ∀ x ∈ b, NameOk x
  nc : ∀ x ∈ c, NameOk x
  la : a.length ≤ 8
  lb : b.length ≤ 8
  lc : c.length ≤ 8
def valsL (a c : List Str) : List Str := "nil" :: "result" :: (a ++ c)
theorem vals_nm {a b c : List Str} (h : ShapeOk a b c) : ∀ x ∈ valsL a c, NameOk x := fun x m => by
  rcases List.mem_cons.mp m with rfl | m
  · exact drawn_ok _ (by simp [drawnW])
  rcases List.mem_cons.mp m with rfl | m
  · exact drawn_ok _ (by simp [drawnW])
  rcases List.mem_append.mp m with m | m
  · exact h.na x m
  · exact h.nc x m
theorem sh_ix0 (a b c : List Str) (S : GS) (Q : D → GS → Prop) : oIx (shD a b c) (.int 0) S Q = Q (.tup (a.map D.str)) S := ix_eq (n := 0) rfl rfl
theorem sh_ix1 (a b c : List Str) (S : GS) (Q : D → GS → Prop) : oIx (shD a b c) (.int 1) S Q = Q (.tup (b.map D.str)) S := ix_eq (n := 1) rfl rfl
theorem sh_ix2 (a b c : List Str) (S : GS) (Q : D → GS → Prop) : oIx (shD a b c) (.int 2) S Q = Q (.tup (c.map D.str)) S := ix_eq (n := 2) rfl rfl
theorem subI {S : GS} {i j : Int} {Q : D → GS → Prop} : oSub (.int i) (.int j) S Q = Q (.int (i - j)) S := rfl
def othD (o : Str × Nat × Nat) : D := .tup [.str o.1, .int o.2.1, .int o.2.2]
def OthOk (os : List (Str × Nat × Nat)) : Prop := os.length ≤ 10 ∧ ∀ o ∈ os, NameOk o.1 ∧ o.2.1 ≤ 10 ∧ o.2.2 ≤ 10
theorem oth_item {o : Str × Nat × Nat} (h : NameOk o.1) : itemC (othD o) = true := by
  have h1 := h.2
  simp [itemC, othD, pure?, pureL, nod?, nodL, dep, depL, h1]
section
variable {P : Program} {w : World} {K : PySem.W.Frag} {mg : Str → Option Value} {base : Heap} {k : Nat}
def sp__law_values : WF := fun ds S R => ∃ a b c, ds = [shD a b c] ∧ ShapeOk a b c ∧ R (.lst ((valsL a c).map D.str)) S
theorem fn__law_values (d : Df K mg "_law_values" s__law_values ["shape"] []) (hb : BlIn mg ["list"]) : FnIn P w K mg base DS (k + 1) ⟨"_law_values", 1, sp__law_values, []⟩ := by
  refine fn_mkL d sc__law_values rfl (fns := []) (cs := []) trivial trivial hb (fun X o => (s_cons (s_ret (e_add (e_add (e_lst (a_cons e_str (a_cons e_str a_nil))) (e_listA o (a_cons (e_ix o (e_var o 0) e_int) a_nil))) (e_listA o (a_cons (e_ix o (e_var o 0) e_int) a_nil))))
  s_nil)) ?_
  intro ds S R hl h
  obtain ⟨a, b, c, rfl, sh, hR⟩ := h
  have la8 := sh.la
  have lc8 := sh.lc
  show wSeq _ _ _ [some (shD a b c)] S
  simp only [x_tupZip, x_dpop, x_dcT, x_iZip, x_listZip, x_md, x_zipR, x_zipD, x_listRg1, x_listRg2, x_sortItems, x_listItems, x_back, x_ifT, x_sortSet, x_get1, x_get2, fnAt, x_lc, x_lcN, x_var, x_C, x_op, x_un, x_slice, x_noPart, x_part, x_tru, x_B, x_chain, x_and, x_or, x_not, x_andV, x_orV, x_notB, x_if, x_nil, x_cons, x_tup, x_lst, x_call, x_callK, x_gN, x_gT, x_gs0, x_gs1, x_yes, x_iSeq, x_iEn, x_words, x_ml, x_disp, x_d0, x_pnil, x_pcons, csAt, List.getD_cons_zero, List.getD_cons_succ, List.getElem?_cons_zero, List.getElem?_cons_succ, List.set_cons_zero, List.set_cons_succ, x_seq, x_skip, x_ifS, x_ret, x_retN, x_asg, x_par, x_expr, x_brk, x_cnt, sh_ix0, sh_ix2, fListA, f1]
  refine ⟨lzn 2, ?_⟩
  show oAdd (.lst [.str "nil", .str "result"]) (.lst (a.map D.str)) S _
  rw [addL]
  refine ⟨by rw [List.length_map, sizeLine_eq]; simp only [List.length_cons, List.length_nil]; omega, ?_⟩
  show oAdd (.lst ([.str "nil", .str "result"] ++ a.map D.str)) (.lst (c.map D.str)) S _
  rw [addL]
  refine ⟨by rw [List.length_append, List.length_map, List.length_map, sizeLine_eq]; simp only [List.length_cons, List.length_nil]; omega, S, .refl S, ?_⟩
  rw [show [D.str "nil", D.str "result"] ++ a.map D.str ++ c.map D.str = (valsL a c).map D.str by simp [valsL]]
  exact hR
def sp__law_test : WF := fun ds S R => ∃ dk a b c, ds = [.ref dk, shD a b c] ∧ S.o = some dk ∧ ShapeOk a b c ∧ ∀ t, TestOk t → R t S
theorem fn__law_test (c1 : FnIn P w K mg base DS k ⟨"_law_pick", 2, sp__law_pick, []⟩) (c2 : FnIn P w K mg base DS k ⟨"_law_draw", 2, sp__law_draw, []⟩) (c3 : FnIn P w K mg base DS k ⟨"_law_values", 1, sp__law_values, []⟩) (d : Df K mg "_law_test" s__law_test ["stock", "shape"] []) : FnIn P w K mg base DS (k + 1) ⟨"_law_test", 2, sp__law_test, []⟩ := by
  refine fn_mkL d sc__law_test rfl (fns := [⟨"_law_pick", 2, sp__law_pick, []⟩, ⟨"_law_draw", 2, sp__law_draw, []⟩, ⟨"_law_values", 1, sp__law_values, []⟩]) (cs := []) ⟨c1, c2, c3, trivial⟩ (bl := []) trivial (fun x hx => by simp at hx) (fun X o => (s_cons (s_par o 2 3 (a_cons (e_call o 2 (a_cons (e_var o 1) a_nil)) (a_cons (e_call o 1 (a_cons (e_var o 0) (a_cons e_int a_nil))) a_nil)))
  (s_cons (s_if (t_cmp o c_eq (e_var o 3) e_int)
  (s_cons (s_ret (e_tup (a_cons e_str a_nil)))
  s_nil)
  s_nil)
  (s_cons (s_ret (e_tup (a_cons (e_ix o (e_lst (a_cons e_str (a_cons e_str (a_cons e_str a_nil)))) (e_sub (e_var o 3) e_int)) (a_cons (e_call o 0 (a_cons (e_var o 0) (a_cons (e_var o 2) a_nil))) (a_cons (e_call o 0 (a_cons (e_var o 0) (a_cons (e_var o 2) a_nil))) a_nil)))))
  s_nil)))) ?_
  intro ds S R hl h
  obtain ⟨dk, a, b, c, rfl, ho, sh, hR⟩ := h
  have vn := vals_nm sh
  have la8 := sh.la
  have lc8 := sh.lc
  show wSeq _ _ _ [some (.ref dk), some (shD a b c), none, none] S
  rw [x_seq]
  simp only [x_par, x_tupZip, x_dpop, x_dcT, x_iZip, x_listZip, x_md, x_zipR, x_zipD, x_listRg1, x_listRg2, x_sortItems, x_listItems, x_back, x_ifT, x_sortSet, x_get1, x_get2, fnAt, x_lc, x_lcN, x_var, x_C, x_op, x_un, x_slice, x_noPart, x_part, x_tru, x_B, x_chain, x_and, x_or, x_not, x_andV, x_orV, x_notB, x_if, x_nil, x_cons, x_tup, x_lst, x_call, x_callK, x_gN, x_gT, x_gs0, x_gs1, x_yes, x_iSeq, x_iEn, x_words, x_ml, x_disp, x_d0, x_pnil, x_pcons, csAt, List.getD_cons_zero, List.getD_cons_succ, List.getElem?_cons_zero, List.getElem?_cons_succ, List.set_cons_zero, List.set_cons_succ]
  refine ⟨a, b, c, rfl, sh, draw_ok ho (by omega) (by omega) fun n hn => ?_⟩
  have vl : (valsL a c).length ≤ 18 := by unfold valsL; simp only [List.length_cons, List.length_append]; omega
  have vne : (valsL a c).map D.str ≠ [] := by simp [valsL]
  generalize valsL a c = vs at vn vl vne ⊢
  have pickV : ∀ (S : GS) (Q : D → GS → Prop), S.o = some dk → (∀ x, NameOk x → Q (.str x) S) → sp__law_pick [.ref dk, .lst (vs.map D.str)] S Q := fun S Q ho q => pick_ok ho rfl vne (by rw [List.length_map]; omega) fun y hy => by
    obtain ⟨x, mx, rfl⟩ := List.mem_map.mp hy
    exact q x (vn x mx)
  show wSeq _ _ _ [some (.ref dk), some (shD a b c), some (.lst (vs.map D.str)), some (.int (n : Nat))] S
  refine seq_if2 (n = 0) (n ≠ 0) (fun Q q0 q1 => ?_) (fun hz => ?_) fun hz => ?_
  · simp only [x_tupZip, x_dpop, x_dcT, x_iZip, x_listZip, x_md, x_zipR, x_zipD, x_listRg1, x_listRg2, x_sortItems, x_listItems, x_back, x_ifT, x_sortSet, x_get1, x_get2, fnAt, x_lc, x_lcN, x_var, x_C, x_op, x_un, x_slice, x_noPart, x_part, x_tru, x_B, x_chain, x_and, x_or, x_not, x_andV, x_orV, x_notB, x_if, x_nil, x_cons, x_tup, x_lst, x_call, x_callK, x_gN, x_gT, x_gs0, x_gs1, x_yes, x_iSeq, x_iEn, x_words, x_ml, x_disp, x_d0, x_pnil, x_pcons, csAt, List.getD_cons_zero, List.getD_cons_succ, List.getElem?_cons_zero, List.getElem?_cons_succ, List.set_cons_zero, List.set_cons_succ, eq_ints]
    by_cases hz : n = 0
    · rw [decide_eq_true (by omega)]; exact q1 hz
    · rw [decide_eq_false (by omega)]; exact q0 hz
  · simp only [x_tupZip, x_dpop, x_dcT, x_iZip, x_listZip, x_md, x_zipR, x_zipD, x_listRg1, x_listRg2, x_sortItems, x_listItems, x_back, x_ifT, x_sortSet, x_get1, x_get2, fnAt, x_lc, x_lcN, x_var, x_C, x_op, x_un, x_slice, x_noPart, x_part, x_tru, x_B, x_chain, x_and, x_or, x_not, x_andV, x_orV, x_notB, x_if, x_nil, x_cons, x_tup, x_lst, x_call, x_callK, x_gN, x_gT, x_gs0, x_gs1, x_yes, x_iSeq, x_iEn, x_words, x_ml, x_disp, x_d0, x_pnil, x_pcons, csAt, List.getD_cons_zero, List.getD_cons_succ, List.getElem?_cons_zero, List.getElem?_cons_succ, List.set_cons_zero, List.set_cons_succ, x_seq, x_skip, x_ifS, x_ret, x_retN, x_asg, x_par, x_expr, x_brk, x_cnt]
    exact ⟨lzn 1, S, .refl S, hR _ ⟨["any"], rfl, by show 1 ≤ 3; omega, fun x m => by rw [List.mem_singleton.mp m]; exact drawn_ok _ (by simp [drawnW])⟩⟩
  · simp only [x_tupZip, x_dpop, x_dcT, x_iZip, x_listZip, x_md, x_zipR, x_zipD, x_listRg1, x_listRg2, x_sortItems, x_listItems, x_back, x_ifT, x_sortSet, x_get1, x_get2, fnAt, x_lc, x_lcN, x_var, x_C, x_op, x_un, x_slice, x_noPart, x_part, x_tru, x_B, x_chain, x_and, x_or, x_not, x_andV, x_orV, x_notB, x_if, x_nil, x_cons, x_tup, x_lst, x_call, x_callK, x_gN, x_gT, x_gs0, x_gs1, x_yes, x_iSeq, x_iEn, x_words, x_ml, x_disp, x_d0, x_pnil, x_pcons, csAt, List.getD_cons_zero, List.getD_cons_succ, List.getElem?_cons_zero, List.getElem?_cons_succ, List.set_cons_zero, List.set_cons_succ, x_seq, x_skip, x_ifS, x_ret, x_retN, x_asg, x_par, x_expr, x_brk, x_cnt, subI]
    refine ⟨lzn 3, ?_⟩
    have e : ((n : Nat) : Int) - 1 = ((n - 1 : Nat) : Int) := by omega
    rw [e]
    obtain ⟨kw, hkw, hix⟩ : ∃ kw : Str, kw ∈ drawnW ∧ ([D.str "is", D.str "isnt", D.str "isnt"] : List D)[n - 1]? = some (.str kw) := by
      have : n = 1 ∨ n = 2 ∨ n = 3 := by omega
      rcases this with rfl | rfl | rfl
      · exact ⟨"is", by simp [drawnW], rfl⟩
      · exact ⟨"isnt", by simp [drawnW], rfl⟩
      · exact ⟨"isnt", by simp [drawnW], rfl⟩
    rw [ix_eq (n := n - 1) (d := .lst [D.str "is", D.str "isnt", D.str "isnt"]) rfl hix]
    refine pickV _ _ ho fun x hx => pickV _ _ ho fun y hy => ?_
    exact ⟨lzn 3, S, .refl S, hR _ ⟨[kw, x, y], rfl, by show 3 ≤ 3; omega, fun z m => by
      simp only [List.mem_cons, List.mem_nil_iff, or_false] at m
      rcases m with rfl | rfl | rfl
      · exact drawn_ok _ hkw
      · exact hx
      · exact hy⟩⟩
theorem str_all {G : Str → Prop} : ∀ {ys : List D}, (∀ y ∈ ys, ∃ c : Str, y = .str c ∧ G c) → ∃ s : List Str, ys = s.map D.str ∧ ∀ c ∈ s, G c
  | [], _ => ⟨[], rfl, fun c m => by cases m⟩
  | y :: r, h => by
    obtain ⟨c, rfl, g⟩ := h y (by simp)
    obtain ⟨s, rfl, k⟩ := str_all fun y m => h y (List.mem_cons_of_mem _ m)
    exact ⟨c :: s, rfl, fun c' m => (List.mem_cons.mp m).elim (fun e => by rw [e]; exact g) (k c')⟩
def sp__law_simple : WF := fun ds S R => ∃ dk a b c os, ds = [.ref dk, shD a b c, .lst (os.map othD)] ∧ S.o = some dk ∧ ShapeOk a b c ∧ OthOk os ∧ ∀ s, StmOk 1 s → R s S
theorem fn__law_simple (c1 : FnIn P w K mg base DS k ⟨"_law_pick", 2, sp__law_pick, []⟩) (c2 : FnIn P w K mg base DS k ⟨"_law_draw", 2, sp__law_draw, []⟩) (c3 : FnIn P w K mg base DS k ⟨"_law_values", 1, sp__law_values, []⟩) (d : Df K mg "_law_simple" s__law_simple ["stock", "shape", "others"] []) (hb : BlIn mg ["list", "range", "tuple"]) : FnIn P w K mg base DS (k + 1) ⟨"_law_simple", 3, sp__law_simple, []⟩ := by
  refine fn_mkL d sc__law_simple rfl (fns := [⟨"_law_pick", 2, sp__law_pick, []⟩, ⟨"_law_draw", 2, sp__law_draw, []⟩, ⟨"_law_values", 1, sp__law_values, []⟩]) (cs := []) ⟨c1, c2, c3, trivial⟩ trivial hb (fun X o => (s_cons (s_asgT o (e_tup (a_cons (e_call o 2 (a_cons (e_var o 1) a_nil)) (a_cons (e_call o 1 (a_cons (e_var o 0) (a_cons e_int a_nil))) a_nil))) (g_tup o 2 (g_cons (g_name o 3) (g_cons (g_name o 4) g_nil))))
  (s_cons (s_par3 o 5 6 7 (a_cons (e_call o 0 (a_cons (e_var o 0) (a_cons (e_add (e_lst (a_cons e_str a_nil)) (e_listA o (a_cons (e_ix o (e_var o 1) e_int) a_nil))) a_nil))) (a_cons (e_call o 0 (a_cons (e_var o 0) (a_cons (e_var o 3) a_nil))) (a_cons (e_call o 0 (a_cons (e_var o 0) (a_cons (e_var o 3) a_nil))) a_nil))))
  (s_cons (s_if (t_w (w_and (t_cmp o c_eq (e_var o 4) e_int) (w_and1 (t_cmp o c_ne (e_var o 2) (e_lst a_nil)))))
  (s_cons (s_asg (e_call o 0 (a_cons (e_var o 0) (a_cons (e_var o 2) a_nil))) (g_tup o 3 (g_cons (g_name o 9) (g_cons (g_name o 10) (g_cons (g_name o 11) g_nil)))))
  (s_cons (s_set o 8 (e_toTup o (a_cons (e_lc o [("turn", 12)] (i_rg1 o (e_var o 10)) (cg_name 12) (fun Y _ o2 => l_nil) (fun Y _ o2 => (e_call o2 0 (a_cons (e_var o2 0) (a_cons (e_var o2 3) a_nil))))) a_nil)))
  (s_cons (s_ret (e_tup (a_cons e_str (a_cons (e_var o 5) (a_cons (e_var o 9) (a_cons (e_var o 8) (a_cons (e_toTup o (a_cons (e_lc o [("turn", 12)] (i_rg1 o (e_var o 11)) (cg_name 12) (fun Y _ o1 => l_nil) (fun Y _ o1 => (e_call o1 0 (a_cons (e_var o1 0) (a_cons (e_add (e_var o1 3) (e_listA o1 (a_cons (e_ix o1 (e_var o1 1) e_int) a_nil))) a_nil))))) a_nil)) a_nil)))))))
  s_nil)))
  s_nil)
  (s_cons (s_if (t_cmp o c_lt (e_var o 4) e_int)
  (s_cons (s_ret (e_tup (a_cons e_str (a_cons (e_var o 5) (a_cons (e_var o 6) a_nil)))))
  s_nil)
  s_nil)
  (s_cons (s_ret (e_ix o (e_lst (a_cons (e_tup (a_cons e_str (a_cons (e_var o 5) (a_cons (e_var o 6) a_nil)))) (a_cons (e_tup (a_cons e_str (a_cons (e_var o 5) (a_cons (e_var o 6) a_nil)))) (a_cons (e_tup (a_cons e_str (a_cons (e_var o 5) (a_cons (e_var o 6) a_nil)))) (a_cons (e_tup (a_cons e_str (a_cons (e_var o 6) (a_cons (e_var o 7) a_nil)))) (a_cons (e_tup (a_cons e_str (a_cons (e_var o 6) a_nil))) a_nil)))))) (e_sub (e_var o 4) e_int)))
  s_nil)))))) ?_
  intro ds S R hl h
  obtain ⟨dk, a, b, c, os, rfl, ho, sh, oo, hR⟩ := h
  have vn := vals_nm sh
  have la8 := sh.la
  have lc8 := sh.lc
  have lb8 := sh.lb
  show wSeq _ _ _ [some (.ref dk), some (shD a b c), some (.lst (os.map othD)), none, none, none, none, none, none, none, none, none, none] S
  rw [x_seq]
  simp only [x_asg, x_tupZip, x_dpop, x_dcT, x_iZip, x_listZip, x_md, x_zipR, x_zipD, x_listRg1, x_listRg2, x_sortItems, x_listItems, x_back, x_ifT, x_sortSet, x_get1, x_get2, fnAt, x_lc, x_lcN, x_var, x_C, x_op, x_un, x_slice, x_noPart, x_part, x_tru, x_B, x_chain, x_and, x_or, x_not, x_andV, x_orV, x_notB, x_if, x_nil, x_cons, x_tup, x_lst, x_call, x_callK, x_gN, x_gT, x_gs0, x_gs1, x_yes, x_iSeq, x_iEn, x_words, x_ml, x_disp, x_d0, x_pnil, x_pcons, csAt, List.getD_cons_zero, List.getD_cons_succ, List.getElem?_cons_zero, List.getElem?_cons_succ, List.set_cons_zero, List.set_cons_succ]
  refine ⟨a, b, c, rfl, sh, draw_ok ho (by omega) (by omega) fun n hn => ⟨lzn 2, rfl, trivial, ?_⟩⟩
  have vl : (valsL a c).length ≤ 18 := by unfold valsL; simp only [List.length_cons, List.length_append]; omega
  have vne : (valsL a c).map D.str ≠ [] := by simp [valsL]
  generalize valsL a c = vs at vn vl vne ⊢
  have pickV : ∀ (S : GS) (Q : D → GS → Prop), S.o = some dk → (∀ x, NameOk x → Q (.str x) S) → sp__law_pick [.ref dk, .lst (vs.map D.str)] S Q := fun S Q ho q => pick_ok ho rfl vne (by rw [List.length_map]; omega) fun y hy => by
    obtain ⟨x, mx, rfl⟩ := List.mem_map.mp hy
    exact q x (vn x mx)
  have pickL : ∀ (l : List Str) (S : GS) (Q : D → GS → Prop), S.o = some dk → l ≠ [] → l.length ≤ 100 → (∀ x ∈ l, NameOk x) → (∀ x, NameOk x → Q (.str x) S) → sp__law_pick [.ref dk, .lst (l.map D.str)] S Q := fun l S Q ho h1 h2 h3 q => pick_ok ho rfl (by simpa using h1) (by rw [List.length_map]; omega) fun y hy => by
    obtain ⟨x, mx, rfl⟩ := List.mem_map.mp hy
    exact q x (h3 x mx)
  show wSeq _ _ _ [some (.ref dk), some (shD a b c), some (.lst (os.map othD)), some (.lst (vs.map D.str)), some (.int (n : Nat)), none, none, none, none, none, none, none, none] S
  rw [x_seq]
  simp only [y_par3, x_tupZip, x_dpop, x_dcT, x_iZip, x_listZip, x_md, x_zipR, x_zipD, x_listRg1, x_listRg2, x_sortItems, x_listItems, x_back, x_ifT, x_sortSet, x_get1, x_get2, fnAt, x_lc, x_lcN, x_var, x_C, x_op, x_un, x_slice, x_noPart, x_part, x_tru, x_B, x_chain, x_and, x_or, x_not, x_andV, x_orV, x_notB, x_if, x_nil, x_cons, x_tup, x_lst, x_call, x_callK, x_gN, x_gT, x_gs0, x_gs1, x_yes, x_iSeq, x_iEn, x_words, x_ml, x_disp, x_d0, x_pnil, x_pcons, csAt, List.getD_cons_zero, List.getD_cons_succ, List.getElem?_cons_zero, List.getElem?_cons_succ, List.set_cons_zero, List.set_cons_succ, sh_ix2, fListA, f1]
  refine ⟨lzn 1, ?_⟩
  show oAdd (.lst [.str "result"]) (.lst (c.map D.str)) S _
  rw [addL]
  refine ⟨by rw [List.length_map, sizeLine_eq]; simp only [List.length_cons, List.length_nil]; omega, ?_⟩
  show sp__law_pick [.ref dk, .lst ((("result" : Str) :: c).map D.str)] S _
  refine pickL _ _ _ ho (by simp) (by simp only [List.length_cons]; omega) (fun x m => ?_) fun x hx => pickV _ _ ho fun y hy => pickV _ _ ho fun z hz => ?_
  · rcases List.mem_cons.mp m with rfl | m
    · exact drawn_ok _ (by simp [drawnW])
    · exact sh.nc x m
  show wSeq _ _ _ [some (.ref dk), some (shD a b c), some (.lst (os.map othD)), some (.lst (vs.map D.str)), some (.int (n : Nat)), some (.str x), some (.str y), some (.str z), none, none, none, none, none] S
  refine seq_if2 (os ≠ []) True (fun Q q0 q1 => ?_) (fun hne => ?_) fun _ => ?_
  · simp only [x_tupZip, x_dpop, x_dcT, x_iZip, x_listZip, x_md, x_zipR, x_zipD, x_listRg1, x_listRg2, x_sortItems, x_listItems, x_back, x_ifT, x_sortSet, x_get1, x_get2, fnAt, x_lc, x_lcN, x_var, x_C, x_op, x_un, x_slice, x_noPart, x_part, x_tru, x_B, x_chain, x_and, x_or, x_not, x_andV, x_orV, x_notB, x_if, x_nil, x_cons, x_tup, x_lst, x_call, x_callK, x_gN, x_gT, x_gs0, x_gs1, x_yes, x_iSeq, x_iEn, x_words, x_ml, x_disp, x_d0, x_pnil, x_pcons, csAt, List.getD_cons_zero, List.getD_cons_succ, List.getElem?_cons_zero, List.getElem?_cons_succ, List.set_cons_zero, List.set_cons_succ, eq_ints]
    cases decide ((n : Int) = 0) with
    | false => exact q0 trivial
    | true =>
      simp only [if_true]
      refine ⟨lzn 0, ?_⟩
      rw [ne_lst (fun d m => by obtain ⟨o, mo, rfl⟩ := List.mem_map.mp m; exact oth_item (oo.2 o mo).1), List.isEmpty_map]
      cases os with
      | nil => exact q0 trivial
      | cons o r => exact q1 (by simp)
  · rw [x_seq]
    simp only [x_asg, x_tupZip, x_dpop, x_dcT, x_iZip, x_listZip, x_md, x_zipR, x_zipD, x_listRg1, x_listRg2, x_sortItems, x_listItems, x_back, x_ifT, x_sortSet, x_get1, x_get2, fnAt, x_lc, x_lcN, x_var, x_C, x_op, x_un, x_slice, x_noPart, x_part, x_tru, x_B, x_chain, x_and, x_or, x_not, x_andV, x_orV, x_notB, x_if, x_nil, x_cons, x_tup, x_lst, x_call, x_callK, x_gN, x_gT, x_gs0, x_gs1, x_yes, x_iSeq, x_iEn, x_words, x_ml, x_disp, x_d0, x_pnil, x_pcons, csAt, List.getD_cons_zero, List.getD_cons_succ, List.getElem?_cons_zero, List.getElem?_cons_succ, List.set_cons_zero, List.set_cons_succ]
    refine pick_ok ho rfl (by simpa using hne) (by rw [List.length_map]; have := oo.1; omega) fun yo hyo => ?_
    obtain ⟨o, mo, rfl⟩ := List.mem_map.mp hyo
    obtain ⟨o1, o2, o3⟩ := oo.2 o mo
    refine ⟨rfl, rfl, ?_⟩
    show wSeq _ _ _ [some (.ref dk), some (shD a b c), some (.lst (os.map othD)), some (.lst (vs.map D.str)), some (.int (n : Nat)), some (.str x), some (.str y), some (.str z), none, some (.str o.1), some (.int (o.2.1 : Nat)), some (.int (o.2.2 : Nat)), none] S
    rw [x_seq]
    simp only [x_asg, x_tupZip, x_dpop, x_dcT, x_iZip, x_listZip, x_md, x_zipR, x_zipD, x_listRg1, x_listRg2, x_sortItems, x_listItems, x_back, x_ifT, x_sortSet, x_get1, x_get2, fnAt, x_lc, x_lcN, x_var, x_C, x_op, x_un, x_slice, x_noPart, x_part, x_tru, x_B, x_chain, x_and, x_or, x_not, x_andV, x_orV, x_notB, x_if, x_nil, x_cons, x_tup, x_lst, x_call, x_callK, x_gN, x_gT, x_gs0, x_gs1, x_yes, x_iSeq, x_iEn, x_words, x_ml, x_disp, x_d0, x_pnil, x_pcons, csAt, List.getD_cons_zero, List.getD_cons_succ, List.getElem?_cons_zero, List.getElem?_cons_succ, List.set_cons_zero, List.set_cons_succ]
    refine lc_rg (fun ds => ds.length ≤ 10) (fun Q q => ?_) fun ds hd => ?_
    · simp only [x_iRg1, x_tupZip, x_dpop, x_dcT, x_iZip, x_listZip, x_md, x_zipR, x_zipD, x_listRg1, x_listRg2, x_sortItems, x_listItems, x_back, x_ifT, x_sortSet, x_get1, x_get2, fnAt, x_lc, x_lcN, x_var, x_C, x_op, x_un, x_slice, x_noPart, x_part, x_tru, x_B, x_chain, x_and, x_or, x_not, x_andV, x_orV, x_notB, x_if, x_nil, x_cons, x_tup, x_lst, x_call, x_callK, x_gN, x_gT, x_gs0, x_gs1, x_yes, x_iSeq, x_iEn, x_words, x_ml, x_disp, x_d0, x_pnil, x_pcons, csAt, List.getD_cons_zero, List.getD_cons_succ, List.getElem?_cons_zero, List.getElem?_cons_succ, List.set_cons_zero, List.set_cons_succ]
      exact ⟨_, rfl, by omega, by omega, q _ (by rw [rgD_length]; omega)⟩
    refine lc_all (wi := fun _ S Q => Q ds [] S) (gd := []) (fun y => ∃ c : Str, y = .str c ∧ NameOk c) (fun Q q => q) trivial (by rw [sizeLine_eq]; omega) (fun y my Q hQ => ?_) fun ys hy hG => ?_
    · exact pickV _ _ ho fun x hx => hQ _ ⟨x, rfl, hx⟩
    obtain ⟨as, rfl, has⟩ := str_all hG
    rw [List.length_map] at hy
    rw [tup_lst]
    show wSeq _ _ _ [some (.ref dk), some (shD a b c), some (.lst (os.map othD)), some (.lst (vs.map D.str)), some (.int (n : Nat)), some (.str x), some (.str y), some (.str z), some (.tup (as.map D.str)), some (.str o.1), some (.int (o.2.1 : Nat)), some (.int (o.2.2 : Nat)), none] S
    simp only [x_tupZip, x_dpop, x_dcT, x_iZip, x_listZip, x_md, x_zipR, x_zipD, x_listRg1, x_listRg2, x_sortItems, x_listItems, x_back, x_ifT, x_sortSet, x_get1, x_get2, fnAt, x_lc, x_lcN, x_var, x_C, x_op, x_un, x_slice, x_noPart, x_part, x_tru, x_B, x_chain, x_and, x_or, x_not, x_andV, x_orV, x_notB, x_if, x_nil, x_cons, x_tup, x_lst, x_call, x_callK, x_gN, x_gT, x_gs0, x_gs1, x_yes, x_iSeq, x_iEn, x_words, x_ml, x_disp, x_d0, x_pnil, x_pcons, csAt, List.getD_cons_zero, List.getD_cons_succ, List.getElem?_cons_zero, List.getElem?_cons_succ, List.set_cons_zero, List.set_cons_succ, x_seq, x_skip, x_ifS, x_ret, x_retN, x_asg, x_par, x_expr, x_brk, x_cnt]
    refine lc_rg (fun ds => ds.length ≤ 10) (fun Q q => ?_) fun ds2 hd2 => ?_
    · simp only [x_iRg1, x_tupZip, x_dpop, x_dcT, x_iZip, x_listZip, x_md, x_zipR, x_zipD, x_listRg1, x_listRg2, x_sortItems, x_listItems, x_back, x_ifT, x_sortSet, x_get1, x_get2, fnAt, x_lc, x_lcN, x_var, x_C, x_op, x_un, x_slice, x_noPart, x_part, x_tru, x_B, x_chain, x_and, x_or, x_not, x_andV, x_orV, x_notB, x_if, x_nil, x_cons, x_tup, x_lst, x_call, x_callK, x_gN, x_gT, x_gs0, x_gs1, x_yes, x_iSeq, x_iEn, x_words, x_ml, x_disp, x_d0, x_pnil, x_pcons, csAt, List.getD_cons_zero, List.getD_cons_succ, List.getElem?_cons_zero, List.getElem?_cons_succ, List.set_cons_zero, List.set_cons_succ]
      exact ⟨_, rfl, by omega, by omega, q _ (by rw [rgD_length]; omega)⟩
    refine lc_all (wi := fun _ S Q => Q ds2 [] S) (gd := []) (fun y => ∃ c : Str, y = .str c ∧ NameOk c) (fun Q q => q) trivial (by rw [sizeLine_eq]; omega) (fun yy my Q hQ => ?_) fun ys hy2 hG2 => ?_
    · refine turn_nE [some (.ref dk), some (shD a b c), some (.lst (os.map othD)), some (.lst (vs.map D.str)), some (.int (n : Nat)), some (.str x), some (.str y), some (.str z), some (.tup (as.map D.str)), some (.str o.1), some (.int (o.2.1 : Nat)), some (.int (o.2.2 : Nat)), some yy] rfl ?_
      simp only [x_tupZip, x_dpop, x_dcT, x_iZip, x_listZip, x_md, x_zipR, x_zipD, x_listRg1, x_listRg2, x_sortItems, x_listItems, x_back, x_ifT, x_sortSet, x_get1, x_get2, fnAt, x_lc, x_lcN, x_var, x_C, x_op, x_un, x_slice, x_noPart, x_part, x_tru, x_B, x_chain, x_and, x_or, x_not, x_andV, x_orV, x_notB, x_if, x_nil, x_cons, x_tup, x_lst, x_call, x_callK, x_gN, x_gT, x_gs0, x_gs1, x_yes, x_iSeq, x_iEn, x_words, x_ml, x_disp, x_d0, x_pnil, x_pcons, csAt, List.getD_cons_zero, List.getD_cons_succ, List.getElem?_cons_zero, List.getElem?_cons_succ, List.set_cons_zero, List.set_cons_succ, sh_ix1, fListA, f1]
      show oAdd (.lst (vs.map D.str)) (.lst (b.map D.str)) S _
      rw [addL, ← List.map_append]
      refine ⟨by rw [List.length_map, List.length_map, sizeLine_eq]; omega, ?_⟩
      refine pickL _ _ _ ho (fun e => by have := (List.append_eq_nil_iff.mp e).1; rw [this] at vne; exact vne rfl) (by rw [List.length_append]; omega) (fun x m => ?_) fun x hx => hQ _ ⟨x, rfl, hx⟩
      rcases List.mem_append.mp m with m | m
      · exact vn x m
      · exact sh.nb x m
    obtain ⟨bs, rfl, hbs⟩ := str_all hG2
    rw [List.length_map] at hy2
    rw [tup_lst]
    exact ⟨lzn 5, S, .refl S, hR _ (.call hx o1 (by omega) (by omega) fun x m => by
      rcases List.mem_append.mp m with m | m
      · exact has x m
      · exact hbs x m)⟩
  · have two : ∀ k ∈ simpleW, ∀ u v : Str, NameOk u → NameOk v → StmOk 1 (.tup [.str k, .str u, .str v]) := fun k hk u v hu hv => .simp (xs := [u, v]) hk (by show 2 ≤ 2; omega) fun t m => by
      simp only [List.mem_cons, List.mem_nil_iff, or_false] at m
      rcases m with rfl | rfl
      · exact hu
      · exact hv
    refine seq_if2 (n < 3) (¬ n < 3) (fun Q q0 q1 => ?_) (fun hlt => ?_) fun hge => ?_
    · simp only [x_tupZip, x_dpop, x_dcT, x_iZip, x_listZip, x_md, x_zipR, x_zipD, x_listRg1, x_listRg2, x_sortItems, x_listItems, x_back, x_ifT, x_sortSet, x_get1, x_get2, fnAt, x_lc, x_lcN, x_var, x_C, x_op, x_un, x_slice, x_noPart, x_part, x_tru, x_B, x_chain, x_and, x_or, x_not, x_andV, x_orV, x_notB, x_if, x_nil, x_cons, x_tup, x_lst, x_call, x_callK, x_gN, x_gT, x_gs0, x_gs1, x_yes, x_iSeq, x_iEn, x_words, x_ml, x_disp, x_d0, x_pnil, x_pcons, csAt, List.getD_cons_zero, List.getD_cons_succ, List.getElem?_cons_zero, List.getElem?_cons_succ, List.set_cons_zero, List.set_cons_succ]
      rw [show oLt (.int (n : Nat)) (.int 3) S = fun Q => Q (.bl (decide ((n : Int) < 3))) S from rfl]
      dsimp only
      by_cases hz : n < 3
      · rw [decide_eq_true (by omega)]; exact q1 hz
      · rw [decide_eq_false (by omega)]; exact q0 hz
    · simp only [x_tupZip, x_dpop, x_dcT, x_iZip, x_listZip, x_md, x_zipR, x_zipD, x_listRg1, x_listRg2, x_sortItems, x_listItems, x_back, x_ifT, x_sortSet, x_get1, x_get2, fnAt, x_lc, x_lcN, x_var, x_C, x_op, x_un, x_slice, x_noPart, x_part, x_tru, x_B, x_chain, x_and, x_or, x_not, x_andV, x_orV, x_notB, x_if, x_nil, x_cons, x_tup, x_lst, x_call, x_callK, x_gN, x_gT, x_gs0, x_gs1, x_yes, x_iSeq, x_iEn, x_words, x_ml, x_disp, x_d0, x_pnil, x_pcons, csAt, List.getD_cons_zero, List.getD_cons_succ, List.getElem?_cons_zero, List.getElem?_cons_succ, List.set_cons_zero, List.set_cons_succ, x_seq, x_skip, x_ifS, x_ret, x_retN, x_asg, x_par, x_expr, x_brk, x_cnt]
      exact ⟨lzn 3, S, .refl S, hR _ (two "set" (by simp [simpleW]) x y hx hy)⟩
    · simp only [x_tupZip, x_dpop, x_dcT, x_iZip, x_listZip, x_md, x_zipR, x_zipD, x_listRg1, x_listRg2, x_sortItems, x_listItems, x_back, x_ifT, x_sortSet, x_get1, x_get2, fnAt, x_lc, x_lcN, x_var, x_C, x_op, x_un, x_slice, x_noPart, x_part, x_tru, x_B, x_chain, x_and, x_or, x_not, x_andV, x_orV, x_notB, x_if, x_nil, x_cons, x_tup, x_lst, x_call, x_callK, x_gN, x_gT, x_gs0, x_gs1, x_yes, x_iSeq, x_iEn, x_words, x_ml, x_disp, x_d0, x_pnil, x_pcons, csAt, List.getD_cons_zero, List.getD_cons_succ, List.getElem?_cons_zero, List.getElem?_cons_succ, List.set_cons_zero, List.set_cons_succ, x_seq, x_skip, x_ifS, x_ret, x_retN, x_asg, x_par, x_expr, x_brk, x_cnt, subI]
      refine ⟨lzn 3, lzn 3, lzn 3, lzn 3, lzn 2, lzn 5, ?_⟩
      rw [show ((n : Nat) : Int) - 3 = ((n - 3 : Nat) : Int) by omega]
      have hn : n = 3 ∨ n = 4 ∨ n = 5 ∨ n = 6 ∨ n = 7 := by omega
      have fin : ∀ s : D, StmOk 1 s → ([D.tup [.str "new", .str x, .str y], .tup [.str "new", .str x, .str y], .tup [.str "get", .str x, .str y], .tup [.str "put", .str y, .str z], .tup [.str "free", .str y]] : List D)[n - 3]? = some s → oIx (.lst [D.tup [.str "new", .str x, .str y], .tup [.str "new", .str x, .str y], .tup [.str "get", .str x, .str y], .tup [.str "put", .str y, .str z], .tup [.str "free", .str y]]) (.int ((n - 3 : Nat) : Int)) S fun d S' => ∃ S2, Less S2 S' ∧ R d S2 := fun s hs hix => by
        rw [ix_eq (n := n - 3) rfl hix]
        exact ⟨S, .refl S, hR _ hs⟩
      rcases hn with rfl | rfl | rfl | rfl | rfl
      · exact fin _ (two "new" (by simp [simpleW]) x y hx hy) rfl
      · exact fin _ (two "new" (by simp [simpleW]) x y hx hy) rfl
      · exact fin _ (two "get" (by simp [simpleW]) x y hx hy) rfl
      · exact fin _ (two "put" (by simp [simpleW]) y z hy hz) rfl
      · exact fin _ (.simp (xs := [y]) (k := "free") (by simp [simpleW]) (by show 1 ≤ 2; omega) fun t m => by rw [List.mem_singleton.mp m]; exact hy) rfl
end
end K32

namespace K32
open PySem PySem.Spec L2 Dv
open PyProof.Rows hiding St
/-! ### defs that call themselves -/
def spF : WF := fun _ _ _ => False
/-- a def that is never called -/
theorem fn_false {P : Program} {w : World} {K : PySem.W.Frag} {mg : Str → Option Value} {base : Heap} {DI : Addr → GH → Prop} {k : Nat} {x : Str} {st : Stmt} {ps : List Str} {n : Nat} (d : Df K mg x st ps []) : FnIn P w K mg base DI k ⟨x, n, spF, []⟩ := by
  obtain ⟨f, fd, h1, h2, h3, h4⟩ := d.ex
  refine ⟨f, fd, ps, h1, h2.kp, h3, h4, ⟨fun vs H Q E h => ?_, fun A outer s H args us vs Q E _ _ _ _ _ h => ?_⟩⟩
  all_goals (obtain ⟨_, F, ds, S, R, _, _, hf, _⟩ := h; exact hf.elim)
section
variable {P : Program} {w : World} {K : PySem.W.Frag} {mg : Str → Option Value} {base : Heap} {k : Nat}
def sp_stms0 (j : Nat) : WF := fun ds S R => ∃ (dk : Addr) (a b c : List Str) (os : List (Str × Nat × Nat)) (deep many : Nat), ds = [.ref dk, shD a b c, .lst (os.map othD), .int deep, .int many] ∧ S.o = some dk ∧ ShapeOk a b c ∧ OthOk os ∧ deep + j = 3 ∧ 1 ≤ many ∧ many ≤ 10 ∧ ∀ ss : List D, ss.length < many → (∀ s ∈ ss, StmOk (j + 1) s) → R (.tup ss) S
def sp_stms : Nat → WF
  | 0 => spF
  | j + 1 => sp_stms0 j
def sp_stm (j : Nat) : WF := fun ds S R => ∃ (dk : Addr) (a b c : List Str) (os : List (Str × Nat × Nat)) (deep : Nat), ds = [.ref dk, shD a b c, .lst (os.map othD), .int deep] ∧ S.o = some dk ∧ ShapeOk a b c ∧ OthOk os ∧ deep + j = 3 ∧ ∀ s : D, StmOk (j + 1) s → R s S
theorem fn_stms_of (j : Nat) (c1 : FnIn P w K mg base DS k ⟨"_law_draw", 2, sp__law_draw, []⟩) (c2 : FnIn P w K mg base DS k ⟨"_law_statement", 4, sp_stm j, []⟩) (d : Df K mg "_law_statements" s__law_statements ["stock", "shape", "others", "deep", "many"] []) (hb : BlIn mg ["range", "tuple"]) : FnIn P w K mg base DS (k + 1) ⟨"_law_statements", 5, sp_stms (j + 1), []⟩ := by
  refine fn_mkL d sc__law_statements rfl (fns := [⟨"_law_draw", 2, sp__law_draw, []⟩, ⟨"_law_statement", 4, sp_stm j, []⟩]) (cs := []) ⟨c1, c2, trivial⟩ trivial hb (fun X o => (s_cons (s_ret (e_toTup o (a_cons (e_lc o [("turn", 5)] (i_rg1 o (e_call o 0 (a_cons (e_var o 0) (a_cons (e_var o 4) a_nil)))) (cg_name 5) (fun Y _ o1 => l_nil) (fun Y _ o1 => (e_call o1 1 (a_cons (e_var o1 0) (a_cons (e_var o1 1) (a_cons (e_var o1 2) (a_cons (e_var o1 3) a_nil))))))) a_nil)))
  s_nil)) ?_
  intro ds S R hl h
  obtain ⟨dk, a, b, c, os, deep, many, rfl, ho, sh, oo, hd, hm1, hm2, hR⟩ := h
  generalize hSh : shD a b c = Sh
  generalize hOs : D.lst (os.map othD) = Os
  show wSeq _ _ _ [some (.ref dk), some Sh, some Os, some (.int deep), some (.int many), none] S
  simp only [x_tupZip, x_dpop, x_dcT, x_iZip, x_listZip, x_md, x_zipR, x_zipD, x_listRg1, x_listRg2, x_sortItems, x_listItems, x_back, x_ifT, x_sortSet, x_get1, x_get2, fnAt, x_lc, x_lcN, x_var, x_C, x_op, x_un, x_slice, x_noPart, x_part, x_tru, x_B, x_chain, x_and, x_or, x_not, x_andV, x_orV, x_notB, x_if, x_nil, x_cons, x_tup, x_lst, x_call, x_callK, x_gN, x_gT, x_gs0, x_gs1, x_yes, x_iSeq, x_iEn, x_words, x_ml, x_disp, x_d0, x_pnil, x_pcons, csAt, List.getD_cons_zero, List.getD_cons_succ, List.getElem?_cons_zero, List.getElem?_cons_succ, List.set_cons_zero, List.set_cons_succ, x_seq, x_skip, x_ifS, x_ret, x_retN, x_asg, x_par, x_expr, x_brk, x_cnt]
  refine lc_rg (fun ds => ds.length < many) (fun Q q => ?_) fun ds hd => ?_
  · simp only [x_iRg1, x_tupZip, x_dpop, x_dcT, x_iZip, x_listZip, x_md, x_zipR, x_zipD, x_listRg1, x_listRg2, x_sortItems, x_listItems, x_back, x_ifT, x_sortSet, x_get1, x_get2, fnAt, x_lc, x_lcN, x_var, x_C, x_op, x_un, x_slice, x_noPart, x_part, x_tru, x_B, x_chain, x_and, x_or, x_not, x_andV, x_orV, x_notB, x_if, x_nil, x_cons, x_tup, x_lst, x_call, x_callK, x_gN, x_gT, x_gs0, x_gs1, x_yes, x_iSeq, x_iEn, x_words, x_ml, x_disp, x_d0, x_pnil, x_pcons, csAt, List.getD_cons_zero, List.getD_cons_succ, List.getElem?_cons_zero, List.getElem?_cons_succ, List.set_cons_zero, List.set_cons_succ]
    refine draw_ok ho (by omega) (by omega) fun n hn1 => ?_
    exact ⟨_, rfl, by omega, by omega, q _ (by rw [rgD_length]; omega)⟩
  refine lc_all (wi := fun _ S Q => Q ds [] S) (gd := []) (StmOk (j + 1)) (fun Q q => q) trivial (by rw [sizeLine_eq]; omega) (fun y my Q hQ => ?_) fun ys hy hG => ?_
  · exact ⟨dk, a, b, c, os, deep, by rw [hSh, hOs], ho, sh, oo, by omega, fun s hs => hQ s hs⟩
  rw [tup_lst]
  exact ⟨S, .refl S, hR ys (by omega) hG⟩
theorem fn_stm_of (j : Nat) (c1 : FnIn P w K mg base DS k ⟨"_law_draw", 2, sp__law_draw, []⟩) (c2 : FnIn P w K mg base DS k ⟨"_law_saying", 3, sp__law_saying, []⟩) (c3 : FnIn P w K mg base DS k ⟨"_law_statements", 5, sp_stms j, []⟩) (c4 : FnIn P w K mg base DS k ⟨"_law_test", 2, sp__law_test, []⟩) (c5 : FnIn P w K mg base DS k ⟨"_law_simple", 3, sp__law_simple, []⟩)
    (d : Df K mg "_law_statement" s__law_statement ["stock", "shape", "others", "deep"] []) (hb : BlIn mg ["list"]) : FnIn P w K mg base DS (k + 1) ⟨"_law_statement", 4, sp_stm j, []⟩ := by
  refine fn_mkL d sc__law_statement rfl (fns := [⟨"_law_draw", 2, sp__law_draw, []⟩, ⟨"_law_saying", 3, sp__law_saying, []⟩, ⟨"_law_statements", 5, sp_stms j, []⟩, ⟨"_law_test", 2, sp__law_test, []⟩, ⟨"_law_simple", 3, sp__law_simple, []⟩]) (cs := []) ⟨c1, c2, c3, c4, c5, trivial⟩ trivial hb (fun X o => (s_cons (s_set o 4 (e_call o 0 (a_cons (e_var o 0) (a_cons e_int a_nil))))
  (s_cons (s_if (t_w (w_or (t_cmp o c_gt (e_var o 3) e_int) (w_or1 (t_cmp o c_lt (e_var o 4) e_int))))
  (s_cons (s_ret (e_call o 4 (a_cons (e_var o 0) (a_cons (e_var o 1) (a_cons (e_var o 2) a_nil)))))
  s_nil)
  s_nil)
  (s_cons (s_par o 6 7 (a_cons (e_call o 3 (a_cons (e_var o 0) (a_cons (e_var o 1) a_nil))) (a_cons (e_call o 2 (a_cons (e_var o 0) (a_cons (e_var o 1) (a_cons (e_var o 2) (a_cons (e_add (e_var o 3) e_int) (a_cons e_int a_nil)))))) a_nil)))
  (s_cons (s_if (t_cmp o c_lt (e_var o 4) e_int)
  (s_cons (s_ret (e_tup (a_cons e_str (a_cons (e_var o 6) (a_cons (e_var o 7) (a_cons (e_if (t_cmp o c_eq (e_var o 4) e_int) (e_call o 2 (a_cons (e_var o 0) (a_cons (e_var o 1) (a_cons (e_var o 2) (a_cons (e_add (e_var o 3) e_int) (a_cons e_int a_nil)))))) (e_tup a_nil)) a_nil))))))
  s_nil)
  s_nil)
  (s_cons (s_set o 5 (e_add (e_add (e_add (e_listA o (a_cons (e_ix o (e_var o 1) e_int) a_nil)) (e_listA o (a_cons (e_ix o (e_var o 1) e_int) a_nil))) (e_listA o (a_cons (e_ix o (e_var o 1) e_int) a_nil))) (e_lst (a_cons e_str a_nil))))
  (s_cons (s_ret (e_tup (a_cons e_str (a_cons (e_var o 6) (a_cons (e_if (t_cmp o c_eq (e_call o 0 (a_cons (e_var o 0) (a_cons e_int a_nil))) e_int) e_non (e_call o 1 (a_cons (e_var o 0) (a_cons (e_var o 5) (a_cons e_int a_nil))))) (a_cons (e_var o 7) a_nil))))))
  s_nil))))))) ?_
  intro ds S R hl h
  obtain ⟨dk, a, b, c, os, deep, rfl, ho, sh, oo, hd, hR⟩ := h
  have up : ∀ s, StmOk 1 s → StmOk (j + 1) s := fun s hs => by
    have : ∀ i, StmOk (i + 1) s := fun i => by
      induction i with
      | zero => exact hs
      | succ i ih => exact ih.up
    exact this j
  generalize hSh : shD a b c = Sh
  generalize hOs : D.lst (os.map othD) = Os
  show wSeq _ _ _ [some (.ref dk), some Sh, some Os, some (.int deep), none, none, none, none] S
  rw [x_seq]
  simp only [x_asg, x_tupZip, x_dpop, x_dcT, x_iZip, x_listZip, x_md, x_zipR, x_zipD, x_listRg1, x_listRg2, x_sortItems, x_listItems, x_back, x_ifT, x_sortSet, x_get1, x_get2, fnAt, x_lc, x_lcN, x_var, x_C, x_op, x_un, x_slice, x_noPart, x_part, x_tru, x_B, x_chain, x_and, x_or, x_not, x_andV, x_orV, x_notB, x_if, x_nil, x_cons, x_tup, x_lst, x_call, x_callK, x_gN, x_gT, x_gs0, x_gs1, x_yes, x_iSeq, x_iEn, x_words, x_ml, x_disp, x_d0, x_pnil, x_pcons, csAt, List.getD_cons_zero, List.getD_cons_succ, List.getElem?_cons_zero, List.getElem?_cons_succ, List.set_cons_zero, List.set_cons_succ]
  refine draw_ok ho (by omega) (by omega) fun n hn => ?_
  show wSeq _ _ _ [some (.ref dk), some Sh, some Os, some (.int deep), some (.int (n : Nat)), none, none, none] S
  refine seq_if2 True (7 ≤ n ∧ deep ≤ 2) (fun Q q0 q1 => ?_) (fun _ => ?_) fun hz => ?_
  · simp only [x_tupZip, x_dpop, x_dcT, x_iZip, x_listZip, x_md, x_zipR, x_zipD, x_listRg1, x_listRg2, x_sortItems, x_listItems, x_back, x_ifT, x_sortSet, x_get1, x_get2, fnAt, x_lc, x_lcN, x_var, x_C, x_op, x_un, x_slice, x_noPart, x_part, x_tru, x_B, x_chain, x_and, x_or, x_not, x_andV, x_orV, x_notB, x_if, x_nil, x_cons, x_tup, x_lst, x_call, x_callK, x_gN, x_gT, x_gs0, x_gs1, x_yes, x_iSeq, x_iEn, x_words, x_ml, x_disp, x_d0, x_pnil, x_pcons, csAt, List.getD_cons_zero, List.getD_cons_succ, List.getElem?_cons_zero, List.getElem?_cons_succ, List.set_cons_zero, List.set_cons_succ]
    rw [show oGt (.int (deep : Nat)) (.int 2) S = fun Q => Q (.bl (decide ((2 : Int) < deep))) S from rfl]
    dsimp only
    by_cases h1 : 2 < deep
    · rw [if_pos (decide_eq_true (by omega))]; exact q1 trivial
    · rw [if_neg (by rw [decide_eq_true_eq]; omega)]
      rw [show oLt (.int (n : Nat)) (.int 7) S = fun Q => Q (.bl (decide ((n : Int) < 7))) S from rfl]
      dsimp only
      by_cases h2 : n < 7
      · rw [decide_eq_true (by omega)]; exact q1 trivial
      · rw [decide_eq_false (by omega)]; exact q0 ⟨by omega, by omega⟩
  · simp only [x_tupZip, x_dpop, x_dcT, x_iZip, x_listZip, x_md, x_zipR, x_zipD, x_listRg1, x_listRg2, x_sortItems, x_listItems, x_back, x_ifT, x_sortSet, x_get1, x_get2, fnAt, x_lc, x_lcN, x_var, x_C, x_op, x_un, x_slice, x_noPart, x_part, x_tru, x_B, x_chain, x_and, x_or, x_not, x_andV, x_orV, x_notB, x_if, x_nil, x_cons, x_tup, x_lst, x_call, x_callK, x_gN, x_gT, x_gs0, x_gs1, x_yes, x_iSeq, x_iEn, x_words, x_ml, x_disp, x_d0, x_pnil, x_pcons, csAt, List.getD_cons_zero, List.getD_cons_succ, List.getElem?_cons_zero, List.getElem?_cons_succ, List.set_cons_zero, List.set_cons_succ, x_seq, x_skip, x_ifS, x_ret, x_retN, x_asg, x_par, x_expr, x_brk, x_cnt]
    exact ⟨dk, a, b, c, os, by rw [hSh, hOs], ho, sh, oo, fun s hs => ⟨S, .refl S, hR s (up s hs)⟩⟩
  obtain ⟨h7, h2⟩ := hz
  obtain ⟨i, rfl⟩ : ∃ i, j = i + 1 := ⟨j - 1, by omega⟩
  have inner : ∀ (S : GS) (Q : D → GS → Prop), S.o = some dk → (∀ ss : List D, ss.length < 3 → (∀ s ∈ ss, StmOk (i + 1) s) → Q (.tup ss) S) → sp_stms (i + 1) [.ref dk, Sh, Os, .int (deep + 1), .int 3] S Q := fun S Q ho q => ⟨dk, a, b, c, os, deep + 1, 3, by rw [hSh, hOs]; rfl, ho, sh, oo, by omega, by omega, by omega, q⟩
  rw [x_seq]
  simp only [x_par, x_asg, x_tupZip, x_dpop, x_dcT, x_iZip, x_listZip, x_md, x_zipR, x_zipD, x_listRg1, x_listRg2, x_sortItems, x_listItems, x_back, x_ifT, x_sortSet, x_get1, x_get2, fnAt, x_lc, x_lcN, x_var, x_C, x_op, x_un, x_slice, x_noPart, x_part, x_tru, x_B, x_chain, x_and, x_or, x_not, x_andV, x_orV, x_notB, x_if, x_nil, x_cons, x_tup, x_lst, x_call, x_callK, x_gN, x_gT, x_gs0, x_gs1, x_yes, x_iSeq, x_iEn, x_words, x_ml, x_disp, x_d0, x_pnil, x_pcons, csAt, List.getD_cons_zero, List.getD_cons_succ, List.getElem?_cons_zero, List.getElem?_cons_succ, List.set_cons_zero, List.set_cons_succ, addI]
  refine ⟨dk, a, b, c, by rw [hSh], ho, sh, fun t ht => inner _ _ ho fun ss hss hok => ?_⟩
  show wSeq _ _ _ [some (.ref dk), some Sh, some Os, some (.int deep), some (.int (n : Nat)), none, some t, some (.tup ss)] S
  refine seq_if2 (n < 9) (¬ n < 9) (fun Q q0 q1 => ?_) (fun h9 => ?_) fun h9 => ?_
  · simp only [x_tupZip, x_dpop, x_dcT, x_iZip, x_listZip, x_md, x_zipR, x_zipD, x_listRg1, x_listRg2, x_sortItems, x_listItems, x_back, x_ifT, x_sortSet, x_get1, x_get2, fnAt, x_lc, x_lcN, x_var, x_C, x_op, x_un, x_slice, x_noPart, x_part, x_tru, x_B, x_chain, x_and, x_or, x_not, x_andV, x_orV, x_notB, x_if, x_nil, x_cons, x_tup, x_lst, x_call, x_callK, x_gN, x_gT, x_gs0, x_gs1, x_yes, x_iSeq, x_iEn, x_words, x_ml, x_disp, x_d0, x_pnil, x_pcons, csAt, List.getD_cons_zero, List.getD_cons_succ, List.getElem?_cons_zero, List.getElem?_cons_succ, List.set_cons_zero, List.set_cons_succ]
    rw [show oLt (.int (n : Nat)) (.int 9) S = fun Q => Q (.bl (decide ((n : Int) < 9))) S from rfl]
    dsimp only
    by_cases hz : n < 9
    · rw [decide_eq_true (by omega)]; exact q1 hz
    · rw [decide_eq_false (by omega)]; exact q0 hz
  · simp only [x_tupZip, x_dpop, x_dcT, x_iZip, x_listZip, x_md, x_zipR, x_zipD, x_listRg1, x_listRg2, x_sortItems, x_listItems, x_back, x_ifT, x_sortSet, x_get1, x_get2, fnAt, x_lc, x_lcN, x_var, x_C, x_op, x_un, x_slice, x_noPart, x_part, x_tru, x_B, x_chain, x_and, x_or, x_not, x_andV, x_orV, x_notB, x_if, x_nil, x_cons, x_tup, x_lst, x_call, x_callK, x_gN, x_gT, x_gs0, x_gs1, x_yes, x_iSeq, x_iEn, x_words, x_ml, x_disp, x_d0, x_pnil, x_pcons, csAt, List.getD_cons_zero, List.getD_cons_succ, List.getElem?_cons_zero, List.getElem?_cons_succ, List.set_cons_zero, List.set_cons_succ, x_seq, x_skip, x_ifS, x_ret, x_retN, x_asg, x_par, x_expr, x_brk, x_cnt, eq_ints, addI]
    split
    · exact inner _ _ ho fun ss2 hss2 hok2 => ⟨lzn 4, S, .refl S, hR _ (.iff ht (by omega) (by omega) hok hok2)⟩
    · exact ⟨lzn 0, lzn 4, S, .refl S, hR _ (.iff ht (by omega) (Nat.zero_le _) hok fun s m => by cases m)⟩
  have i0 : ∀ (S : GS) (Q : D → GS → Prop), oIx Sh (.int 0) S Q = Q (.tup (a.map D.str)) S := by rw [← hSh]; exact sh_ix0 a b c
  have i1 : ∀ (S : GS) (Q : D → GS → Prop), oIx Sh (.int 1) S Q = Q (.tup (b.map D.str)) S := by rw [← hSh]; exact sh_ix1 a b c
  have i2 : ∀ (S : GS) (Q : D → GS → Prop), oIx Sh (.int 2) S Q = Q (.tup (c.map D.str)) S := by rw [← hSh]; exact sh_ix2 a b c
  have la8 := sh.la
  have lb8 := sh.lb
  have lc8 := sh.lc
  rw [x_seq]
  simp only [x_asg, x_tupZip, x_dpop, x_dcT, x_iZip, x_listZip, x_md, x_zipR, x_zipD, x_listRg1, x_listRg2, x_sortItems, x_listItems, x_back, x_ifT, x_sortSet, x_get1, x_get2, fnAt, x_lc, x_lcN, x_var, x_C, x_op, x_un, x_slice, x_noPart, x_part, x_tru, x_B, x_chain, x_and, x_or, x_not, x_andV, x_orV, x_notB, x_if, x_nil, x_cons, x_tup, x_lst, x_call, x_callK, x_gN, x_gT, x_gs0, x_gs1, x_yes, x_iSeq, x_iEn, x_words, x_ml, x_disp, x_d0, x_pnil, x_pcons, csAt, List.getD_cons_zero, List.getD_cons_succ, List.getElem?_cons_zero, List.getElem?_cons_succ, List.set_cons_zero, List.set_cons_succ, i0, i1, i2, fListA, f1]
  show oAdd (.lst (a.map D.str)) (.lst (b.map D.str)) S _
  rw [addL]
  refine ⟨by rw [List.length_map, List.length_map, sizeLine_eq]; omega, ?_⟩
  show oAdd (.lst (a.map D.str ++ b.map D.str)) (.lst (c.map D.str)) S _
  rw [addL]
  refine ⟨by rw [List.length_append, List.length_map, List.length_map, List.length_map, sizeLine_eq]; omega, ?_⟩
  refine ⟨lzn 1, ?_⟩
  show oAdd (.lst (a.map D.str ++ b.map D.str ++ c.map D.str)) (.lst [.str "result"]) S _
  rw [addL]
  refine ⟨by rw [List.length_append, List.length_append, List.length_map, List.length_map, List.length_map, sizeLine_eq]; simp only [List.length_cons, List.length_nil]; omega, ?_⟩
  rw [show a.map D.str ++ b.map D.str ++ c.map D.str ++ [D.str "result"] = (a ++ b ++ c ++ [("result" : Str)]).map D.str by simp]
  have nn : ∀ x ∈ a ++ b ++ c ++ [("result" : Str)], NameOk x := fun x m => by
    rcases List.mem_append.mp m with m | m
    · rcases List.mem_append.mp m with m | m
      · rcases List.mem_append.mp m with m | m
        · exact sh.na x m
        · exact sh.nb x m
      · exact sh.nc x m
    · rw [List.mem_singleton.mp m]; exact drawn_ok _ (by simp [drawnW])
  have nl : (a ++ b ++ c ++ [("result" : Str)]).length ≤ 1000 := by rw [List.length_append, List.length_append, List.length_append]; simp only [List.length_cons, List.length_nil]; omega
  generalize a ++ b ++ c ++ [("result" : Str)] = ns at nn nl ⊢
  show wSeq _ _ _ [some (.ref dk), some Sh, some Os, some (.int deep), some (.int (n : Nat)), some (.lst (ns.map D.str)), some t, some (.tup ss)] S
  simp only [x_tupZip, x_dpop, x_dcT, x_iZip, x_listZip, x_md, x_zipR, x_zipD, x_listRg1, x_listRg2, x_sortItems, x_listItems, x_back, x_ifT, x_sortSet, x_get1, x_get2, fnAt, x_lc, x_lcN, x_var, x_C, x_op, x_un, x_slice, x_noPart, x_part, x_tru, x_B, x_chain, x_and, x_or, x_not, x_andV, x_orV, x_notB, x_if, x_nil, x_cons, x_tup, x_lst, x_call, x_callK, x_gN, x_gT, x_gs0, x_gs1, x_yes, x_iSeq, x_iEn, x_words, x_ml, x_disp, x_d0, x_pnil, x_pcons, csAt, List.getD_cons_zero, List.getD_cons_succ, List.getElem?_cons_zero, List.getElem?_cons_succ, List.set_cons_zero, List.set_cons_succ, x_seq, x_skip, x_ifS, x_ret, x_retN, x_asg, x_par, x_expr, x_brk, x_cnt]
  refine draw_ok ho (by omega) (by omega) fun m hm => ?_
  rw [eq_ints]
  dsimp only
  split
  · exact ⟨lzn 4, S, .refl S, hR _ (.whil ht (.inl rfl) (by omega) hok)⟩
  · refine ⟨dk, _, ns, 2, rfl, ho, fun _ => rfl, nl, nn, by omega, by omega, fun sy h1 h2 h3 => ?_⟩
    exact ⟨lzn 4, S, .refl S, hR _ (.whil ht (.inr ⟨sy, rfl, h2, h3⟩) (by omega) hok)⟩
/-- statements, one in another -/
theorem fn_stms_all (c1 : FnIn P w K mg base DS k ⟨"_law_draw", 2, sp__law_draw, []⟩) (c2 : FnIn P w K mg base DS k ⟨"_law_saying", 3, sp__law_saying, []⟩) (c4 : FnIn P w K mg base DS k ⟨"_law_test", 2, sp__law_test, []⟩) (c5 : FnIn P w K mg base DS k ⟨"_law_simple", 3, sp__law_simple, []⟩)
    (d1 : Df K mg "_law_statement" s__law_statement ["stock", "shape", "others", "deep"] []) (b1 : BlIn mg ["list"]) (d2 : Df K mg "_law_statements" s__law_statements ["stock", "shape", "others", "deep", "many"] []) (b2 : BlIn mg ["range", "tuple"]) : ∀ j : Nat, FnIn P w K mg base DS (k + 2 * j) ⟨"_law_statements", 5, sp_stms j, []⟩
  | 0 => fn_false d2
  | j + 1 => by
    have ih := fn_stms_all c1 c2 c4 c5 d1 b1 d2 b2 j
    have h1 : k ≤ k + 2 * j := by omega
    have h2 : k ≤ k + 2 * j + 1 := by omega
    have e : k + 2 * (j + 1) = (k + 2 * j + 1) + 1 := by omega
    rw [e]
    exact fn_stms_of j (c1.mono h2) (fn_stm_of j (c1.mono h1) (c2.mono h1) ih (c4.mono h1) (c5.mono h1) d1 b1) d2 b2
def sp__law_statements : WF := sp_stms 4
theorem fn__law_statements (c1 : FnIn P w K mg base DS k ⟨"_law_draw", 2, sp__law_draw, []⟩) (c2 : FnIn P w K mg base DS k ⟨"_law_saying", 3, sp__law_saying, []⟩) (c4 : FnIn P w K mg base DS k ⟨"_law_test", 2, sp__law_test, []⟩) (c5 : FnIn P w K mg base DS k ⟨"_law_simple", 3, sp__law_simple, []⟩)
    (d1 : Df K mg "_law_statement" s__law_statement ["stock", "shape", "others", "deep"] []) (b1 : BlIn mg ["list"]) (d2 : Df K mg "_law_statements" s__law_statements ["stock", "shape", "others", "deep", "many"] []) (b2 : BlIn mg ["range", "tuple"]) : FnIn P w K mg base DS (k + 8) ⟨"_law_statements", 5, sp__law_statements, []⟩ := fn_stms_all c1 c2 c4 c5 d1 b1 d2 b2 4
end
end K32

namespace K32
open PySem PySem.Spec L2 Dv
open PyProof.Rows hiding St
/-! ### how many statements -/
def innerS (s : D) : List D := match partsS s with
  | some (_, _, a, b) => a ++ b
  | none => []
theorem size_inner {n : Nat} (s : D) : sizeS (n + 1) s = 1 + sizeL n (innerS s) := by
  unfold sizeS innerS sizeL
  cases partsS s with
  | none => rfl
  | some q =>
    obtain ⟨w, t, a, b⟩ := q
    show 1 + ((a.map (sizeS n)).sum + (b.map (sizeS n)).sum) = 1 + ((a ++ b).map (sizeS n)).sum
    rw [List.map_append, List.sum_append]
theorem inner_ok {n : Nat} {s : D} (h : StmOk (n + 1) s) : ∀ x ∈ innerS s, StmOk n x := by
  cases h with
  | simp h1 h2 h3 => unfold innerS; rw [parts_simp h2]; exact fun x m => by cases m
  | call h1 h2 h3 h4 h5 => unfold innerS; rw [parts_call]; exact fun x m => by cases m
  | iff h1 l1 l2 h3 h4 =>
    unfold innerS; rw [parts_if]
    exact fun x m => (List.mem_append.mp m).elim (h3 x) (h4 x)
  | whil h1 h2 l1 h3 =>
    unfold innerS; rw [parts_while]
    exact fun x m => h3 x (by simpa using m)
theorem size_one {n : Nat} : ∀ {l : List D} {s : D}, s ∈ l → sizeS n s ≤ sizeL n l
  | a :: r, s, m => by
    unfold sizeL
    rw [List.map_cons, List.sum_cons]
    rcases List.mem_cons.mp m with rfl | m
    · omega
    · have := size_one (n := n) m
      unfold sizeL at this
      omega
theorem size_sum {n : Nat} : ∀ l : List D, ((sizeL (n + 1) l : Nat) : Int) = (l.length : Nat) + (l.map fun s => ((sizeL n (innerS s) : Nat) : Int)).sum
  | [] => rfl
  | s :: r => by
    have ih := size_sum (n := n) r
    have e : sizeL (n + 1) (s :: r) = sizeS (n + 1) s + sizeL (n + 1) r := by unfold sizeL; rw [List.map_cons, List.sum_cons]
    rw [e, size_inner, List.map_cons, List.sum_cons, List.length_cons]
    omega
theorem wordS_ok : PyData.strOk "if" = true ∧ PyData.strOk "while" = true ∧ PyData.strOk "call" = true ∧ ∀ k ∈ simpleW, PyData.strOk k = true ∧ k ≠ "if" ∧ k ≠ "while" ∧ k ≠ "call" := by
  refine ⟨by kernel_rfl, by kernel_rfl, by kernel_rfl, fun k m => ?_⟩
  have h : simpleW.all (fun k => PyData.strOk k && (decide (k ≠ "if") && (decide (k ≠ "while") && decide (k ≠ "call")))) = true := by decide +kernel
  have := List.all_eq_true.mp h k m
  simpa [Bool.and_eq_true] using this
section
variable {P : Program} {w : World} {K : PySem.W.Frag} {mg : Str → Option Value} {base : Heap} {k : Nat}
def sp_size0 (n : Nat) : WF := fun ds S R => ∃ ss : List D, ds = [.tup ss] ∧ (∀ s ∈ ss, StmOk n s) ∧ sizeL n ss ≤ 100000 ∧ R (.int (sizeL n ss : Nat)) S
def sp_size : Nat → WF
  | 0 => spF
  | n + 1 => sp_size0 n
theorem fn_size_of (n : Nat) (c1 : FnIn P w K mg base DS k ⟨"_law_size", 1, sp_size n, []⟩) (d : Df K mg "_law_size" s__law_size ["statements"] []) (hb : BlIn mg ["len", "sum"]) : FnIn P w K mg base DS (k + 1) ⟨"_law_size", 1, sp_size (n + 1), []⟩ := by
  refine fn_mkL d sc__law_size rfl (fns := [⟨"_law_size", 1, sp_size n, []⟩]) (cs := []) ⟨c1, trivial⟩ trivial hb (fun X o => (s_cons (s_lc o 1 [("own", 2)] (i_seq (e_var o 0)) (cg_name 2) (fun Y _ o2 => l_nil) (fun Y _ o2 => (e_if (t_cmp o2 c_eq (e_ix o2 (e_var o2 2) e_int) e_str) (e_add (e_ix o2 (e_var o2 2) e_int) (e_ix o2 (e_var o2 2) e_int)) (e_if (t_cmp o2 c_eq (e_ix o2 (e_var o2 2) e_int) e_str) (e_ix o2 (e_var o2 2) e_int) (e_tup a_nil)))))
  (s_cons (s_ret (e_add (e_len o (a_cons (e_var o 0) a_nil)) (e_sum o (a_cons (e_lc o [("own", 2)] (i_seq (e_var o 1)) (cg_name 2) (fun Y _ o1 => l_nil) (fun Y _ o1 => (e_call o1 0 (a_cons (e_var o1 2) a_nil)))) a_nil))))
  s_nil))) ?_
  intro ds S R hl h
  obtain ⟨ss, rfl, hs, hz, hR⟩ := h
  have ln := len_size hs
  obtain ⟨ok1, ok2, ok3, ok4⟩ := wordS_ok
  have cif : ¬ ("call" : Str) = "if" := by decide +kernel
  have cwh : ¬ ("call" : Str) = "while" := by decide +kernel
  have whi : ¬ ("while" : Str) = "if" := by decide +kernel
  show wSeq _ _ _ [some (.tup ss), none, none] S
  rw [x_seq]
  simp only [x_asg, x_tupZip, x_dpop, x_dcT, x_iZip, x_listZip, x_md, x_zipR, x_zipD, x_listRg1, x_listRg2, x_sortItems, x_listItems, x_back, x_ifT, x_sortSet, x_get1, x_get2, fnAt, x_lc, x_lcN, x_var, x_C, x_op, x_un, x_slice, x_noPart, x_part, x_tru, x_B, x_chain, x_and, x_or, x_not, x_andV, x_orV, x_notB, x_if, x_nil, x_cons, x_tup, x_lst, x_call, x_callK, x_gN, x_gT, x_gs0, x_gs1, x_yes, x_iSeq, x_iEn, x_words, x_ml, x_disp, x_d0, x_pnil, x_pcons, csAt, List.getD_cons_zero, List.getD_cons_succ, List.getElem?_cons_zero, List.getElem?_cons_succ, List.set_cons_zero, List.set_cons_succ]
  refine lc_mapA (gd := []) ss id (fun s => .tup (innerS s)) (fun Q q => by rw [List.map_id] at q; exact q) trivial (by rw [sizeLine_eq]; omega) (fun s ms Q q => ?_) ?_
  · refine turn_nE [some (.tup ss), none, some s] rfl ?_
    have zs := Nat.le_trans (size_one (n := n) ms) hz
    cases hs s ms with
    | @simp n k xs h1 h2 h3 =>
      obtain ⟨w1, w2, w3, w4⟩ := ok4 k h1
      have ix0 : ∀ (S : GS) (Q : D → GS → Prop), oIx (.tup (.str k :: xs.map D.str)) (.int 0) S Q = Q (.str k) S := fun S Q => ix_eq (n := 0) rfl rfl
      simp only [x_tupZip, x_dpop, x_dcT, x_iZip, x_listZip, x_md, x_zipR, x_zipD, x_listRg1, x_listRg2, x_sortItems, x_listItems, x_back, x_ifT, x_sortSet, x_get1, x_get2, fnAt, x_lc, x_lcN, x_var, x_C, x_op, x_un, x_slice, x_noPart, x_part, x_tru, x_B, x_chain, x_and, x_or, x_not, x_andV, x_orV, x_notB, x_if, x_nil, x_cons, x_tup, x_lst, x_call, x_callK, x_gN, x_gT, x_gs0, x_gs1, x_yes, x_iSeq, x_iEn, x_words, x_ml, x_disp, x_d0, x_pnil, x_pcons, csAt, List.getD_cons_zero, List.getD_cons_succ, List.getElem?_cons_zero, List.getElem?_cons_succ, List.set_cons_zero, List.set_cons_succ, ix0, eq_strs w1 ok1, eq_strs w1 ok2, w2, w3, decide_false, Bool.false_eq_true, if_false]
      unfold innerS at q
      rw [parts_simp h2] at q
      exact ⟨lzn 0, q⟩
    | @call n x f as bs h1 h2 h3 h4 h5 =>
      have ix0 : ∀ (S : GS) (Q : D → GS → Prop), oIx (.tup [.str "call", .str x, .str f, .tup (as.map D.str), .tup (bs.map D.str)]) (.int 0) S Q = Q (.str "call") S := fun S Q => ix_eq (n := 0) rfl rfl
      simp only [x_tupZip, x_dpop, x_dcT, x_iZip, x_listZip, x_md, x_zipR, x_zipD, x_listRg1, x_listRg2, x_sortItems, x_listItems, x_back, x_ifT, x_sortSet, x_get1, x_get2, fnAt, x_lc, x_lcN, x_var, x_C, x_op, x_un, x_slice, x_noPart, x_part, x_tru, x_B, x_chain, x_and, x_or, x_not, x_andV, x_orV, x_notB, x_if, x_nil, x_cons, x_tup, x_lst, x_call, x_callK, x_gN, x_gT, x_gs0, x_gs1, x_yes, x_iSeq, x_iEn, x_words, x_ml, x_disp, x_d0, x_pnil, x_pcons, csAt, List.getD_cons_zero, List.getD_cons_succ, List.getElem?_cons_zero, List.getElem?_cons_succ, List.set_cons_zero, List.set_cons_succ, ix0, eq_strs ok3 ok1, eq_strs ok3 ok2, cif, cwh, decide_false, Bool.false_eq_true, if_false]
      unfold innerS at q
      rw [parts_call] at q
      exact ⟨lzn 0, q⟩
    | @iff n t a b h1 l1 l2 h3 h4 =>
      have ix0 : ∀ (S : GS) (Q : D → GS → Prop), oIx (.tup [.str "if", t, .tup a, .tup b]) (.int 0) S Q = Q (.str "if") S := fun S Q => ix_eq (n := 0) rfl rfl
      have ix2 : ∀ (S : GS) (Q : D → GS → Prop), oIx (.tup [.str "if", t, .tup a, .tup b]) (.int 2) S Q = Q (.tup a) S := fun S Q => ix_eq (n := 2) rfl rfl
      have ix3 : ∀ (S : GS) (Q : D → GS → Prop), oIx (.tup [.str "if", t, .tup a, .tup b]) (.int 3) S Q = Q (.tup b) S := fun S Q => ix_eq (n := 3) rfl rfl
      simp only [x_tupZip, x_dpop, x_dcT, x_iZip, x_listZip, x_md, x_zipR, x_zipD, x_listRg1, x_listRg2, x_sortItems, x_listItems, x_back, x_ifT, x_sortSet, x_get1, x_get2, fnAt, x_lc, x_lcN, x_var, x_C, x_op, x_un, x_slice, x_noPart, x_part, x_tru, x_B, x_chain, x_and, x_or, x_not, x_andV, x_orV, x_notB, x_if, x_nil, x_cons, x_tup, x_lst, x_call, x_callK, x_gN, x_gT, x_gs0, x_gs1, x_yes, x_iSeq, x_iEn, x_words, x_ml, x_disp, x_d0, x_pnil, x_pcons, csAt, List.getD_cons_zero, List.getD_cons_succ, List.getElem?_cons_zero, List.getElem?_cons_succ, List.set_cons_zero, List.set_cons_succ, ix0, ix2, ix3, eq_strs ok1 ok1, decide_true, if_true, addT]
      unfold innerS at q
      rw [parts_if] at q
      exact ⟨by rw [sizeLine_eq]; omega, q⟩
    | @whil n t kp b h1 h2 l1 h3 =>
      have ix0 : ∀ (S : GS) (Q : D → GS → Prop), oIx (.tup [.str "while", t, kp, .tup b]) (.int 0) S Q = Q (.str "while") S := fun S Q => ix_eq (n := 0) rfl rfl
      have ix3 : ∀ (S : GS) (Q : D → GS → Prop), oIx (.tup [.str "while", t, kp, .tup b]) (.int 3) S Q = Q (.tup b) S := fun S Q => ix_eq (n := 3) rfl rfl
      simp only [x_tupZip, x_dpop, x_dcT, x_iZip, x_listZip, x_md, x_zipR, x_zipD, x_listRg1, x_listRg2, x_sortItems, x_listItems, x_back, x_ifT, x_sortSet, x_get1, x_get2, fnAt, x_lc, x_lcN, x_var, x_C, x_op, x_un, x_slice, x_noPart, x_part, x_tru, x_B, x_chain, x_and, x_or, x_not, x_andV, x_orV, x_notB, x_if, x_nil, x_cons, x_tup, x_lst, x_call, x_callK, x_gN, x_gT, x_gs0, x_gs1, x_yes, x_iSeq, x_iEn, x_words, x_ml, x_disp, x_d0, x_pnil, x_pcons, csAt, List.getD_cons_zero, List.getD_cons_succ, List.getElem?_cons_zero, List.getElem?_cons_succ, List.set_cons_zero, List.set_cons_succ, ix0, ix3, eq_strs ok2 ok1, eq_strs ok2 ok2, whi, decide_true, decide_false, Bool.false_eq_true, if_false, if_true]
      unfold innerS at q
      rw [parts_while] at q
      have q : Q (some (.tup (b ++ []))) S := q
      rw [List.append_nil] at q
      exact q
  show wSeq _ _ _ [some (.tup ss), some (.lst (ss.map fun s => D.tup (innerS s))), none] S
  have lenS : ∀ S : GS, lenD S (.tup ss) = some ss.length := fun S => len_seq (S := S) (d := .tup ss) (ds := ss) rfl
  cases n with
  | zero =>
    have e : ss = [] := by
      cases ss with
      | nil => rfl
      | cons s r => cases hs s (by simp)
    subst e
    simp only [x_tupZip, x_dpop, x_dcT, x_iZip, x_listZip, x_md, x_zipR, x_zipD, x_listRg1, x_listRg2, x_sortItems, x_listItems, x_back, x_ifT, x_sortSet, x_get1, x_get2, fnAt, x_lc, x_lcN, x_var, x_C, x_op, x_un, x_slice, x_noPart, x_part, x_tru, x_B, x_chain, x_and, x_or, x_not, x_andV, x_orV, x_notB, x_if, x_nil, x_cons, x_tup, x_lst, x_call, x_callK, x_gN, x_gT, x_gs0, x_gs1, x_yes, x_iSeq, x_iEn, x_words, x_ml, x_disp, x_d0, x_pnil, x_pcons, csAt, List.getD_cons_zero, List.getD_cons_succ, List.getElem?_cons_zero, List.getElem?_cons_succ, List.set_cons_zero, List.set_cons_succ, x_seq, x_skip, x_ifS, x_ret, x_retN, x_asg, x_par, x_expr, x_brk, x_cnt, fLen, f1, lenS]
    refine lc_mapA (gd := []) ([] : List D) id id (fun Q q => q) trivial (Nat.zero_le _) (fun s ms => by cases ms) ?_
    simp only [fSum, f1, la]
    exact ⟨S, .refl S, hR⟩
  | succ m =>
    simp only [x_tupZip, x_dpop, x_dcT, x_iZip, x_listZip, x_md, x_zipR, x_zipD, x_listRg1, x_listRg2, x_sortItems, x_listItems, x_back, x_ifT, x_sortSet, x_get1, x_get2, fnAt, x_lc, x_lcN, x_var, x_C, x_op, x_un, x_slice, x_noPart, x_part, x_tru, x_B, x_chain, x_and, x_or, x_not, x_andV, x_orV, x_notB, x_if, x_nil, x_cons, x_tup, x_lst, x_call, x_callK, x_gN, x_gT, x_gs0, x_gs1, x_yes, x_iSeq, x_iEn, x_words, x_ml, x_disp, x_d0, x_pnil, x_pcons, csAt, List.getD_cons_zero, List.getD_cons_succ, List.getElem?_cons_zero, List.getElem?_cons_succ, List.set_cons_zero, List.set_cons_succ, x_seq, x_skip, x_ifS, x_ret, x_retN, x_asg, x_par, x_expr, x_brk, x_cnt, fLen, f1, lenS]
    refine lc_mapA (gd := []) ss (fun s => .tup (innerS s)) (fun s => .int (sizeL m (innerS s) : Nat)) (fun Q q => by simp only [x_tupZip, x_dpop, x_dcT, x_iZip, x_listZip, x_md, x_zipR, x_zipD, x_listRg1, x_listRg2, x_sortItems, x_listItems, x_back, x_ifT, x_sortSet, x_get1, x_get2, fnAt, x_lc, x_lcN, x_var, x_C, x_op, x_un, x_slice, x_noPart, x_part, x_tru, x_B, x_chain, x_and, x_or, x_not, x_andV, x_orV, x_notB, x_if, x_nil, x_cons, x_tup, x_lst, x_call, x_callK, x_gN, x_gT, x_gs0, x_gs1, x_yes, x_iSeq, x_iEn, x_words, x_ml, x_disp, x_d0, x_pnil, x_pcons, csAt, List.getD_cons_zero, List.getD_cons_succ, List.getElem?_cons_zero, List.getElem?_cons_succ, List.set_cons_zero, List.set_cons_succ]; exact q) trivial (by rw [sizeLine_eq]; omega) (fun s ms Q q => ?_) ?_
    · have zs := Nat.le_trans (size_one (n := m + 1) ms) hz
      rw [size_inner] at zs
      refine turn_nE [some (.tup ss), some (.lst (ss.map fun s => D.tup (innerS s))), some (.tup (innerS s))] rfl ?_
      simp only [x_tupZip, x_dpop, x_dcT, x_iZip, x_listZip, x_md, x_zipR, x_zipD, x_listRg1, x_listRg2, x_sortItems, x_listItems, x_back, x_ifT, x_sortSet, x_get1, x_get2, fnAt, x_lc, x_lcN, x_var, x_C, x_op, x_un, x_slice, x_noPart, x_part, x_tru, x_B, x_chain, x_and, x_or, x_not, x_andV, x_orV, x_notB, x_if, x_nil, x_cons, x_tup, x_lst, x_call, x_callK, x_gN, x_gT, x_gs0, x_gs1, x_yes, x_iSeq, x_iEn, x_words, x_ml, x_disp, x_d0, x_pnil, x_pcons, csAt, List.getD_cons_zero, List.getD_cons_succ, List.getElem?_cons_zero, List.getElem?_cons_succ, List.set_cons_zero, List.set_cons_succ]
      exact ⟨innerS s, rfl, inner_ok (hs s ms), by omega, q⟩
    · rw [show ss.map (fun s => D.int (sizeL m (innerS s) : Nat)) = (ss.map fun s => ((sizeL m (innerS s) : Nat) : Int)).map D.int by rw [List.map_map]; rfl]
      simp only [fSum, f1, la, intsD_map]
      rw [addI, ← size_sum]
      exact ⟨S, .refl S, hR⟩
theorem fn_size_all (d : Df K mg "_law_size" s__law_size ["statements"] []) (hb : BlIn mg ["len", "sum"]) : ∀ n : Nat, FnIn P w K mg base DS (k + n) ⟨"_law_size", 1, sp_size n, []⟩
  | 0 => fn_false d
  | n + 1 => fn_size_of n (fn_size_all d hb n) d hb
def sp__law_size : WF := sp_size 7
theorem fn__law_size (d : Df K mg "_law_size" s__law_size ["statements"] []) (hb : BlIn mg ["len", "sum"]) : FnIn P w K mg base DS (k + 7) ⟨"_law_size", 1, sp__law_size, []⟩ := fn_size_all d hb 7
end
end K32

namespace K32
open PySem PySem.Spec L2 Dv
open PyProof.Rows hiding St
/-! ### what a statement holds can be compared -/
def P3 (B : Nat) (d : D) : Prop := pure? d = true ∧ nod? d = true ∧ dep d ≤ B
theorem P3.mono {B B' : Nat} {d : D} (h : P3 B d) (hb : B ≤ B') : P3 B' d := ⟨h.1, h.2.1, Nat.le_trans h.2.2 hb⟩
theorem p3_list {B : Nat} : ∀ {l : List D}, (∀ z ∈ l, P3 B z) → pureL l = true ∧ nodL l = true ∧ depL l ≤ B
  | [], _ => ⟨rfl, rfl, Nat.zero_le _⟩
  | x :: r, h => by
    obtain ⟨a, b, c⟩ := p3_list (l := r) fun z m => h z (by simp [m])
    obtain ⟨h1, h2, h3⟩ := h x (by simp)
    refine ⟨by rw [pureL, h1, a]; rfl, by rw [nodL, h2, b]; rfl, by rw [depL]; omega⟩
theorem p3_tup {B : Nat} {l : List D} (h : ∀ z ∈ l, P3 B z) : P3 (B + 1) (.tup l) := by
  obtain ⟨a, b, c⟩ := p3_list h
  refine ⟨by rw [pure?]; exact a, by rw [nod?]; exact b, by rw [dep]; omega⟩
theorem p3_str {x : Str} (h : PyData.strOk x = true) (B : Nat) : P3 B (.str x) := ⟨rfl, by rw [nod?]; exact h, by rw [dep]; omega⟩
theorem p3_strs {l : List Str} (h : ∀ x ∈ l, PyData.strOk x = true) (B : Nat) : ∀ z ∈ l.map D.str, P3 B z := fun z m => by
  obtain ⟨x, mx, rfl⟩ := List.mem_map.mp m
  exact p3_str (h x mx) B
theorem test_p3 {t : D} (h : TestOk t) : P3 1 t := by
  obtain ⟨l, rfl, _, hn⟩ := h
  exact p3_tup (p3_strs (fun x m => (hn x m).2) 0)
theorem keep_p3 {t : D} (h : KeepOk t) : P3 5 t := by
  rcases h with rfl | ⟨s, rfl, _, hc⟩
  · exact ⟨rfl, rfl, by rw [dep]; omega⟩
  · have row : ∀ r : LRow, RowNm r → P3 1 (rowD r) := fun r h => p3_tup fun z m => by
      simp only [List.mem_cons, List.mem_nil_iff, or_false] at m
      rcases m with rfl | rfl | rfl
      · exact p3_str h.1.2 0
      · exact p3_str h.2.1.2 0
      · exact p3_str h.2.2.2 0
    have cl : ∀ c : Cl, ClNm c → P3 3 (clD c) := fun c h => p3_tup fun z m => by
      simp only [List.mem_cons, List.mem_nil_iff, or_false] at m
      rcases m with rfl | rfl
      · exact p3_tup fun z m => by obtain ⟨r, mr, rfl⟩ := List.mem_map.mp m; exact row r (h.lo r mr)
      · exact p3_tup fun z m => by obtain ⟨r, mr, rfl⟩ := List.mem_map.mp m; exact row r (h.po r mr)
    exact (p3_tup (B := 3) fun z m => by obtain ⟨c, mc, rfl⟩ := List.mem_map.mp m; exact cl c (hc c mc)).mono (by omega)
theorem stm_p3 {n : Nat} {s : D} (h : StmOk n s) : P3 (6 + 2 * n) s := by
  obtain ⟨ok1, ok2, ok3, ok4⟩ := wordS_ok
  induction h with
  | @simp n k xs h1 h2 h3 =>
    refine (p3_tup (B := 0) fun z m => ?_).mono (by omega)
    rcases List.mem_cons.mp m with rfl | m
    · exact p3_str (ok4 k h1).1 0
    · exact p3_strs (fun x m => (h3 x m).2) 0 z m
  | @call n x f as bs h1 h2 h3 h4 h5 =>
    refine (p3_tup (B := 1) fun z m => ?_).mono (by omega)
    simp only [List.mem_cons, List.mem_nil_iff, or_false] at m
    rcases m with rfl | rfl | rfl | rfl | rfl
    · exact p3_str ok3 1
    · exact p3_str h1.2 1
    · exact p3_str h2.2 1
    · exact p3_tup (p3_strs (fun x m => (h5 x (List.mem_append_left _ m)).2) 0)
    · exact p3_tup (p3_strs (fun x m => (h5 x (List.mem_append_right _ m)).2) 0)
  | @iff n t a b h1 l1 l2 h3 h4 i1 i2 =>
    refine (p3_tup (B := 7 + 2 * n) fun z m => ?_).mono (by omega)
    simp only [List.mem_cons, List.mem_nil_iff, or_false] at m
    rcases m with rfl | rfl | rfl | rfl
    · exact p3_str ok1 _
    · exact (test_p3 h1).mono (by omega)
    · exact (p3_tup i1).mono (by omega)
    · exact (p3_tup i2).mono (by omega)
  | @whil n t kp b h1 h2 l1 h3 i1 =>
    refine (p3_tup (B := 7 + 2 * n) fun z m => ?_).mono (by omega)
    simp only [List.mem_cons, List.mem_nil_iff, or_false] at m
    rcases m with rfl | rfl | rfl | rfl
    · exact p3_str ok2 _
    · exact (test_p3 h1).mono (by omega)
    · exact (keep_p3 h2).mono (by omega)
    · exact (p3_tup i1).mono (by omega)
theorem eq_stms {n : Nat} {b : List D} (h : ∀ s ∈ b, StmOk n s) (hn : n ≤ 20) {S : GS} {Q : D → GS → Prop} : oEq (.tup b) (.tup []) S Q = Q (.bl b.isEmpty) S := by
  show (cmp? (.tup b) = true ∧ cmp? (.tup []) = true ∧ Q (.bl (eqb (.tup b) (.tup []))) S) = _
  have c : cmp? (.tup b) = true := cmp_itemsT fun z m => by
    obtain ⟨a1, a2, a3⟩ := stm_p3 (h z m)
    simp [itemC, a1, a2]
    omega
  have e : eqb (.tup b) (.tup []) = b.isEmpty := by cases b <;> rfl
  rw [e]
  exact propext ⟨fun h => h.2.2, fun h => ⟨c, rfl, h⟩⟩
theorem ne_stms {n : Nat} {b : List D} (h : ∀ s ∈ b, StmOk n s) (hn : n ≤ 20) {S : GS} {Q : D → GS → Prop} : oNe (.tup b) (.tup []) S Q = Q (.bl (!b.isEmpty)) S := by
  show (cmp? (.tup b) = true ∧ cmp? (.tup []) = true ∧ Q (.bl (!eqb (.tup b) (.tup []))) S) = _
  have c : cmp? (.tup b) = true := cmp_itemsT fun z m => by
    obtain ⟨a1, a2, a3⟩ := stm_p3 (h z m)
    simp [itemC, a1, a2]
    omega
  have e : eqb (.tup b) (.tup []) = b.isEmpty := by cases b <;> rfl
  rw [e]
  exact propext ⟨fun h => h.2.2, fun h => ⟨c, rfl, h⟩⟩
section
variable {P : Program} {w : World} {K : PySem.W.Frag} {mg : Str → Option Value} {base : Heap} {k : Nat}
def sp_rows0 (n : Nat) : WF := fun ds S R => ∃ (ss : List D) (way : List Int) (st : Int), ds = [.tup ss, wayD way, .int st] ∧ (∀ s ∈ ss, StmOk n s) ∧ n ≤ 20 ∧ sizeL n ss ≤ 100000 ∧ way.length + 2 * n ≤ 1000 ∧ R (.lst (rowsF n ss way st)) S
def sp_rows : Nat → WF
  | 0 => spF
  | n + 1 => sp_rows0 n
def sp_if : Nat → WF
  | 0 => spF
  | n + 1 => fun ds S R => ∃ (t : D) (a b : List D) (way : List Int) (st : Int), ds = [.tup [.str "if", t, .tup a, .tup b], wayD way, .int st] ∧ (∀ s ∈ a, StmOk n s) ∧ (∀ s ∈ b, StmOk n s) ∧ n ≤ 20 ∧ sizeL n a ≤ 100000 ∧ sizeL n b ≤ 100000 ∧ way.length + 2 * n + 1 ≤ 1000 ∧ R (.lst (rowOf (rowsF n) (.tup [.str "if", t, .tup a, .tup b]) way st)) S
theorem fn_if_of (n : Nat) (c1 : FnIn P w K mg base DS k ⟨"rows_within", 3, sp_rows (n + 1), []⟩) (d : Df K mg "rows_of_if" s_rows_of_if ["statement", "way", "start"] []) (hb : BlIn mg ["len"]) : FnIn P w K mg base DS (k + 1) ⟨"rows_of_if", 3, sp_if (n + 1), []⟩ := by
  refine fn_mkL d sc_rows_of_if rfl (fns := [⟨"rows_within", 3, sp_rows (n + 1), []⟩]) (cs := []) ⟨c1, trivial⟩ trivial hb (fun X o => (s_cons (s_set o 3 (e_call o 0 (a_cons (e_ix o (e_var o 0) e_int) (a_cons (e_add (e_var o 1) (e_tup (a_cons e_int a_nil))) (a_cons (e_add (e_var o 2) e_int) a_nil)))))
  (s_cons (s_set o 4 (e_add (e_add (e_var o 2) e_int) (e_len o (a_cons (e_var o 3) a_nil))))
  (s_cons (s_if (t_cmp o c_eq (e_ix o (e_var o 0) e_int) (e_tup a_nil))
  (s_cons (s_ret (e_add (e_lst (a_cons (e_tup (a_cons (e_tup (a_cons e_str (a_cons (e_ix o (e_var o 0) e_int) (a_cons (e_var o 4) a_nil)))) (a_cons (e_var o 1) a_nil))) a_nil)) (e_var o 3)))
  s_nil)
  s_nil)
  (s_cons (s_set o 5 (e_call o 0 (a_cons (e_ix o (e_var o 0) e_int) (a_cons (e_add (e_var o 1) (e_tup (a_cons e_int a_nil))) (a_cons (e_add (e_var o 4) e_int) a_nil)))))
  (s_cons (s_set o 6 (e_tup (a_cons (e_tup (a_cons e_str (a_cons (e_add (e_add (e_var o 4) e_int) (e_len o (a_cons (e_var o 5) a_nil))) a_nil))) (a_cons (e_var o 1) a_nil))))
  (s_cons (s_ret (e_add (e_add (e_add (e_lst (a_cons (e_tup (a_cons (e_tup (a_cons e_str (a_cons (e_ix o (e_var o 0) e_int) (a_cons (e_add (e_var o 4) e_int) a_nil)))) (a_cons (e_var o 1) a_nil))) a_nil)) (e_var o 3)) (e_lst (a_cons (e_var o 6) a_nil))) (e_var o 5)))
  s_nil))))))) ?_
  intro ds S R hl h
  obtain ⟨t, a, b, way, st, rfl, ha, hb2, hn, za, zb, wl, hR⟩ := h
  have rr : ∀ (ss : List D) (x : Int) (st : Int) (S : GS) (Q : D → GS → Prop), (∀ s ∈ ss, StmOk n s) → sizeL n ss ≤ 100000 → Q (.lst (rowsF n ss (way ++ [x]) st)) S → sp_rows (n + 1) [.tup ss, wayD (way ++ [x]), .int st] S Q := fun ss x st S Q h1 h2 q => ⟨ss, way ++ [x], st, rfl, h1, hn, h2, by rw [List.length_append]; simp only [List.length_singleton]; omega, q⟩
  have lnF : ∀ (S : GS) (l : List D), lenD S (.lst l) = some l.length := fun S l => len_seq (S := S) (d := .lst l) (ds := l) rfl
  generalize hSt : D.tup [.str "if", t, .tup a, .tup b] = St
  have ix1 : ∀ (S : GS) (Q : D → GS → Prop), oIx St (.int 1) S Q = Q t S := fun S Q => by rw [← hSt]; exact ix_eq (n := 1) rfl rfl
  have ix2 : ∀ (S : GS) (Q : D → GS → Prop), oIx St (.int 2) S Q = Q (.tup a) S := fun S Q => by rw [← hSt]; exact ix_eq (n := 2) rfl rfl
  have ix3 : ∀ (S : GS) (Q : D → GS → Prop), oIx St (.int 3) S Q = Q (.tup b) S := fun S Q => by rw [← hSt]; exact ix_eq (n := 3) rfl rfl
  have hR : R (.lst (rowOf (rowsF n) (.tup [.str "if", t, .tup a, .tup b]) way st)) S := hR
  unfold rowOf at hR
  rw [parts_if] at hR
  dsimp only at hR
  have addW : ∀ (x : Int) (S : GS) (Q : D → GS → Prop), Q (wayD (way ++ [x])) S → oAdd (wayD way) (.tup [.int x]) S Q := fun x S Q q => by
    show _ ∧ _
    refine ⟨by rw [List.length_map, sizeLine_eq]; simp only [List.length_cons, List.length_nil]; omega, ?_⟩
    rw [show way.map D.int ++ [D.int x] = (way ++ [x]).map D.int by rw [List.map_append]; rfl]
    exact q
  show wSeq _ _ _ [some St, some (wayD way), some (.int st), none, none, none, none] S
  rw [x_seq]
  simp only [x_asg, x_tupZip, x_dpop, x_dcT, x_iZip, x_listZip, x_md, x_zipR, x_zipD, x_listRg1, x_listRg2, x_sortItems, x_listItems, x_back, x_ifT, x_sortSet, x_get1, x_get2, fnAt, x_lc, x_lcN, x_var, x_C, x_op, x_un, x_slice, x_noPart, x_part, x_tru, x_B, x_chain, x_and, x_or, x_not, x_andV, x_orV, x_notB, x_if, x_nil, x_cons, x_tup, x_lst, x_call, x_callK, x_gN, x_gT, x_gs0, x_gs1, x_yes, x_iSeq, x_iEn, x_words, x_ml, x_disp, x_d0, x_pnil, x_pcons, csAt, List.getD_cons_zero, List.getD_cons_succ, List.getElem?_cons_zero, List.getElem?_cons_succ, List.set_cons_zero, List.set_cons_succ, ix2]
  refine ⟨lzn 1, addW 0 _ _ ?_⟩
  rw [addI]
  refine rr a 0 (st + 1) _ _ ha za ?_
  have la := Nat.le_trans (rows_len n a (way ++ [0]) (st + 1)) (Nat.mul_le_mul_left 2 za)
  generalize rowsF n a (way ++ [0]) (st + 1) = fa at hR la ⊢
  show wSeq _ _ _ [some St, some (wayD way), some (.int st), some (.lst fa), none, none, none] S
  rw [x_seq]
  simp only [x_asg, x_tupZip, x_dpop, x_dcT, x_iZip, x_listZip, x_md, x_zipR, x_zipD, x_listRg1, x_listRg2, x_sortItems, x_listItems, x_back, x_ifT, x_sortSet, x_get1, x_get2, fnAt, x_lc, x_lcN, x_var, x_C, x_op, x_un, x_slice, x_noPart, x_part, x_tru, x_B, x_chain, x_and, x_or, x_not, x_andV, x_orV, x_notB, x_if, x_nil, x_cons, x_tup, x_lst, x_call, x_callK, x_gN, x_gT, x_gs0, x_gs1, x_yes, x_iSeq, x_iEn, x_words, x_ml, x_disp, x_d0, x_pnil, x_pcons, csAt, List.getD_cons_zero, List.getD_cons_succ, List.getElem?_cons_zero, List.getElem?_cons_succ, List.set_cons_zero, List.set_cons_succ, fLen, f1, lnF, addI]
  show wSeq _ _ _ [some St, some (wayD way), some (.int st), some (.lst fa), some (.int (st + 1 + (fa.length : Nat))), none, none] S
  refine seq_if2 (b = []) (b ≠ []) (fun Q q0 q1 => ?_) (fun hz => ?_) fun hz => ?_
  · simp only [x_tupZip, x_dpop, x_dcT, x_iZip, x_listZip, x_md, x_zipR, x_zipD, x_listRg1, x_listRg2, x_sortItems, x_listItems, x_back, x_ifT, x_sortSet, x_get1, x_get2, fnAt, x_lc, x_lcN, x_var, x_C, x_op, x_un, x_slice, x_noPart, x_part, x_tru, x_B, x_chain, x_and, x_or, x_not, x_andV, x_orV, x_notB, x_if, x_nil, x_cons, x_tup, x_lst, x_call, x_callK, x_gN, x_gT, x_gs0, x_gs1, x_yes, x_iSeq, x_iEn, x_words, x_ml, x_disp, x_d0, x_pnil, x_pcons, csAt, List.getD_cons_zero, List.getD_cons_succ, List.getElem?_cons_zero, List.getElem?_cons_succ, List.set_cons_zero, List.set_cons_succ, List.length_cons, List.length_nil, Nat.reduceAdd, Nat.zero_add, ix3, eq_stms hb2 hn]
    refine ⟨lzn 0, ?_⟩
    cases q : b with
    | nil => exact q1 q
    | cons x r => exact q0 (by rw [q]; simp)
  · rw [if_pos hz] at hR
    simp only [x_tupZip, x_dpop, x_dcT, x_iZip, x_listZip, x_md, x_zipR, x_zipD, x_listRg1, x_listRg2, x_sortItems, x_listItems, x_back, x_ifT, x_sortSet, x_get1, x_get2, fnAt, x_lc, x_lcN, x_var, x_C, x_op, x_un, x_slice, x_noPart, x_part, x_tru, x_B, x_chain, x_and, x_or, x_not, x_andV, x_orV, x_notB, x_if, x_nil, x_cons, x_tup, x_lst, x_call, x_callK, x_gN, x_gT, x_gs0, x_gs1, x_yes, x_iSeq, x_iEn, x_words, x_ml, x_disp, x_d0, x_pnil, x_pcons, csAt, List.getD_cons_zero, List.getD_cons_succ, List.getElem?_cons_zero, List.getElem?_cons_succ, List.set_cons_zero, List.set_cons_succ, x_seq, x_skip, x_ifS, x_ret, x_retN, x_asg, x_par, x_expr, x_brk, x_cnt, ix1]
    refine ⟨lzn 3, lzn 2, lzn 1, ?_⟩
    rw [addL]
    exact ⟨by rw [sizeLine_eq]; simp only [List.length_cons, List.length_nil]; omega, S, .refl S, hR⟩
  rw [if_neg hz] at hR
  rw [x_seq]
  simp only [x_asg, x_tupZip, x_dpop, x_dcT, x_iZip, x_listZip, x_md, x_zipR, x_zipD, x_listRg1, x_listRg2, x_sortItems, x_listItems, x_back, x_ifT, x_sortSet, x_get1, x_get2, fnAt, x_lc, x_lcN, x_var, x_C, x_op, x_un, x_slice, x_noPart, x_part, x_tru, x_B, x_chain, x_and, x_or, x_not, x_andV, x_orV, x_notB, x_if, x_nil, x_cons, x_tup, x_lst, x_call, x_callK, x_gN, x_gT, x_gs0, x_gs1, x_yes, x_iSeq, x_iEn, x_words, x_ml, x_disp, x_d0, x_pnil, x_pcons, csAt, List.getD_cons_zero, List.getD_cons_succ, List.getElem?_cons_zero, List.getElem?_cons_succ, List.set_cons_zero, List.set_cons_succ, ix3]
  refine ⟨lzn 1, addW 1 _ _ ?_⟩
  rw [addI]
  refine rr b 1 (st + 1 + (fa.length : Nat) + 1) _ _ hb2 zb ?_
  have lb := Nat.le_trans (rows_len n b (way ++ [1]) (st + 1 + (fa.length : Nat) + 1)) (Nat.mul_le_mul_left 2 zb)
  generalize rowsF n b (way ++ [1]) (st + 1 + (fa.length : Nat) + 1) = fb at hR lb ⊢
  show wSeq _ _ _ [some St, some (wayD way), some (.int st), some (.lst fa), some (.int (st + 1 + (fa.length : Nat))), some (.lst fb), none] S
  rw [x_seq]
  simp only [x_asg, x_tupZip, x_dpop, x_dcT, x_iZip, x_listZip, x_md, x_zipR, x_zipD, x_listRg1, x_listRg2, x_sortItems, x_listItems, x_back, x_ifT, x_sortSet, x_get1, x_get2, fnAt, x_lc, x_lcN, x_var, x_C, x_op, x_un, x_slice, x_noPart, x_part, x_tru, x_B, x_chain, x_and, x_or, x_not, x_andV, x_orV, x_notB, x_if, x_nil, x_cons, x_tup, x_lst, x_call, x_callK, x_gN, x_gT, x_gs0, x_gs1, x_yes, x_iSeq, x_iEn, x_words, x_ml, x_disp, x_d0, x_pnil, x_pcons, csAt, List.getD_cons_zero, List.getD_cons_succ, List.getElem?_cons_zero, List.getElem?_cons_succ, List.set_cons_zero, List.set_cons_succ, fLen, f1, lnF, addI]
  refine ⟨lzn 2, lzn 2, ?_⟩
  show wSeq _ _ _ [some St, some (wayD way), some (.int st), some (.lst fa), some (.int (st + 1 + (fa.length : Nat))), some (.lst fb), some (rowW (jumpD (st + 1 + (fa.length : Nat) + 1 + (fb.length : Nat))) way)] S
  generalize rowW (jumpD (st + 1 + (fa.length : Nat) + 1 + (fb.length : Nat))) way = jw at hR ⊢
  simp only [x_tupZip, x_dpop, x_dcT, x_iZip, x_listZip, x_md, x_zipR, x_zipD, x_listRg1, x_listRg2, x_sortItems, x_listItems, x_back, x_ifT, x_sortSet, x_get1, x_get2, fnAt, x_lc, x_lcN, x_var, x_C, x_op, x_un, x_slice, x_noPart, x_part, x_tru, x_B, x_chain, x_and, x_or, x_not, x_andV, x_orV, x_notB, x_if, x_nil, x_cons, x_tup, x_lst, x_call, x_callK, x_gN, x_gT, x_gs0, x_gs1, x_yes, x_iSeq, x_iEn, x_words, x_ml, x_disp, x_d0, x_pnil, x_pcons, csAt, List.getD_cons_zero, List.getD_cons_succ, List.getElem?_cons_zero, List.getElem?_cons_succ, List.set_cons_zero, List.set_cons_succ, x_seq, x_skip, x_ifS, x_ret, x_retN, x_asg, x_par, x_expr, x_brk, x_cnt, ix1, addI]
  refine ⟨lzn 3, lzn 2, lzn 1, ?_⟩
  rw [addL]
  refine ⟨by rw [sizeLine_eq]; simp only [List.length_cons, List.length_nil]; omega, lzn 1, ?_⟩
  rw [addL]
  refine ⟨by rw [sizeLine_eq]; simp only [List.length_cons, List.length_nil, List.length_append]; omega, ?_⟩
  rw [addL]
  refine ⟨by rw [sizeLine_eq]; simp only [List.length_cons, List.length_nil, List.length_append]; omega, S, .refl S, ?_⟩
  have e : ∀ u : D, [u] ++ fa ++ [jw] ++ fb = u :: (fa ++ jw :: fb) := fun u => by simp
  rw [e]
  exact hR
def sp_while : Nat → WF
  | 0 => spF
  | n + 1 => fun ds S R => ∃ (t kp : D) (b : List D) (way : List Int) (st : Int), ds = [.tup [.str "while", t, kp, .tup b], wayD way, .int st] ∧ (∀ s ∈ b, StmOk n s) ∧ n ≤ 20 ∧ sizeL n b ≤ 100000 ∧ way.length + 2 * n + 1 ≤ 1000 ∧ R (.lst (rowOf (rowsF n) (.tup [.str "while", t, kp, .tup b]) way st)) S
theorem fn_while_of (n : Nat) (c1 : FnIn P w K mg base DS k ⟨"rows_within", 3, sp_rows (n + 1), []⟩) (d : Df K mg "rows_of_while" s_rows_of_while ["statement", "way", "start"] []) (hb : BlIn mg ["len"]) : FnIn P w K mg base DS (k + 1) ⟨"rows_of_while", 3, sp_while (n + 1), []⟩ := by
  refine fn_mkL d sc_rows_of_while rfl (fns := [⟨"rows_within", 3, sp_rows (n + 1), []⟩]) (cs := []) ⟨c1, trivial⟩ trivial hb (fun X o => (s_cons (s_set o 3 (e_call o 0 (a_cons (e_ix o (e_var o 0) e_int) (a_cons (e_add (e_var o 1) (e_tup (a_cons e_int a_nil))) (a_cons (e_add (e_var o 2) e_int) a_nil)))))
  (s_cons (s_set o 4 (e_tup (a_cons (e_tup (a_cons e_str (a_cons (e_ix o (e_var o 0) e_int) (a_cons (e_add (e_add (e_add (e_var o 2) e_int) (e_len o (a_cons (e_var o 3) a_nil))) e_int) a_nil)))) (a_cons (e_var o 1) a_nil))))
  (s_cons (s_ret (e_add (e_add (e_lst (a_cons (e_var o 4) a_nil)) (e_var o 3)) (e_lst (a_cons (e_tup (a_cons (e_tup (a_cons e_str (a_cons (e_var o 2) a_nil))) (a_cons (e_var o 1) a_nil))) a_nil))))
  s_nil)))) ?_
  intro ds S R hl h
  obtain ⟨t, kp, b, way, st, rfl, hb2, hn, zb, wl, hR⟩ := h
  have rr : ∀ (ss : List D) (x : Int) (st : Int) (S : GS) (Q : D → GS → Prop), (∀ s ∈ ss, StmOk n s) → sizeL n ss ≤ 100000 → Q (.lst (rowsF n ss (way ++ [x]) st)) S → sp_rows (n + 1) [.tup ss, wayD (way ++ [x]), .int st] S Q := fun ss x st S Q h1 h2 q => ⟨ss, way ++ [x], st, rfl, h1, hn, h2, by rw [List.length_append]; simp only [List.length_singleton]; omega, q⟩
  have lnF : ∀ (S : GS) (l : List D), lenD S (.lst l) = some l.length := fun S l => len_seq (S := S) (d := .lst l) (ds := l) rfl
  generalize hSt : D.tup [.str "while", t, kp, .tup b] = St
  have ix1 : ∀ (S : GS) (Q : D → GS → Prop), oIx St (.int 1) S Q = Q t S := fun S Q => by rw [← hSt]; exact ix_eq (n := 1) rfl rfl
  have ix3 : ∀ (S : GS) (Q : D → GS → Prop), oIx St (.int 3) S Q = Q (.tup b) S := fun S Q => by rw [← hSt]; exact ix_eq (n := 3) rfl rfl
  have hR : R (.lst (rowOf (rowsF n) (.tup [.str "while", t, kp, .tup b]) way st)) S := hR
  unfold rowOf at hR
  rw [parts_while] at hR
  dsimp only at hR
  have addW : ∀ (x : Int) (S : GS) (Q : D → GS → Prop), Q (wayD (way ++ [x])) S → oAdd (wayD way) (.tup [.int x]) S Q := fun x S Q q => by
    show _ ∧ _
    refine ⟨by rw [List.length_map, sizeLine_eq]; simp only [List.length_cons, List.length_nil]; omega, ?_⟩
    rw [show way.map D.int ++ [D.int x] = (way ++ [x]).map D.int by rw [List.map_append]; rfl]
    exact q
  show wSeq _ _ _ [some St, some (wayD way), some (.int st), none, none] S
  rw [x_seq]
  simp only [x_asg, x_tupZip, x_dpop, x_dcT, x_iZip, x_listZip, x_md, x_zipR, x_zipD, x_listRg1, x_listRg2, x_sortItems, x_listItems, x_back, x_ifT, x_sortSet, x_get1, x_get2, fnAt, x_lc, x_lcN, x_var, x_C, x_op, x_un, x_slice, x_noPart, x_part, x_tru, x_B, x_chain, x_and, x_or, x_not, x_andV, x_orV, x_notB, x_if, x_nil, x_cons, x_tup, x_lst, x_call, x_callK, x_gN, x_gT, x_gs0, x_gs1, x_yes, x_iSeq, x_iEn, x_words, x_ml, x_disp, x_d0, x_pnil, x_pcons, csAt, List.getD_cons_zero, List.getD_cons_succ, List.getElem?_cons_zero, List.getElem?_cons_succ, List.set_cons_zero, List.set_cons_succ, ix3]
  refine ⟨lzn 1, addW 0 _ _ ?_⟩
  rw [addI]
  refine rr b 0 (st + 1) _ _ hb2 zb ?_
  have lb := Nat.le_trans (rows_len n b (way ++ [0]) (st + 1)) (Nat.mul_le_mul_left 2 zb)
  generalize rowsF n b (way ++ [0]) (st + 1) = fb at hR lb ⊢
  show wSeq _ _ _ [some St, some (wayD way), some (.int st), some (.lst fb), none] S
  rw [x_seq]
  simp only [x_asg, x_tupZip, x_dpop, x_dcT, x_iZip, x_listZip, x_md, x_zipR, x_zipD, x_listRg1, x_listRg2, x_sortItems, x_listItems, x_back, x_ifT, x_sortSet, x_get1, x_get2, fnAt, x_lc, x_lcN, x_var, x_C, x_op, x_un, x_slice, x_noPart, x_part, x_tru, x_B, x_chain, x_and, x_or, x_not, x_andV, x_orV, x_notB, x_if, x_nil, x_cons, x_tup, x_lst, x_call, x_callK, x_gN, x_gT, x_gs0, x_gs1, x_yes, x_iSeq, x_iEn, x_words, x_ml, x_disp, x_d0, x_pnil, x_pcons, csAt, List.getD_cons_zero, List.getD_cons_succ, List.getElem?_cons_zero, List.getElem?_cons_succ, List.set_cons_zero, List.set_cons_succ, ix1, fLen, f1, lnF, addI]
  refine ⟨lzn 3, lzn 2, ?_⟩
  show wSeq _ _ _ [some St, some (wayD way), some (.int st), some (.lst fb), some (rowW (unlessD t (st + 1 + (fb.length : Nat) + 1)) way)] S
  generalize rowW (unlessD t (st + 1 + (fb.length : Nat) + 1)) way = uw at hR ⊢
  simp only [x_tupZip, x_dpop, x_dcT, x_iZip, x_listZip, x_md, x_zipR, x_zipD, x_listRg1, x_listRg2, x_sortItems, x_listItems, x_back, x_ifT, x_sortSet, x_get1, x_get2, fnAt, x_lc, x_lcN, x_var, x_C, x_op, x_un, x_slice, x_noPart, x_part, x_tru, x_B, x_chain, x_and, x_or, x_not, x_andV, x_orV, x_notB, x_if, x_nil, x_cons, x_tup, x_lst, x_call, x_callK, x_gN, x_gT, x_gs0, x_gs1, x_yes, x_iSeq, x_iEn, x_words, x_ml, x_disp, x_d0, x_pnil, x_pcons, csAt, List.getD_cons_zero, List.getD_cons_succ, List.getElem?_cons_zero, List.getElem?_cons_succ, List.set_cons_zero, List.set_cons_succ, x_seq, x_skip, x_ifS, x_ret, x_retN, x_asg, x_par, x_expr, x_brk, x_cnt]
  refine ⟨lzn 1, ?_⟩
  rw [addL]
  refine ⟨by rw [sizeLine_eq]; simp only [List.length_cons, List.length_nil]; omega, lzn 2, lzn 2, lzn 1, ?_⟩
  rw [addL]
  refine ⟨by rw [sizeLine_eq]; simp only [List.length_cons, List.length_nil, List.length_append]; omega, S, .refl S, ?_⟩
  exact hR
end
end K32

namespace K32
open PySem PySem.Spec L2 Dv
open PyProof.Rows hiding St
/-! ### rows_within -/
theorem rowsL_mono {rec : List D → List Int → Int → List D} {way : List Int} {st : Int} : ∀ (l : List D) (i : Nat) (acc : List D), acc.length ≤ (rowsL rec way st l i acc).length
  | [], _, _ => Nat.le_refl _
  | s :: r, i, acc => by
    have := rowsL_mono (rec := rec) (way := way) (st := st) r (i + 1) (acc ++ rowOf rec s (way ++ [(i : Int)]) (st + (acc.length : Nat)))
    rw [List.length_append] at this
    show _ ≤ (rowsL rec way st r (i + 1) _).length
    omega
section
variable {P : Program} {w : World} {K : PySem.W.Frag} {mg : Str → Option Value} {base : Heap} {k : Nat}
theorem fn_rows_of (n : Nat) (c1 : FnIn P w K mg base DS k ⟨"rows_of_if", 3, sp_if n, []⟩) (c2 : FnIn P w K mg base DS k ⟨"rows_of_while", 3, sp_while n, []⟩) (d : Df K mg "rows_within" s_rows_within ["statements", "way", "start"] []) (hb : BlIn mg ["enumerate", "len"]) : FnIn P w K mg base DS (k + 1) ⟨"rows_within", 3, sp_rows (n + 1), []⟩ := by
  refine fn_mkL d sc_rows_within rfl (fns := [⟨"rows_of_if", 3, sp_if n, []⟩, ⟨"rows_of_while", 3, sp_while n, []⟩]) (cs := []) ⟨c1, c2, trivial⟩ trivial hb (fun X o => (s_cons (s_set o 3 (e_lstN a_nil))
  (s_cons (s_L (s_for o (i_enum o (e_var o 0)) (g_tup o 2 (g_cons (g_name o 4) (g_cons (g_name o 5) g_nil)))
  (ss_L (s_cons (s_set o 6 (e_add (e_var o 1) (e_tup (a_cons (e_var o 4) a_nil))))
  (s_cons (s_if (t_cmp o c_eq (e_ix o (e_var o 5) e_int) e_str)
  (s_cons (s_expr (e_extend (e_var o 3) (a_cons (e_call o 0 (a_cons (e_var o 5) (a_cons (e_var o 6) (a_cons (e_add (e_var o 2) (e_len o (a_cons (e_var o 3) a_nil))) a_nil)))) a_nil)))
  s_nil)
  (s_cons (s_if (t_cmp o c_eq (e_ix o (e_var o 5) e_int) e_str)
  (s_cons (s_expr (e_extend (e_var o 3) (a_cons (e_call o 1 (a_cons (e_var o 5) (a_cons (e_var o 6) (a_cons (e_add (e_var o 2) (e_len o (a_cons (e_var o 3) a_nil))) a_nil)))) a_nil)))
  s_nil)
  (s_cons (s_if (t_cmp o c_eq (e_ix o (e_var o 5) e_int) e_str)
  (s_cons (s_expr (e_append (e_var o 3) (a_cons (e_tup (a_cons (e_slice (e_var o 5) p_none (p_some e_int)) (a_cons (e_var o 6) a_nil))) a_nil)))
  s_nil)
  (s_cons (s_expr (e_append (e_var o 3) (a_cons (e_tup (a_cons (e_var o 5) (a_cons (e_var o 6) a_nil))) a_nil)))
  s_nil))
  s_nil))
  s_nil))
  s_nil)))))
  (s_cons (s_frz 3 (s_ret (e_var o 3)))
  s_nil)))) ?_
  intro ds S R hl h
  obtain ⟨ss, way, st, rfl, hs, hn, hz, wl, hR⟩ := h
  have ln := len_size hs
  obtain ⟨ok1, ok2, ok3, ok4⟩ := wordS_ok
  have cif : ¬ ("call" : Str) = "if" := by decide +kernel
  have cwh : ¬ ("call" : Str) = "while" := by decide +kernel
  have whi : ¬ ("while" : Str) = "if" := by decide +kernel
  have tot := Nat.le_trans (rows_len n ss way st) (Nat.mul_le_mul_left 2 hz)
  have addW : ∀ (x : Int) (S : GS) (Q : D → GS → Prop), Q (wayD (way ++ [x])) S → oAdd (wayD way) (.tup [.int x]) S Q := fun x S Q q => by
    show _ ∧ _
    refine ⟨by rw [List.length_map, sizeLine_eq]; simp only [List.length_cons, List.length_nil]; omega, ?_⟩
    rw [show way.map D.int ++ [D.int x] = (way ++ [x]).map D.int by rw [List.map_append]; rfl]
    exact q
  show wSeq _ _ _ [some (.tup ss), some (wayD way), some (.int st), none, none, none, none] S
  rw [x_seq]
  simp only [x_asg, x_tupZip, x_dpop, x_dcT, x_iZip, x_listZip, x_md, x_zipR, x_zipD, x_listRg1, x_listRg2, x_sortItems, x_listItems, x_back, x_ifT, x_sortSet, x_get1, x_get2, fnAt, x_lc, x_lcN, x_var, x_C, x_op, x_un, x_slice, x_noPart, x_part, x_tru, x_B, x_chain, x_and, x_or, x_not, x_andV, x_orV, x_notB, x_if, x_nil, x_cons, x_tup, x_lst, x_call, x_callK, x_gN, x_gT, x_gs0, x_gs1, x_yes, x_iSeq, x_iEn, x_words, x_ml, x_disp, x_d0, x_pnil, x_pcons, csAt, List.getD_cons_zero, List.getD_cons_succ, List.getElem?_cons_zero, List.getElem?_cons_succ, List.set_cons_zero, List.set_cons_succ, x_lstN]
  refine ⟨lzn 0, fun pf hpf => ?_⟩
  generalize hSs : D.tup ss = Ss
  show wSeq _ _ _ [some Ss, some (wayD way), some (.int st), some (.ref pf), none, none, none] (S.set pf (.lst []))
  rw [x_seq]
  refine for_L4 _ (.refl _) (fun ds gd S1 => ds = enD 0 ss ∧ gd = [] ∧ S.set pf (.lst []) = S1) (fun Q q => ?_) ?_
  · simp only [x_tupZip, x_dpop, x_dcT, x_iZip, x_listZip, x_md, x_zipR, x_zipD, x_listRg1, x_listRg2, x_sortItems, x_listItems, x_back, x_ifT, x_sortSet, x_get1, x_get2, fnAt, x_lc, x_lcN, x_var, x_C, x_op, x_un, x_slice, x_noPart, x_part, x_tru, x_B, x_chain, x_and, x_or, x_not, x_andV, x_orV, x_notB, x_if, x_nil, x_cons, x_tup, x_lst, x_call, x_callK, x_gN, x_gT, x_gs0, x_gs1, x_yes, x_iSeq, x_iEn, x_words, x_ml, x_disp, x_d0, x_pnil, x_pcons, csAt, List.getD_cons_zero, List.getD_cons_succ, List.getElem?_cons_zero, List.getElem?_cons_succ, List.set_cons_zero, List.set_cons_succ]
    rw [← hSs]
    exact q _ _ _ ⟨rfl, rfl, rfl⟩
  rintro _ _ _ ⟨rfl, rfl, rfl⟩
  refine for_body (fun rest ρ S' => ∃ (todo : List D) (i : Nat) (acc : List D) (x4 x5 x6 : Option D), rest = enD i todo ∧ (∀ s ∈ todo, s ∈ ss) ∧ (acc.length ≤ 200000) ∧ (∃ m, n = m + 1 ∧ rowsL (rowsF m) way st todo i acc = rowsF n ss way st ∨ todo = [] ∧ acc = rowsF n ss way st) ∧
      ρ = [some Ss, some (wayD way), some (.int st), some (.ref pf), x4, x5, x6] ∧ S' = S.set pf (.lst acc)) _ (.refl _)
    ⟨ss, 0, [], none, none, none, rfl, fun s m => m, Nat.zero_le _, ?_, rfl, rfl⟩ ?_ ?_
  · cases n with
    | zero =>
      have e : ss = [] := by
        cases ss with
        | nil => rfl
        | cons s r => cases hs s (by simp)
      subst e
      exact ⟨0, .inr ⟨rfl, rfl⟩⟩
    | succ m => exact ⟨m, .inl ⟨rfl, rfl⟩⟩
  · rintro z rest ρ _ ⟨todo, i, acc, x4, x5, x6, hr, hsub, hal, ⟨m, hm⟩, rfl, rfl⟩
    cases todo with
    | nil => cases hr
    | cons s todo =>
    obtain ⟨rfl, hm⟩ := hm.resolve_right fun q => by cases q.1
    have hr : z :: rest = .pr [.int (i : Nat), s] :: enD (i + 1) todo := hr
    obtain ⟨rfl, rfl⟩ := List.cons.inj hr
    have hsm := hs s (hsub s (by simp))
    have gf : (S.set pf (.lst acc)).g pf = some (.lst acc) := GS.set_same
    have isf : isLs (S.set pf (.lst acc)) (.ref pf) = true := by simp only [isLs, gf]
    have lenF : lenD (S.set pf (.lst acc)) (.ref pf) = some acc.length := len_seq (asQ_lref gf)
    have hm2 : rowsL (rowsF m) way st todo (i + 1) (acc ++ rowOf (rowsF m) s (way ++ [(i : Int)]) (st + (acc.length : Nat))) = rowsF (m + 1) ss way st := hm
    have hal2 : (acc ++ rowOf (rowsF m) s (way ++ [(i : Int)]) (st + (acc.length : Nat))).length ≤ 200000 := by
      have := rowsL_mono (rec := rowsF m) (way := way) (st := st) todo (i + 1) (acc ++ rowOf (rowsF m) s (way ++ [(i : Int)]) (st + (acc.length : Nat)))
      rw [hm2] at this
      omega
    have zs := Nat.le_trans (size_one (n := m + 1) (hsub s (by simp))) hz
    have wl2 : (way ++ [(i : Int)]).length + 2 * m + 1 ≤ 1000 := by rw [List.length_append]; simp only [List.length_singleton]; omega
    refine ⟨trivial, [some Ss, some (wayD way), some (.int st), some (.ref pf), some (.int (i : Nat)), some s, x6], fun S2 Q q => ⟨rfl, rfl, q⟩, ?_⟩
    rw [x_seq]
    simp only [x_asg, x_tupZip, x_dpop, x_dcT, x_iZip, x_listZip, x_md, x_zipR, x_zipD, x_listRg1, x_listRg2, x_sortItems, x_listItems, x_back, x_ifT, x_sortSet, x_get1, x_get2, fnAt, x_lc, x_lcN, x_var, x_C, x_op, x_un, x_slice, x_noPart, x_part, x_tru, x_B, x_chain, x_and, x_or, x_not, x_andV, x_orV, x_notB, x_if, x_nil, x_cons, x_tup, x_lst, x_call, x_callK, x_gN, x_gT, x_gs0, x_gs1, x_yes, x_iSeq, x_iEn, x_words, x_ml, x_disp, x_d0, x_pnil, x_pcons, csAt, List.getD_cons_zero, List.getD_cons_succ, List.getElem?_cons_zero, List.getElem?_cons_succ, List.set_cons_zero, List.set_cons_succ]
    refine ⟨lzn 1, addW (i : Nat) _ _ ?_⟩
    generalize hOw : way ++ [(i : Int)] = ow at *
    have fin : ∀ ds : List D, ds = rowOf (rowsF m) s ow (st + (acc.length : Nat)) → (∃ S2, Less S2 (S.set pf (.lst (acc ++ ds))) ∧ ∃ (todo' : List D) (i' : Nat) (acc' : List D) (y4 y5 y6 : Option D), enD (i + 1) todo = enD i' todo' ∧ (∀ s ∈ todo', s ∈ ss) ∧ acc'.length ≤ 200000 ∧ (∃ m', m + 1 = m' + 1 ∧ rowsL (rowsF m') way st todo' i' acc' = rowsF (m + 1) ss way st ∨ todo' = [] ∧ acc' = rowsF (m + 1) ss way st) ∧
        ([some Ss, some (wayD way), some (.int st), some (.ref pf), some (.int (i : Nat)), some s, some (wayD ow)] : Dv.Env) = [some Ss, some (wayD way), some (.int st), some (.ref pf), y4, y5, y6] ∧ S2 = S.set pf (.lst acc')) := fun ds e => by
      subst e
      exact ⟨_, .refl _, todo, i + 1, _, _, _, _, rfl, fun x m => hsub x (by simp [m]), hal2, ⟨m, .inl ⟨rfl, hm2⟩⟩, rfl, rfl⟩
    have gsz : ∀ ds : List D, ds = rowOf (rowsF m) s ow (st + (acc.length : Nat)) → acc.length + ds.length ≤ sizeLine := fun ds e => by
      subst e
      rw [List.length_append] at hal2
      rw [sizeLine_eq]
      omega
    show wSeq _ _ _ [some Ss, some (wayD way), some (.int st), some (.ref pf), some (.int (i : Nat)), some s, some (wayD ow)] (S.set pf (.lst acc))
    cases hsm with
    | @simp m k xs h1 h2 h3 =>
      obtain ⟨w1, w2, w3, w4⟩ := ok4 k h1
      have ix0 : ∀ (S : GS) (Q : D → GS → Prop), oIx (.tup (.str k :: xs.map D.str)) (.int 0) S Q = Q (.str k) S := fun S Q => ix_eq (n := 0) rfl rfl
      simp only [x_tupZip, x_dpop, x_dcT, x_iZip, x_listZip, x_md, x_zipR, x_zipD, x_listRg1, x_listRg2, x_sortItems, x_listItems, x_back, x_ifT, x_sortSet, x_get1, x_get2, fnAt, x_lc, x_lcN, x_var, x_C, x_op, x_un, x_slice, x_noPart, x_part, x_tru, x_B, x_chain, x_and, x_or, x_not, x_andV, x_orV, x_notB, x_if, x_nil, x_cons, x_tup, x_lst, x_call, x_callK, x_gN, x_gT, x_gs0, x_gs1, x_yes, x_iSeq, x_iEn, x_words, x_ml, x_disp, x_d0, x_pnil, x_pcons, csAt, List.getD_cons_zero, List.getD_cons_succ, List.getElem?_cons_zero, List.getElem?_cons_succ, List.set_cons_zero, List.set_cons_succ, x_seq, x_skip, x_ifS, x_ret, x_retN, x_asg, x_par, x_expr, x_brk, x_cnt, ix0, eq_strs w1 ok1, eq_strs w1 ok2, eq_strs w1 ok3, w2, w3, w4, decide_false, Bool.false_eq_true, if_false]
      have er : [D.tup [.tup (.str k :: xs.map D.str), wayD ow]] = rowOf (rowsF m) (.tup (.str k :: xs.map D.str)) ow (st + (acc.length : Nat)) := by
        unfold rowOf
        rw [parts_simp h2]
        show _ = [rowW (if k = "call" then _ else _) ow]
        rw [if_neg w4]
        rfl
      refine ⟨isf, lzn 2, ?_⟩
      unfold fAppend
      simp only [gf, GS.set_set]
      exact ⟨by have := gsz _ er; simp only [List.length_singleton] at this; omega, fin _ er⟩
    | @call m x f as bs h1 h2 h3 h4 h5 =>
      have ix0 : ∀ (S : GS) (Q : D → GS → Prop), oIx (.tup [.str "call", .str x, .str f, .tup (as.map D.str), .tup (bs.map D.str)]) (.int 0) S Q = Q (.str "call") S := fun S Q => ix_eq (n := 0) rfl rfl
      simp only [x_tupZip, x_dpop, x_dcT, x_iZip, x_listZip, x_md, x_zipR, x_zipD, x_listRg1, x_listRg2, x_sortItems, x_listItems, x_back, x_ifT, x_sortSet, x_get1, x_get2, fnAt, x_lc, x_lcN, x_var, x_C, x_op, x_un, x_slice, x_noPart, x_part, x_tru, x_B, x_chain, x_and, x_or, x_not, x_andV, x_orV, x_notB, x_if, x_nil, x_cons, x_tup, x_lst, x_call, x_callK, x_gN, x_gT, x_gs0, x_gs1, x_yes, x_iSeq, x_iEn, x_words, x_ml, x_disp, x_d0, x_pnil, x_pcons, csAt, List.getD_cons_zero, List.getD_cons_succ, List.getElem?_cons_zero, List.getElem?_cons_succ, List.set_cons_zero, List.set_cons_succ, x_seq, x_skip, x_ifS, x_ret, x_retN, x_asg, x_par, x_expr, x_brk, x_cnt, ix0, eq_strs ok3 ok1, eq_strs ok3 ok2, eq_strs ok3 ok3, cif, cwh, decide_true, decide_false, Bool.false_eq_true, if_false, if_true]
      have ecut : Dv.cutD [D.str "call", D.str x, D.str f, D.tup (as.map D.str), D.tup (bs.map D.str)] none (some 4) = [D.str "call", D.str x, D.str f, D.tup (as.map D.str)] := cut_take _ 4
      rw [ecut]
      have er : [D.tup [.tup [D.str "call", D.str x, D.str f, D.tup (as.map D.str)], wayD ow]] = rowOf (rowsF m) (.tup [.str "call", .str x, .str f, .tup (as.map D.str), .tup (bs.map D.str)]) ow (st + (acc.length : Nat)) := by
        unfold rowOf
        rw [parts_call]
        show _ = [rowW (if ("call" : Str) = "call" then .tup ((D.str "call" :: [D.str x, D.str f, D.tup (as.map D.str), D.tup (bs.map D.str)]).take 4) else .tup (D.str "call" :: [D.str x, D.str f, D.tup (as.map D.str), D.tup (bs.map D.str)])) ow]
        rw [if_pos rfl]
        rfl
      refine ⟨isf, lzn 2, ?_⟩
      unfold fAppend
      simp only [gf, GS.set_set]
      exact ⟨by have := gsz _ er; simp only [List.length_singleton] at this; omega, fin _ er⟩
    | @iff m t a b h1 l1 l2 h3 h4 =>
      have ix0 : ∀ (S : GS) (Q : D → GS → Prop), oIx (.tup [.str "if", t, .tup a, .tup b]) (.int 0) S Q = Q (.str "if") S := fun S Q => ix_eq (n := 0) rfl rfl
      simp only [x_tupZip, x_dpop, x_dcT, x_iZip, x_listZip, x_md, x_zipR, x_zipD, x_listRg1, x_listRg2, x_sortItems, x_listItems, x_back, x_ifT, x_sortSet, x_get1, x_get2, fnAt, x_lc, x_lcN, x_var, x_C, x_op, x_un, x_slice, x_noPart, x_part, x_tru, x_B, x_chain, x_and, x_or, x_not, x_andV, x_orV, x_notB, x_if, x_nil, x_cons, x_tup, x_lst, x_call, x_callK, x_gN, x_gT, x_gs0, x_gs1, x_yes, x_iSeq, x_iEn, x_words, x_ml, x_disp, x_d0, x_pnil, x_pcons, csAt, List.getD_cons_zero, List.getD_cons_succ, List.getElem?_cons_zero, List.getElem?_cons_succ, List.set_cons_zero, List.set_cons_succ, x_seq, x_skip, x_ifS, x_ret, x_retN, x_asg, x_par, x_expr, x_brk, x_cnt, ix0, eq_strs ok1 ok1, decide_true, if_true, fLen, f1, lenF, addI]
      unfold sizeS at zs
      rw [parts_if] at zs
      have zs : 1 + ((a.map (sizeS m)).sum + (b.map (sizeS m)).sum) ≤ 100000 := zs
      refine ⟨isf, t, a, b, ow, _, rfl, h3, h4, by omega, by unfold sizeL; omega, by unfold sizeL; omega, wl2, ?_⟩
      simp only [fExtend, gf, la, GS.set_set]
      exact ⟨gsz _ rfl, fin _ rfl⟩
    | @whil m t kp b h1 h2 l1 h3 =>
      have ix0 : ∀ (S : GS) (Q : D → GS → Prop), oIx (.tup [.str "while", t, kp, .tup b]) (.int 0) S Q = Q (.str "while") S := fun S Q => ix_eq (n := 0) rfl rfl
      simp only [x_tupZip, x_dpop, x_dcT, x_iZip, x_listZip, x_md, x_zipR, x_zipD, x_listRg1, x_listRg2, x_sortItems, x_listItems, x_back, x_ifT, x_sortSet, x_get1, x_get2, fnAt, x_lc, x_lcN, x_var, x_C, x_op, x_un, x_slice, x_noPart, x_part, x_tru, x_B, x_chain, x_and, x_or, x_not, x_andV, x_orV, x_notB, x_if, x_nil, x_cons, x_tup, x_lst, x_call, x_callK, x_gN, x_gT, x_gs0, x_gs1, x_yes, x_iSeq, x_iEn, x_words, x_ml, x_disp, x_d0, x_pnil, x_pcons, csAt, List.getD_cons_zero, List.getD_cons_succ, List.getElem?_cons_zero, List.getElem?_cons_succ, List.set_cons_zero, List.set_cons_succ, x_seq, x_skip, x_ifS, x_ret, x_retN, x_asg, x_par, x_expr, x_brk, x_cnt, ix0, eq_strs ok2 ok1, eq_strs ok2 ok2, whi, decide_true, decide_false, Bool.false_eq_true, if_false, if_true, fLen, f1, lenF, addI]
      unfold sizeS at zs
      rw [parts_while] at zs
      have zs : 1 + ((b.map (sizeS m)).sum + 0) ≤ 100000 := zs
      refine ⟨isf, t, kp, b, ow, _, rfl, h3, by omega, by unfold sizeL; omega, wl2, ?_⟩
      simp only [fExtend, gf, la, GS.set_set]
      exact ⟨gsz _ rfl, fin _ rfl⟩
  · rintro ρ _ ⟨todo, i, acc, x4, x5, x6, hr, hsub, hal, ⟨m, hm⟩, rfl, rfl⟩
    cases todo with
    | cons _ _ => cases hr
    | nil =>
    have ha : acc = rowsF n ss way st := by
      rcases hm with ⟨rfl, hm⟩ | ⟨_, hm⟩
      · exact hm
      · exact hm
    refine ⟨trivial, ?_⟩
    have gf : (S.set pf (.lst acc)).g pf = some (.lst acc) := GS.set_same
    dsimp only
    rw [x_seq, x_frzL rfl gf, GS.del_set hpf]
    simp only [x_tupZip, x_dpop, x_dcT, x_iZip, x_listZip, x_md, x_zipR, x_zipD, x_listRg1, x_listRg2, x_sortItems, x_listItems, x_back, x_ifT, x_sortSet, x_get1, x_get2, fnAt, x_lc, x_lcN, x_var, x_C, x_op, x_un, x_slice, x_noPart, x_part, x_tru, x_B, x_chain, x_and, x_or, x_not, x_andV, x_orV, x_notB, x_if, x_nil, x_cons, x_tup, x_lst, x_call, x_callK, x_gN, x_gT, x_gs0, x_gs1, x_yes, x_iSeq, x_iEn, x_words, x_ml, x_disp, x_d0, x_pnil, x_pcons, csAt, List.getD_cons_zero, List.getD_cons_succ, List.getElem?_cons_zero, List.getElem?_cons_succ, List.set_cons_zero, List.set_cons_succ, x_seq, x_skip, x_ifS, x_ret, x_retN, x_asg, x_par, x_expr, x_brk, x_cnt]
    rw [ha]
    exact ⟨S, .refl S, hR⟩
end
end K32

namespace K32
open PySem PySem.Spec L2 Dv
open PyProof.Rows hiding St
/-! ### rows, at any depth; code_of, row_ways -/
def rowsD (ss : List D) : List D := rowsF 6 ss [] 0
def fstD : D → D
  | .tup [a, _] => a
  | d => d
def sndD : D → D
  | .tup [_, b] => b
  | d => d
theorem rowOf_shape {rec : List D → List Int → Int → List D} (hr : ∀ ss way st, ∀ z ∈ rec ss way st, ∃ r w, z = rowW r w) (s : D) (own : List Int) (st : Int) : ∀ z ∈ rowOf rec s own st, ∃ r w, z = rowW r w := fun z m => by
  unfold rowOf at m
  split at m
  · rcases List.mem_cons.mp m with rfl | m
    · exact ⟨_, _, rfl⟩
    · rcases List.mem_append.mp m with m | m
      · exact hr _ _ _ z m
      · rw [List.mem_singleton.mp m]; exact ⟨_, _, rfl⟩
  · split at m
    · rcases List.mem_cons.mp m with rfl | m
      · exact ⟨_, _, rfl⟩
      · exact hr _ _ _ z m
    · rcases List.mem_cons.mp m with rfl | m
      · exact ⟨_, _, rfl⟩
      · rcases List.mem_append.mp m with m | m
        · exact hr _ _ _ z m
        · rcases List.mem_cons.mp m with rfl | m
          · exact ⟨_, _, rfl⟩
          · exact hr _ _ _ z m
  · rw [List.mem_singleton.mp m]; exact ⟨_, _, rfl⟩
theorem rows_shape : ∀ (n : Nat) (ss : List D) (way : List Int) (st : Int), ∀ z ∈ rowsF n ss way st, ∃ r w, z = rowW r w
  | 0, _, _, _, z, m => by cases m
  | n + 1, ss, way, st, z, m => by
    have key : ∀ (l : List D) (i : Nat) (acc : List D), (∀ z ∈ acc, ∃ r w, z = rowW r w) → ∀ z ∈ rowsL (rowsF n) way st l i acc, ∃ r w, z = rowW r w := fun l => by
      induction l with
      | nil => exact fun i acc h => h
      | cons s r ih =>
        intro i acc h
        refine ih (i + 1) _ fun z m => ?_
        rcases List.mem_append.mp m with m | m
        · exact h z m
        · exact rowOf_shape (rows_shape n) s _ _ z m
    exact key ss 0 [] (fun z m => by cases m) z m
section
variable {P : Program} {w : World} {K : PySem.W.Frag} {mg : Str → Option Value} {base : Heap} {k : Nat}
theorem fn_rows_all (dI : Df K mg "rows_of_if" s_rows_of_if ["statement", "way", "start"] []) (bI : BlIn mg ["len"]) (dW : Df K mg "rows_of_while" s_rows_of_while ["statement", "way", "start"] []) (bW : BlIn mg ["len"]) (dR : Df K mg "rows_within" s_rows_within ["statements", "way", "start"] []) (bR : BlIn mg ["enumerate", "len"]) : ∀ n : Nat, FnIn P w K mg base DS (k + 2 * n) ⟨"rows_within", 3, sp_rows n, []⟩
  | 0 => fn_false dR
  | 1 => by
    have e : k + 2 * 1 = (k + 1) + 1 := by omega
    rw [e]
    exact fn_rows_of 0 (fn_false dI) (fn_false dW) dR bR
  | m + 2 => by
    have ih := fn_rows_all dI bI dW bW dR bR (m + 1)
    have e : k + 2 * (m + 2) = (k + 2 * (m + 1) + 1) + 1 := by omega
    rw [e]
    exact fn_rows_of (m + 1) (fn_if_of m ih dI bI) (fn_while_of m ih dW bW) dR bR
def sp_rows_within : WF := sp_rows 7
theorem fn_rows_within (dI : Df K mg "rows_of_if" s_rows_of_if ["statement", "way", "start"] []) (bI : BlIn mg ["len"]) (dW : Df K mg "rows_of_while" s_rows_of_while ["statement", "way", "start"] []) (bW : BlIn mg ["len"]) (dR : Df K mg "rows_within" s_rows_within ["statements", "way", "start"] []) (bR : BlIn mg ["enumerate", "len"]) : FnIn P w K mg base DS (k + 14) ⟨"rows_within", 3, sp_rows_within, []⟩ := fn_rows_all dI bI dW bW dR bR 7
def codeD (ss : List D) : D := .tup ((rowsD ss).map fstD ++ [.tup [.str "back"]])
def waysD (ss : List D) : D := .tup ((rowsD ss).map sndD ++ [.tup []])
/-- a function's body -/
structure FnIs (fd : D) (ss : List D) : Prop where
  ex : ∃ fs : List D, fd = .tup fs ∧ fs[6]? = some (.tup ss)
  ok : ∀ s ∈ ss, StmOk 6 s
  sz : sizeL 6 ss ≤ 100000
theorem FnIs.ix {fd : D} {ss : List D} (h : FnIs fd ss) (S : GS) (Q : D → GS → Prop) : oIx fd (.int 6) S Q = Q (.tup ss) S := by
  obtain ⟨fs, rfl, e⟩ := h.ex
  exact ix_eq (n := 6) rfl e
theorem FnIs.rows {fd : D} {ss : List D} (h : FnIs fd ss) {S : GS} {Q : D → GS → Prop} (q : Q (.lst (rowsD ss)) S) : sp_rows_within [.tup ss, .tup [], .int 0] S Q := ⟨ss, [], 0, rfl, h.ok, (by decide : 6 ≤ 20), h.sz, (by decide : 0 + 2 * 6 ≤ 1000), q⟩
theorem FnIs.len {fd : D} {ss : List D} (h : FnIs fd ss) : (rowsD ss).length ≤ 200000 := by
  have := rows_len 6 ss [] 0
  have := h.sz
  show (rowsF 6 ss [] 0).length ≤ _
  omega
def sp_code_of : WF := fun ds S R => ∃ (fd : D) (ss : List D), ds = [fd] ∧ FnIs fd ss ∧ R (codeD ss) S
theorem fn_code_of (c1 : FnIn P w K mg base DS k ⟨"rows_within", 3, sp_rows_within, []⟩) (d : Df K mg "code_of" s_code_of ["function"] [(0, ["function"], [0])]) (hb : BlIn mg ["tuple"]) : FnIn P w K mg base DS (k + 1) ⟨"code_of", 1, sp_code_of, [(0, ["function"], [0])]⟩ := by
  refine fn_mkL d sc_code_of rfl (fns := [⟨"rows_within", 3, sp_rows_within, []⟩]) (cs := []) ⟨c1, trivial⟩ trivial hb (fun X o => (s_cons (s_ret (e_toTup o (a_cons (e_add (e_lc o [("row", 1), ("way", 2)] (i_seq (e_call o 0 (a_cons (e_ix o (e_var o 0) e_int) (a_cons (e_tup a_nil) (a_cons e_int a_nil))))) (cg_tup 2 (cg_cons (cg_name 1) (cg_cons (cg_name 2) cg_nil))) (fun Y _ o1 => l_nil) (fun Y _ o1 => (e_var o1 1))) (e_lst (a_cons (e_tup (a_cons e_str a_nil)) a_nil))) a_nil)))
  s_nil)) ?_
  intro ds S R hl h
  obtain ⟨fd, ss, rfl, F, hR⟩ := h
  have rl := F.len
  show wSeq _ _ _ [some fd, none, none] S
  simp only [x_tupZip, x_dpop, x_dcT, x_iZip, x_listZip, x_md, x_zipR, x_zipD, x_listRg1, x_listRg2, x_sortItems, x_listItems, x_back, x_ifT, x_sortSet, x_get1, x_get2, fnAt, x_lc, x_lcN, x_var, x_C, x_op, x_un, x_slice, x_noPart, x_part, x_tru, x_B, x_chain, x_and, x_or, x_not, x_andV, x_orV, x_notB, x_if, x_nil, x_cons, x_tup, x_lst, x_call, x_callK, x_gN, x_gT, x_gs0, x_gs1, x_yes, x_iSeq, x_iEn, x_words, x_ml, x_disp, x_d0, x_pnil, x_pcons, csAt, List.getD_cons_zero, List.getD_cons_succ, List.getElem?_cons_zero, List.getElem?_cons_succ, List.set_cons_zero, List.set_cons_succ, x_seq, x_skip, x_ifS, x_ret, x_retN, x_asg, x_par, x_expr, x_brk, x_cnt]
  refine lc_mapA (gd := []) (rowsD ss) id fstD (fun Q q => ?_) trivial (by rw [sizeLine_eq]; omega) (fun z mz Q q => ?_) ?_
  · simp only [x_tupZip, x_dpop, x_dcT, x_iZip, x_listZip, x_md, x_zipR, x_zipD, x_listRg1, x_listRg2, x_sortItems, x_listItems, x_back, x_ifT, x_sortSet, x_get1, x_get2, fnAt, x_lc, x_lcN, x_var, x_C, x_op, x_un, x_slice, x_noPart, x_part, x_tru, x_B, x_chain, x_and, x_or, x_not, x_andV, x_orV, x_notB, x_if, x_nil, x_cons, x_tup, x_lst, x_call, x_callK, x_gN, x_gT, x_gs0, x_gs1, x_yes, x_iSeq, x_iEn, x_words, x_ml, x_disp, x_d0, x_pnil, x_pcons, csAt, List.getD_cons_zero, List.getD_cons_succ, List.getElem?_cons_zero, List.getElem?_cons_succ, List.set_cons_zero, List.set_cons_succ, F.ix]
    rw [List.map_id] at q
    exact ⟨lzn 0, F.rows q⟩
  · obtain ⟨r, w', rfl⟩ := rows_shape 6 ss [] 0 z mz
    refine turn_tupE [some fd, some r, some (wayD w')] rfl ?_
    simp only [x_tupZip, x_dpop, x_dcT, x_iZip, x_listZip, x_md, x_zipR, x_zipD, x_listRg1, x_listRg2, x_sortItems, x_listItems, x_back, x_ifT, x_sortSet, x_get1, x_get2, fnAt, x_lc, x_lcN, x_var, x_C, x_op, x_un, x_slice, x_noPart, x_part, x_tru, x_B, x_chain, x_and, x_or, x_not, x_andV, x_orV, x_notB, x_if, x_nil, x_cons, x_tup, x_lst, x_call, x_callK, x_gN, x_gT, x_gs0, x_gs1, x_yes, x_iSeq, x_iEn, x_words, x_ml, x_disp, x_d0, x_pnil, x_pcons, csAt, List.getD_cons_zero, List.getD_cons_succ, List.getElem?_cons_zero, List.getElem?_cons_succ, List.set_cons_zero, List.set_cons_succ]
    exact q
  · refine ⟨lzn 1, lzn 1, ?_⟩
    rw [addL]
    refine ⟨by rw [List.length_map, sizeLine_eq]; simp only [List.length_cons, List.length_nil]; omega, ?_⟩
    rw [tup_lst]
    exact ⟨S, .refl S, hR⟩
def sp_row_ways : WF := fun ds S R => ∃ (fd : D) (ss : List D), ds = [fd] ∧ FnIs fd ss ∧ R (waysD ss) S
theorem fn_row_ways (c1 : FnIn P w K mg base DS k ⟨"rows_within", 3, sp_rows_within, []⟩) (d : Df K mg "row_ways" s_row_ways ["function"] [(0, ["function"], [0])]) (hb : BlIn mg ["tuple"]) : FnIn P w K mg base DS (k + 1) ⟨"row_ways", 1, sp_row_ways, [(0, ["function"], [0])]⟩ := by
  refine fn_mkL d sc_row_ways rfl (fns := [⟨"rows_within", 3, sp_rows_within, []⟩]) (cs := []) ⟨c1, trivial⟩ trivial hb (fun X o => (s_cons (s_ret (e_toTup o (a_cons (e_add (e_lc o [("row", 1), ("way", 2)] (i_seq (e_call o 0 (a_cons (e_ix o (e_var o 0) e_int) (a_cons (e_tup a_nil) (a_cons e_int a_nil))))) (cg_tup 2 (cg_cons (cg_name 1) (cg_cons (cg_name 2) cg_nil))) (fun Y _ o1 => l_nil) (fun Y _ o1 => (e_var o1 2))) (e_lst (a_cons (e_tup a_nil) a_nil))) a_nil)))
  s_nil)) ?_
  intro ds S R hl h
  obtain ⟨fd, ss, rfl, F, hR⟩ := h
  have rl := F.len
  show wSeq _ _ _ [some fd, none, none] S
  simp only [x_tupZip, x_dpop, x_dcT, x_iZip, x_listZip, x_md, x_zipR, x_zipD, x_listRg1, x_listRg2, x_sortItems, x_listItems, x_back, x_ifT, x_sortSet, x_get1, x_get2, fnAt, x_lc, x_lcN, x_var, x_C, x_op, x_un, x_slice, x_noPart, x_part, x_tru, x_B, x_chain, x_and, x_or, x_not, x_andV, x_orV, x_notB, x_if, x_nil, x_cons, x_tup, x_lst, x_call, x_callK, x_gN, x_gT, x_gs0, x_gs1, x_yes, x_iSeq, x_iEn, x_words, x_ml, x_disp, x_d0, x_pnil, x_pcons, csAt, List.getD_cons_zero, List.getD_cons_succ, List.getElem?_cons_zero, List.getElem?_cons_succ, List.set_cons_zero, List.set_cons_succ, x_seq, x_skip, x_ifS, x_ret, x_retN, x_asg, x_par, x_expr, x_brk, x_cnt]
  refine lc_mapA (gd := []) (rowsD ss) id sndD (fun Q q => ?_) trivial (by rw [sizeLine_eq]; omega) (fun z mz Q q => ?_) ?_
  · simp only [x_tupZip, x_dpop, x_dcT, x_iZip, x_listZip, x_md, x_zipR, x_zipD, x_listRg1, x_listRg2, x_sortItems, x_listItems, x_back, x_ifT, x_sortSet, x_get1, x_get2, fnAt, x_lc, x_lcN, x_var, x_C, x_op, x_un, x_slice, x_noPart, x_part, x_tru, x_B, x_chain, x_and, x_or, x_not, x_andV, x_orV, x_notB, x_if, x_nil, x_cons, x_tup, x_lst, x_call, x_callK, x_gN, x_gT, x_gs0, x_gs1, x_yes, x_iSeq, x_iEn, x_words, x_ml, x_disp, x_d0, x_pnil, x_pcons, csAt, List.getD_cons_zero, List.getD_cons_succ, List.getElem?_cons_zero, List.getElem?_cons_succ, List.set_cons_zero, List.set_cons_succ, F.ix]
    rw [List.map_id] at q
    exact ⟨lzn 0, F.rows q⟩
  · obtain ⟨r, w', rfl⟩ := rows_shape 6 ss [] 0 z mz
    refine turn_tupE [some fd, some r, some (wayD w')] rfl ?_
    simp only [x_tupZip, x_dpop, x_dcT, x_iZip, x_listZip, x_md, x_zipR, x_zipD, x_listRg1, x_listRg2, x_sortItems, x_listItems, x_back, x_ifT, x_sortSet, x_get1, x_get2, fnAt, x_lc, x_lcN, x_var, x_C, x_op, x_un, x_slice, x_noPart, x_part, x_tru, x_B, x_chain, x_and, x_or, x_not, x_andV, x_orV, x_notB, x_if, x_nil, x_cons, x_tup, x_lst, x_call, x_callK, x_gN, x_gT, x_gs0, x_gs1, x_yes, x_iSeq, x_iEn, x_words, x_ml, x_disp, x_d0, x_pnil, x_pcons, csAt, List.getD_cons_zero, List.getD_cons_succ, List.getElem?_cons_zero, List.getElem?_cons_succ, List.set_cons_zero, List.set_cons_succ]
    exact q
  · refine ⟨lzn 0, lzn 1, ?_⟩
    rw [addL]
    refine ⟨by rw [List.length_map, sizeLine_eq]; simp only [List.length_cons, List.length_nil]; omega, ?_⟩
    rw [tup_lst]
    exact ⟨S, .refl S, hR⟩
end
end K32

namespace K32
open PySem PySem.Spec L2 Dv
open PyProof.Rows hiding St
/-! ### the law's rows -/
theorem rows_nil : ∀ (n : Nat) (way : List Int) (st : Int), rowsF n [] way st = []
  | 0, _, _ => rfl
  | _ + 1, _, _ => rfl
theorem less_del {S S' : GS} {p : Addr} (l : Less S S') (h : S.g p = none) : Less S (S'.del p) := by
  refine ⟨fun a m e => ?_, l.2⟩
  have ne : a ≠ p := fun z => by rw [z, h] at e; cases e
  show (if a = p then none else S'.g a) = _
  rw [if_neg ne]
  exact l.1 a m e
theorem less_none {S S' : GS} {p : Addr} (l : Less S S') (h : S'.g p = none) : S.g p = none := by
  cases q : S.g p with
  | none => rfl
  | some m => rw [l.1 p m q] at h; cases h
section
variable {P : Program} {w : World} {K : PySem.W.Frag} {mg : Str → Option Value} {base : Heap} {k : Nat}
theorem fn_lrows_of (n : Nat) (c1 : FnIn P w K mg base DS k ⟨"_law_rows", 3, sp_rows n, []⟩) (d : Df K mg "_law_rows" s__law_rows ["statements", "way", "begin"] []) (hb : BlIn mg ["enumerate", "len"]) : FnIn P w K mg base DS (k + 1) ⟨"_law_rows", 3, sp_rows (n + 1), []⟩ := by
  refine fn_mkL d sc__law_rows rfl (fns := [⟨"_law_rows", 3, sp_rows n, []⟩]) (cs := []) ⟨c1, trivial⟩ trivial hb (fun X o => (s_cons (s_set o 3 (e_lstN a_nil))
  (s_cons (s_L (s_for o (i_enum o (e_var o 0)) (g_tup o 2 (g_cons (g_name o 4) (g_cons (g_name o 5) g_nil)))
  (ss_L (s_cons (s_par o 6 7 (a_cons (e_add (e_var o 1) (e_tup (a_cons (e_var o 4) a_nil))) (a_cons (e_add (e_var o 2) (e_len o (a_cons (e_var o 3) a_nil))) a_nil)))
  (s_cons (s_if (t_cmp o c_eq (e_ix o (e_var o 5) e_int) e_str)
  (s_cons (s_set o 8 (e_call o 0 (a_cons (e_ix o (e_var o 5) e_int) (a_cons (e_add (e_var o 6) (e_tup (a_cons e_int a_nil))) (a_cons (e_add (e_var o 7) e_int) a_nil)))))
  (s_cons (s_set o 9 (e_call o 0 (a_cons (e_ix o (e_var o 5) e_int) (a_cons (e_add (e_var o 6) (e_tup (a_cons e_int a_nil))) (a_cons (e_add (e_add (e_var o 7) e_int) (e_len o (a_cons (e_var o 8) a_nil))) a_nil)))))
  (s_cons (s_set o 10 (e_add (e_add (e_var o 7) e_int) (e_len o (a_cons (e_var o 8) a_nil))))
  (s_cons (s_if (t_cmp o c_ne (e_ix o (e_var o 5) e_int) (e_tup a_nil))
  (s_cons (s_set o 10 (e_add (e_var o 10) e_int))
  (s_cons (s_set o 8 (e_add (e_var o 8) (e_lst (a_cons (e_tup (a_cons (e_tup (a_cons e_str (a_cons (e_add (e_var o 10) (e_len o (a_cons (e_var o 9) a_nil))) a_nil))) (a_cons (e_var o 6) a_nil))) a_nil))))
  s_nil))
  s_nil)
  (s_cons (s_set o 3 (e_addN (e_add (e_add (e_var o 3) (e_lst (a_cons (e_tup (a_cons (e_tup (a_cons e_str (a_cons (e_ix o (e_var o 5) e_int) (a_cons (e_var o 10) a_nil)))) (a_cons (e_var o 6) a_nil))) a_nil))) (e_var o 8)) (e_var o 9)))
  s_nil)))))
  (s_cons (s_if (t_cmp o c_eq (e_ix o (e_var o 5) e_int) e_str)
  (s_cons (s_set o 11 (e_call o 0 (a_cons (e_ix o (e_var o 5) e_int) (a_cons (e_add (e_var o 6) (e_tup (a_cons e_int a_nil))) (a_cons (e_add (e_var o 7) e_int) a_nil)))))
  (s_cons (s_set o 3 (e_addN (e_add (e_add (e_var o 3) (e_lst (a_cons (e_tup (a_cons (e_tup (a_cons e_str (a_cons (e_ix o (e_var o 5) e_int) (a_cons (e_add (e_add (e_var o 7) e_int) (e_len o (a_cons (e_var o 11) a_nil))) a_nil)))) (a_cons (e_var o 6) a_nil))) a_nil))) (e_var o 11)) (e_lst (a_cons (e_tup (a_cons (e_tup (a_cons e_str (a_cons (e_var o 7) a_nil))) (a_cons (e_var o 6) a_nil))) a_nil))))
  s_nil))
  (s_cons (s_expr (e_append (e_var o 3) (a_cons (e_tup (a_cons (e_slice (e_var o 5) p_none (p_some e_int)) (a_cons (e_var o 6) a_nil))) a_nil)))
  s_nil))
  s_nil))
  s_nil)))))
  (s_cons (s_frz 3 (s_ret (e_var o 3)))
  s_nil)))) ?_
  intro ds S R hl h
  obtain ⟨ss, way, st, rfl, hs, hn, hz, wl, hR⟩ := h
  have ln := len_size hs
  obtain ⟨ok1, ok2, ok3, ok4⟩ := wordS_ok
  have cif : ¬ ("call" : Str) = "if" := by decide +kernel
  have cwh : ¬ ("call" : Str) = "while" := by decide +kernel
  have whi : ¬ ("while" : Str) = "if" := by decide +kernel
  have tot := Nat.le_trans (rows_len n ss way st) (Nat.mul_le_mul_left 2 hz)
  have addW : ∀ (way : List Int) (x : Int) (S : GS) (Q : D → GS → Prop), way.length ≤ 1000 → Q (wayD (way ++ [x])) S → oAdd (wayD way) (.tup [.int x]) S Q := fun way x S Q wl q => by
    show _ ∧ _
    refine ⟨by rw [List.length_map, sizeLine_eq]; simp only [List.length_cons, List.length_nil]; omega, ?_⟩
    rw [show way.map D.int ++ [D.int x] = (way ++ [x]).map D.int by rw [List.map_append]; rfl]
    exact q
  show wSeq _ _ _ [some (.tup ss), some (wayD way), some (.int st), none, none, none, none, none, none, none, none, none] S
  rw [x_seq]
  simp only [x_asg, x_tupZip, x_dpop, x_dcT, x_iZip, x_listZip, x_md, x_zipR, x_zipD, x_listRg1, x_listRg2, x_sortItems, x_listItems, x_back, x_ifT, x_sortSet, x_get1, x_get2, fnAt, x_lc, x_lcN, x_var, x_C, x_op, x_un, x_slice, x_noPart, x_part, x_tru, x_B, x_chain, x_and, x_or, x_not, x_andV, x_orV, x_notB, x_if, x_nil, x_cons, x_tup, x_lst, x_call, x_callK, x_gN, x_gT, x_gs0, x_gs1, x_yes, x_iSeq, x_iEn, x_words, x_ml, x_disp, x_d0, x_pnil, x_pcons, csAt, List.getD_cons_zero, List.getD_cons_succ, List.getElem?_cons_zero, List.getElem?_cons_succ, List.set_cons_zero, List.set_cons_succ, x_lstN]
  refine ⟨lzn 0, fun pf hpf => ?_⟩
  generalize hSs : D.tup ss = Ss
  show wSeq _ _ _ [some Ss, some (wayD way), some (.int st), some (.ref pf), none, none, none, none, none, none, none, none] (S.set pf (.lst []))
  rw [x_seq]
  refine for_L4 _ (.refl _) (fun ds gd S1 => ds = enD 0 ss ∧ gd = [] ∧ S.set pf (.lst []) = S1) (fun Q q => ?_) ?_
  · simp only [x_tupZip, x_dpop, x_dcT, x_iZip, x_listZip, x_md, x_zipR, x_zipD, x_listRg1, x_listRg2, x_sortItems, x_listItems, x_back, x_ifT, x_sortSet, x_get1, x_get2, fnAt, x_lc, x_lcN, x_var, x_C, x_op, x_un, x_slice, x_noPart, x_part, x_tru, x_B, x_chain, x_and, x_or, x_not, x_andV, x_orV, x_notB, x_if, x_nil, x_cons, x_tup, x_lst, x_call, x_callK, x_gN, x_gT, x_gs0, x_gs1, x_yes, x_iSeq, x_iEn, x_words, x_ml, x_disp, x_d0, x_pnil, x_pcons, csAt, List.getD_cons_zero, List.getD_cons_succ, List.getElem?_cons_zero, List.getElem?_cons_succ, List.set_cons_zero, List.set_cons_succ]
    rw [← hSs]
    exact q _ _ _ ⟨rfl, rfl, rfl⟩
  rintro _ _ _ ⟨rfl, rfl, rfl⟩
  refine for_body (fun rest ρ S' => ∃ (todo : List D) (i : Nat) (acc : List D) (pm : Addr) (x4 x5 x6 x7 x8 x9 x10 x11 : Option D), rest = enD i todo ∧ (∀ s ∈ todo, s ∈ ss) ∧ (acc.length ≤ 200000) ∧ (∃ m, n = m + 1 ∧ rowsL (rowsF m) way st todo i acc = rowsF n ss way st ∨ todo = [] ∧ acc = rowsF n ss way st) ∧
      ρ = [some Ss, some (wayD way), some (.int st), some (.ref pm), x4, x5, x6, x7, x8, x9, x10, x11] ∧ S.g pm = none ∧ S'.g pm = some (.lst acc) ∧ Less S S') _ (.refl _)
    ⟨ss, 0, [], pf, none, none, none, none, none, none, none, none, rfl, fun s m => m, Nat.zero_le _, ?_, rfl, hpf, GS.set_same, .new hpf⟩ ?_ ?_
  · cases n with
    | zero =>
      have e : ss = [] := by
        cases ss with
        | nil => rfl
        | cons s r => cases hs s (by simp)
      subst e
      exact ⟨0, .inr ⟨rfl, rfl⟩⟩
    | succ m => exact ⟨m, .inl ⟨rfl, rfl⟩⟩
  · rintro z rest ρ S' ⟨todo, i, acc, pm, x4, x5, x6, x7, x8, x9, x10, x11, hr, hsub, hal, ⟨m, hm⟩, rfl, hpm, gf, L⟩
    cases todo with
    | nil => cases hr
    | cons s todo =>
    obtain ⟨rfl, hm⟩ := hm.resolve_right fun q => by cases q.1
    have hr : z :: rest = .pr [.int (i : Nat), s] :: enD (i + 1) todo := hr
    obtain ⟨rfl, rfl⟩ := List.cons.inj hr
    have hsm := hs s (hsub s (by simp))
    have isf : isLs S' (.ref pm) = true := by simp only [isLs, gf]
    have lenF : lenD S' (.ref pm) = some acc.length := len_seq (asQ_lref gf)
    have hm2 : rowsL (rowsF m) way st todo (i + 1) (acc ++ rowOf (rowsF m) s (way ++ [(i : Int)]) (st + (acc.length : Nat))) = rowsF (m + 1) ss way st := hm
    have hal2 : (acc ++ rowOf (rowsF m) s (way ++ [(i : Int)]) (st + (acc.length : Nat))).length ≤ 200000 := by
      have := rowsL_mono (rec := rowsF m) (way := way) (st := st) todo (i + 1) (acc ++ rowOf (rowsF m) s (way ++ [(i : Int)]) (st + (acc.length : Nat)))
      rw [hm2] at this
      omega
    have zs := Nat.le_trans (size_one (n := m + 1) (hsub s (by simp))) hz
    have wl2 : (way ++ [(i : Int)]).length + 2 * m + 1 ≤ 1000 := by rw [List.length_append]; simp only [List.length_singleton]; omega
    refine ⟨trivial, [some Ss, some (wayD way), some (.int st), some (.ref pm), some (.int (i : Nat)), some s, x6, x7, x8, x9, x10, x11], fun S2 Q q => ⟨rfl, rfl, q⟩, ?_⟩
    rw [x_seq]
    simp only [x_par, x_tupZip, x_dpop, x_dcT, x_iZip, x_listZip, x_md, x_zipR, x_zipD, x_listRg1, x_listRg2, x_sortItems, x_listItems, x_back, x_ifT, x_sortSet, x_get1, x_get2, fnAt, x_lc, x_lcN, x_var, x_C, x_op, x_un, x_slice, x_noPart, x_part, x_tru, x_B, x_chain, x_and, x_or, x_not, x_andV, x_orV, x_notB, x_if, x_nil, x_cons, x_tup, x_lst, x_call, x_callK, x_gN, x_gT, x_gs0, x_gs1, x_yes, x_iSeq, x_iEn, x_words, x_ml, x_disp, x_d0, x_pnil, x_pcons, csAt, List.getD_cons_zero, List.getD_cons_succ, List.getElem?_cons_zero, List.getElem?_cons_succ, List.set_cons_zero, List.set_cons_succ, fLen, f1, lenF, addI]
    refine ⟨lzn 1, addW way (i : Nat) _ _ (by omega) ?_⟩
    simp only [lenF]
    generalize hOw : way ++ [(i : Int)] = ow at *
    generalize hPl : st + (acc.length : Nat) = pl at *
    have hsub' : ∀ x ∈ todo, x ∈ ss := fun x m => hsub x (by simp [m])
    have rr : ∀ (l : List D) (x : Int) (b : Int) (S : GS) (Q : D → GS → Prop), (∀ s ∈ l, StmOk m s) → sizeL m l ≤ 100000 → Q (.lst (rowsF m l (ow ++ [x]) b)) S → sp_rows (m + 1) [.tup l, wayD (ow ++ [x]), .int b] S Q := fun l x b S Q h1 h2 q => ⟨l, ow ++ [x], b, rfl, h1, by omega, h2, by rw [List.length_append]; simp only [List.length_singleton]; omega, q⟩
    have gsz : ∀ ds : List D, ds = rowOf (rowsF m) s ow pl → acc.length + ds.length ≤ sizeLine := fun ds e => by
      subst e
      rw [List.length_append] at hal2
      rw [sizeLine_eq]
      omega
    have lnF : ∀ (S : GS) (l : List D), lenD S (.lst l) = some l.length := fun S l => len_seq (S := S) (d := .lst l) (ds := l) rfl
    have addR : ∀ (ys : List D) (Q : D → GS → Prop), acc.length + ys.length ≤ sizeLine → Q (.lst (acc ++ ys)) S' → oAdd (.ref pm) (.lst ys) S' Q := fun ys Q hz q => by
      unfold oAdd
      simp only [asL, gf]
      exact ⟨hz, q⟩
    have addN : ∀ (xs ys : List D) (S : GS) (Q : D → GS → Prop), xs.length + ys.length ≤ sizeLine → (∀ p, S.g p = none → Q (.ref p) (S.set p (.lst (xs ++ ys)))) → oAddN (.lst xs) (.lst ys) S Q := fun xs ys S Q h1 h2 => by
      unfold oAddN
      simp only [la]
      exact ⟨h1, h2⟩
    show wSeq _ _ _ [some Ss, some (wayD way), some (.int st), some (.ref pm), some (.int (i : Nat)), some s, some (wayD ow), some (.int pl), x8, x9, x10, x11] S'
    cases hsm with
    | @simp m k xs h1 h2 h3 =>
      obtain ⟨w1, w2, w3, w4⟩ := ok4 k h1
      have ix0 : ∀ (S : GS) (Q : D → GS → Prop), oIx (.tup (.str k :: xs.map D.str)) (.int 0) S Q = Q (.str k) S := fun S Q => ix_eq (n := 0) rfl rfl
      simp only [x_tupZip, x_dpop, x_dcT, x_iZip, x_listZip, x_md, x_zipR, x_zipD, x_listRg1, x_listRg2, x_sortItems, x_listItems, x_back, x_ifT, x_sortSet, x_get1, x_get2, fnAt, x_lc, x_lcN, x_var, x_C, x_op, x_un, x_slice, x_noPart, x_part, x_tru, x_B, x_chain, x_and, x_or, x_not, x_andV, x_orV, x_notB, x_if, x_nil, x_cons, x_tup, x_lst, x_call, x_callK, x_gN, x_gT, x_gs0, x_gs1, x_yes, x_iSeq, x_iEn, x_words, x_ml, x_disp, x_d0, x_pnil, x_pcons, csAt, List.getD_cons_zero, List.getD_cons_succ, List.getElem?_cons_zero, List.getElem?_cons_succ, List.set_cons_zero, List.set_cons_succ, x_seq, x_skip, x_ifS, x_ret, x_retN, x_asg, x_par, x_expr, x_brk, x_cnt, ix0, eq_strs w1 ok1, eq_strs w1 ok2, w2, w3, decide_false, Bool.false_eq_true, if_false]
      have ecut : Dv.cutD (D.str k :: xs.map D.str) none (some 4) = D.str k :: xs.map D.str := by
        rw [show (some (4 : Int)) = some ((4 : Nat) : Int) from rfl, cut_take, List.take_of_length_le (by rw [List.length_cons, List.length_map]; omega)]
      rw [ecut]
      have er : [D.tup [.tup (.str k :: xs.map D.str), wayD ow]] = rowOf (rowsF m) (.tup (.str k :: xs.map D.str)) ow pl := by
        unfold rowOf
        rw [parts_simp h2]
        show _ = [rowW (if k = "call" then _ else _) ow]
        rw [if_neg w4]
        rfl
      refine ⟨isf, lzn 2, ?_⟩
      unfold fAppend
      simp only [gf]
      rw [er]
      exact ⟨by have := gsz _ er; simp only [List.length_singleton] at this; omega, _, .refl _, todo, i + 1, _, pm, _, _, _, _, _, _, _, _, rfl, hsub', hal2, ⟨m, .inl ⟨rfl, hm2⟩⟩, rfl, hpm, GS.set_same, L.drop hpm⟩
    | @call m x f as bs h1 h2 h3 h4 h5 =>
      have ix0 : ∀ (S : GS) (Q : D → GS → Prop), oIx (.tup [.str "call", .str x, .str f, .tup (as.map D.str), .tup (bs.map D.str)]) (.int 0) S Q = Q (.str "call") S := fun S Q => ix_eq (n := 0) rfl rfl
      simp only [x_tupZip, x_dpop, x_dcT, x_iZip, x_listZip, x_md, x_zipR, x_zipD, x_listRg1, x_listRg2, x_sortItems, x_listItems, x_back, x_ifT, x_sortSet, x_get1, x_get2, fnAt, x_lc, x_lcN, x_var, x_C, x_op, x_un, x_slice, x_noPart, x_part, x_tru, x_B, x_chain, x_and, x_or, x_not, x_andV, x_orV, x_notB, x_if, x_nil, x_cons, x_tup, x_lst, x_call, x_callK, x_gN, x_gT, x_gs0, x_gs1, x_yes, x_iSeq, x_iEn, x_words, x_ml, x_disp, x_d0, x_pnil, x_pcons, csAt, List.getD_cons_zero, List.getD_cons_succ, List.getElem?_cons_zero, List.getElem?_cons_succ, List.set_cons_zero, List.set_cons_succ, x_seq, x_skip, x_ifS, x_ret, x_retN, x_asg, x_par, x_expr, x_brk, x_cnt, ix0, eq_strs ok3 ok1, eq_strs ok3 ok2, cif, cwh, decide_false, Bool.false_eq_true, if_false]
      have ecut : Dv.cutD [D.str "call", D.str x, D.str f, D.tup (as.map D.str), D.tup (bs.map D.str)] none (some 4) = [D.str "call", D.str x, D.str f, D.tup (as.map D.str)] := cut_take _ 4
      rw [ecut]
      have er : [D.tup [.tup [D.str "call", D.str x, D.str f, D.tup (as.map D.str)], wayD ow]] = rowOf (rowsF m) (.tup [.str "call", .str x, .str f, .tup (as.map D.str), .tup (bs.map D.str)]) ow pl := by
        unfold rowOf
        rw [parts_call]
        show _ = [rowW (if ("call" : Str) = "call" then .tup ((D.str "call" :: [D.str x, D.str f, D.tup (as.map D.str), D.tup (bs.map D.str)]).take 4) else .tup (D.str "call" :: [D.str x, D.str f, D.tup (as.map D.str), D.tup (bs.map D.str)])) ow]
        rw [if_pos rfl]
        rfl
      refine ⟨isf, lzn 2, ?_⟩
      unfold fAppend
      simp only [gf]
      rw [er]
      exact ⟨by have := gsz _ er; simp only [List.length_singleton] at this; omega, _, .refl _, todo, i + 1, _, pm, _, _, _, _, _, _, _, _, rfl, hsub', hal2, ⟨m, .inl ⟨rfl, hm2⟩⟩, rfl, hpm, GS.set_same, L.drop hpm⟩
    | @iff m t a b h1 l1 l2 h3 h4 =>
      have ix0 : ∀ (S : GS) (Q : D → GS → Prop), oIx (.tup [.str "if", t, .tup a, .tup b]) (.int 0) S Q = Q (.str "if") S := fun S Q => ix_eq (n := 0) rfl rfl
      have ix1 : ∀ (S : GS) (Q : D → GS → Prop), oIx (.tup [.str "if", t, .tup a, .tup b]) (.int 1) S Q = Q t S := fun S Q => ix_eq (n := 1) rfl rfl
      have ix2 : ∀ (S : GS) (Q : D → GS → Prop), oIx (.tup [.str "if", t, .tup a, .tup b]) (.int 2) S Q = Q (.tup a) S := fun S Q => ix_eq (n := 2) rfl rfl
      have ix3 : ∀ (S : GS) (Q : D → GS → Prop), oIx (.tup [.str "if", t, .tup a, .tup b]) (.int 3) S Q = Q (.tup b) S := fun S Q => ix_eq (n := 3) rfl rfl
      simp only [x_tupZip, x_dpop, x_dcT, x_iZip, x_listZip, x_md, x_zipR, x_zipD, x_listRg1, x_listRg2, x_sortItems, x_listItems, x_back, x_ifT, x_sortSet, x_get1, x_get2, fnAt, x_lc, x_lcN, x_var, x_C, x_op, x_un, x_slice, x_noPart, x_part, x_tru, x_B, x_chain, x_and, x_or, x_not, x_andV, x_orV, x_notB, x_if, x_nil, x_cons, x_tup, x_lst, x_call, x_callK, x_gN, x_gT, x_gs0, x_gs1, x_yes, x_iSeq, x_iEn, x_words, x_ml, x_disp, x_d0, x_pnil, x_pcons, csAt, List.getD_cons_zero, List.getD_cons_succ, List.getElem?_cons_zero, List.getElem?_cons_succ, List.set_cons_zero, List.set_cons_succ, x_seq, x_skip, x_ifS, x_ret, x_retN, x_asg, x_par, x_expr, x_brk, x_cnt, ix0, eq_strs ok1 ok1, decide_true, if_true]
      unfold sizeS at zs
      rw [parts_if] at zs
      have zs : 1 + ((a.map (sizeS m)).sum + (b.map (sizeS m)).sum) ≤ 100000 := zs
      have za : sizeL m a ≤ 100000 := by unfold sizeL; omega
      have zb : sizeL m b ≤ 100000 := by unfold sizeL; omega
      rw [ix2]
      refine ⟨lzn 1, addW ow 0 _ _ (by omega) ?_⟩
      rw [addI]
      refine rr a 0 (pl + 1) _ _ h3 za ?_
      have la2 := Nat.le_trans (rows_len m a (ow ++ [0]) (pl + 1)) (Nat.mul_le_mul_left 2 za)
      have er : rowOf (rowsF m) (.tup [.str "if", t, .tup a, .tup b]) ow pl = if b = [] then rowW (unlessD t (pl + 1 + (rowsF m a (ow ++ [0]) (pl + 1)).length)) ow :: rowsF m a (ow ++ [0]) (pl + 1)
          else rowW (unlessD t (pl + 1 + (rowsF m a (ow ++ [0]) (pl + 1)).length + 1)) ow :: (rowsF m a (ow ++ [0]) (pl + 1) ++ (rowW (jumpD (pl + 1 + (rowsF m a (ow ++ [0]) (pl + 1)).length + 1 + (rowsF m b (ow ++ [1]) (pl + 1 + (rowsF m a (ow ++ [0]) (pl + 1)).length + 1)).length)) ow :: rowsF m b (ow ++ [1]) (pl + 1 + (rowsF m a (ow ++ [0]) (pl + 1)).length + 1))) := by
        unfold rowOf
        rw [parts_if]
      rw [er] at hm2 hal2
      generalize rowsF m a (ow ++ [0]) (pl + 1) = fa at hm2 hal2 la2 ⊢
      rw [ix3]
      refine ⟨lzn 1, addW ow 1 _ _ (by omega) ?_⟩
      simp only [f1, lnF, addI]
      rw [show pl + 2 + ((fa.length : Nat) : Int) = pl + 1 + ((fa.length : Nat) : Int) + 1 by omega]
      refine rr b 1 _ _ _ h4 zb ?_
      have lb2 := Nat.le_trans (rows_len m b (ow ++ [1]) (pl + 1 + (fa.length : Nat) + 1)) (Nat.mul_le_mul_left 2 zb)
      have hbn : b = [] → rowsF m b (ow ++ [1]) (pl + 1 + (fa.length : Nat) + 1) = [] := fun e => by rw [e]; exact rows_nil _ _ _
      generalize rowsF m b (ow ++ [1]) (pl + 1 + (fa.length : Nat) + 1) = fb at hm2 hal2 lb2 hbn ⊢
      rw [ix3]
      refine ⟨lzn 0, ?_⟩
      rw [ne_stms h4 (by omega)]
      by_cases hb0 : b = []
      · rw [if_pos hb0] at hm2 hal2
        have hfb := hbn hb0
        subst hfb
        rw [show (!b.isEmpty) = false by rw [hb0]; rfl]
        simp only [Bool.false_eq_true, if_false]
        rw [ix1]
        refine ⟨lzn 3, lzn 2, lzn 1, addR _ _ (by rw [sizeLine_eq]; simp only [List.length_cons, List.length_nil]; omega) ?_⟩
        rw [addL]
        refine ⟨by rw [sizeLine_eq]; simp only [List.length_append, List.length_cons, List.length_nil]; omega, addN _ _ _ _ (by rw [sizeLine_eq]; simp only [List.length_append, List.length_cons, List.length_nil]; omega) fun p hp => ?_⟩
        have et : acc ++ [D.tup [D.tup [.str "unless", t, .int (pl + 1 + (fa.length : Nat))], wayD ow]] ++ fa ++ [] = acc ++ (rowW (unlessD t (pl + 1 + (fa.length : Nat))) ow :: fa) := by
          simp [rowW, unlessD]
        rw [et]
        exact ⟨_, .refl _, todo, i + 1, _, p, _, _, _, _, _, _, _, _, rfl, hsub', hal2, ⟨m, .inl ⟨rfl, hm2⟩⟩, rfl, less_none L hp, GS.set_same, L.trans (.new hp)⟩
      · rw [if_neg hb0] at hm2 hal2
        rw [show (!b.isEmpty) = true by cases b with | nil => exact absurd rfl hb0 | cons _ _ => rfl]
        simp only [if_true, lnF]
        refine ⟨lzn 2, lzn 2, lzn 1, ?_⟩
        rw [addL]
        refine ⟨by rw [sizeLine_eq]; simp only [List.length_cons, List.length_nil]; omega, ?_⟩
        rw [ix1]
        refine ⟨lzn 3, lzn 2, lzn 1, addR _ _ (by rw [sizeLine_eq]; simp only [List.length_cons, List.length_nil]; omega) ?_⟩
        rw [addL]
        refine ⟨by rw [sizeLine_eq]; simp only [List.length_append, List.length_cons, List.length_nil]; omega, addN _ _ _ _ (by rw [sizeLine_eq]; simp only [List.length_append, List.length_cons, List.length_nil]; omega) fun p hp => ?_⟩
        have et : acc ++ [D.tup [D.tup [.str "unless", t, .int (pl + 1 + (fa.length : Nat) + 1)], wayD ow]] ++ (fa ++ [D.tup [D.tup [.str "jump", .int (pl + 1 + (fa.length : Nat) + 1 + (fb.length : Nat))], wayD ow]]) ++ fb = acc ++ (rowW (unlessD t (pl + 1 + (fa.length : Nat) + 1)) ow :: (fa ++ (rowW (jumpD (pl + 1 + (fa.length : Nat) + 1 + (fb.length : Nat))) ow :: fb))) := by
          simp [rowW, unlessD, jumpD]
        rw [et]
        exact ⟨_, .refl _, todo, i + 1, _, p, _, _, _, _, _, _, _, _, rfl, hsub', hal2, ⟨m, .inl ⟨rfl, hm2⟩⟩, rfl, less_none L hp, GS.set_same, L.trans (.new hp)⟩
    | @whil m t kp b h1 h2 l1 h3 =>
      have ix0 : ∀ (S : GS) (Q : D → GS → Prop), oIx (.tup [.str "while", t, kp, .tup b]) (.int 0) S Q = Q (.str "while") S := fun S Q => ix_eq (n := 0) rfl rfl
      have ix1 : ∀ (S : GS) (Q : D → GS → Prop), oIx (.tup [.str "while", t, kp, .tup b]) (.int 1) S Q = Q t S := fun S Q => ix_eq (n := 1) rfl rfl
      have ix3 : ∀ (S : GS) (Q : D → GS → Prop), oIx (.tup [.str "while", t, kp, .tup b]) (.int 3) S Q = Q (.tup b) S := fun S Q => ix_eq (n := 3) rfl rfl
      simp only [x_tupZip, x_dpop, x_dcT, x_iZip, x_listZip, x_md, x_zipR, x_zipD, x_listRg1, x_listRg2, x_sortItems, x_listItems, x_back, x_ifT, x_sortSet, x_get1, x_get2, fnAt, x_lc, x_lcN, x_var, x_C, x_op, x_un, x_slice, x_noPart, x_part, x_tru, x_B, x_chain, x_and, x_or, x_not, x_andV, x_orV, x_notB, x_if, x_nil, x_cons, x_tup, x_lst, x_call, x_callK, x_gN, x_gT, x_gs0, x_gs1, x_yes, x_iSeq, x_iEn, x_words, x_ml, x_disp, x_d0, x_pnil, x_pcons, csAt, List.getD_cons_zero, List.getD_cons_succ, List.getElem?_cons_zero, List.getElem?_cons_succ, List.set_cons_zero, List.set_cons_succ, x_seq, x_skip, x_ifS, x_ret, x_retN, x_asg, x_par, x_expr, x_brk, x_cnt, ix0, ix3, eq_strs ok2 ok1, eq_strs ok2 ok2, whi, decide_true, decide_false, Bool.false_eq_true, if_false, if_true]
      unfold sizeS at zs
      rw [parts_while] at zs
      have zs : 1 + ((b.map (sizeS m)).sum + 0) ≤ 100000 := zs
      have zb : sizeL m b ≤ 100000 := by unfold sizeL; omega
      refine ⟨lzn 1, addW ow 0 _ _ (by omega) ?_⟩
      rw [addI]
      refine rr b 0 (pl + 1) _ _ h3 zb ?_
      have lb := Nat.le_trans (rows_len m b (ow ++ [0]) (pl + 1)) (Nat.mul_le_mul_left 2 zb)
      have er : rowOf (rowsF m) (.tup [.str "while", t, kp, .tup b]) ow pl = rowW (unlessD t (pl + 1 + (rowsF m b (ow ++ [0]) (pl + 1)).length + 1)) ow :: (rowsF m b (ow ++ [0]) (pl + 1) ++ [rowW (jumpD pl) ow]) := by
        unfold rowOf
        rw [parts_while]
      rw [er] at hm2 hal2
      generalize rowsF m b (ow ++ [0]) (pl + 1) = fb at hm2 hal2 lb ⊢
      rw [ix1]
      simp only [f1, lnF, addI]
      refine ⟨lzn 3, lzn 2, lzn 1, addR _ _ (by rw [sizeLine_eq]; simp only [List.length_cons, List.length_nil]; omega) ?_⟩
      rw [addL]
      refine ⟨by rw [sizeLine_eq]; simp only [List.length_append, List.length_cons, List.length_nil]; omega, lzn 2, lzn 2, lzn 1, addN _ _ _ _ (by rw [sizeLine_eq]; simp only [List.length_append, List.length_cons, List.length_nil]; omega) fun p hp => ?_⟩
      have et : acc ++ [D.tup [D.tup [.str "unless", t, .int (pl + 2 + (fb.length : Nat))], wayD ow]] ++ fb ++ [D.tup [D.tup [.str "jump", .int pl], wayD ow]] = acc ++ (rowW (unlessD t (pl + 1 + (fb.length : Nat) + 1)) ow :: (fb ++ [rowW (jumpD pl) ow])) := by
        rw [show pl + 1 + (fb.length : Nat) + 1 = pl + 2 + ((fb.length : Nat) : Int) by omega]
        simp [rowW, unlessD, jumpD]
      rw [et]
      exact ⟨_, .refl _, todo, i + 1, _, p, _, _, _, _, _, _, _, _, rfl, hsub', hal2, ⟨m, .inl ⟨rfl, hm2⟩⟩, rfl, less_none L hp, GS.set_same, L.trans (.new hp)⟩
  · rintro ρ S' ⟨todo, i, acc, pm, x4, x5, x6, x7, x8, x9, x10, x11, hr, hsub, hal, ⟨m, hm⟩, rfl, hpm, gf, L⟩
    cases todo with
    | cons _ _ => cases hr
    | nil =>
    have ha : acc = rowsF n ss way st := by
      rcases hm with ⟨rfl, hm⟩ | ⟨_, hm⟩
      · exact hm
      · exact hm
    refine ⟨trivial, ?_⟩
    dsimp only
    rw [x_seq, x_frzL rfl gf]
    simp only [x_tupZip, x_dpop, x_dcT, x_iZip, x_listZip, x_md, x_zipR, x_zipD, x_listRg1, x_listRg2, x_sortItems, x_listItems, x_back, x_ifT, x_sortSet, x_get1, x_get2, fnAt, x_lc, x_lcN, x_var, x_C, x_op, x_un, x_slice, x_noPart, x_part, x_tru, x_B, x_chain, x_and, x_or, x_not, x_andV, x_orV, x_notB, x_if, x_nil, x_cons, x_tup, x_lst, x_call, x_callK, x_gN, x_gT, x_gs0, x_gs1, x_yes, x_iSeq, x_iEn, x_words, x_ml, x_disp, x_d0, x_pnil, x_pcons, csAt, List.getD_cons_zero, List.getD_cons_succ, List.getElem?_cons_zero, List.getElem?_cons_succ, List.set_cons_zero, List.set_cons_succ, x_seq, x_skip, x_ifS, x_ret, x_retN, x_asg, x_par, x_expr, x_brk, x_cnt]
    rw [ha]
    exact ⟨S, less_del L hpm, hR⟩
theorem fn_lrows_all (d : Df K mg "_law_rows" s__law_rows ["statements", "way", "begin"] []) (hb : BlIn mg ["enumerate", "len"]) : ∀ n : Nat, FnIn P w K mg base DS (k + n) ⟨"_law_rows", 3, sp_rows n, []⟩
  | 0 => fn_false d
  | n + 1 => fn_lrows_of n (fn_lrows_all d hb n) d hb
def sp__law_rows : WF := sp_rows 7
theorem fn__law_rows (d : Df K mg "_law_rows" s__law_rows ["statements", "way", "begin"] []) (hb : BlIn mg ["enumerate", "len"]) : FnIn P w K mg base DS (k + 7) ⟨"_law_rows", 3, sp__law_rows, []⟩ := fn_lrows_all d hb 7
end
end K32

namespace K32
open PySem PySem.Spec L2 Dv
open PyProof.Rows hiding St
/-! ### is_told -/
section
variable {P : Program} {w : World} {K : PySem.W.Frag} {mg : Str → Option Value} {base : Heap} {k : Nat}
def backD : D := .tup [.tup [.str "back"], .tup []]
def sp__law_is_told : WF := fun ds S R => ∃ (fd : D) (ss : List D) (b : Bool), ds = [fd, .bl b] ∧ FnIs fd ss ∧ shOk fd ∧ shOk (.lst [codeD ss, waysD ss]) ∧ R (.bl true) S
theorem fn__law_is_told (c1 : FnIn P w K mg base DS k ⟨"row_ways", 1, sp_row_ways, [(0, ["function"], [0])]⟩) (c2 : FnIn P w K mg base DS k ⟨"code_of", 1, sp_code_of, [(0, ["function"], [0])]⟩) (c3 : FnIn P w K mg base DS k ⟨"_law_rows", 3, sp__law_rows, []⟩) (d : Df K mg "_law_is_told" s__law_is_told ["function", "is_named"] []) (hb : BlIn mg ["repr", "tuple"]) : FnIn P w K mg base DS (k + 1) ⟨"_law_is_told", 2, sp__law_is_told, []⟩ := by
  refine fn_mkL d sc__law_is_told rfl (fns := [⟨"row_ways", 1, sp_row_ways, [(0, ["function"], [0])]⟩, ⟨"code_of", 1, sp_code_of, [(0, ["function"], [0])]⟩, ⟨"_law_rows", 3, sp__law_rows, []⟩]) (cs := []) ⟨c1, c2, c3, trivial⟩ trivial hb (fun X o => (s_cons (s_par o 4 5 (a_cons (e_repr o (a_cons (e_var o 0) a_nil)) (a_cons (e_add (e_call o 2 (a_cons (e_ix o (e_var o 0) e_int) (a_cons (e_tup a_nil) (a_cons e_int a_nil)))) (e_lst (a_cons (e_tup (a_cons (e_tup (a_cons e_str a_nil)) (a_cons (e_tup a_nil) a_nil))) a_nil))) a_nil)))
  (s_cons (s_set o 2 (e_lst (a_cons (e_toTup o (a_cons (e_lc o [("row", 6), ("way", 7)] (i_seq (e_var o 5)) (cg_tup 2 (cg_cons (cg_name 6) (cg_cons (cg_name 7) cg_nil))) (fun Y _ o2 => l_nil) (fun Y _ o2 => (e_var o2 6))) a_nil)) (a_cons (e_toTup o (a_cons (e_lc o [("row", 6), ("way", 7)] (i_seq (e_var o 5)) (cg_tup 2 (cg_cons (cg_name 6) (cg_cons (cg_name 7) cg_nil))) (fun Y _ o1 => l_nil) (fun Y _ o1 => (e_var o1 7))) a_nil)) a_nil))))
  (s_cons (s_set o 3 (e_lst (a_cons (e_call o 1 (a_cons (e_var o 0) a_nil)) (a_cons (e_call o 0 (a_cons (e_var o 0) a_nil)) a_nil))))
  (s_cons (s_if (t_tru (e_var o 1))
  (s_cons (s_set o 3 (e_lst (a_cons (e_callK o 1 ["function"] [0] (k_cons (e_var o 0) k_nil)) (a_cons (e_callK o 0 ["function"] [0] (k_cons (e_var o 0) k_nil)) a_nil))))
  s_nil)
  s_nil)
  (s_cons (s_if (t_w (w_or (t_cmp o c_ne (e_repr o (a_cons (e_var o 3) a_nil)) (e_repr o (a_cons (e_var o 2) a_nil))) (w_or1 (t_cmp o c_ne (e_repr o (a_cons (e_var o 0) a_nil)) (e_var o 4)))))
  (s_cons (s_ret e_tt)
  s_nil)
  s_nil)
  (s_cons (s_ret (e_cmp o c_eq (e_repr o (a_cons (e_lst (a_cons (e_call o 1 (a_cons (e_var o 0) a_nil)) (a_cons (e_call o 0 (a_cons (e_var o 0) a_nil)) a_nil))) a_nil)) (e_repr o (a_cons (e_var o 2) a_nil))))
  s_nil))))))) ?_
  intro ds S R hl h
  obtain ⟨fd, ss, b, rfl, F, sh1, sh2, hR⟩ := h
  have rl := F.len
  have snf : ∀ S : GS, snap S fd = fd := fun S => by
    obtain ⟨fs, rfl, _⟩ := F.ex
    rfl
  have snl : ∀ (S : GS) (l : List D), snap S (.lst l) = .lst l := fun _ _ => rfl
  have eqs : ∀ (z : Str) (S : GS) (Q : D → GS → Prop), oEq (.str z) (.str z) S Q = Q (.bl true) S := fun z S Q => by
    show Q (.bl (decide (z = z))) S = _
    rw [decide_eq_true rfl]
  have nes : ∀ (z : Str) (S : GS) (Q : D → GS → Prop), oNe (.str z) (.str z) S Q = Q (.bl false) S := fun z S Q => by
    show Q (.bl (!decide (z = z))) S = _
    rw [decide_eq_true rfl]
    rfl
  have cf : ∀ (S : GS) (Q : D → GS → Prop), Q (codeD ss) S → sp_code_of [fd] S Q := fun S Q q => ⟨fd, ss, rfl, F, q⟩
  have wf : ∀ (S : GS) (Q : D → GS → Prop), Q (waysD ss) S → sp_row_ways [fd] S Q := fun S Q q => ⟨fd, ss, rfl, F, q⟩
  have rsh := rows_shape 6 ss [] 0
  generalize hKn : shw fd = Kn
  show wSeq _ _ _ [some fd, some (.bl b), none, none, none, none, none, none] S
  rw [x_seq]
  simp only [x_par, x_tupZip, x_dpop, x_dcT, x_iZip, x_listZip, x_md, x_zipR, x_zipD, x_listRg1, x_listRg2, x_sortItems, x_listItems, x_back, x_ifT, x_sortSet, x_get1, x_get2, fnAt, x_lc, x_lcN, x_var, x_C, x_op, x_un, x_slice, x_noPart, x_part, x_tru, x_B, x_chain, x_and, x_or, x_not, x_andV, x_orV, x_notB, x_if, x_nil, x_cons, x_tup, x_lst, x_call, x_callK, x_gN, x_gT, x_gs0, x_gs1, x_yes, x_iSeq, x_iEn, x_words, x_ml, x_disp, x_d0, x_pnil, x_pcons, csAt, List.getD_cons_zero, List.getD_cons_succ, List.getElem?_cons_zero, List.getElem?_cons_succ, List.set_cons_zero, List.set_cons_succ, fRepr, f1, snf, F.ix]
  refine ⟨sh1, lzn 0, ss, [], 0, rfl, F.ok, (by decide : 6 ≤ 20), F.sz, (by decide : 0 + 2 * 6 ≤ 1000), ?_⟩
  rw [hKn]
  have rl' : (rowsF 6 ss [] 0).length ≤ 200000 := rl
  have hcode : codeD ss = .tup (((rowsF 6 ss [] 0) ++ [backD]).map fstD) := by rw [List.map_append]; rfl
  have hways : waysD ss = .tup (((rowsF 6 ss [] 0) ++ [backD]).map sndD) := by rw [List.map_append]; rfl
  generalize codeD ss = Cd at *
  generalize waysD ss = Wd at *
  generalize rowsF 6 ss [] 0 = rows at *
  refine ⟨lzn 1, lzn 0, lzn 2, lzn 1, ?_⟩
  rw [addL]
  refine ⟨by rw [sizeLine_eq]; simp only [List.length_cons, List.length_nil]; omega, ?_⟩
  have msh : ∀ z ∈ rows ++ [backD], ∃ a b, z = .tup [a, b] := fun z m => by
    rcases List.mem_append.mp m with m | m
    · obtain ⟨r, w', rfl⟩ := rsh z m
      exact ⟨_, _, rfl⟩
    · rw [List.mem_singleton.mp m]; exact ⟨_, _, rfl⟩
  have mln : (rows ++ [backD]).length ≤ sizeLine := by rw [List.length_append, sizeLine_eq]; simp only [List.length_singleton]; omega
  show wSeq _ _ _ [some fd, some (.bl b), none, none, some (.str Kn), some (.lst (rows ++ [backD])), none, none] S
  generalize rows ++ [backD] = md at *
  rw [x_seq]
  simp only [x_asg, x_tupZip, x_dpop, x_dcT, x_iZip, x_listZip, x_md, x_zipR, x_zipD, x_listRg1, x_listRg2, x_sortItems, x_listItems, x_back, x_ifT, x_sortSet, x_get1, x_get2, fnAt, x_lc, x_lcN, x_var, x_C, x_op, x_un, x_slice, x_noPart, x_part, x_tru, x_B, x_chain, x_and, x_or, x_not, x_andV, x_orV, x_notB, x_if, x_nil, x_cons, x_tup, x_lst, x_call, x_callK, x_gN, x_gT, x_gs0, x_gs1, x_yes, x_iSeq, x_iEn, x_words, x_ml, x_disp, x_d0, x_pnil, x_pcons, csAt, List.getD_cons_zero, List.getD_cons_succ, List.getElem?_cons_zero, List.getElem?_cons_succ, List.set_cons_zero, List.set_cons_succ]
  refine lc_mapA (gd := []) md id fstD (fun Q q => by rw [List.map_id] at q; exact q) trivial mln (fun z mz Q q => ?_) ?_
  · obtain ⟨a1, b1, rfl⟩ := msh z mz
    refine turn_tupE [some fd, some (.bl b), none, none, some (.str Kn), some (.lst md), some a1, some b1] rfl ?_
    simp only [x_tupZip, x_dpop, x_dcT, x_iZip, x_listZip, x_md, x_zipR, x_zipD, x_listRg1, x_listRg2, x_sortItems, x_listItems, x_back, x_ifT, x_sortSet, x_get1, x_get2, fnAt, x_lc, x_lcN, x_var, x_C, x_op, x_un, x_slice, x_noPart, x_part, x_tru, x_B, x_chain, x_and, x_or, x_not, x_andV, x_orV, x_notB, x_if, x_nil, x_cons, x_tup, x_lst, x_call, x_callK, x_gN, x_gT, x_gs0, x_gs1, x_yes, x_iSeq, x_iEn, x_words, x_ml, x_disp, x_d0, x_pnil, x_pcons, csAt, List.getD_cons_zero, List.getD_cons_succ, List.getElem?_cons_zero, List.getElem?_cons_succ, List.set_cons_zero, List.set_cons_succ]
    exact q
  rw [tup_lst, ← hcode]
  refine lc_mapA (gd := []) md id sndD (fun Q q => by rw [List.map_id] at q; exact q) trivial mln (fun z mz Q q => ?_) ?_
  · obtain ⟨a1, b1, rfl⟩ := msh z mz
    refine turn_tupE [some fd, some (.bl b), none, none, some (.str Kn), some (.lst md), some a1, some b1] rfl ?_
    simp only [x_tupZip, x_dpop, x_dcT, x_iZip, x_listZip, x_md, x_zipR, x_zipD, x_listRg1, x_listRg2, x_sortItems, x_listItems, x_back, x_ifT, x_sortSet, x_get1, x_get2, fnAt, x_lc, x_lcN, x_var, x_C, x_op, x_un, x_slice, x_noPart, x_part, x_tru, x_B, x_chain, x_and, x_or, x_not, x_andV, x_orV, x_notB, x_if, x_nil, x_cons, x_tup, x_lst, x_call, x_callK, x_gN, x_gT, x_gs0, x_gs1, x_yes, x_iSeq, x_iEn, x_words, x_ml, x_disp, x_d0, x_pnil, x_pcons, csAt, List.getD_cons_zero, List.getD_cons_succ, List.getElem?_cons_zero, List.getElem?_cons_succ, List.set_cons_zero, List.set_cons_succ]
    exact q
  rw [tup_lst, ← hways]
  refine ⟨lzn 2, ?_⟩
  show wSeq _ _ _ [some fd, some (.bl b), some (.lst [Cd, Wd]), none, some (.str Kn), some (.lst md), none, none] S
  rw [x_seq]
  simp only [x_asg, x_tupZip, x_dpop, x_dcT, x_iZip, x_listZip, x_md, x_zipR, x_zipD, x_listRg1, x_listRg2, x_sortItems, x_listItems, x_back, x_ifT, x_sortSet, x_get1, x_get2, fnAt, x_lc, x_lcN, x_var, x_C, x_op, x_un, x_slice, x_noPart, x_part, x_tru, x_B, x_chain, x_and, x_or, x_not, x_andV, x_orV, x_notB, x_if, x_nil, x_cons, x_tup, x_lst, x_call, x_callK, x_gN, x_gT, x_gs0, x_gs1, x_yes, x_iSeq, x_iEn, x_words, x_ml, x_disp, x_d0, x_pnil, x_pcons, csAt, List.getD_cons_zero, List.getD_cons_succ, List.getElem?_cons_zero, List.getElem?_cons_succ, List.set_cons_zero, List.set_cons_succ]
  refine cf _ _ (wf _ _ ⟨lzn 2, ?_⟩)
  show wSeq _ _ _ [some fd, some (.bl b), some (.lst [Cd, Wd]), some (.lst [Cd, Wd]), some (.str Kn), some (.lst md), none, none] S
  refine seq_to (fun ρ' S' => S = S' ∧ ρ' = [some fd, some (.bl b), some (.lst [Cd, Wd]), some (.lst [Cd, Wd]), some (.str Kn), some (.lst md), none, none]) (fun R' fin => ?_) ?_
  · simp only [x_tupZip, x_dpop, x_dcT, x_iZip, x_listZip, x_md, x_zipR, x_zipD, x_listRg1, x_listRg2, x_sortItems, x_listItems, x_back, x_ifT, x_sortSet, x_get1, x_get2, fnAt, x_lc, x_lcN, x_var, x_C, x_op, x_un, x_slice, x_noPart, x_part, x_tru, x_B, x_chain, x_and, x_or, x_not, x_andV, x_orV, x_notB, x_if, x_nil, x_cons, x_tup, x_lst, x_call, x_callK, x_gN, x_gT, x_gs0, x_gs1, x_yes, x_iSeq, x_iEn, x_words, x_ml, x_disp, x_d0, x_pnil, x_pcons, csAt, List.getD_cons_zero, List.getD_cons_succ, List.getElem?_cons_zero, List.getElem?_cons_succ, List.set_cons_zero, List.set_cons_succ, x_seq, x_skip, x_ifS, x_ret, x_retN, x_asg, x_par, x_expr, x_brk, x_cnt, truD]
    cases b with
    | false => exact fin _ _ ⟨rfl, rfl⟩
    | true =>
      rw [if_pos rfl]
      show sp_code_of [fd] S _
      refine cf _ _ ?_
      show sp_row_ways [fd] S _
      exact wf _ _ ⟨lzn 2, fin _ _ ⟨rfl, rfl⟩⟩
  rintro _ _ ⟨rfl, rfl⟩
  refine seq_if2 False True (fun Q q0 q1 => ?_) (fun z => z.elim) fun _ => ?_
  · simp only [x_tupZip, x_dpop, x_dcT, x_iZip, x_listZip, x_md, x_zipR, x_zipD, x_listRg1, x_listRg2, x_sortItems, x_listItems, x_back, x_ifT, x_sortSet, x_get1, x_get2, fnAt, x_lc, x_lcN, x_var, x_C, x_op, x_un, x_slice, x_noPart, x_part, x_tru, x_B, x_chain, x_and, x_or, x_not, x_andV, x_orV, x_notB, x_if, x_nil, x_cons, x_tup, x_lst, x_call, x_callK, x_gN, x_gT, x_gs0, x_gs1, x_yes, x_iSeq, x_iEn, x_words, x_ml, x_disp, x_d0, x_pnil, x_pcons, csAt, List.getD_cons_zero, List.getD_cons_succ, List.getElem?_cons_zero, List.getElem?_cons_succ, List.set_cons_zero, List.set_cons_succ, f1, snl, snf, nes, Bool.false_eq_true, if_false]
    refine ⟨sh2, sh2, sh1, ?_⟩
    rw [hKn]
    simp only [nes]
    exact q0 trivial
  simp only [x_tupZip, x_dpop, x_dcT, x_iZip, x_listZip, x_md, x_zipR, x_zipD, x_listRg1, x_listRg2, x_sortItems, x_listItems, x_back, x_ifT, x_sortSet, x_get1, x_get2, fnAt, x_lc, x_lcN, x_var, x_C, x_op, x_un, x_slice, x_noPart, x_part, x_tru, x_B, x_chain, x_and, x_or, x_not, x_andV, x_orV, x_notB, x_if, x_nil, x_cons, x_tup, x_lst, x_call, x_callK, x_gN, x_gT, x_gs0, x_gs1, x_yes, x_iSeq, x_iEn, x_words, x_ml, x_disp, x_d0, x_pnil, x_pcons, csAt, List.getD_cons_zero, List.getD_cons_succ, List.getElem?_cons_zero, List.getElem?_cons_succ, List.set_cons_zero, List.set_cons_succ, x_seq, x_skip, x_ifS, x_ret, x_retN, x_asg, x_par, x_expr, x_brk, x_cnt, f1, snl]
  refine cf _ _ (wf _ _ ⟨lzn 2, sh2, sh2, ?_⟩)
  rw [eqs]
  exact ⟨S, .refl S, hR⟩
end
end K32

namespace K32
open PySem PySem.Spec L2 Dv
open PyProof.Rows hiding St
/-! ### shapes, functions, deeper ones -/
section
variable {P : Program} {w : World} {K : PySem.W.Frag} {mg : Str → Option Value} {base : Heap} {k : Nat}
def sp__law_shape : WF := fun ds S R => ∃ (dk : Addr) (most : Nat), ds = [.ref dk, .int most] ∧ S.o = some dk ∧ 1 ≤ most ∧ most ≤ 8 ∧ ∀ a b c, ShapeOk a b c → R (shD a b c) S
theorem fn__law_shape (c1 : FnIn P w K mg base DS k ⟨"_law_draw", 2, sp__law_draw, []⟩) (c2 : FnIn P w K mg base DS k ⟨"_law_shuffled", 2, sp__law_shuffled, []⟩) (d : Df K mg "_law_shape" s__law_shape ["stock", "most"] []) (hb : BlIn mg ["len", "min", "tuple"]) : FnIn P w K mg base DS (k + 1) ⟨"_law_shape", 2, sp__law_shape, []⟩ := by
  refine fn_mkL d sc__law_shape rfl (fns := [⟨"_law_draw", 2, sp__law_draw, []⟩, ⟨"_law_shuffled", 2, sp__law_shuffled, []⟩]) (cs := []) ⟨c1, c2, trivial⟩ trivial hb (fun X o => (s_cons (s_set o 2 (e_slice (e_call o 1 (a_cons (e_var o 0) (a_cons (e_lst (a_cons e_str (a_cons e_str (a_cons e_str (a_cons e_str (a_cons e_str (a_cons e_str (a_cons e_str (a_cons e_str a_nil))))))))) a_nil))) p_none (p_some (e_add e_int (e_call o 0 (a_cons (e_var o 0) (a_cons (e_var o 1) a_nil)))))))
  (s_cons (s_set o 3 (e_call o 0 (a_cons (e_var o 0) (a_cons (e_add (e_len o (a_cons (e_var o 2) a_nil)) e_int) a_nil))))
  (s_cons (s_set o 4 (e_add (e_var o 3) (e_call o 0 (a_cons (e_var o 0) (a_cons (e_min o (a_cons e_int (a_cons (e_add (e_sub (e_len o (a_cons (e_var o 2) a_nil)) (e_var o 3)) e_int) a_nil))) a_nil)))))
  (s_cons (s_ret (e_tup (a_cons (e_toTup o (a_cons (e_slice (e_var o 2) p_none (p_some (e_var o 3))) a_nil)) (a_cons (e_toTup o (a_cons (e_slice (e_var o 2) (p_some (e_var o 3)) (p_some (e_var o 4))) a_nil)) (a_cons (e_toTup o (a_cons (e_slice (e_var o 2) (p_some (e_var o 4)) p_none) a_nil)) a_nil)))))
  s_nil))))) ?_
  intro ds S R hl h
  obtain ⟨dk, most, rfl, ho, hm1, hm2, hR⟩ := h
  show wSeq _ _ _ [some (.ref dk), some (.int most), none, none, none] S
  rw [x_seq]
  simp only [x_asg, x_tupZip, x_dpop, x_dcT, x_iZip, x_listZip, x_md, x_zipR, x_zipD, x_listRg1, x_listRg2, x_sortItems, x_listItems, x_back, x_ifT, x_sortSet, x_get1, x_get2, fnAt, x_lc, x_lcN, x_var, x_C, x_op, x_un, x_slice, x_noPart, x_part, x_tru, x_B, x_chain, x_and, x_or, x_not, x_andV, x_orV, x_notB, x_if, x_nil, x_cons, x_tup, x_lst, x_call, x_callK, x_gN, x_gT, x_gs0, x_gs1, x_yes, x_iSeq, x_iEn, x_words, x_ml, x_disp, x_d0, x_pnil, x_pcons, csAt, List.getD_cons_zero, List.getD_cons_succ, List.getElem?_cons_zero, List.getElem?_cons_succ, List.set_cons_zero, List.set_cons_succ]
  refine ⟨lzn 8, dk, _, poolS.map D.str, rfl, ho, fun _ => rfl, by decide, fun p ys hpm hp => ?_⟩
  obtain ⟨zs, rfl, pz⟩ := perm_unmap D.str hpm _ rfl
  have zl : zs.length = 8 := pz.length_eq
  refine draw_ok (S := S.set p (.lst (zs.map D.str))) ho (by omega) (by omega) fun n hn => ?_
  rw [addI]
  have hs : asL (S.set p (.lst (zs.map D.str))) (.ref p) = some (zs.map D.str) := by simp only [asL, GS.set_same]
  simp only [hs]
  obtain ⟨ws, ews, sub⟩ := cut_map D.str zs none (some (1 + (n : Nat) : Int))
  rw [ews]
  have wl : ws.length ≤ 8 := by have := sub.length_le; omega
  have wn : ∀ x ∈ ws, NameOk x := fun x m => pool_nm x (pz.mem_iff.mp (sub.subset m))
  have L : Less S (S.set p (.lst (zs.map D.str))) := .new hp
  generalize S.set p (.lst (zs.map D.str)) = S1 at *
  have ho1 : S1.o = some dk := L.2.symm.trans ho
  have lnW : ∀ S : GS, lenD S (.lst (ws.map D.str)) = some ws.length := fun S => by
    have := len_seq (S := S) (d := .lst (ws.map D.str)) (ds := ws.map D.str) rfl
    rw [List.length_map] at this
    exact this
  show wSeq _ _ _ [some (.ref dk), some (.int most), some (.lst (ws.map D.str)), none, none] S1
  rw [x_seq]
  simp only [x_asg, x_tupZip, x_dpop, x_dcT, x_iZip, x_listZip, x_md, x_zipR, x_zipD, x_listRg1, x_listRg2, x_sortItems, x_listItems, x_back, x_ifT, x_sortSet, x_get1, x_get2, fnAt, x_lc, x_lcN, x_var, x_C, x_op, x_un, x_slice, x_noPart, x_part, x_tru, x_B, x_chain, x_and, x_or, x_not, x_andV, x_orV, x_notB, x_if, x_nil, x_cons, x_tup, x_lst, x_call, x_callK, x_gN, x_gT, x_gs0, x_gs1, x_yes, x_iSeq, x_iEn, x_words, x_ml, x_disp, x_d0, x_pnil, x_pcons, csAt, List.getD_cons_zero, List.getD_cons_succ, List.getElem?_cons_zero, List.getElem?_cons_succ, List.set_cons_zero, List.set_cons_succ, fLen, f1, lnW, addI]
  refine draw_ok ho1 (by omega) (by omega) fun n1 hn1 => ?_
  show wSeq _ _ _ [some (.ref dk), some (.int most), some (.lst (ws.map D.str)), some (.int (n1 : Nat)), none] S1
  rw [x_seq]
  simp only [x_asg, x_tupZip, x_dpop, x_dcT, x_iZip, x_listZip, x_md, x_zipR, x_zipD, x_listRg1, x_listRg2, x_sortItems, x_listItems, x_back, x_ifT, x_sortSet, x_get1, x_get2, fnAt, x_lc, x_lcN, x_var, x_C, x_op, x_un, x_slice, x_noPart, x_part, x_tru, x_B, x_chain, x_and, x_or, x_not, x_andV, x_orV, x_notB, x_if, x_nil, x_cons, x_tup, x_lst, x_call, x_callK, x_gN, x_gT, x_gs0, x_gs1, x_yes, x_iSeq, x_iEn, x_words, x_ml, x_disp, x_d0, x_pnil, x_pcons, csAt, List.getD_cons_zero, List.getD_cons_succ, List.getElem?_cons_zero, List.getElem?_cons_succ, List.set_cons_zero, List.set_cons_succ, fLen, f1, lnW, addI, subI, fMin, f2]
  refine draw_ok ho1 (by split <;> omega) (by split <;> omega) fun n2 hn2 => ?_
  rw [addI]
  show wSeq _ _ _ [some (.ref dk), some (.int most), some (.lst (ws.map D.str)), some (.int (n1 : Nat)), some (.int ((n1 : Int) + (n2 : Nat)))] S1
  obtain ⟨a, ea, sa⟩ := cut_map D.str ws none (some (n1 : Int))
  obtain ⟨b, eb, sb⟩ := cut_map D.str ws (some (n1 : Int)) (some ((n1 : Int) + (n2 : Nat)))
  obtain ⟨c, ec, sc⟩ := cut_map D.str ws (some ((n1 : Int) + (n2 : Nat))) none
  have asW : ∀ S : GS, asL S (.lst (ws.map D.str)) = some (ws.map D.str) := fun _ => rfl
  simp only [x_tupZip, x_dpop, x_dcT, x_iZip, x_listZip, x_md, x_zipR, x_zipD, x_listRg1, x_listRg2, x_sortItems, x_listItems, x_back, x_ifT, x_sortSet, x_get1, x_get2, fnAt, x_lc, x_lcN, x_var, x_C, x_op, x_un, x_slice, x_noPart, x_part, x_tru, x_B, x_chain, x_and, x_or, x_not, x_andV, x_orV, x_notB, x_if, x_nil, x_cons, x_tup, x_lst, x_call, x_callK, x_gN, x_gT, x_gs0, x_gs1, x_yes, x_iSeq, x_iEn, x_words, x_ml, x_disp, x_d0, x_pnil, x_pcons, csAt, List.getD_cons_zero, List.getD_cons_succ, List.getElem?_cons_zero, List.getElem?_cons_succ, List.set_cons_zero, List.set_cons_succ, x_seq, x_skip, x_ifS, x_ret, x_retN, x_asg, x_par, x_expr, x_brk, x_cnt, tup_lst, asW]
  refine ⟨lzn 3, S, L, ?_⟩
  rw [ea, eb, ec]
  refine (hR a b c ⟨fun x m => wn x (sa.subset m), fun x m => wn x (sb.subset m), fun x m => wn x (sc.subset m), Nat.le_trans sa.length_le wl, Nat.le_trans sb.length_le wl, Nat.le_trans sc.length_le wl⟩)
theorem sizeL_up {n : Nat} {l : List D} (h : ∀ s ∈ l, StmOk n s) : sizeL (n + 1) l = sizeL n l := by
  unfold sizeL
  rw [List.map_congr_left fun s m => sizeS_up (h s m)]
/-- a function as it is drawn -/
def fnD (nm : Str) (a b c : List Str) (hd ft : List Cl) (ss : List D) : D := .tup [.str nm, .tup (a.map D.str), .tup (b.map D.str), .tup (c.map D.str), sayD hd, sayD ft, .tup ss]
structure FnDr (nm : Str) (a b c : List Str) (hd ft : List Cl) : Prop where
  n : NameOk nm
  sh : ShapeOk a b c
  lh : hd.length ≤ 1
  lf : ft.length ≤ 2
  hd : ∀ c ∈ hd, ClNm c
  ft : ∀ c ∈ ft, ClNm c
def sp__law_function : WF := fun ds S R => ∃ (dk : Addr) (nm : Str) (a b c : List Str) (os : List (Str × Nat × Nat)) (many : Nat), ds = [.ref dk, .str nm, shD a b c, .lst (os.map othD), .int many] ∧ S.o = some dk ∧ NameOk nm ∧ ShapeOk a b c ∧ OthOk os ∧ 1 ≤ many ∧ many ≤ 10 ∧ ∀ (hd ft : List Cl) (ss : List D), FnDr nm a b c hd ft → (∀ s ∈ ss, StmOk 4 s) → sizeL 4 ss ≤ 30 → R (fnD nm a b c hd ft ss) S
theorem fn__law_function (c1 : FnIn P w K mg base DS k ⟨"_law_size", 1, sp__law_size, []⟩) (c2 : FnIn P w K mg base DS k ⟨"_law_simple", 3, sp__law_simple, []⟩) (c3 : FnIn P w K mg base DS k ⟨"_law_statements", 5, sp__law_statements, []⟩) (c4 : FnIn P w K mg base DS k ⟨"_law_saying", 3, sp__law_saying, []⟩) (d : Df K mg "_law_function" s__law_function ["stock", "name", "shape", "others", "many"] []) (hb : BlIn mg ["list"]) : FnIn P w K mg base DS (k + 1) ⟨"_law_function", 5, sp__law_function, []⟩ := by
  refine fn_mkL d sc__law_function rfl (fns := [⟨"_law_size", 1, sp__law_size, []⟩, ⟨"_law_simple", 3, sp__law_simple, []⟩, ⟨"_law_statements", 5, sp__law_statements, []⟩, ⟨"_law_saying", 3, sp__law_saying, []⟩]) (cs := []) ⟨c1, c2, c3, c4, trivial⟩ trivial hb (fun X o => (s_cons (s_set o 5 (e_add (e_listA o (a_cons (e_ix o (e_var o 2) e_int) a_nil)) (e_listA o (a_cons (e_ix o (e_var o 2) e_int) a_nil))))
  (s_cons (s_set o 6 (e_call o 3 (a_cons (e_var o 0) (a_cons (e_var o 5) (a_cons e_int a_nil)))))
  (s_cons (s_set o 7 (e_call o 3 (a_cons (e_var o 0) (a_cons (e_add (e_var o 5) (e_lst (a_cons e_str a_nil))) (a_cons e_int a_nil)))))
  (s_cons (s_set o 8 (e_call o 2 (a_cons (e_var o 0) (a_cons (e_var o 2) (a_cons (e_var o 3) (a_cons e_int (a_cons (e_var o 4) a_nil)))))))
  (s_cons (s_set o 8 (e_if (t_cmp o c_lt (e_call o 0 (a_cons (e_var o 8) a_nil)) e_int) (e_var o 8) (e_tup (a_cons (e_call o 1 (a_cons (e_var o 0) (a_cons (e_var o 2) (a_cons (e_var o 3) a_nil)))) a_nil))))
  (s_cons (s_ret (e_tup (a_cons (e_var o 1) (a_cons (e_ix o (e_var o 2) e_int) (a_cons (e_ix o (e_var o 2) e_int) (a_cons (e_ix o (e_var o 2) e_int) (a_cons (e_var o 6) (a_cons (e_var o 7) (a_cons (e_var o 8) a_nil)))))))))
  s_nil))))))) ?_
  intro ds S R hl h
  obtain ⟨dk, nm, a, b, c, os, many, rfl, ho, hnm, sh, oo, hm1, hm2, hR⟩ := h
  have la8 := sh.la
  have lb8 := sh.lb
  generalize hSh : shD a b c = Sh
  have i0 : ∀ (S : GS) (Q : D → GS → Prop), oIx Sh (.int 0) S Q = Q (.tup (a.map D.str)) S := by rw [← hSh]; exact sh_ix0 a b c
  have i1 : ∀ (S : GS) (Q : D → GS → Prop), oIx Sh (.int 1) S Q = Q (.tup (b.map D.str)) S := by rw [← hSh]; exact sh_ix1 a b c
  have i2 : ∀ (S : GS) (Q : D → GS → Prop), oIx Sh (.int 2) S Q = Q (.tup (c.map D.str)) S := by rw [← hSh]; exact sh_ix2 a b c
  generalize hOs : D.lst (os.map othD) = Os
  show wSeq _ _ _ [some (.ref dk), some (.str nm), some Sh, some Os, some (.int many), none, none, none, none] S
  rw [x_seq]
  simp only [x_asg, x_tupZip, x_dpop, x_dcT, x_iZip, x_listZip, x_md, x_zipR, x_zipD, x_listRg1, x_listRg2, x_sortItems, x_listItems, x_back, x_ifT, x_sortSet, x_get1, x_get2, fnAt, x_lc, x_lcN, x_var, x_C, x_op, x_un, x_slice, x_noPart, x_part, x_tru, x_B, x_chain, x_and, x_or, x_not, x_andV, x_orV, x_notB, x_if, x_nil, x_cons, x_tup, x_lst, x_call, x_callK, x_gN, x_gT, x_gs0, x_gs1, x_yes, x_iSeq, x_iEn, x_words, x_ml, x_disp, x_d0, x_pnil, x_pcons, csAt, List.getD_cons_zero, List.getD_cons_succ, List.getElem?_cons_zero, List.getElem?_cons_succ, List.set_cons_zero, List.set_cons_succ, i0, i1, fListA, f1]
  show oAdd (.lst (a.map D.str)) (.lst (b.map D.str)) S _
  rw [addL]
  refine ⟨by rw [List.length_map, List.length_map, sizeLine_eq]; omega, ?_⟩
  rw [← List.map_append]
  have gn : ∀ x ∈ a ++ b, NameOk x := fun x m => (List.mem_append.mp m).elim (sh.na x) (sh.nb x)
  have gl : (a ++ b).length ≤ 16 := by rw [List.length_append]; omega
  generalize a ++ b = gv at gn gl ⊢
  show wSeq _ _ _ [some (.ref dk), some (.str nm), some Sh, some Os, some (.int many), some (.lst (gv.map D.str)), none, none, none] S
  rw [x_seq]
  simp only [x_asg, x_tupZip, x_dpop, x_dcT, x_iZip, x_listZip, x_md, x_zipR, x_zipD, x_listRg1, x_listRg2, x_sortItems, x_listItems, x_back, x_ifT, x_sortSet, x_get1, x_get2, fnAt, x_lc, x_lcN, x_var, x_C, x_op, x_un, x_slice, x_noPart, x_part, x_tru, x_B, x_chain, x_and, x_or, x_not, x_andV, x_orV, x_notB, x_if, x_nil, x_cons, x_tup, x_lst, x_call, x_callK, x_gN, x_gT, x_gs0, x_gs1, x_yes, x_iSeq, x_iEn, x_words, x_ml, x_disp, x_d0, x_pnil, x_pcons, csAt, List.getD_cons_zero, List.getD_cons_succ, List.getElem?_cons_zero, List.getElem?_cons_succ, List.set_cons_zero, List.set_cons_succ]
  refine ⟨dk, _, gv, 1, rfl, ho, fun _ => rfl, by omega, gn, by omega, by omega, fun hd h1 h2 h3 => ?_⟩
  show wSeq _ _ _ [some (.ref dk), some (.str nm), some Sh, some Os, some (.int many), some (.lst (gv.map D.str)), some (sayD hd), none, none] S
  rw [x_seq]
  simp only [x_asg, x_tupZip, x_dpop, x_dcT, x_iZip, x_listZip, x_md, x_zipR, x_zipD, x_listRg1, x_listRg2, x_sortItems, x_listItems, x_back, x_ifT, x_sortSet, x_get1, x_get2, fnAt, x_lc, x_lcN, x_var, x_C, x_op, x_un, x_slice, x_noPart, x_part, x_tru, x_B, x_chain, x_and, x_or, x_not, x_andV, x_orV, x_notB, x_if, x_nil, x_cons, x_tup, x_lst, x_call, x_callK, x_gN, x_gT, x_gs0, x_gs1, x_yes, x_iSeq, x_iEn, x_words, x_ml, x_disp, x_d0, x_pnil, x_pcons, csAt, List.getD_cons_zero, List.getD_cons_succ, List.getElem?_cons_zero, List.getElem?_cons_succ, List.set_cons_zero, List.set_cons_succ]
  refine ⟨lzn 1, ?_⟩
  show oAdd (.lst (gv.map D.str)) (.lst [.str "result"]) S _
  rw [addL, show gv.map D.str ++ [D.str "result"] = (gv ++ [("result" : Str)]).map D.str by rw [List.map_append]; rfl]
  refine ⟨by rw [List.length_map, sizeLine_eq]; simp only [List.length_cons, List.length_nil]; omega, dk, _, gv ++ [("result" : Str)], 2, rfl, ho, fun _ => rfl, by rw [List.length_append]; simp only [List.length_cons, List.length_nil]; omega, fun x m => ?_, by omega, by omega, fun ft f1' f2' f3' => ?_⟩
  · rcases List.mem_append.mp m with m | m
    · exact gn x m
    · rw [List.mem_singleton.mp m]; exact drawn_ok _ (by simp [drawnW])
  have dr : FnDr nm a b c hd ft := ⟨hnm, sh, h2, f2', h3, f3'⟩
  show wSeq _ _ _ [some (.ref dk), some (.str nm), some Sh, some Os, some (.int many), some (.lst (gv.map D.str)), some (sayD hd), some (sayD ft), none] S
  rw [x_seq]
  simp only [x_asg, x_tupZip, x_dpop, x_dcT, x_iZip, x_listZip, x_md, x_zipR, x_zipD, x_listRg1, x_listRg2, x_sortItems, x_listItems, x_back, x_ifT, x_sortSet, x_get1, x_get2, fnAt, x_lc, x_lcN, x_var, x_C, x_op, x_un, x_slice, x_noPart, x_part, x_tru, x_B, x_chain, x_and, x_or, x_not, x_andV, x_orV, x_notB, x_if, x_nil, x_cons, x_tup, x_lst, x_call, x_callK, x_gN, x_gT, x_gs0, x_gs1, x_yes, x_iSeq, x_iEn, x_words, x_ml, x_disp, x_d0, x_pnil, x_pcons, csAt, List.getD_cons_zero, List.getD_cons_succ, List.getElem?_cons_zero, List.getElem?_cons_succ, List.set_cons_zero, List.set_cons_succ]
  refine ⟨dk, a, b, c, os, 0, many, by rw [hSh, hOs]; rfl, ho, sh, oo, rfl, hm1, hm2, fun ss hss hok => ?_⟩
  have up4 : ∀ s, StmOk 1 s → StmOk 4 s := fun s hs => hs.up.up.up
  have zz : sizeL 4 ss ≤ 2000 := by
    have := sum_le (B := 85) (f := sizeS 4) (l := ss) fun s m => by
      have h : 3 * sizeS 4 s + 1 ≤ 4 ^ 4 := size_le (hok s m)
      have e : (4 : Nat) ^ 4 = 256 := by decide
      rw [e] at h
      omega
    have m2 := Nat.mul_le_mul_right 85 (show ss.length ≤ 10 by omega)
    unfold sizeL
    omega
  generalize hGv : D.lst (gv.map D.str) = Gv
  show wSeq _ _ _ [some (.ref dk), some (.str nm), some Sh, some Os, some (.int many), some Gv, some (sayD hd), some (sayD ft), some (.tup ss)] S
  refine seq_to (fun ρ' S' => S = S' ∧ ∃ ss : List D, (∀ s ∈ ss, StmOk 4 s) ∧ sizeL 4 ss ≤ 30 ∧ ρ' = [some (.ref dk), some (.str nm), some Sh, some Os, some (.int many), some Gv, some (sayD hd), some (sayD ft), some (.tup ss)]) (fun R' fin => ?_) ?_
  · simp only [x_asg, x_tupZip, x_dpop, x_dcT, x_iZip, x_listZip, x_md, x_zipR, x_zipD, x_listRg1, x_listRg2, x_sortItems, x_listItems, x_back, x_ifT, x_sortSet, x_get1, x_get2, fnAt, x_lc, x_lcN, x_var, x_C, x_op, x_un, x_slice, x_noPart, x_part, x_tru, x_B, x_chain, x_and, x_or, x_not, x_andV, x_orV, x_notB, x_if, x_nil, x_cons, x_tup, x_lst, x_call, x_callK, x_gN, x_gT, x_gs0, x_gs1, x_yes, x_iSeq, x_iEn, x_words, x_ml, x_disp, x_d0, x_pnil, x_pcons, csAt, List.getD_cons_zero, List.getD_cons_succ, List.getElem?_cons_zero, List.getElem?_cons_succ, List.set_cons_zero, List.set_cons_succ]
    have e6 : sizeL 6 ss = sizeL 4 ss := by rw [sizeL_up (n := 5) (fun s m => (hok s m).up), sizeL_up (n := 4) hok]
    refine ⟨ss, rfl, fun s m => (hok s m).up.up, by rw [e6]; omega, ?_⟩
    show oLt (.int (sizeL 6 ss : Nat)) (.int 31) S _
    rw [e6, show oLt (.int (sizeL 4 ss : Nat)) (.int 31) S = fun Q => Q (.bl (decide (((sizeL 4 ss : Nat) : Int) < 31))) S from rfl]
    dsimp only
    split
    · rename_i hq
      have := of_decide_eq_true hq
      exact fin _ _ ⟨rfl, ss, hok, by omega, rfl⟩
    · refine ⟨dk, a, b, c, os, by rw [hSh, hOs], ho, sh, oo, fun s hs => ⟨lzn 1, fin _ _ ⟨rfl, [s], fun x m => by rw [List.mem_singleton.mp m]; exact up4 s hs, ?_, rfl⟩⟩⟩
      have h1 := size_le hs
      have e1 : sizeS 4 s = sizeS 1 s := by rw [sizeS_up (n := 3) hs.up.up, sizeS_up (n := 2) hs.up, sizeS_up (n := 1) hs]
      have e : (4 : Nat) ^ 1 = 4 := by decide
      rw [e] at h1
      show (([s] : List D).map (sizeS 4)).sum ≤ 30
      rw [List.map_cons, List.map_nil, List.sum_cons, List.sum_nil, e1]
      omega
  rintro _ _ ⟨rfl, ss, hok, hz, rfl⟩
  simp only [x_tupZip, x_dpop, x_dcT, x_iZip, x_listZip, x_md, x_zipR, x_zipD, x_listRg1, x_listRg2, x_sortItems, x_listItems, x_back, x_ifT, x_sortSet, x_get1, x_get2, fnAt, x_lc, x_lcN, x_var, x_C, x_op, x_un, x_slice, x_noPart, x_part, x_tru, x_B, x_chain, x_and, x_or, x_not, x_andV, x_orV, x_notB, x_if, x_nil, x_cons, x_tup, x_lst, x_call, x_callK, x_gN, x_gT, x_gs0, x_gs1, x_yes, x_iSeq, x_iEn, x_words, x_ml, x_disp, x_d0, x_pnil, x_pcons, csAt, List.getD_cons_zero, List.getD_cons_succ, List.getElem?_cons_zero, List.getElem?_cons_succ, List.set_cons_zero, List.set_cons_succ, x_seq, x_skip, x_ifS, x_ret, x_retN, x_asg, x_par, x_expr, x_brk, x_cnt, i0, i1, i2]
  exact ⟨lzn 7, S, .refl S, hR hd ft ss dr hok hz⟩
end
end K32

namespace K32
open PySem PySem.Spec L2 Dv
open PyProof.Rows hiding St
/-! ### how long the texts are -/
theorem bd_strs {l : List Str} (h : ∀ x ∈ l, NameOk x) {m : Nat} (hl : l.length ≤ m) : Bd (3 + m * 402) 1 (.tup (l.map D.str)) := Bd.tup (s := 400) (n := 0) (fun y my => by
  obtain ⟨x, mx, rfl⟩ := List.mem_map.mp my
  exact bd_str (h x mx).1 (by omega)) (by rw [List.length_map]; exact hl)
theorem test_bd {t : D} (h : TestOk t) : Bd 1209 1 t := by
  obtain ⟨l, rfl, hl, hn⟩ := h
  exact (bd_strs hn hl).mono (by omega) (by omega)
theorem row_bd {r : LRow} (h : RowNm r) : Bd 1209 1 (rowD r) := by
  refine (Bd.tup (s := 400) (n := 0) (m := 3) (fun y m => ?_) (by show 3 ≤ 3; omega)).mono (by omega) (by omega)
  simp only [List.mem_cons, List.mem_nil_iff, or_false] at m
  rcases m with rfl | rfl | rfl
  · exact bd_str h.1.1 (by omega)
  · exact bd_str h.2.1.1 (by omega)
  · exact bd_str h.2.2.1 (by omega)
theorem cl_bd {c : Cl} (h : ClNm c) : Bd 7300 3 (clD c) := by
  have a : Bd 3640 2 (.tup (c.1.map rowD)) := (Bd.tup (m := 3) (s := 1209) (n := 1) (fun y m => by
    obtain ⟨r, mr, rfl⟩ := List.mem_map.mp m
    exact row_bd (h.lo r mr)) (by rw [List.length_map]; exact h.l)).mono (by omega) (by omega)
  have b : Bd 3640 2 (.tup (c.2.map rowD)) := (Bd.tup (m := 3) (s := 1209) (n := 1) (fun y m => by
    obtain ⟨r, mr, rfl⟩ := List.mem_map.mp m
    exact row_bd (h.po r mr)) (by rw [List.length_map]; exact h.p)).mono (by omega) (by omega)
  refine (Bd.tup (m := 2) (s := 3640) (n := 2) (fun y m => ?_) (by show 2 ≤ 2; omega)).mono (by omega) (by omega)
  simp only [List.mem_cons, List.mem_nil_iff, or_false] at m
  rcases m with rfl | rfl
  · exact a
  · exact b
theorem say_bd {s : List Cl} (h : ∀ c ∈ s, ClNm c) (hl : s.length ≤ 2) : Bd 14700 4 (sayD s) := (Bd.tup (m := 2) (s := 7300) (n := 3) (fun y m => by
  obtain ⟨c, mc, rfl⟩ := List.mem_map.mp m
  exact cl_bd (h c mc)) (by rw [List.length_map]; exact hl)).mono (by omega) (by omega)
theorem keep_bd {t : D} (h : KeepOk t) : Bd 14700 4 t := by
  rcases h with rfl | ⟨s, rfl, hl, hc⟩
  · exact (bd_of (s := 1000) (n := 1) (by decide +kernel)).mono (by omega) (by omega)
  · exact say_bd hc hl
theorem word_gd : ∀ k ∈ ("if" : Str) :: "while" :: "call" :: "unless" :: "jump" :: "back" :: simpleW, gd (.str k) = true := fun k m => by
  have h : (("if" : Str) :: "while" :: "call" :: "unless" :: "jump" :: "back" :: simpleW).all (fun k => gd (.str k)) = true := by decide +kernel
  exact List.all_eq_true.mp h k m
def Sz (n : Nat) (s : D) : Prop := gd s = true ∧ sz s + 2 ≤ 30000 * sizeS n s
theorem sz_list {n : Nat} : ∀ {l : List D}, (∀ s ∈ l, Sz n s) → gdL l = true ∧ szL l ≤ 30000 * sizeL n l
  | [], _ => ⟨rfl, Nat.zero_le _⟩
  | s :: r, h => by
    obtain ⟨h1, h2⟩ := sz_list (l := r) fun x m => h x (by simp [m])
    obtain ⟨h3, h4⟩ := h s (by simp)
    refine ⟨by rw [gdL, h3, h1]; rfl, ?_⟩
    have e : sizeL n (s :: r) = sizeS n s + sizeL n r := by unfold sizeL; rw [List.map_cons, List.sum_cons]
    rw [szL, e]
    omega
theorem stm_sz {n : Nat} {s : D} (h : StmOk n s) : Sz n s := by
  induction h with
  | @simp n k xs h1 h2 h3 =>
    have b : Bd (3 + 3 * 402) 1 (.tup (.str k :: xs.map D.str)) := Bd.tup (s := 400) (n := 0) (m := 3) (fun y m => by
      rcases List.mem_cons.mp m with rfl | m
      · exact bd_str (word_gd k (by simp [h1])) (by omega)
      · obtain ⟨x, mx, rfl⟩ := List.mem_map.mp m
        exact bd_str (h3 x mx).1 (by omega)) (by rw [List.length_cons, List.length_map]; omega)
    refine ⟨b.g, ?_⟩
    have := b.s
    unfold sizeS
    omega
  | @call n x f as bs h1 h2 h3 h4 h5 =>
    have b : Bd (3 + 5 * (4023 + 2)) 2 (.tup [.str "call", .str x, .str f, .tup (as.map D.str), .tup (bs.map D.str)]) := Bd.tup (s := 4023) (n := 1) (m := 5) (fun y m => by
      simp only [List.mem_cons, List.mem_nil_iff, or_false] at m
      rcases m with rfl | rfl | rfl | rfl | rfl
      · exact bd_str (word_gd "call" (by simp)) (by omega)
      · exact bd_str h1.1 (by omega)
      · exact bd_str h2.1 (by omega)
      · exact (bd_strs (fun x m => h5 x (List.mem_append_left _ m)) h3).mono (by omega) (by omega)
      · exact (bd_strs (fun x m => h5 x (List.mem_append_right _ m)) h4).mono (by omega) (by omega)) (by show 5 ≤ 5; omega)
    refine ⟨b.g, ?_⟩
    have := b.s
    unfold sizeS
    omega
  | @iff n t a b h1 l1 l2 h3 h4 i1 i2 =>
    obtain ⟨g1, z1⟩ := sz_list i1
    obtain ⟨g2, z2⟩ := sz_list i2
    have tb := test_bd h1
    refine ⟨?_, ?_⟩
    · have e1 : gd (.tup a) = true := by rw [gd]; exact g1
      have e2 : gd (.tup b) = true := by rw [gd]; exact g2
      rw [gd, gdL, gdL, gdL, gdL, gdL, e1, e2, tb.g, word_gd "if" (by simp)]
      rfl
    · have e : sizeS (n + 1) (.tup [.str "if", t, .tup a, .tup b]) = 1 + (sizeL n a + sizeL n b) := by
        unfold sizeS
        rw [parts_if]
        rfl
      have := tb.s
      rw [e, sz, szL, szL, szL, szL, szL, sz, sz, sz]
      omega
  | @whil n t kp b h1 h2 l1 h3 i1 =>
    obtain ⟨g1, z1⟩ := sz_list i1
    have tb := test_bd h1
    have kb := keep_bd h2
    refine ⟨?_, ?_⟩
    · have e1 : gd (.tup b) = true := by rw [gd]; exact g1
      rw [gd, gdL, gdL, gdL, gdL, gdL, e1, tb.g, kb.g, word_gd "while" (by simp)]
      rfl
    · have e : sizeS (n + 1) (.tup [.str "while", t, kp, .tup b]) = 1 + (sizeL n b + 0) := by
        unfold sizeS
        rw [parts_while]
        rfl
      have := tb.s
      have := kb.s
      rw [e, sz, szL, szL, szL, szL, szL, sz, sz]
      omega
theorem fn_shok {nm : Str} {a b c : List Str} {hd ft : List Cl} {ss : List D} {n : Nat} (h : FnDr nm a b c hd ft) (hs : ∀ s ∈ ss, StmOk n s) (hn : n ≤ 20) (hz : sizeL n ss ≤ 41) : shOk (fnD nm a b c hd ft ss) := by
  obtain ⟨g, z⟩ := sz_list fun s m => stm_sz (hs s m)
  obtain ⟨_, _, dp⟩ := p3_list (B := 6 + 2 * n) fun s m => stm_p3 (hs s m)
  have body : Bd 1300000 50 (.tup ss) := ⟨by rw [gd]; exact g, by rw [sz]; omega, by rw [dep]; omega⟩
  refine (Bd.tup (s := 1300000) (n := 50) (m := 7) (fun y m => ?_) (by show 7 ≤ 7; omega) : Bd _ _ (fnD nm a b c hd ft ss)).sh (by omega) (by omega)
  simp only [List.mem_cons, List.mem_nil_iff, or_false] at m
  rcases m with rfl | rfl | rfl | rfl | rfl | rfl | rfl
  · exact bd_str h.n.1 (by omega)
  · exact (bd_strs h.sh.na h.sh.la).mono (by omega) (by omega)
  · exact (bd_strs h.sh.nb h.sh.lb).mono (by omega) (by omega)
  · exact (bd_strs h.sh.nc h.sh.lc).mono (by omega) (by omega)
  · exact (say_bd h.hd (by have := h.lh; omega)).mono (by omega) (by omega)
  · exact (say_bd h.ft h.lf).mono (by omega) (by omega)
  · exact body
end K32

namespace K32
open PySem PySem.Spec L2 Dv
open PyProof.Rows hiding St
/-! ### how long the rows' texts are -/
theorem gd_int {a : Int} (h : a.natAbs < 10 ^ 398) : gd (.int a) = true := by
  have h2 : a.natAbs.log2 < 1920 := by
    by_cases h0 : a.natAbs = 0
    · rw [h0]; decide
    · exact (Nat.log2_lt h0).mpr (Nat.lt_of_lt_of_le h (by decide +kernel))
  have e := int_text_length_le10 (k := 398) (by decide) h
  rw [gd]
  unfold lf
  rw [Bool.and_eq_true, decide_eq_true_eq]
  refine ⟨by simpa [PyData.showable] using h2, ?_⟩
  show (Str.ofString (toString a)).length ≤ 400
  rw [PySem.ofString_length]
  omega
set_option exponentiation.threshold 500 in
theorem pw7 : (10 : Nat) ^ 7 ≤ 10 ^ 398 := Nat.pow_le_pow_right (by decide) (by decide)
theorem gd_small {a : Int} (h : 0 ≤ a ∧ a ≤ 1000000) : gd (.int a) = true := gd_int (Nat.lt_of_lt_of_le (show a.natAbs < 10 ^ 7 by omega) pw7)
def RowBd (z : D) : Prop := ∃ (r : D) (w : List Int), z = rowW r w ∧ Bd 20200 2 r ∧ (∀ i ∈ w, 0 ≤ i ∧ i ≤ 1000000) ∧ w.length ≤ 40
theorem unless_bd {t : D} (h : TestOk t) {i : Int} (hi : 0 ≤ i ∧ i ≤ 1000000) : Bd 20200 2 (unlessD t i) := (Bd.tup (s := 1209) (n := 1) (m := 3) (fun y m => by
  simp only [List.mem_cons, List.mem_nil_iff, or_false] at m
  rcases m with rfl | rfl | rfl
  · exact bd_str (word_gd "unless" (by simp)) (by omega)
  · exact test_bd h
  · exact ⟨gd_small hi, by rw [sz]; omega, by rw [dep]; omega⟩) (by show 3 ≤ 3; omega)).mono (by omega) (by omega)
theorem jump_bd {i : Int} (hi : 0 ≤ i ∧ i ≤ 1000000) : Bd 20200 2 (jumpD i) := (Bd.tup (s := 400) (n := 1) (m := 2) (fun y m => by
  simp only [List.mem_cons, List.mem_nil_iff, or_false] at m
  rcases m with rfl | rfl
  · exact bd_str (word_gd "jump" (by simp)) (by omega)
  · exact ⟨gd_small hi, by rw [sz]; omega, by rw [dep]; omega⟩) (by show 2 ≤ 2; omega)).mono (by omega) (by omega)
theorem rowOf_len (n : Nat) (s : D) (own : List Int) (st : Int) : (rowOf (rowsF n) s own st).length ≤ 2 * sizeS (n + 1) s := by
  unfold rowOf sizeS
  cases h : partsS s with
  | none => show 1 ≤ 2 * (1 + 0); omega
  | some q =>
    obtain ⟨w, t, a, b⟩ := q
    have h1 := rows_len n a (own ++ [0]) (st + 1)
    cases w with
    | true =>
      simp only [List.length_cons, List.length_append, List.length_nil]
      unfold sizeL at h1
      omega
    | false =>
      dsimp only
      have h2 := rows_len n b (own ++ [1]) (st + 1 + (rowsF n a (own ++ [0]) (st + 1)).length + 1)
      unfold sizeL at h1 h2
      show _ ≤ 2 * (1 + ((a.map (sizeS n)).sum + (b.map (sizeS n)).sum))
      generalize (a.map (sizeS n)).sum = c1 at *
      generalize (b.map (sizeS n)).sum = c2 at *
      split
      · simp only [List.length_cons]; omega
      · simp only [List.length_cons, List.length_append]; omega
theorem rows_bd : ∀ (n : Nat) (ss : List D) (way : List Int) (st : Int), (∀ s ∈ ss, StmOk n s) → 0 ≤ st → st + 2 * (sizeL n ss : Nat) ≤ 900000 → (∀ i ∈ way, 0 ≤ i ∧ i ≤ 1000000) → way.length + 2 * n ≤ 40 → ∀ z ∈ rowsF n ss way st, RowBd z
  | 0, _, _, _, _, _, _, _, _, z, m => by cases m
  | n + 1, ss, way, st, hs, h0, hz, hw, hl, z, m => by
    have one : ∀ (s : D) (own : List Int) (st : Int), StmOk (n + 1) s → 0 ≤ st → st + 2 * (sizeS (n + 1) s : Nat) ≤ 900000 → (∀ i ∈ own, 0 ≤ i ∧ i ≤ 1000000) → own.length + 2 * n + 1 ≤ 40 → ∀ z ∈ rowOf (rowsF n) s own st, RowBd z := fun s own st h h0 hz hw hl => by
      have wx : ∀ x : Int, 0 ≤ x ∧ x ≤ 1 → ∀ i ∈ own ++ [x], 0 ≤ i ∧ i ≤ 1000000 := fun x hx i m => by
        rcases List.mem_append.mp m with m | m
        · exact hw i m
        · rw [List.mem_singleton.mp m]; omega
      have wl : ∀ x : Int, (own ++ [x]).length + 2 * n ≤ 40 := fun x => by rw [List.length_append]; simp only [List.length_singleton]; omega
      cases h with
      | @simp n k xs h1 h2 h3 =>
        have hk := (wordS_ok.2.2.2 k h1).2.2.2
        unfold rowOf
        rw [parts_simp h2]
        intro z m
        rw [List.mem_singleton.mp m]
        refine ⟨_, own, rfl, ?_, hw, by omega⟩
        show Bd 20200 2 (if k = "call" then _ else .tup (.str k :: xs.map D.str))
        rw [if_neg hk]
        refine (Bd.tup (s := 400) (n := 0) (m := 3) (fun y m => ?_) (by rw [List.length_cons, List.length_map]; omega)).mono (by omega) (by omega)
        rcases List.mem_cons.mp m with rfl | m
        · exact bd_str (word_gd k (by simp [h1])) (by omega)
        · obtain ⟨x, mx, rfl⟩ := List.mem_map.mp m
          exact bd_str (h3 x mx).1 (by omega)
      | @call n x f as bs h1 h2 h3 h4 h5 =>
        unfold rowOf
        rw [parts_call]
        intro z m
        rw [List.mem_singleton.mp m]
        refine ⟨.tup [.str "call", .str x, .str f, .tup (as.map D.str)], own, rfl, ?_, hw, by omega⟩
        refine (Bd.tup (s := 4023) (n := 1) (m := 4) (fun y m => ?_) (by show 4 ≤ 4; omega)).mono (by omega) (by omega)
        simp only [List.mem_cons, List.mem_nil_iff, or_false] at m
        rcases m with rfl | rfl | rfl | rfl
        · exact bd_str (word_gd "call" (by simp)) (by omega)
        · exact bd_str h1.1 (by omega)
        · exact bd_str h2.1 (by omega)
        · exact (bd_strs (fun x m => h5 x (List.mem_append_left _ m)) h3).mono (by omega) (by omega)
      | @iff n t a b h1 l1 l2 h3 h4 =>
        have e : sizeS (n + 1) (.tup [.str "if", t, .tup a, .tup b]) = 1 + (sizeL n a + sizeL n b) := by
          unfold sizeS
          rw [parts_if]
          rfl
        rw [e] at hz
        unfold rowOf
        rw [parts_if]
        dsimp only
        have r1 := rows_bd n a (own ++ [0]) (st + 1) h3 (by omega) (by omega) (wx 0 (by omega)) (wl 0)
        have n1 := rows_len n a (own ++ [0]) (st + 1)
        generalize rowsF n a (own ++ [0]) (st + 1) = fa at r1 n1 ⊢
        have r2 := rows_bd n b (own ++ [1]) (st + 1 + (fa.length : Nat) + 1) h4 (by omega) (by omega) (wx 1 (by omega)) (wl 1)
        have n2 := rows_len n b (own ++ [1]) (st + 1 + (fa.length : Nat) + 1)
        generalize rowsF n b (own ++ [1]) (st + 1 + (fa.length : Nat) + 1) = fb at r2 n2 ⊢
        intro z m
        split at m
        · rcases List.mem_cons.mp m with rfl | m
          · exact ⟨_, own, rfl, unless_bd h1 (by omega), hw, by omega⟩
          · exact r1 z m
        · rcases List.mem_cons.mp m with rfl | m
          · exact ⟨_, own, rfl, unless_bd h1 (by omega), hw, by omega⟩
          · rcases List.mem_append.mp m with m | m
            · exact r1 z m
            · rcases List.mem_cons.mp m with rfl | m
              · exact ⟨_, own, rfl, jump_bd (by omega), hw, by omega⟩
              · exact r2 z m
      | @whil n t kp b h1 h2 l1 h3 =>
        have e : sizeS (n + 1) (.tup [.str "while", t, kp, .tup b]) = 1 + (sizeL n b + 0) := by
          unfold sizeS
          rw [parts_while]
          rfl
        rw [e] at hz
        unfold rowOf
        rw [parts_while]
        dsimp only
        have r1 := rows_bd n b (own ++ [0]) (st + 1) h3 (by omega) (by omega) (wx 0 (by omega)) (wl 0)
        have n1 := rows_len n b (own ++ [0]) (st + 1)
        generalize rowsF n b (own ++ [0]) (st + 1) = fa at r1 n1 ⊢
        intro z m
        rcases List.mem_cons.mp m with rfl | m
        · exact ⟨_, own, rfl, unless_bd h1 (by omega), hw, by omega⟩
        · rcases List.mem_append.mp m with m | m
          · exact r1 z m
          · rw [List.mem_singleton.mp m]
            exact ⟨_, own, rfl, jump_bd (by omega), hw, by omega⟩
    have key : ∀ (l : List D) (i : Nat) (acc : List D), (∀ s ∈ l, StmOk (n + 1) s) → st + (acc.length : Nat) + 2 * (sizeL (n + 1) l : Nat) ≤ 900000 → i + l.length ≤ 900000 → (∀ z ∈ acc, RowBd z) → ∀ z ∈ rowsL (rowsF n) way st l i acc, RowBd z := fun l => by
      induction l with
      | nil => exact fun i acc _ _ _ h => h
      | cons s r ih =>
        intro i acc hl' hz' hi' ha
        have e : sizeL (n + 1) (s :: r) = sizeS (n + 1) s + sizeL (n + 1) r := by unfold sizeL; rw [List.map_cons, List.sum_cons]
        rw [e] at hz'
        rw [List.length_cons] at hi'
        have ol := rowOf_len n s (way ++ [(i : Int)]) (st + (acc.length : Nat))
        refine ih (i + 1) _ (fun x m => hl' x (by simp [m])) (by rw [List.length_append]; omega) (by omega) fun z m => ?_
        rcases List.mem_append.mp m with m | m
        · exact ha z m
        · refine one s (way ++ [(i : Int)]) (st + (acc.length : Nat)) (hl' s (by simp)) (by omega) (by omega) (fun x mx => ?_) (by rw [List.length_append]; simp only [List.length_singleton]; omega) z m
          rcases List.mem_append.mp mx with mx | mx
          · exact hw x mx
          · rw [List.mem_singleton.mp mx]; omega
    have ln := len_size hs
    exact key ss 0 [] hs (by simpa using hz) (by omega) (fun z m => by cases m) z m
theorem told_shok {fd : D} {ss : List D} (F : FnIs fd ss) (hz : sizeL 6 ss ≤ 41) : shOk (.lst [codeD ss, waysD ss]) := by
  have rb := rows_bd 6 ss [] 0 F.ok (by omega) (by omega) (fun i m => by cases m) (by show 0 + 2 * 6 ≤ 40; omega)
  have rl : (rowsF 6 ss [] 0).length ≤ 82 := by have := rows_len 6 ss [] 0; omega
  have c : Bd 4900000 5 (codeD ss) := (Bd.tup (s := 20200) (n := 3) (m := 83) (fun y m => by
    rcases List.mem_append.mp m with m | m
    · obtain ⟨z, mz, rfl⟩ := List.mem_map.mp m
      obtain ⟨r, w, rfl, hb, _, _⟩ := rb z mz
      exact hb.mono (by omega) (by omega)
    · rw [List.mem_singleton.mp m]
      exact (Bd.tup (s := 400) (n := 0) (m := 1) (fun y m => by rw [List.mem_singleton.mp m]; exact bd_str (word_gd "back" (by simp)) (by omega)) (by show 1 ≤ 1; omega)).mono (by omega) (by omega)) (by rw [List.length_append, List.length_map]; show (rowsF 6 ss [] 0).length + 1 ≤ 83; omega)).mono (by omega) (by omega)
  have w : Bd 4900000 5 (waysD ss) := (Bd.tup (s := 20200) (n := 3) (m := 83) (fun y m => by
    rcases List.mem_append.mp m with m | m
    · obtain ⟨z, mz, rfl⟩ := List.mem_map.mp m
      obtain ⟨r, w, rfl, _, hw, hl⟩ := rb z mz
      exact (Bd.tup (s := 400) (n := 0) (m := 40) (fun y m => by
        obtain ⟨i, mi, rfl⟩ := List.mem_map.mp m
        exact ⟨gd_small (hw i mi), by rw [sz]; omega, by rw [dep]; omega⟩) (by rw [List.length_map]; exact hl) : Bd _ _ (wayD w)).mono (by omega) (by omega)
    · rw [List.mem_singleton.mp m]
      exact (Bd.tup (s := 400) (n := 0) (m := 0) (fun y m => by cases m) (Nat.zero_le _)).mono (by omega) (by omega)) (by rw [List.length_append, List.length_map]; show (rowsF 6 ss [] 0).length + 1 ≤ 83; omega)).mono (by omega) (by omega)
  refine (Bd.lst (m := 2) (s := 4900000) (n := 5) (fun y m => ?_) (by show 2 ≤ 2; omega)).sh (by omega) (by omega)
  simp only [List.mem_cons, List.mem_nil_iff, or_false] at m
  rcases m with rfl | rfl
  · exact c
  · exact w
end K32

namespace K32
open PySem PySem.Spec L2 Dv
open PyProof.Rows hiding St
/-! ### one deeper -/
section
variable {P : Program} {w : World} {K : PySem.W.Frag} {mg : Str → Option Value} {base : Heap} {k : Nat}
def sp__law_deep : WF := fun ds S R => ∃ (dk : Addr) (ss : List D) (many : Nat), ds = [.ref dk, .tup ss, .int many] ∧ S.o = some dk ∧ many ≤ 1 ∧ (∀ s ∈ ss, StmOk 4 s) ∧ ss.length ≤ 2 ∧ ∀ tt : List D, (∀ s ∈ tt, StmOk 5 s) → tt.length ≤ 2 → R (.tup tt) S
theorem fn__law_deep (c1 : FnIn P w K mg base DS k ⟨"_law_draw", 2, sp__law_draw, []⟩) (d : Df K mg "_law_deep" s__law_deep ["stock", "statements", "many"] []) (hb : BlIn mg ["range"]) : FnIn P w K mg base DS (k + 1) ⟨"_law_deep", 3, sp__law_deep, []⟩ := by
  refine fn_mkL d sc__law_deep rfl (fns := [⟨"_law_draw", 2, sp__law_draw, []⟩]) (cs := []) ⟨c1, trivial⟩ trivial hb (fun X o => (s_cons (s_L (s_for o (i_rg1 o (e_var o 2)) (g_name o 3)
  (ss_L (s_cons (s_set o 4 (e_call o 0 (a_cons (e_var o 0) (a_cons e_int a_nil))))
  (s_cons (s_if (t_cmp o c_eq (e_var o 4) e_int)
  (s_cons (s_set o 1 (e_tup (a_cons (e_tup (a_cons e_str (a_cons (e_tup (a_cons e_str a_nil)) (a_cons e_non (a_cons (e_var o 1) a_nil))))) a_nil)))
  s_nil)
  (s_cons (s_if (t_cmp o c_eq (e_var o 4) e_int)
  (s_cons (s_set o 1 (e_tup (a_cons (e_tup (a_cons e_str (a_cons (e_tup (a_cons e_str (a_cons e_str (a_cons e_str a_nil)))) (a_cons (e_tup a_nil) (a_cons (e_var o 1) a_nil))))) a_nil)))
  s_nil)
  (s_cons (s_set o 1 (e_tup (a_cons (e_tup (a_cons e_str (a_cons (e_tup (a_cons e_str a_nil)) (a_cons (e_var o 1) (a_cons (e_if (t_cmp o c_eq (e_var o 4) e_int) (e_tup (a_cons (e_tup (a_cons e_str (a_cons e_str a_nil))) a_nil)) (e_tup a_nil)) a_nil))))) a_nil)))
  s_nil))
  s_nil))
  s_nil)))))
  (s_cons (s_ret (e_var o 1))
  s_nil))) ?_
  intro ds S R hl h
  obtain ⟨dk, ss, many, rfl, ho, hm, hs, hl2, hR⟩ := h
  have anyT : TestOk (.tup [.str "any"]) := ⟨["any"], rfl, by show 1 ≤ 3; omega, fun x m => by rw [List.mem_singleton.mp m]; exact drawn_ok _ (by simp [drawnW])⟩
  have isT : TestOk (.tup [.str "is", .str "nil", .str "result"]) := ⟨["is", "nil", "result"], rfl, by show 3 ≤ 3; omega, fun x m => by
    simp only [List.mem_cons, List.mem_nil_iff, or_false] at m
    rcases m with rfl | rfl | rfl <;> exact drawn_ok _ (by simp [drawnW])⟩
  have free : StmOk 4 (.tup [.str "free", .str "nil"]) := .simp (xs := ["nil"]) (k := "free") (by simp [simpleW]) (by show 1 ≤ 2; omega) fun x m => by rw [List.mem_singleton.mp m]; exact drawn_ok _ (by simp [drawnW])
  show wSeq _ _ _ [some (.ref dk), some (.tup ss), some (.int many), none, none] S
  rw [x_seq]
  refine for_L4 _ (.refl _) (fun ds gd S1 => ds.length ≤ 1 ∧ gd = [] ∧ S = S1) (fun Q q => ?_) ?_
  · simp only [x_iRg1, x_tupZip, x_dpop, x_dcT, x_iZip, x_listZip, x_md, x_zipR, x_zipD, x_listRg1, x_listRg2, x_sortItems, x_listItems, x_back, x_ifT, x_sortSet, x_get1, x_get2, fnAt, x_lc, x_lcN, x_var, x_C, x_op, x_un, x_slice, x_noPart, x_part, x_tru, x_B, x_chain, x_and, x_or, x_not, x_andV, x_orV, x_notB, x_if, x_nil, x_cons, x_tup, x_lst, x_call, x_callK, x_gN, x_gT, x_gs0, x_gs1, x_yes, x_iSeq, x_iEn, x_words, x_ml, x_disp, x_d0, x_pnil, x_pcons, csAt, List.getD_cons_zero, List.getD_cons_succ, List.getElem?_cons_zero, List.getElem?_cons_succ, List.set_cons_zero, List.set_cons_succ]
    exact ⟨many, rfl, by omega, by omega, q _ _ _ ⟨by rw [rgD_length]; omega, rfl, rfl⟩⟩
  rintro rs _ _ ⟨hrs, rfl, rfl⟩
  refine for_body (fun rest ρ S' => ∃ (ss : List D) (x3 x4 : Option D), (rest = [] → ∀ s ∈ ss, StmOk 5 s) ∧ (rest ≠ [] → ∀ s ∈ ss, StmOk 4 s) ∧ rest.length ≤ 1 ∧ ss.length ≤ 2 ∧ ρ = [some (.ref dk), some (.tup ss), some (.int many), x3, x4] ∧ S = S') _ (.refl _)
    ⟨ss, none, none, fun _ s m => (hs s m).up, fun _ => hs, hrs, hl2, rfl, rfl⟩ ?_ ?_
  · rintro z rest ρ _ ⟨ss, x3, x4, _, h4, hr, hl2, rfl, rfl⟩
    have hs4 : ∀ s ∈ ss, StmOk 4 s := h4 (by simp)
    have he : rest = [] := by
      rw [List.length_cons] at hr
      exact List.length_eq_zero_iff.mp (by omega)
    subst he
    refine ⟨trivial, [some (.ref dk), some (.tup ss), some (.int many), some z, x4], fun S2 Q q => q, ?_⟩
    rw [x_seq]
    simp only [x_asg, x_tupZip, x_dpop, x_dcT, x_iZip, x_listZip, x_md, x_zipR, x_zipD, x_listRg1, x_listRg2, x_sortItems, x_listItems, x_back, x_ifT, x_sortSet, x_get1, x_get2, fnAt, x_lc, x_lcN, x_var, x_C, x_op, x_un, x_slice, x_noPart, x_part, x_tru, x_B, x_chain, x_and, x_or, x_not, x_andV, x_orV, x_notB, x_if, x_nil, x_cons, x_tup, x_lst, x_call, x_callK, x_gN, x_gT, x_gs0, x_gs1, x_yes, x_iSeq, x_iEn, x_words, x_ml, x_disp, x_d0, x_pnil, x_pcons, csAt, List.getD_cons_zero, List.getD_cons_succ, List.getElem?_cons_zero, List.getElem?_cons_succ, List.set_cons_zero, List.set_cons_succ]
    refine draw_ok ho (by omega) (by omega) fun n hn => ?_
    have fin : ∀ s : D, StmOk 5 s → ∃ S2, Less S2 S ∧ ∃ (ss : List D) (y3 y4 : Option D), (True → ∀ s ∈ ss, StmOk 5 s) ∧ (([] : List D) ≠ [] → ∀ s ∈ ss, StmOk 4 s) ∧ ([] : List D).length ≤ 1 ∧ ss.length ≤ 2 ∧ ([some (.ref dk), some (.tup [s]), some (.int many), some z, some (.int (n : Nat))] : Dv.Env) = [some (.ref dk), some (.tup ss), some (.int many), y3, y4] ∧ S = S2 := fun s hs => ⟨S, .refl S, [s], _, _, fun _ x m => by rw [List.mem_singleton.mp m]; exact hs, fun q => absurd rfl q, Nat.zero_le _, by show 1 ≤ 2; omega, rfl, rfl⟩
    simp only [x_tupZip, x_dpop, x_dcT, x_iZip, x_listZip, x_md, x_zipR, x_zipD, x_listRg1, x_listRg2, x_sortItems, x_listItems, x_back, x_ifT, x_sortSet, x_get1, x_get2, fnAt, x_lc, x_lcN, x_var, x_C, x_op, x_un, x_slice, x_noPart, x_part, x_tru, x_B, x_chain, x_and, x_or, x_not, x_andV, x_orV, x_notB, x_if, x_nil, x_cons, x_tup, x_lst, x_call, x_callK, x_gN, x_gT, x_gs0, x_gs1, x_yes, x_iSeq, x_iEn, x_words, x_ml, x_disp, x_d0, x_pnil, x_pcons, csAt, List.getD_cons_zero, List.getD_cons_succ, List.getElem?_cons_zero, List.getElem?_cons_succ, List.set_cons_zero, List.set_cons_succ, x_seq, x_skip, x_ifS, x_ret, x_retN, x_asg, x_par, x_expr, x_brk, x_cnt, eq_ints]
    split
    · exact ⟨lzn 1, lzn 4, lzn 1, fin _ (.whil anyT (.inl rfl) hl2 hs4)⟩
    · split
      · exact ⟨lzn 3, lzn 0, lzn 4, lzn 1, fin _ (.iff (a := []) isT (Nat.zero_le _) hl2 (fun s m => by cases m) hs4)⟩
      · split
        · exact ⟨lzn 1, lzn 2, lzn 1, lzn 4, lzn 1, fin _ (.iff (b := [D.tup [.str "free", .str "nil"]]) anyT hl2 (by show 1 ≤ 2; omega) hs4 fun s m => by rw [List.mem_singleton.mp m]; exact free)⟩
        · exact ⟨lzn 1, lzn 0, lzn 4, lzn 1, fin _ (.iff (b := []) anyT hl2 (Nat.zero_le _) hs4 fun s m => by cases m)⟩
  · rintro ρ _ ⟨ss, x3, x4, h5, _, _, hl2, rfl, rfl⟩
    refine ⟨trivial, ?_⟩
    simp only [x_tupZip, x_dpop, x_dcT, x_iZip, x_listZip, x_md, x_zipR, x_zipD, x_listRg1, x_listRg2, x_sortItems, x_listItems, x_back, x_ifT, x_sortSet, x_get1, x_get2, fnAt, x_lc, x_lcN, x_var, x_C, x_op, x_un, x_slice, x_noPart, x_part, x_tru, x_B, x_chain, x_and, x_or, x_not, x_andV, x_orV, x_notB, x_if, x_nil, x_cons, x_tup, x_lst, x_call, x_callK, x_gN, x_gT, x_gs0, x_gs1, x_yes, x_iSeq, x_iEn, x_words, x_ml, x_disp, x_d0, x_pnil, x_pcons, csAt, List.getD_cons_zero, List.getD_cons_succ, List.getElem?_cons_zero, List.getElem?_cons_succ, List.set_cons_zero, List.set_cons_succ, x_seq, x_skip, x_ifS, x_ret, x_retN, x_asg, x_par, x_expr, x_brk, x_cnt]
    exact ⟨S, .refl S, hR ss (h5 rfl) hl2⟩
end
end K32

namespace K32
open PySem PySem.Spec L2 Dv
open PyProof.Rows hiding St
/-! ### the law -/
section
variable {P : Program} {w : World} {K : PySem.W.Frag} {mg : Str → Option Value} {base : Heap} {k : Nat}
theorem fn_is {nm : Str} {a b c : List Str} {hd ft : List Cl} {ss : List D} (hs : ∀ s ∈ ss, StmOk 6 s) (hz : sizeL 6 ss ≤ 100000) : FnIs (fnD nm a b c hd ft ss) ss := ⟨⟨_, rfl, rfl⟩, hs, hz⟩
theorem told_ok {nm : Str} {a b c : List Str} {hd ft : List Cl} {ss : List D} (h : FnDr nm a b c hd ft) (hs : ∀ s ∈ ss, StmOk 6 s) (hz : sizeL 6 ss ≤ 41) {bb : Bool} {S : GS} {Q : D → GS → Prop} (q : Q (.bl true) S) : sp__law_is_told [fnD nm a b c hd ft ss, .bl bb] S Q :=
  ⟨_, ss, bb, rfl, fn_is hs (by omega), fn_shok h hs (by omega) hz, told_shok (fn_is (nm := nm) (a := a) (b := b) (c := c) (hd := hd) (ft := ft) hs (by omega)) hz, q⟩
theorem up6 {ss : List D} (h : ∀ s ∈ ss, StmOk 4 s) : (∀ s ∈ ss, StmOk 6 s) ∧ sizeL 6 ss = sizeL 4 ss := ⟨fun s m => (h s m).up.up, by rw [sizeL_up (n := 5) (fun s m => (h s m).up), sizeL_up (n := 4) h]⟩
theorem nm_f : NameOk "f" ∧ NameOk "g" := by
  have h : ([("f" : Str), "g"]).all (fun x => gd (.str x) && PyData.strOk x) = true := by decide +kernel
  have h1 := List.all_eq_true.mp h "f" (by simp)
  have h2 := List.all_eq_true.mp h "g" (by simp)
  constructor
  · simpa [NameOk, Bool.and_eq_true] using h1
  · simpa [NameOk, Bool.and_eq_true] using h2
def sp_law : WF := fun ds S R => ∃ ns : List Int, ds = [.lst (ns.map D.int)] ∧ ns.length ≤ 63 ∧ S.o = none ∧ ∀ S', R (.bl true) S'
theorem fn_law (hF : FnsIn P w K mg base DS k [⟨"_law_is_told", 2, sp__law_is_told, []⟩, ⟨"_law_pick", 2, sp__law_pick, []⟩, ⟨"_law_function", 5, sp__law_function, []⟩, ⟨"_law_shape", 2, sp__law_shape, []⟩, ⟨"_law_size", 1, sp__law_size, []⟩, ⟨"_law_deep", 3, sp__law_deep, []⟩, ⟨"_law_draw", 2, sp__law_draw, []⟩, ⟨"_law_stock", 1, sp__law_stock, []⟩]) {f : Addr} {fd : FuncData} (d : L2.Fun K "law" "law" s_law f fd) (hb : BlIn mg ["len", "range"]) : FnG P w K mg base (k + 1) f fd ["script"] (spOf K DS 1 sp_law) := by
  refine law_mk d sc_law rfl (fns := [⟨"_law_is_told", 2, sp__law_is_told, []⟩, ⟨"_law_pick", 2, sp__law_pick, []⟩, ⟨"_law_function", 5, sp__law_function, []⟩, ⟨"_law_shape", 2, sp__law_shape, []⟩, ⟨"_law_size", 1, sp__law_size, []⟩, ⟨"_law_deep", 3, sp__law_deep, []⟩, ⟨"_law_draw", 2, sp__law_draw, []⟩, ⟨"_law_stock", 1, sp__law_stock, []⟩]) (cs := []) hF trivial hb (fun X o => (s_cons (s_set o 1 (e_call o 7 (a_cons (e_var o 0) a_nil)))
  (s_cons (s_L (s_for o (i_rg1 o e_int) (g_name o 2)
  (ss_L (s_cons (s_set o 4 (e_call o 3 (a_cons (e_var o 1) (a_cons e_int a_nil))))
  (s_cons (s_set o 5 (e_call o 2 (a_cons (e_var o 1) (a_cons e_str (a_cons (e_var o 4) (a_cons (e_lst (a_cons (e_tup (a_cons e_str (a_cons (e_len o (a_cons (e_ix o (e_var o 4) e_int) a_nil)) (a_cons (e_len o (a_cons (e_ix o (e_var o 4) e_int) a_nil)) a_nil)))) (a_cons (e_tup (a_cons e_str (a_cons e_int (a_cons e_int a_nil)))) a_nil))) (a_cons e_int a_nil)))))))
  (s_cons (s_if (t_not (t_tru (e_call o 0 (a_cons (e_var o 5) (a_cons (e_cmp o c_eq (e_var o 2) e_int) a_nil)))))
  (s_cons (s_ret e_tt)
  s_nil)
  s_nil)
  (s_cons (s_set o 6 (e_add (e_call o 5 (a_cons (e_var o 1) (a_cons (e_slice (e_ix o (e_var o 5) e_int) p_none (p_some e_int)) (a_cons (e_call o 6 (a_cons (e_var o 1) (a_cons e_int a_nil))) a_nil)))) (e_slice (e_ix o (e_var o 5) e_int) p_none (p_some e_int))))
  (s_cons (s_if (t_w (w_and (t_cmp o c_lt (e_call o 4 (a_cons (e_var o 6) a_nil)) e_int) (w_and1 (t_not (t_tru (e_call o 0 (a_cons (e_add (e_slice (e_var o 5) p_none (p_some e_int)) (e_tup (a_cons (e_var o 6) a_nil))) (a_cons e_tt a_nil))))))))
  (s_cons (s_ret e_tt)
  s_nil)
  s_nil)
  s_nil))))))))
  (s_cons (s_set o 3 (e_call o 2 (a_cons (e_var o 1) (a_cons e_str (a_cons (e_call o 3 (a_cons (e_var o 1) (a_cons e_int a_nil))) (a_cons (e_lst a_nil) (a_cons e_int a_nil)))))))
  (s_cons (s_ret (e_call o 0 (a_cons (e_add (e_slice (e_var o 3) p_none (p_some e_int)) (e_tup (a_cons (e_mulS (e_tup (a_cons (e_tup (a_cons e_str (a_cons e_str (a_cons e_str a_nil)))) a_nil)) (e_call o 1 (a_cons (e_var o 1) (a_cons (e_lst (a_cons e_int (a_cons e_int (a_cons e_int a_nil)))) a_nil)))) a_nil))) (a_cons e_tt a_nil))))
  s_nil))))) ?_
  intro ds S R hl0 h
  obtain ⟨ns, rfl, hn, ho, hR⟩ := h
  show wSeq _ _ _ [some (.lst (ns.map D.int)), none, none, none, none, none, none] S
  generalize hscr : D.lst (ns.map D.int) = scr
  rw [x_seq]
  simp only [x_tupZip, x_dpop, x_dcT, x_iZip, x_listZip, x_md, x_zipR, x_zipD, x_listRg1, x_listRg2, x_sortItems, x_listItems, x_back, x_ifT, x_sortSet, x_get1, x_get2, fnAt, x_lc, x_lcN, x_var, x_C, x_op, x_un, x_slice, x_noPart, x_part, x_tru, x_B, x_chain, x_and, x_or, x_not, x_andV, x_orV, x_notB, x_if, x_nil, x_cons, x_tup, x_lst, x_call, x_callK, x_gN, x_gT, x_gs0, x_gs1, x_yes, x_iSeq, x_iEn, x_words, x_ml, x_disp, x_d0, x_pnil, x_pcons, csAt, List.getD_cons_zero, List.getD_cons_succ, List.getElem?_cons_zero, List.getElem?_cons_succ, List.set_cons_zero, List.set_cons_succ, x_asg]
  refine ⟨ns, by rw [← hscr], hn, ho, fun dk => ?_⟩
  generalize hS1 : (⟨S.g, some dk⟩ : GS) = S1
  have ho1 : S1.o = some dk := by rw [← hS1]
  clear hS1 ho hscr
  show wSeq _ _ _ [some scr, some (.ref dk), none, none, none, none, none] S1
  rw [x_seq]
  have rgi : ∀ {n : Nat} {d : D}, d ∈ rgD 0 n → ∃ i, d = D.int i := fun {n d} m => rg_int d m
  refine for_L4 _ (.refl _) (fun ds gd S2 => (∀ d ∈ ds, ∃ i, d = D.int i) ∧ gd = [] ∧ S1 = S2) (fun Q q => ?_) ?_
  · simp only [x_iRg1, x_tupZip, x_dpop, x_dcT, x_iZip, x_listZip, x_md, x_zipR, x_zipD, x_listRg1, x_listRg2, x_sortItems, x_listItems, x_back, x_ifT, x_sortSet, x_get1, x_get2, fnAt, x_lc, x_lcN, x_var, x_C, x_op, x_un, x_slice, x_noPart, x_part, x_tru, x_B, x_chain, x_and, x_or, x_not, x_andV, x_orV, x_notB, x_if, x_nil, x_cons, x_tup, x_lst, x_call, x_callK, x_gN, x_gT, x_gs0, x_gs1, x_yes, x_iSeq, x_iEn, x_words, x_ml, x_disp, x_d0, x_pnil, x_pcons, csAt, List.getD_cons_zero, List.getD_cons_succ, List.getElem?_cons_zero, List.getElem?_cons_succ, List.set_cons_zero, List.set_cons_succ]
    exact ⟨6, rfl, by decide, by decide, q _ _ _ ⟨fun d m => rgi m, rfl, rfl⟩⟩
  rintro ds _ _ ⟨hds, rfl, rfl⟩
  refine for_body (fun rest ρ S' => (∀ d ∈ rest, ∃ i, d = D.int i) ∧ S1 = S' ∧ ∃ a2 a4 a5 a6, ρ = [some scr, some (.ref dk), a2, none, a4, a5, a6]) _ (.refl _) ⟨hds, rfl, none, none, none, none, rfl⟩ ?_ ?_
  · rintro e r ρ _ ⟨hi, rfl, a2, a4, a5, a6, rfl⟩
    have hi' : ∀ d ∈ r, ∃ i, d = D.int i := fun d m => hi d (by simp [m])
    obtain ⟨ti, rfl⟩ := hi e (by simp)
    refine ⟨trivial, [some scr, some (.ref dk), some (.int ti), none, a4, a5, a6], fun S2 Q q => q, ?_⟩
    rw [x_seq]
    simp only [x_asg, x_tupZip, x_dpop, x_dcT, x_iZip, x_listZip, x_md, x_zipR, x_zipD, x_listRg1, x_listRg2, x_sortItems, x_listItems, x_back, x_ifT, x_sortSet, x_get1, x_get2, fnAt, x_lc, x_lcN, x_var, x_C, x_op, x_un, x_slice, x_noPart, x_part, x_tru, x_B, x_chain, x_and, x_or, x_not, x_andV, x_orV, x_notB, x_if, x_nil, x_cons, x_tup, x_lst, x_call, x_callK, x_gN, x_gT, x_gs0, x_gs1, x_yes, x_iSeq, x_iEn, x_words, x_ml, x_disp, x_d0, x_pnil, x_pcons, csAt, List.getD_cons_zero, List.getD_cons_succ, List.getElem?_cons_zero, List.getElem?_cons_succ, List.set_cons_zero, List.set_cons_succ]
    refine ⟨dk, 5, rfl, ho1, by omega, by omega, fun a b c sh => ?_⟩
    have la8 := sh.la
    have lb8 := sh.lb
    have lnT : ∀ (S : GS) (l : List Str), lenD S (.tup (l.map D.str)) = some l.length := fun S l => by
      have := len_seq (S := S) (d := .tup (l.map D.str)) (ds := l.map D.str) rfl
      rw [List.length_map] at this
      exact this
    show wSeq _ _ _ [some scr, some (.ref dk), some (.int ti), none, some (shD a b c), a5, a6] S1
    rw [x_seq]
    simp only [x_asg, x_tupZip, x_dpop, x_dcT, x_iZip, x_listZip, x_md, x_zipR, x_zipD, x_listRg1, x_listRg2, x_sortItems, x_listItems, x_back, x_ifT, x_sortSet, x_get1, x_get2, fnAt, x_lc, x_lcN, x_var, x_C, x_op, x_un, x_slice, x_noPart, x_part, x_tru, x_B, x_chain, x_and, x_or, x_not, x_andV, x_orV, x_notB, x_if, x_nil, x_cons, x_tup, x_lst, x_call, x_callK, x_gN, x_gT, x_gs0, x_gs1, x_yes, x_iSeq, x_iEn, x_words, x_ml, x_disp, x_d0, x_pnil, x_pcons, csAt, List.getD_cons_zero, List.getD_cons_succ, List.getElem?_cons_zero, List.getElem?_cons_succ, List.set_cons_zero, List.set_cons_succ, sh_ix0, sh_ix1, fLen, f1, lnT]
    refine ⟨lzn 3, lzn 3, lzn 2, dk, "f", a, b, c, [("f", a.length, b.length), ("g", 1, 2)], 9, rfl, ho1, nm_f.1, sh, ⟨by show 2 ≤ 10; omega, fun o m => ?_⟩, by omega, by omega, fun hd ft ss dr hok hz => ?_⟩
    · simp only [List.mem_cons, List.mem_nil_iff, or_false] at m
      rcases m with rfl | rfl
      · exact ⟨nm_f.1, by show a.length ≤ 10; omega, by show b.length ≤ 10; omega⟩
      · exact ⟨nm_f.2, by show 1 ≤ 10; omega, by show 2 ≤ 10; omega⟩
    obtain ⟨ok6, e6⟩ := up6 hok
    generalize hFd : fnD "f" a b c hd ft ss = Fd
    show wSeq _ _ _ [some scr, some (.ref dk), some (.int ti), none, some (shD a b c), some Fd, a6] S1
    generalize hSh : shD a b c = Sh
    refine seq_if2 False True (fun Q q0 q1 => ?_) (fun z => z.elim) fun _ => ?_
    · simp only [x_tupZip, x_dpop, x_dcT, x_iZip, x_listZip, x_md, x_zipR, x_zipD, x_listRg1, x_listRg2, x_sortItems, x_listItems, x_back, x_ifT, x_sortSet, x_get1, x_get2, fnAt, x_lc, x_lcN, x_var, x_C, x_op, x_un, x_slice, x_noPart, x_part, x_tru, x_B, x_chain, x_and, x_or, x_not, x_andV, x_orV, x_notB, x_if, x_nil, x_cons, x_tup, x_lst, x_call, x_callK, x_gN, x_gT, x_gs0, x_gs1, x_yes, x_iSeq, x_iEn, x_words, x_ml, x_disp, x_d0, x_pnil, x_pcons, csAt, List.getD_cons_zero, List.getD_cons_succ, List.getElem?_cons_zero, List.getElem?_cons_succ, List.set_cons_zero, List.set_cons_succ, eq_ints, truD]
      rw [← hFd]
      exact told_ok dr ok6 (by rw [e6]; omega) (q0 trivial)
    have ix6 : ∀ (S : GS) (Q : D → GS → Prop), oIx Fd (.int 6) S Q = Q (.tup ss) S := fun S Q => by rw [← hFd]; exact ix_eq (n := 6) rfl rfl
    have c2 : Dv.cutD ss none (some 2) = ss.take 2 := cut_take _ 2
    have c1 : Dv.cutD ss none (some 1) = ss.take 1 := cut_take _ 1
    rw [x_seq]
    simp only [x_asg, x_tupZip, x_dpop, x_dcT, x_iZip, x_listZip, x_md, x_zipR, x_zipD, x_listRg1, x_listRg2, x_sortItems, x_listItems, x_back, x_ifT, x_sortSet, x_get1, x_get2, fnAt, x_lc, x_lcN, x_var, x_C, x_op, x_un, x_slice, x_noPart, x_part, x_tru, x_B, x_chain, x_and, x_or, x_not, x_andV, x_orV, x_notB, x_if, x_nil, x_cons, x_tup, x_lst, x_call, x_callK, x_gN, x_gT, x_gs0, x_gs1, x_yes, x_iSeq, x_iEn, x_words, x_ml, x_disp, x_d0, x_pnil, x_pcons, csAt, List.getD_cons_zero, List.getD_cons_succ, List.getElem?_cons_zero, List.getElem?_cons_succ, List.set_cons_zero, List.set_cons_succ, ix6, c1, c2]
    refine draw_ok ho1 (by omega) (by omega) fun m hm => ?_
    refine ⟨dk, ss.take 2, m, rfl, ho1, by omega, fun s ms => hok s (List.mem_of_mem_take ms), by rw [List.length_take]; exact Nat.min_le_left _ _, fun tt htt ltt => ?_⟩
    show oAdd (.tup tt) (.tup (ss.take 1)) S1 _
    rw [addT]
    have l1 : (ss.take 1).length ≤ 1 := by rw [List.length_take]; exact Nat.min_le_left _ _
    refine ⟨by rw [sizeLine_eq]; omega, ?_⟩
    have dok : ∀ s ∈ tt ++ ss.take 1, StmOk 6 s := fun s ms => by
      rcases List.mem_append.mp ms with ms | ms
      · exact (htt s ms).up
      · exact ok6 s (List.mem_of_mem_take ms)
    have dz : sizeL 6 (tt ++ ss.take 1) ≤ 100000 := by
      have h1 := sum_le (B := 2000) (f := sizeS 6) (l := tt ++ ss.take 1) fun s ms => by
        have h : 3 * sizeS 6 s + 1 ≤ 4 ^ 6 := size_le (dok s ms)
        have e : (4 : Nat) ^ 6 = 4096 := by decide
        rw [e] at h
        omega
      have h2 := Nat.mul_le_mul_right 2000 (show (tt ++ ss.take 1).length ≤ 3 by rw [List.length_append]; omega)
      unfold sizeL
      omega
    generalize tt ++ ss.take 1 = dd at dok dz ⊢
    show wSeq _ _ _ [some scr, some (.ref dk), some (.int ti), none, some Sh, some Fd, some (.tup dd)] S1
    refine seq_if2 False True (fun Q q0 q1 => ?_) (fun z => z.elim) fun _ => ?_
    · simp only [x_tupZip, x_dpop, x_dcT, x_iZip, x_listZip, x_md, x_zipR, x_zipD, x_listRg1, x_listRg2, x_sortItems, x_listItems, x_back, x_ifT, x_sortSet, x_get1, x_get2, fnAt, x_lc, x_lcN, x_var, x_C, x_op, x_un, x_slice, x_noPart, x_part, x_tru, x_B, x_chain, x_and, x_or, x_not, x_andV, x_orV, x_notB, x_if, x_nil, x_cons, x_tup, x_lst, x_call, x_callK, x_gN, x_gT, x_gs0, x_gs1, x_yes, x_iSeq, x_iEn, x_words, x_ml, x_disp, x_d0, x_pnil, x_pcons, csAt, List.getD_cons_zero, List.getD_cons_succ, List.getElem?_cons_zero, List.getElem?_cons_succ, List.set_cons_zero, List.set_cons_succ]
      refine ⟨dd, rfl, dok, dz, ?_⟩
      show oLt (.int (sizeL 6 dd : Nat)) (.int 41) S1 _
      rw [show oLt (.int (sizeL 6 dd : Nat)) (.int 41) S1 = fun Q => Q (.bl (decide (((sizeL 6 dd : Nat) : Int) < 41))) S1 from rfl]
      dsimp only
      split
      · rename_i hq
        have hq := of_decide_eq_true hq
        rw [← hFd]
        have c6 : Dv.cutD [D.str "f", .tup (a.map D.str), .tup (b.map D.str), .tup (c.map D.str), sayD hd, sayD ft, .tup ss] none (some 6) = [D.str "f", .tup (a.map D.str), .tup (b.map D.str), .tup (c.map D.str), sayD hd, sayD ft] := cut_take _ 6
        show [D.tup dd].length ≤ sizeLine ∧ oAdd (.tup (Dv.cutD [D.str "f", .tup (a.map D.str), .tup (b.map D.str), .tup (c.map D.str), sayD hd, sayD ft, .tup ss] none (some 6))) (.tup [.tup dd]) S1 _
        rw [c6, addT]
        refine ⟨lzn 1, lzn 7, ?_⟩
        show sp__law_is_told [fnD "f" a b c hd ft dd, .bl false] S1 _
        exact told_ok dr dok (by omega) (q0 trivial)
      · exact q0 trivial
    · exact ⟨S1, .refl _, hi', rfl, _, _, _, _, rfl⟩
  · rintro ρ _ ⟨_, rfl, a2, a4, a5, a6, rfl⟩
    refine ⟨trivial, ?_⟩
    dsimp only
    rw [x_seq]
    simp only [x_asg, x_tupZip, x_dpop, x_dcT, x_iZip, x_listZip, x_md, x_zipR, x_zipD, x_listRg1, x_listRg2, x_sortItems, x_listItems, x_back, x_ifT, x_sortSet, x_get1, x_get2, fnAt, x_lc, x_lcN, x_var, x_C, x_op, x_un, x_slice, x_noPart, x_part, x_tru, x_B, x_chain, x_and, x_or, x_not, x_andV, x_orV, x_notB, x_if, x_nil, x_cons, x_tup, x_lst, x_call, x_callK, x_gN, x_gT, x_gs0, x_gs1, x_yes, x_iSeq, x_iEn, x_words, x_ml, x_disp, x_d0, x_pnil, x_pcons, csAt, List.getD_cons_zero, List.getD_cons_succ, List.getElem?_cons_zero, List.getElem?_cons_succ, List.set_cons_zero, List.set_cons_succ]
    refine ⟨dk, 5, rfl, ho1, by omega, by omega, fun a b c sh => ⟨lzn 0, dk, "f", a, b, c, [], 3, rfl, ho1, nm_f.1, sh, ⟨Nat.zero_le _, fun o m => by cases m⟩, by omega, by omega, fun hd ft ss dr hok hz => ?_⟩⟩
    have c6 : Dv.cutD [D.str "f", .tup (a.map D.str), .tup (b.map D.str), .tup (c.map D.str), sayD hd, sayD ft, .tup ss] none (some 6) = [D.str "f", .tup (a.map D.str), .tup (b.map D.str), .tup (c.map D.str), sayD hd, sayD ft] := cut_take _ 6
    show wSeq _ _ _ [some scr, some (.ref dk), a2, some (.tup [D.str "f", .tup (a.map D.str), .tup (b.map D.str), .tup (c.map D.str), sayD hd, sayD ft, .tup ss]), a4, a5, a6] S1
    have sok : StmOk 6 (.tup [.str "set", .str "result", .str "nil"]) := .simp (xs := ["result", "nil"]) (k := "set") (by simp [simpleW]) (by show 2 ≤ 2; omega) fun x m => by
      simp only [List.mem_cons, List.mem_nil_iff, or_false] at m
      rcases m with rfl | rfl <;> exact drawn_ok _ (by simp [drawnW])
    have fin : ∀ tt : List D, (∀ s ∈ tt, StmOk 6 s) → sizeL 6 tt ≤ 41 → ([D.tup tt].length ≤ sizeLine ∧ oAdd (.tup [D.str "f", .tup (a.map D.str), .tup (b.map D.str), .tup (c.map D.str), sayD hd, sayD ft]) (.tup [.tup tt]) S1 fun x S1 => sp__law_is_told [x, .bl false] S1 R) := fun tt h1 h2 => by
      rw [addT]
      refine ⟨lzn 1, lzn 7, ?_⟩
      show sp__law_is_told [fnD "f" a b c hd ft tt, .bl false] S1 _
      exact told_ok dr h1 h2 (hR _)
    have many : ∀ k : Nat, k ≤ 41 → (∀ s ∈ (List.replicate k [D.tup [.str "set", .str "result", .str "nil"]]).flatten, StmOk 6 s) ∧ sizeL 6 (List.replicate k [D.tup [.str "set", .str "result", .str "nil"]]).flatten ≤ 41 := fun k hk => by
      have h1 : ∀ s ∈ (List.replicate k [D.tup [.str "set", .str "result", .str "nil"]]).flatten, s = D.tup [.str "set", .str "result", .str "nil"] := fun s m => by
        obtain ⟨l, ml, mr⟩ := List.mem_flatten.mp m
        rw [List.eq_of_mem_replicate ml] at mr
        exact List.mem_singleton.mp mr
      refine ⟨fun s m => by rw [h1 s m]; exact sok, ?_⟩
      have h2 := sum_le (B := 1) (f := sizeS 6) (l := (List.replicate k [D.tup [.str "set", .str "result", .str "nil"]]).flatten) fun s m => by
        rw [h1 s m]
        exact Nat.le_refl 1
      have h3 : (List.replicate k [D.tup [.str "set", .str "result", .str "nil"]]).flatten.length = k := by
        simp
      rw [h3] at h2
      unfold sizeL
      omega
    simp only [x_tupZip, x_dpop, x_dcT, x_iZip, x_listZip, x_md, x_zipR, x_zipD, x_listRg1, x_listRg2, x_sortItems, x_listItems, x_back, x_ifT, x_sortSet, x_get1, x_get2, fnAt, x_lc, x_lcN, x_var, x_C, x_op, x_un, x_slice, x_noPart, x_part, x_tru, x_B, x_chain, x_and, x_or, x_not, x_andV, x_orV, x_notB, x_if, x_nil, x_cons, x_tup, x_lst, x_call, x_callK, x_gN, x_gT, x_gs0, x_gs1, x_yes, x_iSeq, x_iEn, x_words, x_ml, x_disp, x_d0, x_pnil, x_pcons, csAt, List.getD_cons_zero, List.getD_cons_succ, List.getElem?_cons_zero, List.getElem?_cons_succ, List.set_cons_zero, List.set_cons_succ, x_seq, x_skip, x_ifS, x_ret, x_retN, x_asg, x_par, x_expr, x_brk, x_cnt, c6]
    refine ⟨lzn 3, lzn 1, lzn 3, pick_ok ho1 rfl (List.cons_ne_nil _ _) (by decide) fun y hy => ?_⟩
    simp only [List.mem_cons, List.mem_nil_iff, or_false] at hy
    rcases hy with rfl | rfl | rfl
    · exact ⟨by simp, fin [] (fun s m => by cases m) (Nat.zero_le _)⟩
    · obtain ⟨m1, m2⟩ := many 39 (by omega)
      exact ⟨by simp, by omega, by omega, by show 1 ≤ 1000; omega, fin _ m1 m2⟩
    · obtain ⟨m1, m2⟩ := many 40 (by omega)
      exact ⟨by simp, by omega, by omega, by show 1 ≤ 1000; omega, fin _ m1 m2⟩
end
end K32

namespace K32
open PySem PySem.Spec L2 Dv
open PyProof.Rows hiding St
/-- the values are these texts -/
def valsB : List Value → List D → Bool
  | [], [] => true
  | .str z _ :: r, .str y :: ds => decide (z = y) && valsB r ds
  | _, _ => false
theorem vals_of {K : PySem.W.Frag} {H : Hp} : ∀ {us : List Value} {ds : List D}, valsB us ds = true → ∃ vs, Vals vs us ∧ DenL K H ds vs
  | [], [], _ => ⟨[], .nil, .nil⟩
  | .str z t :: r, .str y :: ds, h => by
    rw [valsB, Bool.and_eq_true, decide_eq_true_eq] at h
    obtain ⟨rfl, h2⟩ := h
    obtain ⟨vs, h3, h4⟩ := vals_of (K := K) (H := H) h2
    exact ⟨.str z :: vs, .cons ⟨t, rfl⟩ h3, .cons (.str z) h4⟩
theorem con_tup {K : PySem.W.Frag} {mg : Str → Option Value} {x : Str} {q : Addr} {o : Obj} {its : Array Value} {n : Nat} {ds : List D} (g : mg x = some (.ref q)) (h : K.lookup q = some o) (hd : o.dict = none) (j : o.cls = .type "tuple" ∧ o.data = .seq its n ∧ its.size ≤ sizeLine) (z : valsB its.toList ds = true) :
    ∃ v u, mg x = some u ∧ RelV v u ∧ ∀ H, Den K H (.tup ds) v := by
  refine ⟨.ref q, _, g, rfl, fun H => ?_⟩
  obtain ⟨vs, h1, h2⟩ := vals_of (K := K) (H := H) z
  exact .tup (.inr ⟨o, its, n, h, hd, j.1, j.2.1, j.2.2, h1⟩) h2

section
variable {K : PySem.W.Frag} {mg : Str → Option Value} {h : Heap}
set_option maxHeartbeats 0 in
theorem top {l : PySem.W.OpenLaw} {w : World} {fa : Addr} (X : K.In h) (G : h.Ns mainGlobals mg) (hfa : mg "law" = some (.ref fa))
    {f__law_stock : Addr} {oc__law_stock kV__law_stock dc__law_stock pm__law_stock cd__law_stock ct__law_stock : Value} {od__law_stock an__law_stock : Option Addr} {sl__law_stock : Array (Option Value)}
    {f__law_draw : Addr} {oc__law_draw kV__law_draw dc__law_draw pm__law_draw cd__law_draw ct__law_draw : Value} {od__law_draw an__law_draw : Option Addr} {sl__law_draw : Array (Option Value)}
    {f__law_pick : Addr} {oc__law_pick kV__law_pick dc__law_pick pm__law_pick cd__law_pick ct__law_pick : Value} {od__law_pick an__law_pick : Option Addr} {sl__law_pick : Array (Option Value)}
    {f__law_clause : Addr} {oc__law_clause kV__law_clause dc__law_clause pm__law_clause cd__law_clause ct__law_clause : Value} {od__law_clause an__law_clause : Option Addr} {sl__law_clause : Array (Option Value)}
    {f__law_saying : Addr} {oc__law_saying kV__law_saying dc__law_saying pm__law_saying cd__law_saying ct__law_saying : Value} {od__law_saying an__law_saying : Option Addr} {sl__law_saying : Array (Option Value)}
    {f__law_values : Addr} {oc__law_values kV__law_values dc__law_values pm__law_values cd__law_values ct__law_values : Value} {od__law_values an__law_values : Option Addr} {sl__law_values : Array (Option Value)}
    {f__law_simple : Addr} {oc__law_simple kV__law_simple dc__law_simple pm__law_simple cd__law_simple ct__law_simple : Value} {od__law_simple an__law_simple : Option Addr} {sl__law_simple : Array (Option Value)}
    {f__law_test : Addr} {oc__law_test kV__law_test dc__law_test pm__law_test cd__law_test ct__law_test : Value} {od__law_test an__law_test : Option Addr} {sl__law_test : Array (Option Value)}
    {f__law_statement : Addr} {oc__law_statement kV__law_statement dc__law_statement pm__law_statement cd__law_statement ct__law_statement : Value} {od__law_statement an__law_statement : Option Addr} {sl__law_statement : Array (Option Value)}
    {f__law_statements : Addr} {oc__law_statements kV__law_statements dc__law_statements pm__law_statements cd__law_statements ct__law_statements : Value} {od__law_statements an__law_statements : Option Addr} {sl__law_statements : Array (Option Value)}
    {f__law_size : Addr} {oc__law_size kV__law_size dc__law_size pm__law_size cd__law_size ct__law_size : Value} {od__law_size an__law_size : Option Addr} {sl__law_size : Array (Option Value)}
    {f__law_function : Addr} {oc__law_function kV__law_function dc__law_function pm__law_function cd__law_function ct__law_function : Value} {od__law_function an__law_function : Option Addr} {sl__law_function : Array (Option Value)}
    {f_rows_of_if : Addr} {oc_rows_of_if kV_rows_of_if dc_rows_of_if pm_rows_of_if cd_rows_of_if ct_rows_of_if : Value} {od_rows_of_if an_rows_of_if : Option Addr} {sl_rows_of_if : Array (Option Value)}
    {f_rows_of_while : Addr} {oc_rows_of_while kV_rows_of_while dc_rows_of_while pm_rows_of_while cd_rows_of_while ct_rows_of_while : Value} {od_rows_of_while an_rows_of_while : Option Addr} {sl_rows_of_while : Array (Option Value)}
    {f_rows_within : Addr} {oc_rows_within kV_rows_within dc_rows_within pm_rows_within cd_rows_within ct_rows_within : Value} {od_rows_within an_rows_within : Option Addr} {sl_rows_within : Array (Option Value)}
    {f_code_of : Addr} {oc_code_of kV_code_of dc_code_of pm_code_of cd_code_of ct_code_of : Value} {od_code_of an_code_of : Option Addr} {sl_code_of : Array (Option Value)}
    {f_row_ways : Addr} {oc_row_ways kV_row_ways dc_row_ways pm_row_ways cd_row_ways ct_row_ways : Value} {od_row_ways an_row_ways : Option Addr} {sl_row_ways : Array (Option Value)}
    {f__law_rows : Addr} {oc__law_rows kV__law_rows dc__law_rows pm__law_rows cd__law_rows ct__law_rows : Value} {od__law_rows an__law_rows : Option Addr} {sl__law_rows : Array (Option Value)}
    {f__law_is_told : Addr} {oc__law_is_told kV__law_is_told dc__law_is_told pm__law_is_told cd__law_is_told ct__law_is_told : Value} {od__law_is_told an__law_is_told : Option Addr} {sl__law_is_told : Array (Option Value)}
    {f__law_shuffled : Addr} {oc__law_shuffled kV__law_shuffled dc__law_shuffled pm__law_shuffled cd__law_shuffled ct__law_shuffled : Value} {od__law_shuffled an__law_shuffled : Option Addr} {sl__law_shuffled : Array (Option Value)}
    {f__law_shape : Addr} {oc__law_shape kV__law_shape dc__law_shape pm__law_shape cd__law_shape ct__law_shape : Value} {od__law_shape an__law_shape : Option Addr} {sl__law_shape : Array (Option Value)}
    {f__law_deep : Addr} {oc__law_deep kV__law_deep dc__law_deep pm__law_deep cd__law_deep ct__law_deep : Value} {od__law_deep an__law_deep : Option Addr} {sl__law_deep : Array (Option Value)}
    {f_law : Addr} {oc_law kV_law dc_law pm_law cd_law ct_law : Value} {od_law an_law : Option Addr} {sl_law : Array (Option Value)}
    (a__law_stock : PySem.W.nsIn K mainGlobals "_law_stock" = some (some (.ref f__law_stock))) (l__law_stock : K.lookup f__law_stock = some ⟨oc__law_stock, od__law_stock, .func (PySem.W.fnOf "_law_stock" "_law_stock" (defArgs s__law_stock) (defBody s__law_stock) (defScope s__law_stock) .none kV__law_stock dc__law_stock pm__law_stock an__law_stock cd__law_stock ct__law_stock), sl__law_stock⟩) (c__law_stock : PySem.W.codeIn K cd__law_stock "_law_stock" = true) (k__law_stock : PySem.W.keepIn K (.ref f__law_stock) = true)
    (a__law_draw : PySem.W.nsIn K mainGlobals "_law_draw" = some (some (.ref f__law_draw))) (l__law_draw : K.lookup f__law_draw = some ⟨oc__law_draw, od__law_draw, .func (PySem.W.fnOf "_law_draw" "_law_draw" (defArgs s__law_draw) (defBody s__law_draw) (defScope s__law_draw) .none kV__law_draw dc__law_draw pm__law_draw an__law_draw cd__law_draw ct__law_draw), sl__law_draw⟩) (c__law_draw : PySem.W.codeIn K cd__law_draw "_law_draw" = true) (k__law_draw : PySem.W.keepIn K (.ref f__law_draw) = true)
    (a__law_pick : PySem.W.nsIn K mainGlobals "_law_pick" = some (some (.ref f__law_pick))) (l__law_pick : K.lookup f__law_pick = some ⟨oc__law_pick, od__law_pick, .func (PySem.W.fnOf "_law_pick" "_law_pick" (defArgs s__law_pick) (defBody s__law_pick) (defScope s__law_pick) .none kV__law_pick dc__law_pick pm__law_pick an__law_pick cd__law_pick ct__law_pick), sl__law_pick⟩) (c__law_pick : PySem.W.codeIn K cd__law_pick "_law_pick" = true) (k__law_pick : PySem.W.keepIn K (.ref f__law_pick) = true)
    (a__law_clause : PySem.W.nsIn K mainGlobals "_law_clause" = some (some (.ref f__law_clause))) (l__law_clause : K.lookup f__law_clause = some ⟨oc__law_clause, od__law_clause, .func (PySem.W.fnOf "_law_clause" "_law_clause" (defArgs s__law_clause) (defBody s__law_clause) (defScope s__law_clause) .none kV__law_clause dc__law_clause pm__law_clause an__law_clause cd__law_clause ct__law_clause), sl__law_clause⟩) (c__law_clause : PySem.W.codeIn K cd__law_clause "_law_clause" = true) (k__law_clause : PySem.W.keepIn K (.ref f__law_clause) = true)
    (a__law_saying : PySem.W.nsIn K mainGlobals "_law_saying" = some (some (.ref f__law_saying))) (l__law_saying : K.lookup f__law_saying = some ⟨oc__law_saying, od__law_saying, .func (PySem.W.fnOf "_law_saying" "_law_saying" (defArgs s__law_saying) (defBody s__law_saying) (defScope s__law_saying) .none kV__law_saying dc__law_saying pm__law_saying an__law_saying cd__law_saying ct__law_saying), sl__law_saying⟩) (c__law_saying : PySem.W.codeIn K cd__law_saying "_law_saying" = true) (k__law_saying : PySem.W.keepIn K (.ref f__law_saying) = true)
    (a__law_values : PySem.W.nsIn K mainGlobals "_law_values" = some (some (.ref f__law_values))) (l__law_values : K.lookup f__law_values = some ⟨oc__law_values, od__law_values, .func (PySem.W.fnOf "_law_values" "_law_values" (defArgs s__law_values) (defBody s__law_values) (defScope s__law_values) .none kV__law_values dc__law_values pm__law_values an__law_values cd__law_values ct__law_values), sl__law_values⟩) (c__law_values : PySem.W.codeIn K cd__law_values "_law_values" = true) (k__law_values : PySem.W.keepIn K (.ref f__law_values) = true)
    (a__law_simple : PySem.W.nsIn K mainGlobals "_law_simple" = some (some (.ref f__law_simple))) (l__law_simple : K.lookup f__law_simple = some ⟨oc__law_simple, od__law_simple, .func (PySem.W.fnOf "_law_simple" "_law_simple" (defArgs s__law_simple) (defBody s__law_simple) (defScope s__law_simple) .none kV__law_simple dc__law_simple pm__law_simple an__law_simple cd__law_simple ct__law_simple), sl__law_simple⟩) (c__law_simple : PySem.W.codeIn K cd__law_simple "_law_simple" = true) (k__law_simple : PySem.W.keepIn K (.ref f__law_simple) = true)
    (a__law_test : PySem.W.nsIn K mainGlobals "_law_test" = some (some (.ref f__law_test))) (l__law_test : K.lookup f__law_test = some ⟨oc__law_test, od__law_test, .func (PySem.W.fnOf "_law_test" "_law_test" (defArgs s__law_test) (defBody s__law_test) (defScope s__law_test) .none kV__law_test dc__law_test pm__law_test an__law_test cd__law_test ct__law_test), sl__law_test⟩) (c__law_test : PySem.W.codeIn K cd__law_test "_law_test" = true) (k__law_test : PySem.W.keepIn K (.ref f__law_test) = true)
    (a__law_statement : PySem.W.nsIn K mainGlobals "_law_statement" = some (some (.ref f__law_statement))) (l__law_statement : K.lookup f__law_statement = some ⟨oc__law_statement, od__law_statement, .func (PySem.W.fnOf "_law_statement" "_law_statement" (defArgs s__law_statement) (defBody s__law_statement) (defScope s__law_statement) .none kV__law_statement dc__law_statement pm__law_statement an__law_statement cd__law_statement ct__law_statement), sl__law_statement⟩) (c__law_statement : PySem.W.codeIn K cd__law_statement "_law_statement" = true) (k__law_statement : PySem.W.keepIn K (.ref f__law_statement) = true)
    (a__law_statements : PySem.W.nsIn K mainGlobals "_law_statements" = some (some (.ref f__law_statements))) (l__law_statements : K.lookup f__law_statements = some ⟨oc__law_statements, od__law_statements, .func (PySem.W.fnOf "_law_statements" "_law_statements" (defArgs s__law_statements) (defBody s__law_statements) (defScope s__law_statements) .none kV__law_statements dc__law_statements pm__law_statements an__law_statements cd__law_statements ct__law_statements), sl__law_statements⟩) (c__law_statements : PySem.W.codeIn K cd__law_statements "_law_statements" = true) (k__law_statements : PySem.W.keepIn K (.ref f__law_statements) = true)
    (a__law_size : PySem.W.nsIn K mainGlobals "_law_size" = some (some (.ref f__law_size))) (l__law_size : K.lookup f__law_size = some ⟨oc__law_size, od__law_size, .func (PySem.W.fnOf "_law_size" "_law_size" (defArgs s__law_size) (defBody s__law_size) (defScope s__law_size) .none kV__law_size dc__law_size pm__law_size an__law_size cd__law_size ct__law_size), sl__law_size⟩) (c__law_size : PySem.W.codeIn K cd__law_size "_law_size" = true) (k__law_size : PySem.W.keepIn K (.ref f__law_size) = true)
    (a__law_function : PySem.W.nsIn K mainGlobals "_law_function" = some (some (.ref f__law_function))) (l__law_function : K.lookup f__law_function = some ⟨oc__law_function, od__law_function, .func (PySem.W.fnOf "_law_function" "_law_function" (defArgs s__law_function) (defBody s__law_function) (defScope s__law_function) .none kV__law_function dc__law_function pm__law_function an__law_function cd__law_function ct__law_function), sl__law_function⟩) (c__law_function : PySem.W.codeIn K cd__law_function "_law_function" = true) (k__law_function : PySem.W.keepIn K (.ref f__law_function) = true)
    (a_rows_of_if : PySem.W.nsIn K mainGlobals "rows_of_if" = some (some (.ref f_rows_of_if))) (l_rows_of_if : K.lookup f_rows_of_if = some ⟨oc_rows_of_if, od_rows_of_if, .func (PySem.W.fnOf "rows_of_if" "rows_of_if" (defArgs s_rows_of_if) (defBody s_rows_of_if) (defScope s_rows_of_if) .none kV_rows_of_if dc_rows_of_if pm_rows_of_if an_rows_of_if cd_rows_of_if ct_rows_of_if), sl_rows_of_if⟩) (c_rows_of_if : PySem.W.codeIn K cd_rows_of_if "rows_of_if" = true) (k_rows_of_if : PySem.W.keepIn K (.ref f_rows_of_if) = true)
    (a_rows_of_while : PySem.W.nsIn K mainGlobals "rows_of_while" = some (some (.ref f_rows_of_while))) (l_rows_of_while : K.lookup f_rows_of_while = some ⟨oc_rows_of_while, od_rows_of_while, .func (PySem.W.fnOf "rows_of_while" "rows_of_while" (defArgs s_rows_of_while) (defBody s_rows_of_while) (defScope s_rows_of_while) .none kV_rows_of_while dc_rows_of_while pm_rows_of_while an_rows_of_while cd_rows_of_while ct_rows_of_while), sl_rows_of_while⟩) (c_rows_of_while : PySem.W.codeIn K cd_rows_of_while "rows_of_while" = true) (k_rows_of_while : PySem.W.keepIn K (.ref f_rows_of_while) = true)
    (a_rows_within : PySem.W.nsIn K mainGlobals "rows_within" = some (some (.ref f_rows_within))) (l_rows_within : K.lookup f_rows_within = some ⟨oc_rows_within, od_rows_within, .func (PySem.W.fnOf "rows_within" "rows_within" (defArgs s_rows_within) (defBody s_rows_within) (defScope s_rows_within) .none kV_rows_within dc_rows_within pm_rows_within an_rows_within cd_rows_within ct_rows_within), sl_rows_within⟩) (c_rows_within : PySem.W.codeIn K cd_rows_within "rows_within" = true) (k_rows_within : PySem.W.keepIn K (.ref f_rows_within) = true)
    (a_code_of : PySem.W.nsIn K mainGlobals "code_of" = some (some (.ref f_code_of))) (l_code_of : K.lookup f_code_of = some ⟨oc_code_of, od_code_of, .func (PySem.W.fnOf "code_of" "code_of" (defArgs s_code_of) (defBody s_code_of) (defScope s_code_of) .none kV_code_of dc_code_of pm_code_of an_code_of cd_code_of ct_code_of), sl_code_of⟩) (c_code_of : PySem.W.codeIn K cd_code_of "code_of" = true) (k_code_of : PySem.W.keepIn K (.ref f_code_of) = true)
    (a_row_ways : PySem.W.nsIn K mainGlobals "row_ways" = some (some (.ref f_row_ways))) (l_row_ways : K.lookup f_row_ways = some ⟨oc_row_ways, od_row_ways, .func (PySem.W.fnOf "row_ways" "row_ways" (defArgs s_row_ways) (defBody s_row_ways) (defScope s_row_ways) .none kV_row_ways dc_row_ways pm_row_ways an_row_ways cd_row_ways ct_row_ways), sl_row_ways⟩) (c_row_ways : PySem.W.codeIn K cd_row_ways "row_ways" = true) (k_row_ways : PySem.W.keepIn K (.ref f_row_ways) = true)
    (a__law_rows : PySem.W.nsIn K mainGlobals "_law_rows" = some (some (.ref f__law_rows))) (l__law_rows : K.lookup f__law_rows = some ⟨oc__law_rows, od__law_rows, .func (PySem.W.fnOf "_law_rows" "_law_rows" (defArgs s__law_rows) (defBody s__law_rows) (defScope s__law_rows) .none kV__law_rows dc__law_rows pm__law_rows an__law_rows cd__law_rows ct__law_rows), sl__law_rows⟩) (c__law_rows : PySem.W.codeIn K cd__law_rows "_law_rows" = true) (k__law_rows : PySem.W.keepIn K (.ref f__law_rows) = true)
    (a__law_is_told : PySem.W.nsIn K mainGlobals "_law_is_told" = some (some (.ref f__law_is_told))) (l__law_is_told : K.lookup f__law_is_told = some ⟨oc__law_is_told, od__law_is_told, .func (PySem.W.fnOf "_law_is_told" "_law_is_told" (defArgs s__law_is_told) (defBody s__law_is_told) (defScope s__law_is_told) .none kV__law_is_told dc__law_is_told pm__law_is_told an__law_is_told cd__law_is_told ct__law_is_told), sl__law_is_told⟩) (c__law_is_told : PySem.W.codeIn K cd__law_is_told "_law_is_told" = true) (k__law_is_told : PySem.W.keepIn K (.ref f__law_is_told) = true)
    (a__law_shuffled : PySem.W.nsIn K mainGlobals "_law_shuffled" = some (some (.ref f__law_shuffled))) (l__law_shuffled : K.lookup f__law_shuffled = some ⟨oc__law_shuffled, od__law_shuffled, .func (PySem.W.fnOf "_law_shuffled" "_law_shuffled" (defArgs s__law_shuffled) (defBody s__law_shuffled) (defScope s__law_shuffled) .none kV__law_shuffled dc__law_shuffled pm__law_shuffled an__law_shuffled cd__law_shuffled ct__law_shuffled), sl__law_shuffled⟩) (c__law_shuffled : PySem.W.codeIn K cd__law_shuffled "_law_shuffled" = true) (k__law_shuffled : PySem.W.keepIn K (.ref f__law_shuffled) = true)
    (a__law_shape : PySem.W.nsIn K mainGlobals "_law_shape" = some (some (.ref f__law_shape))) (l__law_shape : K.lookup f__law_shape = some ⟨oc__law_shape, od__law_shape, .func (PySem.W.fnOf "_law_shape" "_law_shape" (defArgs s__law_shape) (defBody s__law_shape) (defScope s__law_shape) .none kV__law_shape dc__law_shape pm__law_shape an__law_shape cd__law_shape ct__law_shape), sl__law_shape⟩) (c__law_shape : PySem.W.codeIn K cd__law_shape "_law_shape" = true) (k__law_shape : PySem.W.keepIn K (.ref f__law_shape) = true)
    (a__law_deep : PySem.W.nsIn K mainGlobals "_law_deep" = some (some (.ref f__law_deep))) (l__law_deep : K.lookup f__law_deep = some ⟨oc__law_deep, od__law_deep, .func (PySem.W.fnOf "_law_deep" "_law_deep" (defArgs s__law_deep) (defBody s__law_deep) (defScope s__law_deep) .none kV__law_deep dc__law_deep pm__law_deep an__law_deep cd__law_deep ct__law_deep), sl__law_deep⟩) (c__law_deep : PySem.W.codeIn K cd__law_deep "_law_deep" = true) (k__law_deep : PySem.W.keepIn K (.ref f__law_deep) = true)
    (a_law : PySem.W.nsIn K mainGlobals "law" = some (some (.ref f_law))) (l_law : K.lookup f_law = some ⟨oc_law, od_law, .func (PySem.W.fnOf "law" "law" (defArgs s_law) (defBody s_law) (defScope s_law) .none kV_law dc_law pm_law an_law cd_law ct_law), sl_law⟩) (c_law : PySem.W.codeIn K cd_law "law" = true) (k_law : PySem.W.keepIn K (.ref f_law) = true)
    (y_enumerate : PySem.W.nsIn K mainGlobals "enumerate" = some none)
    (y_int : PySem.W.nsIn K mainGlobals "int" = some none)
    (y_len : PySem.W.nsIn K mainGlobals "len" = some none)
    (y_list : PySem.W.nsIn K mainGlobals "list" = some none)
    (y_min : PySem.W.nsIn K mainGlobals "min" = some none)
    (y_range : PySem.W.nsIn K mainGlobals "range" = some none)
    (y_repr : PySem.W.nsIn K mainGlobals "repr" = some none)
    (y_sum : PySem.W.nsIn K mainGlobals "sum" = some none)
    (y_tuple : PySem.W.nsIn K mainGlobals "tuple" = some none) :
    ∃ fd : FuncData, (∀ (s : Shared) (v : Value), BindsTo s fd ⟨[v], []⟩ [("script", v)]) ∧ ∀ b0 : Heap, K.In b0 → b0.Ns mainGlobals mg → FnG l.prog w K mg b0 20 fa fd ["script"] (spOf K DS 1 sp_law) := by
  have e := hfa.symm.trans (PySem.W.mg_of X G a_law)
  cases e
  have F_law := fun_mk (st := s_law) l_law c_law k_law
  have d__law_stock : Df K mg "_law_stock" s__law_stock ["script"] [] := ⟨_, _, PySem.W.mg_of X G a__law_stock, fun_mk (st := s__law_stock) l__law_stock c__law_stock k__law_stock, (fun_mk (st := s__law_stock) l__law_stock c__law_stock k__law_stock).binds (ps := ["script"]) (fun _ _ _ _ _ _ us hl => match us, hl with | [_], _ => rfl), (fun sh m => nomatch m)⟩
  have d__law_draw : Df K mg "_law_draw" s__law_draw ["stock", "size"] [] := ⟨_, _, PySem.W.mg_of X G a__law_draw, fun_mk (st := s__law_draw) l__law_draw c__law_draw k__law_draw, (fun_mk (st := s__law_draw) l__law_draw c__law_draw k__law_draw).binds (ps := ["stock", "size"]) (fun _ _ _ _ _ _ us hl => match us, hl with | [_, _], _ => rfl), (fun sh m => nomatch m)⟩
  have d__law_pick : Df K mg "_law_pick" s__law_pick ["stock", "row"] [] := ⟨_, _, PySem.W.mg_of X G a__law_pick, fun_mk (st := s__law_pick) l__law_pick c__law_pick k__law_pick, (fun_mk (st := s__law_pick) l__law_pick c__law_pick k__law_pick).binds (ps := ["stock", "row"]) (fun _ _ _ _ _ _ us hl => match us, hl with | [_, _], _ => rfl), (fun sh m => nomatch m)⟩
  have d__law_clause : Df K mg "_law_clause" s__law_clause ["stock", "names", "many"] [] := ⟨_, _, PySem.W.mg_of X G a__law_clause, fun_mk (st := s__law_clause) l__law_clause c__law_clause k__law_clause, (fun_mk (st := s__law_clause) l__law_clause c__law_clause k__law_clause).binds (ps := ["stock", "names", "many"]) (fun _ _ _ _ _ _ us hl => match us, hl with | [_, _, _], _ => rfl), (fun sh m => nomatch m)⟩
  have d__law_saying : Df K mg "_law_saying" s__law_saying ["stock", "names", "many"] [] := ⟨_, _, PySem.W.mg_of X G a__law_saying, fun_mk (st := s__law_saying) l__law_saying c__law_saying k__law_saying, (fun_mk (st := s__law_saying) l__law_saying c__law_saying k__law_saying).binds (ps := ["stock", "names", "many"]) (fun _ _ _ _ _ _ us hl => match us, hl with | [_, _, _], _ => rfl), (fun sh m => nomatch m)⟩
  have d__law_values : Df K mg "_law_values" s__law_values ["shape"] [] := ⟨_, _, PySem.W.mg_of X G a__law_values, fun_mk (st := s__law_values) l__law_values c__law_values k__law_values, (fun_mk (st := s__law_values) l__law_values c__law_values k__law_values).binds (ps := ["shape"]) (fun _ _ _ _ _ _ us hl => match us, hl with | [_], _ => rfl), (fun sh m => nomatch m)⟩
  have d__law_simple : Df K mg "_law_simple" s__law_simple ["stock", "shape", "others"] [] := ⟨_, _, PySem.W.mg_of X G a__law_simple, fun_mk (st := s__law_simple) l__law_simple c__law_simple k__law_simple, (fun_mk (st := s__law_simple) l__law_simple c__law_simple k__law_simple).binds (ps := ["stock", "shape", "others"]) (fun _ _ _ _ _ _ us hl => match us, hl with | [_, _, _], _ => rfl), (fun sh m => nomatch m)⟩
  have d__law_test : Df K mg "_law_test" s__law_test ["stock", "shape"] [] := ⟨_, _, PySem.W.mg_of X G a__law_test, fun_mk (st := s__law_test) l__law_test c__law_test k__law_test, (fun_mk (st := s__law_test) l__law_test c__law_test k__law_test).binds (ps := ["stock", "shape"]) (fun _ _ _ _ _ _ us hl => match us, hl with | [_, _], _ => rfl), (fun sh m => nomatch m)⟩
  have d__law_statement : Df K mg "_law_statement" s__law_statement ["stock", "shape", "others", "deep"] [] := ⟨_, _, PySem.W.mg_of X G a__law_statement, fun_mk (st := s__law_statement) l__law_statement c__law_statement k__law_statement, (fun_mk (st := s__law_statement) l__law_statement c__law_statement k__law_statement).binds (ps := ["stock", "shape", "others", "deep"]) (fun _ _ _ _ _ _ us hl => match us, hl with | [_, _, _, _], _ => rfl), (fun sh m => nomatch m)⟩
  have d__law_statements : Df K mg "_law_statements" s__law_statements ["stock", "shape", "others", "deep", "many"] [] := ⟨_, _, PySem.W.mg_of X G a__law_statements, fun_mk (st := s__law_statements) l__law_statements c__law_statements k__law_statements, (fun_mk (st := s__law_statements) l__law_statements c__law_statements k__law_statements).binds (ps := ["stock", "shape", "others", "deep", "many"]) (fun _ _ _ _ _ _ us hl => match us, hl with | [_, _, _, _, _], _ => rfl), (fun sh m => nomatch m)⟩
  have d__law_size : Df K mg "_law_size" s__law_size ["statements"] [] := ⟨_, _, PySem.W.mg_of X G a__law_size, fun_mk (st := s__law_size) l__law_size c__law_size k__law_size, (fun_mk (st := s__law_size) l__law_size c__law_size k__law_size).binds (ps := ["statements"]) (fun _ _ _ _ _ _ us hl => match us, hl with | [_], _ => rfl), (fun sh m => nomatch m)⟩
  have d__law_function : Df K mg "_law_function" s__law_function ["stock", "name", "shape", "others", "many"] [] := ⟨_, _, PySem.W.mg_of X G a__law_function, fun_mk (st := s__law_function) l__law_function c__law_function k__law_function, (fun_mk (st := s__law_function) l__law_function c__law_function k__law_function).binds (ps := ["stock", "name", "shape", "others", "many"]) (fun _ _ _ _ _ _ us hl => match us, hl with | [_, _, _, _, _], _ => rfl), (fun sh m => nomatch m)⟩
  have d_rows_of_if : Df K mg "rows_of_if" s_rows_of_if ["statement", "way", "start"] [] := ⟨_, _, PySem.W.mg_of X G a_rows_of_if, fun_mk (st := s_rows_of_if) l_rows_of_if c_rows_of_if k_rows_of_if, (fun_mk (st := s_rows_of_if) l_rows_of_if c_rows_of_if k_rows_of_if).binds (ps := ["statement", "way", "start"]) (fun _ _ _ _ _ _ us hl => match us, hl with | [_, _, _], _ => rfl), (fun sh m => nomatch m)⟩
  have d_rows_of_while : Df K mg "rows_of_while" s_rows_of_while ["statement", "way", "start"] [] := ⟨_, _, PySem.W.mg_of X G a_rows_of_while, fun_mk (st := s_rows_of_while) l_rows_of_while c_rows_of_while k_rows_of_while, (fun_mk (st := s_rows_of_while) l_rows_of_while c_rows_of_while k_rows_of_while).binds (ps := ["statement", "way", "start"]) (fun _ _ _ _ _ _ us hl => match us, hl with | [_, _, _], _ => rfl), (fun sh m => nomatch m)⟩
  have d_rows_within : Df K mg "rows_within" s_rows_within ["statements", "way", "start"] [] := ⟨_, _, PySem.W.mg_of X G a_rows_within, fun_mk (st := s_rows_within) l_rows_within c_rows_within k_rows_within, (fun_mk (st := s_rows_within) l_rows_within c_rows_within k_rows_within).binds (ps := ["statements", "way", "start"]) (fun _ _ _ _ _ _ us hl => match us, hl with | [_, _, _], _ => rfl), (fun sh m => nomatch m)⟩
  have d_code_of : Df K mg "code_of" s_code_of ["function"] [(0, ["function"], [0])] := ⟨_, _, PySem.W.mg_of X G a_code_of, fun_mk (st := s_code_of) l_code_of c_code_of k_code_of, (fun_mk (st := s_code_of) l_code_of c_code_of k_code_of).binds (ps := ["function"]) (fun _ _ _ _ _ _ us hl => match us, hl with | [_], _ => rfl), (fun sh m => by rw [List.mem_singleton.mp m]; exact fun s us ws _ h1 h2 => match us, ws, h1, h2 with | [], [_], _, _ => .of_eq rfl)⟩
  have d_row_ways : Df K mg "row_ways" s_row_ways ["function"] [(0, ["function"], [0])] := ⟨_, _, PySem.W.mg_of X G a_row_ways, fun_mk (st := s_row_ways) l_row_ways c_row_ways k_row_ways, (fun_mk (st := s_row_ways) l_row_ways c_row_ways k_row_ways).binds (ps := ["function"]) (fun _ _ _ _ _ _ us hl => match us, hl with | [_], _ => rfl), (fun sh m => by rw [List.mem_singleton.mp m]; exact fun s us ws _ h1 h2 => match us, ws, h1, h2 with | [], [_], _, _ => .of_eq rfl)⟩
  have d__law_rows : Df K mg "_law_rows" s__law_rows ["statements", "way", "begin"] [] := ⟨_, _, PySem.W.mg_of X G a__law_rows, fun_mk (st := s__law_rows) l__law_rows c__law_rows k__law_rows, (fun_mk (st := s__law_rows) l__law_rows c__law_rows k__law_rows).binds (ps := ["statements", "way", "begin"]) (fun _ _ _ _ _ _ us hl => match us, hl with | [_, _, _], _ => rfl), (fun sh m => nomatch m)⟩
  have d__law_is_told : Df K mg "_law_is_told" s__law_is_told ["function", "is_named"] [] := ⟨_, _, PySem.W.mg_of X G a__law_is_told, fun_mk (st := s__law_is_told) l__law_is_told c__law_is_told k__law_is_told, (fun_mk (st := s__law_is_told) l__law_is_told c__law_is_told k__law_is_told).binds (ps := ["function", "is_named"]) (fun _ _ _ _ _ _ us hl => match us, hl with | [_, _], _ => rfl), (fun sh m => nomatch m)⟩
  have d__law_shuffled : Df K mg "_law_shuffled" s__law_shuffled ["stock", "row"] [] := ⟨_, _, PySem.W.mg_of X G a__law_shuffled, fun_mk (st := s__law_shuffled) l__law_shuffled c__law_shuffled k__law_shuffled, (fun_mk (st := s__law_shuffled) l__law_shuffled c__law_shuffled k__law_shuffled).binds (ps := ["stock", "row"]) (fun _ _ _ _ _ _ us hl => match us, hl with | [_, _], _ => rfl), (fun sh m => nomatch m)⟩
  have d__law_shape : Df K mg "_law_shape" s__law_shape ["stock", "most"] [] := ⟨_, _, PySem.W.mg_of X G a__law_shape, fun_mk (st := s__law_shape) l__law_shape c__law_shape k__law_shape, (fun_mk (st := s__law_shape) l__law_shape c__law_shape k__law_shape).binds (ps := ["stock", "most"]) (fun _ _ _ _ _ _ us hl => match us, hl with | [_, _], _ => rfl), (fun sh m => nomatch m)⟩
  have d__law_deep : Df K mg "_law_deep" s__law_deep ["stock", "statements", "many"] [] := ⟨_, _, PySem.W.mg_of X G a__law_deep, fun_mk (st := s__law_deep) l__law_deep c__law_deep k__law_deep, (fun_mk (st := s__law_deep) l__law_deep c__law_deep k__law_deep).binds (ps := ["stock", "statements", "many"]) (fun _ _ _ _ _ _ us hl => match us, hl with | [_, _, _], _ => rfl), (fun sh m => nomatch m)⟩
  have B : ∀ x, (["enumerate", "int", "len", "list", "min", "range", "repr", "sum", "tuple"] : List Str).contains x = true → mg x = none := fun x hx => by
    have hx' : x ∈ (["enumerate", "int", "len", "list", "min", "range", "repr", "sum", "tuple"] : List Str) := by simpa using hx
    simp only [List.mem_cons, List.mem_nil_iff, or_false] at hx'
    rcases hx' with rfl | rfl | rfl | rfl | rfl | rfl | rfl | rfl | rfl
    · exact PySem.W.mg_none_of X G y_enumerate
    · exact PySem.W.mg_none_of X G y_int
    · exact PySem.W.mg_none_of X G y_len
    · exact PySem.W.mg_none_of X G y_list
    · exact PySem.W.mg_none_of X G y_min
    · exact PySem.W.mg_none_of X G y_range
    · exact PySem.W.mg_none_of X G y_repr
    · exact PySem.W.mg_none_of X G y_sum
    · exact PySem.W.mg_none_of X G y_tuple
  have sub : ∀ l : List Str, (l.all fun x => (["enumerate", "int", "len", "list", "min", "range", "repr", "sum", "tuple"] : List Str).contains x) = true → BlIn mg l := fun l hl x hx => B x (List.all_eq_true.mp hl x (by simpa using hx))
  have b__law_stock : BlIn mg ["len", "sum"] := sub _ (by decide +kernel)
  have b__law_draw : BlIn mg ["int", "len"] := sub _ (by decide +kernel)
  have b__law_pick : BlIn mg ["len"] := sub _ (by decide +kernel)
  have b__law_clause : BlIn mg ["list", "range", "tuple"] := sub _ (by decide +kernel)
  have b__law_saying : BlIn mg ["range", "tuple"] := sub _ (by decide +kernel)
  have b__law_values : BlIn mg ["list"] := sub _ (by decide +kernel)
  have b__law_simple : BlIn mg ["list", "range", "tuple"] := sub _ (by decide +kernel)
  have b__law_statement : BlIn mg ["list"] := sub _ (by decide +kernel)
  have b__law_statements : BlIn mg ["range", "tuple"] := sub _ (by decide +kernel)
  have b__law_size : BlIn mg ["len", "sum"] := sub _ (by decide +kernel)
  have b__law_function : BlIn mg ["list"] := sub _ (by decide +kernel)
  have b_rows_of_if : BlIn mg ["len"] := sub _ (by decide +kernel)
  have b_rows_of_while : BlIn mg ["len"] := sub _ (by decide +kernel)
  have b_rows_within : BlIn mg ["enumerate", "len"] := sub _ (by decide +kernel)
  have b_code_of : BlIn mg ["tuple"] := sub _ (by decide +kernel)
  have b_row_ways : BlIn mg ["tuple"] := sub _ (by decide +kernel)
  have b__law_rows : BlIn mg ["enumerate", "len"] := sub _ (by decide +kernel)
  have b__law_is_told : BlIn mg ["repr", "tuple"] := sub _ (by decide +kernel)
  have b__law_shuffled : BlIn mg ["len", "list", "range"] := sub _ (by decide +kernel)
  have b__law_shape : BlIn mg ["len", "min", "tuple"] := sub _ (by decide +kernel)
  have b__law_deep : BlIn mg ["range"] := sub _ (by decide +kernel)
  have b_law : BlIn mg ["len", "range"] := sub _ (by decide +kernel)
  refine ⟨PySem.W.fnOf "law" "law" (defArgs s_law) (defBody s_law) (defScope s_law) .none kV_law dc_law pm_law an_law cd_law ct_law, fun s v => .of_eq rfl, fun b0 _ _ => ?_⟩
  have n_rows_within : FnIn l.prog w K mg b0 DS 14 ⟨"rows_within", 3, sp_rows_within, []⟩ := fn_rows_within (k := 0) d_rows_of_if b_rows_of_if d_rows_of_while b_rows_of_while d_rows_within b_rows_within
  have n_row_ways : FnIn l.prog w K mg b0 DS 15 ⟨"row_ways", 1, sp_row_ways, [(0, ["function"], [0])]⟩ := fn_row_ways (n_rows_within.mono (by omega)) d_row_ways b_row_ways
  have n_code_of : FnIn l.prog w K mg b0 DS 15 ⟨"code_of", 1, sp_code_of, [(0, ["function"], [0])]⟩ := fn_code_of (n_rows_within.mono (by omega)) d_code_of b_code_of
  have n__law_rows : FnIn l.prog w K mg b0 DS 7 ⟨"_law_rows", 3, sp__law_rows, []⟩ := fn__law_rows (k := 0) d__law_rows b__law_rows
  have n__law_is_told : FnIn l.prog w K mg b0 DS 16 ⟨"_law_is_told", 2, sp__law_is_told, []⟩ := fn__law_is_told (n_row_ways.mono (by omega)) (n_code_of.mono (by omega)) (n__law_rows.mono (by omega)) d__law_is_told b__law_is_told
  have n__law_draw : FnIn l.prog w K mg b0 DS 1 ⟨"_law_draw", 2, sp__law_draw, []⟩ := fn__law_draw d__law_draw b__law_draw
  have n__law_pick : FnIn l.prog w K mg b0 DS 2 ⟨"_law_pick", 2, sp__law_pick, []⟩ := fn__law_pick (n__law_draw.mono (by omega)) d__law_pick b__law_pick
  have n__law_size : FnIn l.prog w K mg b0 DS 7 ⟨"_law_size", 1, sp__law_size, []⟩ := fn__law_size (k := 0) d__law_size b__law_size
  have n__law_values : FnIn l.prog w K mg b0 DS 1 ⟨"_law_values", 1, sp__law_values, []⟩ := fn__law_values d__law_values b__law_values
  have n__law_simple : FnIn l.prog w K mg b0 DS 3 ⟨"_law_simple", 3, sp__law_simple, []⟩ := fn__law_simple (n__law_pick.mono (by omega)) (n__law_draw.mono (by omega)) (n__law_values.mono (by omega)) d__law_simple b__law_simple
  have n__law_clause : FnIn l.prog w K mg b0 DS 3 ⟨"_law_clause", 3, sp__law_clause, []⟩ := fn__law_clause (n__law_draw.mono (by omega)) (n__law_pick.mono (by omega)) d__law_clause b__law_clause
  have n__law_saying : FnIn l.prog w K mg b0 DS 4 ⟨"_law_saying", 3, sp__law_saying, []⟩ := fn__law_saying (n__law_draw.mono (by omega)) (n__law_clause.mono (by omega)) d__law_saying b__law_saying
  have n__law_test : FnIn l.prog w K mg b0 DS 3 ⟨"_law_test", 2, sp__law_test, []⟩ := fn__law_test (n__law_pick.mono (by omega)) (n__law_draw.mono (by omega)) (n__law_values.mono (by omega)) d__law_test
  have n__law_statements : FnIn l.prog w K mg b0 DS 18 ⟨"_law_statements", 5, sp__law_statements, []⟩ := fn__law_statements (k := 10) (n__law_draw.mono (by omega)) (n__law_saying.mono (by omega)) (n__law_test.mono (by omega)) (n__law_simple.mono (by omega)) d__law_statement b__law_statement d__law_statements b__law_statements
  have n__law_function : FnIn l.prog w K mg b0 DS 19 ⟨"_law_function", 5, sp__law_function, []⟩ := fn__law_function (n__law_size.mono (by omega)) (n__law_simple.mono (by omega)) (n__law_statements.mono (by omega)) (n__law_saying.mono (by omega)) d__law_function b__law_function
  have n__law_shuffled : FnIn l.prog w K mg b0 DS 2 ⟨"_law_shuffled", 2, sp__law_shuffled, []⟩ := fn__law_shuffled (n__law_draw.mono (by omega)) d__law_shuffled b__law_shuffled
  have n__law_shape : FnIn l.prog w K mg b0 DS 3 ⟨"_law_shape", 2, sp__law_shape, []⟩ := fn__law_shape (n__law_draw.mono (by omega)) (n__law_shuffled.mono (by omega)) d__law_shape b__law_shape
  have n__law_deep : FnIn l.prog w K mg b0 DS 2 ⟨"_law_deep", 3, sp__law_deep, []⟩ := fn__law_deep (n__law_draw.mono (by omega)) d__law_deep b__law_deep
  have n__law_stock : FnIn l.prog w K mg b0 DS 1 ⟨"_law_stock", 1, sp__law_stock, []⟩ := fn__law_stock d__law_stock b__law_stock
  exact fn_law ⟨n__law_is_told.mono (by omega), n__law_pick.mono (by omega), n__law_function.mono (by omega), n__law_shape.mono (by omega), n__law_size.mono (by omega), n__law_deep.mono (by omega), n__law_draw.mono (by omega), n__law_stock.mono (by omega), trivial⟩ F_law b_law
end
end K32
open PySem PySem.W PyProof.Rows
set_option maxHeartbeats 0 in
theorem PySem.Challenge.cw_heldapart_k32_whole_rows_of_functions_holds : PySem.Challenge.rw_heldapart_k32_whole_rows_of_functions.Holds := by
  w_on; o_law; k_head; (case hw => w_witness2)
  k_fill
  refine Dv.walk_G (l := PySem.Challenge.rw_heldapart_k32_whole_rows_of_functions) (n := 63) (k := 20) (x := "script") (DI := K32.DS) (sp := K32.sp_law) rfl (by decide) rfl ⟨rfl, by decide, by decide⟩ (fun w h Y => PySem.W.kIn_of Y) ?F (fun ns hl d R q e => ⟨ns, by rw [e], hl, rfl, q⟩) ?noL
  case noL =>
    intro P
    kernel_rfl
  case F =>
    intro w mg fa h KX G hmg
    refine' K32.top KX G hmg ?a__law_stock ?l__law_stock ?c__law_stock ?k__law_stock ?a__law_draw ?l__law_draw ?c__law_draw ?k__law_draw ?a__law_pick ?l__law_pick ?c__law_pick ?k__law_pick ?a__law_clause ?l__law_clause ?c__law_clause ?k__law_clause ?a__law_saying ?l__law_saying ?c__law_saying ?k__law_saying ?a__law_values ?l__law_values ?c__law_values ?k__law_values ?a__law_simple ?l__law_simple ?c__law_simple ?k__law_simple ?a__law_test ?l__law_test ?c__law_test ?k__law_test ?a__law_statement ?l__law_statement ?c__law_statement ?k__law_statement ?a__law_statements ?l__law_statements ?c__law_statements ?k__law_statements ?a__law_size ?l__law_size ?c__law_size ?k__law_size ?a__law_function ?l__law_function ?c__law_function ?k__law_function ?a_rows_of_if ?l_rows_of_if ?c_rows_of_if ?k_rows_of_if ?a_rows_of_while ?l_rows_of_while ?c_rows_of_while ?k_rows_of_while ?a_rows_within ?l_rows_within ?c_rows_within ?k_rows_within ?a_code_of ?l_code_of ?c_code_of ?k_code_of ?a_row_ways ?l_row_ways ?c_row_ways ?k_row_ways ?a__law_rows ?l__law_rows ?c__law_rows ?k__law_rows ?a__law_is_told ?l__law_is_told ?c__law_is_told ?k__law_is_told ?a__law_shuffled ?l__law_shuffled ?c__law_shuffled ?k__law_shuffled ?a__law_shape ?l__law_shape ?c__law_shape ?k__law_shape ?a__law_deep ?l__law_deep ?c__law_deep ?k__law_deep ?a_law ?l_law ?c_law ?k_law ?y_enumerate ?y_int ?y_len ?y_list ?y_min ?y_range ?y_repr ?y_sum ?y_tuple
    (case a__law_stock => k_is)
    (case l__law_stock => k_is)
    (case c__law_stock => k_is)
    (case k__law_stock => k_is)
    (case a__law_draw => k_is)
    (case l__law_draw => k_is)
    (case c__law_draw => k_is)
    (case k__law_draw => k_is)
    (case a__law_pick => k_is)
    (case l__law_pick => k_is)
    (case c__law_pick => k_is)
    (case k__law_pick => k_is)
    (case a__law_clause => k_is)
    (case l__law_clause => k_is)
    (case c__law_clause => k_is)
    (case k__law_clause => k_is)
    (case a__law_saying => k_is)
    (case l__law_saying => k_is)
    (case c__law_saying => k_is)
    (case k__law_saying => k_is)
    (case a__law_values => k_is)
    (case l__law_values => k_is)
    (case c__law_values => k_is)
    (case k__law_values => k_is)
    (case a__law_simple => k_is)
    (case l__law_simple => k_is)
    (case c__law_simple => k_is)
    (case k__law_simple => k_is)
    (case a__law_test => k_is)
    (case l__law_test => k_is)
    (case c__law_test => k_is)
    (case k__law_test => k_is)
    (case a__law_statement => k_is)
    (case l__law_statement => k_is)
    (case c__law_statement => k_is)
    (case k__law_statement => k_is)
    (case a__law_statements => k_is)
    (case l__law_statements => k_is)
    (case c__law_statements => k_is)
    (case k__law_statements => k_is)
    (case a__law_size => k_is)
    (case l__law_size => k_is)
    (case c__law_size => k_is)
    (case k__law_size => k_is)
    (case a__law_function => k_is)
    (case l__law_function => k_is)
    (case c__law_function => k_is)
    (case k__law_function => k_is)
    (case a_rows_of_if => k_is)
    (case l_rows_of_if => k_is)
    (case c_rows_of_if => k_is)
    (case k_rows_of_if => k_is)
    (case a_rows_of_while => k_is)
    (case l_rows_of_while => k_is)
    (case c_rows_of_while => k_is)
    (case k_rows_of_while => k_is)
    (case a_rows_within => k_is)
    (case l_rows_within => k_is)
    (case c_rows_within => k_is)
    (case k_rows_within => k_is)
    (case a_code_of => k_is)
    (case l_code_of => k_is)
    (case c_code_of => k_is)
    (case k_code_of => k_is)
    (case a_row_ways => k_is)
    (case l_row_ways => k_is)
    (case c_row_ways => k_is)
    (case k_row_ways => k_is)
    (case a__law_rows => k_is)
    (case l__law_rows => k_is)
    (case c__law_rows => k_is)
    (case k__law_rows => k_is)
    (case a__law_is_told => k_is)
    (case l__law_is_told => k_is)
    (case c__law_is_told => k_is)
    (case k__law_is_told => k_is)
    (case a__law_shuffled => k_is)
    (case l__law_shuffled => k_is)
    (case c__law_shuffled => k_is)
    (case k__law_shuffled => k_is)
    (case a__law_shape => k_is)
    (case l__law_shape => k_is)
    (case c__law_shape => k_is)
    (case k__law_shape => k_is)
    (case a__law_deep => k_is)
    (case l__law_deep => k_is)
    (case c__law_deep => k_is)
    (case k__law_deep => k_is)
    (case a_law => k_is)
    (case l_law => k_is)
    (case c_law => k_is)
    (case k_law => k_is)
    (case y_enumerate => k_is)
    (case y_int => k_is)
    (case y_len => k_is)
    (case y_list => k_is)
    (case y_min => k_is)
    (case y_range => k_is)
    (case y_repr => k_is)
    (case y_sum => k_is)
    (case y_tuple => k_is)

