import PyProof.Rows.All
import HandS.ForMost
import HandS.Style
import HandS.Conv
import HandS.TupAny
import HandS.TupMul
import HandS.Deep
import HandS.Wide
import KE.SortData
import HandS.NoneIn
import KE.KIndexOf
import HandS.IsInst
import KE.GoesEnum
import KE.KRevSl
import Wide.All
import OpenK.AllK
import Wide.FinOn
import PySem.Challenge.RW_heldapart_k05_what_are_stores_and_heaps
set_option Elab.async false
set_option linter.all false
set_option maxRecDepth 100000
/-! Dv1: values as data (D), the mutable things by address (GH), how they lie in the layer's abstract heap, lifted readings. -/
namespace Dv
open PySem PySem.Spec L2
open PyProof.Rows hiding St

/-- a value: what never changes is told by what it holds, a thing that may change by its address -/
inductive D where
  | non | bl (b : Bool) | int (i : Int) | str (x : Str) | ty (n : String) | ref (a : Addr)
  | tup (ds : List D) | lst (ds : List D) | dct (kvs : List (Key × D))
/-- a thing that may change -/
inductive MO where
  | lst (ds : List D) | dct (kvs : List (Key × D))
  /-- a dict while it is walked -/
  | fct (kvs : List (Key × D))
abbrev GH := Addr → Option MO
/-- the things known by address; the deck's address, where one is hidden -/
structure GS where
  g : GH
  o : Option Addr
def GS.set (S : GS) (p : Addr) (m : MO) : GS := { S with g := fun b => if b = p then some m else S.g b }
def GS.del (S : GS) (p : Addr) : GS := { S with g := fun b => if b = p then none else S.g b }
theorem GS.set_same {S : GS} {p : Addr} {m : MO} : (S.set p m).g p = some m := if_pos rfl
theorem GS.set_ne {S : GS} {p q : Addr} {m : MO} (h : q ≠ p) : (S.set p m).g q = S.g q := if_neg h
theorem GS.set_o {S : GS} {p : Addr} {m : MO} : (S.set p m).o = S.o := rfl
theorem GS.set_set {S : GS} {p : Addr} {m n : MO} : (S.set p m).set p n = S.set p n := by
  unfold GS.set
  congr 1
  funext b
  by_cases h : b = p
  · simp [h]
  · simp [h]

mutual
inductive Den (K : PySem.W.Frag) (H : Hp) : D → V → Prop
  | non : Den K H .non .non
  | bl (b : Bool) : Den K H (.bl b) (.bl b)
  | int (i : Int) : Den K H (.int i) (.int i)
  | str (x : Str) : Den K H (.str x) (.str x)
  | ty (n : String) : Den K H (.ty n) (.ty n)
  | ref (a : Addr) : Den K H (.ref a) (.ref a)
  | tup {a : Addr} {vs : List V} {ds : List D} : SqT K H a vs → DenL K H ds vs → Den K H (.tup ds) (.ref a)
  | lst {a : Addr} {o : Obj} {vs : List V} {ds : List D} : H a = some (.frz o (.lst vs)) → DenL K H ds vs → Den K H (.lst ds) (.ref a)
  | dct {a : Addr} {o : Obj} {ks : List (Key × V)} {kvs : List (Key × D)} : H a = some (.frz o (.dK ks)) → DenK K H kvs ks → Den K H (.dct kvs) (.ref a)
inductive DenL (K : PySem.W.Frag) (H : Hp) : List D → List V → Prop
  | nil : DenL K H [] []
  | cons {d : D} {v : V} {ds : List D} {vs : List V} : Den K H d v → DenL K H ds vs → DenL K H (d :: ds) (v :: vs)
inductive DenK (K : PySem.W.Frag) (H : Hp) : List (Key × D) → List (Key × V) → Prop
  | nil : DenK K H [] []
  | cons {k : Key} {d : D} {v : V} {ds : List (Key × D)} {vs : List (Key × V)} : Den K H d v → DenK K H ds vs → DenK K H ((k, d) :: ds) ((k, v) :: vs)
end

/-- what never changes is as it was -/
structure Kp (H H' : Hp) : Prop where
  t : ∀ b xs, H b = some (.tup xs) → H' b = some (.tup xs)
  f : ∀ b o u, H b = some (.frz o u) → H' b = some (.frz o u)
theorem Kp.refl (H : Hp) : Kp H H := ⟨fun _ _ h => h, fun _ _ _ h => h⟩
theorem Kp.trans {H H1 H2 : Hp} (a : Kp H H1) (b : Kp H1 H2) : Kp H H2 := ⟨fun c x h => b.t c x (a.t c x h), fun c o u h => b.f c o u (a.f c o u h)⟩
theorem Kp.sqT {K : PySem.W.Frag} {H H' : Hp} {a : Addr} {vs : List V} (k : Kp H H') (h : SqT K H a vs) : SqT K H' a vs := by
  rcases h with (h | ⟨o, h⟩) | h
  · exact .inl (.inl (k.t _ _ h))
  · exact .inl (.inr ⟨o, k.f _ _ _ h⟩)
  · exact .inr h
/-- a new thing, or a change of a thing that may change -/
theorem Kp.new {H : Hp} {p : Addr} {o : HO} (h : H p = none) : Kp H (upd H p o) :=
  ⟨fun b x e => by rw [upd_ne (ne_of_none e h)]; exact e, fun b x u e => by rw [upd_ne (ne_of_none e h)]; exact e⟩
theorem Kp.lst {H : Hp} {p : Addr} {vs : List V} {o : HO} (h : H p = some (.lst vs)) : Kp H (upd H p o) :=
  ⟨fun b x e => by rw [upd_ne (ne_of e h (by intro z; cases z))]; exact e, fun b x u e => by rw [upd_ne (ne_of e h (by intro z; cases z))]; exact e⟩
theorem Kp.dct {H : Hp} {p : Addr} {vs : List (Key × V)} {o : HO} (h : H p = some (.dK vs)) : Kp H (upd H p o) :=
  ⟨fun b x e => by rw [upd_ne (ne_of e h (by intro z; cases z))]; exact e, fun b x u e => by rw [upd_ne (ne_of e h (by intro z; cases z))]; exact e⟩

section
variable {K : PySem.W.Frag} {H H' : Hp}
mutual
theorem Den.mono (k : Kp H H') : ∀ (d : D) (v : V), Den K H d v → Den K H' d v
  | .non, _, h => by cases h; exact .non
  | .bl _, _, h => by cases h; exact .bl _
  | .int _, _, h => by cases h; exact .int _
  | .str _, _, h => by cases h; exact .str _
  | .ty _, _, h => by cases h; exact .ty _
  | .ref _, _, h => by cases h; exact .ref _
  | .tup ds, _, h => by
    cases h with
    | tup h1 h2 => exact .tup (k.sqT h1) (DenL.mono k ds _ h2)
  | .lst ds, _, h => by
    cases h with
    | lst h1 h2 => exact .lst (k.f _ _ _ h1) (DenL.mono k ds _ h2)
  | .dct ds, _, h => by
    cases h with
    | dct h1 h2 => exact .dct (k.f _ _ _ h1) (DenK.mono k ds _ h2)
theorem DenL.mono (k : Kp H H') : ∀ (ds : List D) (vs : List V), DenL K H ds vs → DenL K H' ds vs
  | [], _, h => by cases h; exact .nil
  | d :: ds, _, h => by
    cases h with
    | cons h1 h2 => exact .cons (Den.mono k d _ h1) (DenL.mono k ds _ h2)
theorem DenK.mono (k : Kp H H') : ∀ (ds : List (Key × D)) (vs : List (Key × V)), DenK K H ds vs → DenK K H' ds vs
  | [], _, h => by cases h; exact .nil
  | (_, d) :: ds, _, h => by
    cases h with
    | cons h1 h2 => exact .cons (Den.mono k d _ h1) (DenK.mono k ds _ h2)
end
theorem Den.mn {d : D} {v : V} (h : Den K H d v) (k : Kp H H') : Den K H' d v := Den.mono k d v h
theorem DenL.mn {d : List D} {v : List V} (h : DenL K H d v) (k : Kp H H') : DenL K H' d v := DenL.mono k d v h
theorem DenK.mn {d : List (Key × D)} {v : List (Key × V)} (h : DenK K H d v) (k : Kp H H') : DenK K H' d v := DenK.mono k d v h

theorem DenL.length : ∀ {ds : List D} {vs : List V}, DenL K H ds vs → ds.length = vs.length
  | [], _, h => by cases h; rfl
  | _ :: _, _, h => by
    cases h with
    | cons _ h2 => simp [DenL.length h2]
theorem DenL.append : ∀ {ds es : List D} {vs us : List V}, DenL K H ds vs → DenL K H es us → DenL K H (ds ++ es) (vs ++ us)
  | [], _, _, _, h, h' => by cases h; exact h'
  | _ :: _, _, _, _, h, h' => by
    cases h with
    | cons h1 h2 => exact .cons h1 (DenL.append h2 h')
theorem DenL.one {d : D} {v : V} (h : Den K H d v) : DenL K H [d] [v] := .cons h .nil
theorem DenL.get : ∀ {ds : List D} {vs : List V} {i : Nat} {d : D}, DenL K H ds vs → ds[i]? = some d → ∃ v, vs[i]? = some v ∧ Den K H d v
  | [], _, _, _, _, e => by simp at e
  | d :: ds, _, 0, _, h, e => by
    cases h with
    | cons h1 h2 => simp at e; subst e; exact ⟨_, rfl, h1⟩
  | d :: ds, _, i + 1, _, h, e => by
    cases h with
    | cons h1 h2 =>
      obtain ⟨v, e1, e2⟩ := DenL.get (i := i) h2 (by simpa using e)
      exact ⟨v, by simpa using e1, e2⟩
theorem DenL.drop : ∀ {ds : List D} {vs : List V} (n : Nat), DenL K H ds vs → DenL K H (ds.drop n) (vs.drop n)
  | _, _, 0, h => h
  | [], _, n + 1, h => by cases h; exact .nil
  | _ :: _, _, n + 1, h => by
    cases h with
    | cons _ h2 => exact DenL.drop n h2
theorem DenL.take : ∀ {ds : List D} {vs : List V} (n : Nat), DenL K H ds vs → DenL K H (ds.take n) (vs.take n)
  | _, _, 0, h => .nil
  | [], _, n + 1, h => by cases h; exact .nil
  | _ :: _, _, n + 1, h => by
    cases h with
    | cons h1 h2 => exact .cons h1 (DenL.take n h2)
theorem DenL.set {d : D} {v : V} (h : Den K H d v) : ∀ {ds : List D} {vs : List V} (i : Nat), DenL K H ds vs → DenL K H (ds.set i d) (vs.set i v)
  | [], _, _, q => by cases q; exact .nil
  | _ :: _, _, 0, q => by
    cases q with
    | cons _ h2 => exact .cons h h2
  | _ :: _, _, i + 1, q => by
    cases q with
    | cons h1 h2 => exact .cons h1 (DenL.set h i h2)
theorem DenL.eraseIdx : ∀ {ds : List D} {vs : List V} (i : Nat), DenL K H ds vs → DenL K H (ds.eraseIdx i) (vs.eraseIdx i)
  | [], _, _, q => by cases q; exact .nil
  | _ :: _, _, 0, q => by
    cases q with
    | cons _ h2 => exact h2
  | _ :: _, _, i + 1, q => by
    cases q with
    | cons h1 h2 => exact .cons h1 (DenL.eraseIdx i h2)
theorem DenL.dropLast {ds : List D} {vs : List V} (h : DenL K H ds vs) : DenL K H ds.dropLast vs.dropLast := by
  rw [List.dropLast_eq_take, List.dropLast_eq_take, h.length]
  exact h.take _
theorem DenL.reverse : ∀ {ds : List D} {vs : List V}, DenL K H ds vs → DenL K H ds.reverse vs.reverse
  | [], _, h => by cases h; exact .nil
  | _ :: _, _, h => by
    cases h with
    | cons h1 h2 =>
      rw [List.reverse_cons, List.reverse_cons]
      exact (DenL.reverse h2).append (.one h1)
theorem DenK.length : ∀ {ds : List (Key × D)} {vs : List (Key × V)}, DenK K H ds vs → ds.length = vs.length
  | [], _, h => by cases h; rfl
  | _ :: _, _, h => by
    cases h with
    | cons _ h2 => simp [DenK.length h2]

/-! ### a dict's pairs -/
def look (k : Key) : List (Key × D) → Option D
  | [] => none
  | (j, d) :: r => if j = k then some d else look k r
def has (k : Key) (l : List (Key × D)) : Bool := (look k l).isSome
/-- in its place, or at the end -/
def put (k : Key) (d : D) (l : List (Key × D)) : List (Key × D) :=
  if has k l = true then l.map (fun p => if p.1 = k then (p.1, d) else p) else l ++ [(k, d)]
theorem DenK.look {k : Key} : ∀ {ds : List (Key × D)} {vs : List (Key × V)}, DenK K H ds vs → (∀ d, look k ds = some d → ∃ v, valV vs k = some v ∧ Den K H d v) ∧ (Dv.look k ds = none → valV vs k = none)
  | [], _, h => by cases h; exact ⟨fun _ e => (by cases e), fun _ => rfl⟩
  | (j, e) :: r, _, h => by
    cases h with
    | cons h1 h2 =>
      obtain ⟨p, q⟩ := DenK.look (k := k) h2
      by_cases hj : j = k
      · refine ⟨fun d e => ?_, fun e => ?_⟩
        · rw [Dv.look, if_pos hj] at e
          cases e
          exact ⟨_, valV_pos hj, h1⟩
        · rw [Dv.look, if_pos hj] at e
          cases e
      · refine ⟨fun d e => ?_, fun e => ?_⟩
        · rw [Dv.look, if_neg hj] at e
          obtain ⟨v, e1, e2⟩ := p d e
          exact ⟨v, (valV_neg hj).trans e1, e2⟩
        · rw [Dv.look, if_neg hj] at e
          exact (valV_neg hj).trans (q e)
theorem DenK.has {k : Key} {ds : List (Key × D)} {vs : List (Key × V)} (h : DenK K H ds vs) : Dv.has k ds = (valV vs k).isSome := by
  unfold Dv.has
  cases e : Dv.look k ds with
  | none => rw [h.look.2 e]; rfl
  | some d =>
    obtain ⟨v, e1, _⟩ := h.look.1 d e
    rw [e1]
    rfl
theorem DenK.repl {k : Key} {d : D} {v : V} (q : Den K H d v) : ∀ {ds : List (Key × D)} {vs : List (Key × V)}, DenK K H ds vs →
    DenK K H (ds.map fun p => if p.1 = k then (p.1, d) else p) (vs.map fun p => if p.1 = k then (p.1, v) else p)
  | [], _, h => by cases h; exact .nil
  | (j, e) :: r, _, h => by
    cases h with
    | cons h1 h2 =>
      rw [List.map_cons, List.map_cons]
      by_cases hj : j = k
      · rw [if_pos hj, if_pos hj]
        exact .cons q (DenK.repl q h2)
      · rw [if_neg hj, if_neg hj]
        exact .cons h1 (DenK.repl q h2)
theorem DenK.append : ∀ {ds es : List (Key × D)} {vs us : List (Key × V)}, DenK K H ds vs → DenK K H es us → DenK K H (ds ++ es) (vs ++ us)
  | [], _, _, _, h, h' => by cases h; exact h'
  | _ :: _, _, _, _, h, h' => by
    cases h with
    | cons h1 h2 => exact .cons h1 (DenK.append h2 h')
theorem DenK.put {k : Key} {d : D} {v : V} {ds : List (Key × D)} {vs : List (Key × V)} (q : Den K H d v) (h : DenK K H ds vs) : DenK K H (Dv.put k d ds) (putK vs k v) := by
  unfold Dv.put putK
  rw [h.has, valV_any]
  split
  · exact h.repl q
  · exact h.append (.cons q .nil)
theorem length_put (k : Key) (d : D) (l : List (Key × D)) : (put k d l).length ≤ l.length + 1 := by
  unfold put
  split
  · rw [List.length_map]; omega
  · rw [List.length_append]; simp
end

/-! ### the things by address -/
section
variable (K : PySem.W.Frag) (DI : Addr → GH → Prop)
def RepM (H : Hp) (a : Addr) : MO → Prop
  | .lst ds => ∃ vs, H a = some (.lst vs) ∧ DenL K H ds vs
  | .dct kvs => ∃ ks, H a = some (.dK ks) ∧ DenK K H kvs ks
  | .fct kvs => ∃ o ks, H a = some (.frz o (.dK ks)) ∧ DenK K H kvs ks
/-- F: what stands beside, as it is -/
structure Rel (F : Hp) (S : GS) (H : Hp) : Prop where
  rep : ∀ a m, S.g a = some m → RepM K H a m
  hid : ∀ dk, S.o = some dk → ∃ G, DI dk G ∧ (∀ a m, G a = some m → RepM K H a m) ∧ (∀ a m, S.g a = some m → G a = none) ∧ ∀ a o, F a = some o → G a = none
  frm : ∀ a o, F a = some o → H a = some o ∧ S.g a = none
/-- the names -/
abbrev Env := List (Option D)
structure EnvR (H : Hp) (ρ : Env) (σ : St) : Prop where
  len : ρ.length = σ.length
  at_ : ∀ (i : Nat) (d : D), ρ[i]? = some (some d) → ∃ v, σ[i]? = some (some v) ∧ Den K H d v
end
section
variable {K : PySem.W.Frag} {DI : Addr → GH → Prop} {F H H' : Hp} {S : GS}
theorem RepM.mono {a : Addr} {m : MO} (r : RepM K H a m) (k : Kp H H') (h : H' a = H a) : RepM K H' a m := by
  cases m with
  | lst ds =>
    obtain ⟨vs, e, d⟩ := r
    exact ⟨vs, h.trans e, d.mn k⟩
  | dct kvs =>
    obtain ⟨vs, e, d⟩ := r
    exact ⟨vs, h.trans e, d.mn k⟩
  | fct kvs =>
    obtain ⟨o, vs, e, d⟩ := r
    exact ⟨o, vs, h.trans e, d.mn k⟩
theorem RepM.some {a : Addr} {m : MO} (r : RepM K H a m) : H a ≠ none := by
  cases m with
  | lst ds => obtain ⟨vs, e, d⟩ := r; rw [e]; simp
  | dct ds => obtain ⟨vs, e, d⟩ := r; rw [e]; simp
  | fct ds => obtain ⟨_, vs, e, d⟩ := r; rw [e]; simp
theorem EnvR.mn {ρ : Env} {σ : St} (e : EnvR K H ρ σ) (k : Kp H H') : EnvR K H' ρ σ :=
  ⟨e.len, fun i d h => let ⟨v, h1, h2⟩ := e.at_ i d h; ⟨v, h1, h2.mn k⟩⟩
theorem EnvR.set {ρ : Env} {σ : St} {i : Nat} {d : D} {v : V} (e : EnvR K H ρ σ) (h : Den K H d v) : EnvR K H (ρ.set i (.some d)) (σ.set i (.some v)) := by
  refine ⟨by simp [e.len], fun j x hx => ?_⟩
  by_cases hj : i = j
  · subst hj
    by_cases hl : i < ρ.length
    · rw [List.getElem?_set_self hl] at hx
      cases hx
      exact ⟨v, List.getElem?_set_self (by rw [← e.len]; exact hl), h⟩
    · rw [List.getElem?_eq_none (by rw [List.length_set]; omega)] at hx
      cases hx
  · rw [List.getElem?_set_ne hj] at hx ⊢
    exact e.at_ j x hx
/-- nothing that is known by its address has changed -/
theorem Rel.keep (r : Rel K DI F S H) (k : Kp H H') (h : ∀ a, H a ≠ none → H' a = H a) : Rel K DI F S H' where
  rep := fun a m e => (r.rep a m e).mono k (h a (r.rep a m e).some)
  hid := fun dk e => by
    obtain ⟨G, h1, h2, h3, h4⟩ := r.hid dk e
    exact ⟨G, h1, fun a m q => (h2 a m q).mono k (h a (h2 a m q).some), h3, h4⟩
  frm := fun a o e => by
    obtain ⟨h1, h2⟩ := r.frm a o e
    exact ⟨(h a (by rw [h1]; simp)).trans h1, h2⟩
theorem Rel.new {p : Addr} {o : HO} (r : Rel K DI F S H) (h : H p = none) : Rel K DI F S (upd H p o) :=
  r.keep (.new h) fun a q => upd_ne (fun e => q (by rw [e]; exact h))
theorem Rel.free {p : Addr} (r : Rel K DI F S H) (h : H p = none) : S.g p = none := by
  cases e : S.g p with
  | none => rfl
  | some m => exact absurd h (r.rep p m e).some
/-- the thing at p is another one, or new -/
theorem Rel.set {p : Addr} {m : MO} {o : HO} (r : Rel K DI F S H) (k : Kp H (upd H p o)) (hn : H p = none ∨ ∃ m, S.g p = some m) (new : RepM K (upd H p o) p m) : Rel K DI F (S.set p m) (upd H p o) where
  rep := fun a m' e => by
    by_cases ha : a = p
    · subst ha
      rw [GS.set_same] at e
      cases e
      exact new
    · rw [GS.set_ne ha] at e
      exact (r.rep a m' e).mono k (upd_ne ha)
  hid := fun dk e => by
    obtain ⟨G, h1, h2, h3, h4⟩ := r.hid dk e
    have hp : G p = none := by
      rcases hn with hn | ⟨m', hn⟩
      · cases q : G p with
        | none => rfl
        | some m' => exact absurd hn (h2 p m' q).some
      · exact h3 p m' hn
    refine ⟨G, h1, fun a m' q => (h2 a m' q).mono k (upd_ne (fun e => by rw [e, hp] at q; cases q)), fun a m' q => ?_, h4⟩
    by_cases ha : a = p
    · rw [ha]; exact hp
    · rw [GS.set_ne ha] at q
      exact h3 a m' q
  frm := fun a o' e => by
    obtain ⟨h1, h2⟩ := r.frm a o' e
    have ha : a ≠ p := by
      rintro rfl
      rcases hn with hn | ⟨m', hn⟩
      · rw [h1] at hn; cases hn
      · rw [h2] at hn; cases hn
    exact ⟨by rw [upd_ne ha]; exact h1, by rw [GS.set_ne ha]; exact h2⟩
/-- less is known -/
theorem Rel.less {S' : GS} (r : Rel K DI F S H) (h : ∀ a m, S'.g a = some m → S.g a = some m) (ho : S'.o = S.o) : Rel K DI F S' H :=
  ⟨fun a m e => r.rep a m (h a m e), fun dk e => let ⟨G, h1, h2, h3, h4⟩ := r.hid dk (ho ▸ e); ⟨G, h1, h2, fun a m q => h3 a m (h a m q), h4⟩, fun a o e => by
    obtain ⟨h1, h2⟩ := r.frm a o e
    refine ⟨h1, ?_⟩
    cases q : S'.g a with
    | none => rfl
    | some m => rw [h a m q] at h2; cases h2⟩
/-- one thing more that stands beside -/
theorem Rel.beside {p : Addr} {o : HO} (r : Rel K DI F S H) (h : H p = none) : Rel K DI (upd F p o) S (upd H p o) := by
  have r' := r.new (o := o) h
  refine ⟨r'.rep, fun dk e => ?_, fun a o' e => ?_⟩
  · obtain ⟨G, h1, h2, h3, h4⟩ := r.hid dk e
    have k : Kp H (upd H p o) := .new h
    have hp : G p = none := by
      cases q : G p with
      | none => rfl
      | some m' => exact absurd h (h2 p m' q).some
    refine ⟨G, h1, fun a m q => (h2 a m q).mono k (upd_ne (fun e => by rw [e, hp] at q; cases q)), h3, fun a o' q => ?_⟩
    by_cases ha : a = p
    · rw [ha]; exact hp
    · rw [upd_ne ha] at q
      exact h4 a o' q
  · by_cases ha : a = p
    · subst ha
      rw [upd_same] at e
      cases e
      exact ⟨upd_same, r.free h⟩
    · rw [upd_ne ha] at e
      exact r'.frm a o' e
/-- what stands beside is another thing now -/
theorem Rel.turn {p : Addr} {o u : HO} (r : Rel K DI F S H) (hF : F p = some u) (k : Kp H (upd H p o)) : Rel K DI (upd F p o) S (upd H p o) := by
  have hp := r.frm p u hF
  refine ⟨fun a m e => (r.rep a m e).mono k (upd_ne (fun z => by rw [z, hp.2] at e; cases e)), fun dk e => ?_, fun a o' e => ?_⟩
  · obtain ⟨G, h1, h2, h3, h4⟩ := r.hid dk e
    have hg := h4 p u hF
    refine ⟨G, h1, fun a m q => (h2 a m q).mono k (upd_ne (fun z => by rw [z, hg] at q; cases q)), h3, fun a o' q => ?_⟩
    by_cases ha : a = p
    · rw [ha]; exact hg
    · rw [upd_ne ha] at q
      exact h4 a o' q
  · by_cases ha : a = p
    · subst ha
      rw [upd_same] at e
      cases e
      exact ⟨upd_same, hp.2⟩
    · rw [upd_ne ha] at e
      obtain ⟨h1, h2⟩ := r.frm a o' e
      exact ⟨by rw [upd_ne ha]; exact h1, h2⟩
/-- what stood beside may be left -/
theorem Rel.alone {F' : Hp} (r : Rel K DI F S H) (h : ∀ a o, F' a = some o → F a = some o) : Rel K DI F' S H :=
  ⟨r.rep, fun dk e => let ⟨G, h1, h2, h3, h4⟩ := r.hid dk e; ⟨G, h1, h2, h3, fun a o q => h4 a o (h a o q)⟩, fun a o e => r.frm a o (h a o e)⟩
end

/-! ### readings -/
abbrev W := Env → GS → (D → GS → Prop) → Prop
abbrev WA := Env → GS → (List D → GS → Prop) → Prop
abbrev WT := Env → GS → (Bool → GS → Prop) → Prop
/-- an operation on values -/
abbrev W1 := D → GS → (D → GS → Prop) → Prop
abbrev W2 := D → D → GS → (D → GS → Prop) → Prop
abbrev WF := List D → GS → (D → GS → Prop) → Prop
section
variable (K : PySem.W.Frag) (DI : Addr → GH → Prop)
section
variable (F : Hp)
def Fin (H : Hp) (R : D → GS → Prop) (Q : VK) : Prop := ∀ d S v H', R d S → Rel K DI F S H' → Kp H H' → Den K H' d v → Q v H'
def FinA (H : Hp) (R : List D → GS → Prop) (Q : List V → Hp → Prop) : Prop := ∀ d S v H', R d S → Rel K DI F S H' → Kp H H' → DenL K H' d v → Q v H'
def FinT (H : Hp) (R : Bool → GS → Prop) (Q : Bool → Hp → Prop) : Prop := ∀ b S H', R b S → Rel K DI F S H' → Kp H H' → Q b H'
def FinU (H : Hp) (R : GS → Prop) (Q : Hp → Prop) : Prop := ∀ S H', R S → Rel K DI F S H' → Kp H H' → Q H'
end
def lft (w : W) : TE := fun σ H Q => ∃ F ρ S R, Rel K DI F S H ∧ EnvR K H ρ σ ∧ w ρ S R ∧ Fin K DI F H R Q
def lftA (w : WA) : TA := fun σ H Q => ∃ F ρ S R, Rel K DI F S H ∧ EnvR K H ρ σ ∧ w ρ S R ∧ FinA K DI F H R Q
def lftT (w : WT) : TT := fun σ H Q => ∃ F ρ S R, Rel K DI F S H ∧ EnvR K H ρ σ ∧ w ρ S R ∧ FinT K DI F H R Q
def lft1 (w : W1) : V → Hp → VK → Prop := fun x H Q => ∃ F d S R, Rel K DI F S H ∧ Den K H d x ∧ w d S R ∧ Fin K DI F H R Q
def lft2 (w : W2) : R2 := fun x y H Q => ∃ F d e S R, Rel K DI F S H ∧ Den K H d x ∧ Den K H e y ∧ w d e S R ∧ Fin K DI F H R Q
def lftF (w : WF) : List V → Hp → VK → Prop := fun xs H Q => ∃ F ds S R, Rel K DI F S H ∧ DenL K H ds xs ∧ w ds S R ∧ Fin K DI F H R Q
def lftM (w : D → WF) : V → List V → Hp → VK → Prop := fun x xs H Q => ∃ F d ds S R, Rel K DI F S H ∧ Den K H d x ∧ DenL K H ds xs ∧ w d ds S R ∧ Fin K DI F H R Q
end
section
variable {K : PySem.W.Frag} {DI : Addr → GH → Prop} {F H H' : Hp}
theorem Fin.up {R : D → GS → Prop} {Q : VK} (f : Fin K DI F H R Q) (k : Kp H H') : Fin K DI F H' R Q := fun d S v H2 r rel kp den => f d S v H2 r rel (k.trans kp) den
theorem FinA.up {R : List D → GS → Prop} {Q : List V → Hp → Prop} (f : FinA K DI F H R Q) (k : Kp H H') : FinA K DI F H' R Q := fun d S v H2 r rel kp den => f d S v H2 r rel (k.trans kp) den
theorem FinT.up {R : Bool → GS → Prop} {Q : Bool → Hp → Prop} (f : FinT K DI F H R Q) (k : Kp H H') : FinT K DI F H' R Q := fun b S H2 r rel kp => f b S H2 r rel (k.trans kp)
/-- the same heap -/
theorem Fin.at0 {R : D → GS → Prop} {Q : VK} {S : GS} {d : D} {v : V} (f : Fin K DI F H R Q) (r : R d S) (rel : Rel K DI F S H) (den : Den K H d v) : Q v H := f d S v H r rel (.refl H) den
end
end Dv

namespace L2
theorem PE.imp {X : Cx} {e : PySem.Expr} {t u : TE} (h : PE X e t) (i : ∀ σ H Q, u σ H Q → t σ H Q) : PE X e u := ⟨fun pins s σ H Q I q => h.run pins s σ H Q I (i _ _ _ q)⟩
theorem PT.imp {X : Cx} {e : PySem.Expr} {t u : TT} (h : PT X e t) (i : ∀ σ H Q, u σ H Q → t σ H Q) : PT X e u := ⟨fun pins s σ H Q I q => h.run pins s σ H Q I (i _ _ _ q)⟩
theorem PW.imp {X : Cx} {e : PySem.Expr} {t u : TT} (h : PW X e t) (i : ∀ σ H Q, u σ H Q → t σ H Q) : PW X e u := ⟨fun wh pins s σ H Q I q => h.run wh pins s σ H Q I (i _ _ _ q)⟩
theorem PA.imp {X : Cx} {e : List PySem.Expr} {t u : TA} (h : PA X e t) (i : ∀ σ H Q, u σ H Q → t σ H Q) : PA X e u := ⟨fun pos pins s σ H Q I q => h.run pos pins s σ H Q I (i _ _ _ q)⟩
theorem PS.imp {X : Cx} {e : PySem.Stmt} {t u : TS} (h : PS X e t) (i : ∀ E σ H, u E σ H → t E σ H) : PS X e u := ⟨fun pins s σ H E I q => h.run pins s σ H E I (i _ _ _ q)⟩
theorem PSs.imp {X : Cx} {e : List PySem.Stmt} {t u : TS} (h : PSs X e t) (i : ∀ E σ H, u E σ H → t E σ H) : PSs X e u := ⟨fun pins s σ H E I q => h.run pins s σ H E I (i _ _ _ q)⟩
theorem OpR.imp {X : Cx} {f : PySem.Value → PySem.Value → PySem.Sem PySem.Value} {r q : R2} (h : OpR X f r) (i : ∀ x y H Q, q x y H Q → r x y H Q) : OpR X f q := fun pins s σ H x y v u Q I rx ry z => h pins s σ H x y v u Q I rx ry (i _ _ _ _ z)
theorem CallR.imp {X : Cx} {f : PySem.Value} {r q : List V → Hp → VK → Prop} (h : CallR X f r) (i : ∀ x H Q, q x H Q → r x H Q) : CallR X f q := fun pins s σ H xs us Q I rx z => h pins s σ H xs us Q I rx (i _ _ _ z)
theorem MtR.imp {X : Cx} {id : String} {r q : V → List V → Hp → VK → Prop} (h : MtR X id r) (i : ∀ x xs H Q, q x xs H Q → r x xs H Q) : MtR X id q := fun pins s σ H x xs v us Q I rx rs z => h pins s σ H x xs v us Q I rx rs (i _ _ _ _ z)
theorem IxR.imp {X : Cx} {r q : R2} (h : IxR X r) (i : ∀ x y H Q, q x y H Q → r x y H Q) : IxR X q := fun value slice pins s σ H x y v u Q I rx ry z hs => h value slice pins s σ H x y v u Q I rx ry (i _ _ _ _ z) hs
end L2

/-! Dv2: names, constants, operators, comparisons, truth, subscripts, displays, by data. -/
namespace Dv
open PySem PySem.Spec L2
open PyProof.Rows hiding St

/-! ### data for == and repr -/
mutual
def dat : D → PyData
  | .non => .none
  | .bl b => .bool b
  | .int i => .int i
  | .str x => .str x
  | .ty _ => .none
  | .ref _ => .none
  | .tup ds => .tuple (datL ds)
  | .lst ds => .list (datL ds)
  | .dct kvs => .dict (datK kvs)
def datL : List D → List PyData
  | [] => []
  | d :: ds => dat d :: datL ds
def datK : List (Key × D) → List (PyData × PyData)
  | [] => []
  | (k, d) :: ds => ((match k with | .inl i => .int i | .inr x => .str x), dat d) :: datK ds
end
mutual
/-- nothing that stands by its address -/
def pure? : D → Bool
  | .non => true
  | .bl _ => true
  | .int _ => true
  | .str _ => true
  | .ty _ => false
  | .ref _ => false
  | .tup ds => pureL ds
  | .lst ds => pureL ds
  | .dct kvs => pureK kvs
def pureL : List D → Bool
  | [] => true
  | d :: ds => pure? d && pureL ds
def pureK : List (Key × D) → Bool
  | [] => true
  | (_, d) :: ds => pure? d && pureK ds
end
mutual
/-- no dict within, texts of plain signs -/
def nod? : D → Bool
  | .non => true
  | .bl _ => true
  | .int _ => true
  | .str x => PyData.strOk x
  | .ty _ => true
  | .ref _ => true
  | .tup ds => nodL ds
  | .lst ds => nodL ds
  | .dct _ => false
def nodL : List D → Bool
  | [] => true
  | d :: ds => nod? d && nodL ds
end
mutual
def dep : D → Nat
  | .non => 0
  | .bl _ => 0
  | .int _ => 0
  | .str _ => 0
  | .ty _ => 0
  | .ref _ => 0
  | .tup ds => depL ds + 1
  | .lst ds => depL ds + 1
  | .dct kvs => depK kvs + 1
def depL : List D → Nat
  | [] => 0
  | d :: ds => max (dep d) (depL ds)
def depK : List (Key × D) → Nat
  | [] => 0
  | (_, d) :: ds => max (dep d) (depK ds)
end
mutual
theorem depth_dat : ∀ d : D, (dat d).depth = dep d
  | .non => by simp [dat, dep, PyData.depth]
  | .bl _ => by simp [dat, dep, PyData.depth]
  | .int _ => by simp [dat, dep, PyData.depth]
  | .str _ => by simp [dat, dep, PyData.depth]
  | .ty _ => by simp [dat, dep, PyData.depth]
  | .ref _ => by simp [dat, dep, PyData.depth]
  | .tup ds => by simp [dat, dep, PyData.depth, depth_datL ds]
  | .lst ds => by simp [dat, dep, PyData.depth, depth_datL ds]
  | .dct ds => by simp [dat, dep, PyData.depth, depth_datK ds]
theorem depth_datL : ∀ ds : List D, PyData.depthAll (datL ds) = depL ds
  | [] => by simp [datL, depL, PyData.depthAll]
  | d :: ds => by simp [datL, depL, PyData.depthAll, depth_dat d, depth_datL ds]
theorem depth_datK : ∀ ds : List (Key × D), PyData.depthKv (datK ds) = depK ds
  | [] => by simp [datK, depK, PyData.depthKv]
  | (k, d) :: ds => by
    cases k <;> simp [datK, depK, PyData.depthKv, PyData.depth, depth_dat d, depth_datK ds]
end
mutual
theorem lay_dat : ∀ d : D, nod? d = true → (dat d).canLay0 = true
  | .non, _ => by simp [dat, PyData.canLay0]
  | .bl _, _ => by simp [dat, PyData.canLay0]
  | .int _, _ => by simp [dat, PyData.canLay0]
  | .str x, h => by simpa [dat, PyData.canLay0, nod?] using h
  | .ty _, _ => by simp [dat, PyData.canLay0]
  | .ref _, _ => by simp [dat, PyData.canLay0]
  | .tup ds, h => by simp [dat, PyData.canLay0, lay_datL ds (by simpa [nod?] using h)]
  | .lst ds, h => by simp [dat, PyData.canLay0, lay_datL ds (by simpa [nod?] using h)]
  | .dct ds, h => by simp [nod?] at h
theorem lay_datL : ∀ ds : List D, nodL ds = true → PyData.canLayAll0 (datL ds) = true
  | [], _ => by simp [datL, PyData.canLayAll0]
  | d :: ds, h => by
    have h' : nod? d = true ∧ nodL ds = true := by simpa [nodL] using h
    simp [datL, PyData.canLayAll0, lay_dat d h'.1, lay_datL ds h'.2]
end
/-- may be compared: all told by what it holds, no dict, not too deep -/
def cmp? (d : D) : Bool := pure? d && (nod? d && decide (dep d ≤ 64))
theorem cmp_shaped {d : D} (h : cmp? d = true) : SeqAt.shaped (dat d) = true := by
  unfold cmp? at h
  simp only [Bool.and_eq_true, decide_eq_true_eq] at h
  unfold SeqAt.shaped
  rw [lay_dat d h.2.1, depth_dat, Bool.true_and]
  exact decide_eq_true h.2.2
def eqb (x y : D) : Bool := PyData.eqv (dat x) (dat y)

section
variable {K : PySem.W.Frag} {H : Hp}
mutual
theorem Den.dp : ∀ (d : D) (v : V), pure? d = true → nod? d = true → Den K H d v → Dp K H v (dat d)
  | .non, _, _, _, h => by cases h; rw [dat]; exact .non
  | .bl _, _, _, _, h => by cases h; rw [dat]; exact .bl _
  | .int _, _, _, _, h => by cases h; rw [dat]; exact .int _
  | .str _, _, _, _, h => by cases h; rw [dat]; exact .str _
  | .ty _, _, p, _, _ => by simp [pure?] at p
  | .ref _, _, p, _, _ => by simp [pure?] at p
  | .tup ds, _, p, q, h => by
    cases h with
    | tup h1 h2 =>
      rw [dat]
      exact .tup h1 (DenL.dp ds _ (by simpa [pure?] using p) (by simpa [nod?] using q) h2)
  | .lst ds, _, p, q, h => by
    cases h with
    | lst h1 h2 =>
      rw [dat]
      exact .lst (.inl (.inr ⟨_, h1⟩)) (DenL.dp ds _ (by simpa [pure?] using p) (by simpa [nod?] using q) h2)
  | .dct ds, _, _, q, _ => by simp [nod?] at q
theorem DenL.dp : ∀ (ds : List D) (vs : List V), pureL ds = true → nodL ds = true → DenL K H ds vs → DpAll K H vs (datL ds)
  | [], _, _, _, h => by cases h; rw [datL]; exact .nil
  | d :: ds, _, p, q, h => by
    have p' : pure? d = true ∧ pureL ds = true := by simpa [pureL] using p
    have q' : nod? d = true ∧ nodL ds = true := by simpa [nodL] using q
    cases h with
    | cons h1 h2 =>
      rw [datL]
      exact .cons (Den.dp d _ p'.1 q'.1 h1) (DenL.dp ds _ p'.2 q'.2 h2)
end
end

/-! ### what a value holds, where it is told by its address -/
/-- the list at an address, as it stands -/
def snap (S : GS) : D → D
  | .ref p => match S.g p with
    | some (.lst ds) => .lst ds
    | some (.dct kvs) => .dct kvs
    | some (.fct kvs) => .dct kvs
    | none => .ref p
  | d => d
def asL (S : GS) : D → Option (List D)
  | .lst ds => some ds
  | .ref p => match S.g p with
    | some (.lst ds) => some ds
    | _ => none
  | _ => none
def asQ (S : GS) : D → Option (List D)
  | .tup ds => some ds
  | d => asL S d
def asK (S : GS) : D → Option (List (Key × D))
  | .dct ds => some ds
  | .ref p => match S.g p with
    | some (.dct ds) => some ds
    | some (.fct ds) => some ds
    | _ => none
  | _ => none
def keyOf : D → Option Key
  | .int i => some (.inl i)
  | .str x => some (.inr x)
  | _ => none
section
variable {K : PySem.W.Frag} {DI : Addr → GH → Prop} {F H : Hp} {S : GS}
theorem asL_ok {d : D} {ds : List D} {v : V} (r : Rel K DI F S H) (h : Den K H d v) (e : asL S d = some ds) : ∃ a vs, v = .ref a ∧ Rd H a (.lst vs) ∧ DenL K H ds vs := by
  cases h with
  | lst h1 h2 =>
    cases e
    exact ⟨_, _, rfl, .inr ⟨_, h1⟩, h2⟩
  | ref a =>
    unfold asL at e
    cases q : S.g a with
    | none => simp [q] at e
    | some m =>
      cases m with
      | dct _ => simp [q] at e
      | fct _ => simp [q] at e
      | lst es =>
        simp [q] at e
        subst e
        obtain ⟨vs, e1, e2⟩ := r.rep a _ q
        exact ⟨_, _, rfl, .inl e1, e2⟩
  | _ => cases e
theorem asQ_ok {d : D} {ds : List D} {v : V} (r : Rel K DI F S H) (h : Den K H d v) (e : asQ S d = some ds) : ∃ a vs, v = .ref a ∧ (SqL K H a vs ∨ SqT K H a vs) ∧ DenL K H ds vs := by
  cases h with
  | tup h1 h2 =>
    cases e
    exact ⟨_, _, rfl, .inr h1, h2⟩
  | lst h1 h2 =>
    obtain ⟨a, vs, e1, e2, e3⟩ := asL_ok r (.lst h1 h2) e
    exact ⟨a, vs, e1, .inl (.inl e2), e3⟩
  | ref p =>
    obtain ⟨a, vs, e1, e2, e3⟩ := asL_ok r (.ref p) e
    exact ⟨a, vs, e1, .inl (.inl e2), e3⟩
  | _ => cases e
theorem asK_ok {d : D} {ds : List (Key × D)} {v : V} (r : Rel K DI F S H) (h : Den K H d v) (e : asK S d = some ds) : ∃ a vs, v = .ref a ∧ Rd H a (.dK vs) ∧ DenK K H ds vs := by
  cases h with
  | dct h1 h2 =>
    cases e
    exact ⟨_, _, rfl, .inr ⟨_, h1⟩, h2⟩
  | ref a =>
    unfold asK at e
    cases q : S.g a with
    | none => simp [q] at e
    | some m =>
      cases m with
      | lst _ => simp [q] at e
      | dct es =>
        simp [q] at e
        subst e
        obtain ⟨vs, e1, e2⟩ := r.rep a _ q
        exact ⟨_, _, rfl, .inl e1, e2⟩
      | fct es =>
        simp [q] at e
        subst e
        obtain ⟨o, vs, e1, e2⟩ := r.rep a _ q
        exact ⟨_, _, rfl, .inr ⟨o, e1⟩, e2⟩
  | _ => cases e
theorem keyOf_ok {d : D} {k : Key} {v : V} (h : Den K H d v) (e : keyOf d = some k) : v = kV k := by
  cases h <;> first | (cases e; rfl) | cases e
/-- the value as it stands, for == and repr -/
theorem snap_dp {d : D} {v : V} (r : Rel K DI F S H) (h : Den K H d v) (p : pure? (snap S d) = true) (q : nod? (snap S d) = true) : Dp K H v (dat (snap S d)) := by
  cases h with
  | ref a =>
    unfold snap at p q ⊢
    cases e : S.g a with
    | none => simp [e, pure?] at p
    | some m =>
      cases m with
      | dct _ => simp [e, nod?] at q
      | fct _ => simp [e, nod?] at q
      | lst es =>
        simp [e, pure?] at p
        simp [e, nod?] at q
        obtain ⟨vs, e1, e2⟩ := r.rep a _ e
        simp only [e, dat]
        exact .lst (.inl (.inl e1)) (DenL.dp es _ p q e2)
  | non => exact Den.dp _ _ p q .non
  | bl b => exact Den.dp _ _ p q (.bl b)
  | int b => exact Den.dp _ _ p q (.int b)
  | str b => exact Den.dp _ _ p q (.str b)
  | ty b => exact Den.dp _ _ p q (.ty b)
  | tup h1 h2 => exact Den.dp _ _ p q (.tup h1 h2)
  | lst h1 h2 => exact Den.dp _ _ p q (.lst h1 h2)
  | dct h1 h2 => exact Den.dp _ _ p q (.dct h1 h2)
end

/-! ### locking what is new -/
/-- the wish holds, or it does once the thing at some address is locked -/
def LQ (Q : VK) : VK := fun v H => Q v H ∨ ∃ p u, H p = some u ∧ Mut (some u) ∧ ∀ od, Q v (upd H p (.frz od u))
theorem LQ.ep {X : Cx} {pins : List (Addr × Obj)} {σ : L2.St} {Q : VK} {u : Value} {s : Shared} (h : EP X pins σ (LQ Q) u s) : EP X pins σ Q u s := by
  obtain ⟨v, H, I, r, q⟩ := h
  rcases q with q | ⟨p, o, hp, mu, q⟩
  · exact ⟨v, H, I, r, q⟩
  · obtain ⟨od, I2⟩ := I.lock hp mu
    exact ⟨v, _, I2, r, q od⟩
theorem opLQ {X : Cx} {f : Value → Value → Sem Value} {r : R2} (h : OpR X f r) : OpR X f (fun x y H Q => r x y H (LQ Q)) := fun pins s σ H x y v u Q I rx ry z => thn (h pins s σ H x y v u (LQ Q) I rx ry z) fun _ _ q => LQ.ep q
theorem callLQ {X : Cx} {f : Value} {r : List V → Hp → VK → Prop} (h : CallR X f r) : CallR X f (fun x H Q => r x H (LQ Q)) := fun pins s σ H x us Q I rx z => thn (h pins s σ H x us (LQ Q) I rx z) fun _ _ q => LQ.ep q
theorem mtLQ {X : Cx} {id : String} {r : V → List V → Hp → VK → Prop} (h : MtR X id r) : MtR X id (fun x xs H Q => r x xs H (LQ Q)) := fun pins s σ H x xs v us Q I rx rs z => thn (h pins s σ H x xs v us (LQ Q) I rx rs z) fun _ _ q => LQ.ep q
theorem peLQ {X : Cx} {e : Expr} {t : TE} (h : PE X e t) : PE X e (fun σ H Q => t σ H (LQ Q)) := ⟨fun pins s σ H Q I z => thn (h.run pins s σ H (LQ Q) I z) fun _ _ q => LQ.ep q⟩
section
variable {K : PySem.W.Frag} {DI : Addr → GH → Prop} {F H H' : Hp} {S : GS}
theorem Kp.frz {p : Addr} {u : HO} {od : Obj} (h : H p = some u) (mu : Mut (some u)) : Kp H (upd H p (.frz od u)) :=
  ⟨fun b x e => by rw [upd_ne (fun z => by rw [z, h] at e; cases e; exact mu)]; exact e, fun b x o e => by rw [upd_ne (fun z => by rw [z, h] at e; cases e; exact mu)]; exact e⟩
/-- a new list, locked -/
theorem Fin.lst {R : D → GS → Prop} {Q : VK} {ds : List D} {vs : List V} {p : Addr} (f : Fin K DI F H R Q) (r : R (.lst ds) S) (rel : Rel K DI F S H') (k : Kp H H') (den : DenL K H' ds vs) (hp : H' p = none) : LQ Q (.ref p) (upd H' p (.lst vs)) := by
  refine .inr ⟨p, .lst vs, upd_same, trivial, fun od => ?_⟩
  have e : upd (upd H' p (.lst vs)) p (.frz od (.lst vs)) = upd H' p (.frz od (.lst vs)) := upd_upd
  rw [e]
  have kn : Kp H' (upd H' p (.frz od (.lst vs))) := .new hp
  exact f _ S _ _ r (rel.new hp) (k.trans kn) (.lst upd_same (den.mn kn))
theorem Fin.dct {R : D → GS → Prop} {Q : VK} {ds : List (Key × D)} {vs : List (Key × V)} {p : Addr} (f : Fin K DI F H R Q) (r : R (.dct ds) S) (rel : Rel K DI F S H') (k : Kp H H') (den : DenK K H' ds vs) (hp : H' p = none) : LQ Q (.ref p) (upd H' p (.dK vs)) := by
  refine .inr ⟨p, .dK vs, upd_same, trivial, fun od => ?_⟩
  have e : upd (upd H' p (.dK vs)) p (.frz od (.dK vs)) = upd H' p (.frz od (.dK vs)) := upd_upd
  rw [e]
  have kn : Kp H' (upd H' p (.frz od (.dK vs))) := .new hp
  exact f _ S _ _ r (rel.new hp) (k.trans kn) (.dct upd_same (den.mn kn))
theorem Fin.tup {R : D → GS → Prop} {Q : VK} {ds : List D} {vs : List V} {p : Addr} (f : Fin K DI F H R Q) (r : R (.tup ds) S) (rel : Rel K DI F S H') (k : Kp H H') (den : DenL K H' ds vs) (hp : H' p = none) : Q (.ref p) (upd H' p (.tup vs)) := by
  have kn : Kp H' (upd H' p (.tup vs)) := .new hp
  exact f _ S _ _ r (rel.new hp) (k.trans kn) (.tup (.inl (.inl upd_same)) (den.mn kn))
/-- a new list, known by its address -/
theorem Fin.newL {R : D → GS → Prop} {Q : VK} {ds : List D} {vs : List V} {p : Addr} (f : Fin K DI F H R Q) (r : R (.ref p) (S.set p (.lst ds))) (rel : Rel K DI F S H') (k : Kp H H') (den : DenL K H' ds vs) (hp : H' p = none) : Q (.ref p) (upd H' p (.lst vs)) := by
  have kn : Kp H' (upd H' p (.lst vs)) := .new hp
  exact f _ _ _ _ r (rel.set kn (.inl hp) ⟨vs, upd_same, den.mn kn⟩) (k.trans kn) (.ref p)
theorem Fin.newD {R : D → GS → Prop} {Q : VK} {ds : List (Key × D)} {vs : List (Key × V)} {p : Addr} (f : Fin K DI F H R Q) (r : R (.ref p) (S.set p (.dct ds))) (rel : Rel K DI F S H') (k : Kp H H') (den : DenK K H' ds vs) (hp : H' p = none) : Q (.ref p) (upd H' p (.dK vs)) := by
  have kn : Kp H' (upd H' p (.dK vs)) := .new hp
  exact f _ _ _ _ r (rel.set kn (.inl hp) ⟨vs, upd_same, den.mn kn⟩) (k.trans kn) (.ref p)
end

/-! ### names, constants -/
def wVar (i : Nat) : W := fun ρ S Q => match ρ[i]? with
  | some (some d) => Q d S
  | _ => False
def wC (d : D) : W := fun _ S Q => Q d S
section
variable {X : Cx} {DI : Addr → GH → Prop}
theorem de_var {i : Nat} {e : Expr} (h : PE X e (tVar i)) : PE X e (lft X.K DI (wVar i)) := h.imp fun σ H Q q => by
  obtain ⟨F, ρ, S, R, rel, env, w, f⟩ := q
  unfold wVar at w
  cases e : ρ[i]? with
  | none => simp [e] at w
  | some o =>
    cases o with
    | none => simp [e] at w
    | some d =>
      simp [e] at w
      obtain ⟨v, e1, e2⟩ := env.at_ i d e
      exact ⟨v, e1, f.at0 w rel e2⟩
theorem de_c {e : Expr} {d : D} {v : V} (h : PE X e (tC v)) (den : ∀ H, Den X.K H d v) : PE X e (lft X.K DI (wC d)) := h.imp fun σ H Q q => by
  obtain ⟨F, ρ, S, R, rel, env, w, f⟩ := q
  exact f.at0 w rel (den H)

/-! ### two values -/
def wOp (op : W2) (a b : W) : W := fun ρ S Q => a ρ S fun x S1 => b ρ S1 fun y S2 => op x y S2 Q
def wUn (op : W1) (a : W) : W := fun ρ S Q => a ρ S fun x S1 => op x S1 Q
theorem tOp_of {wa wb : W} {op : W2} {σ : L2.St} {H : Hp} {Q : VK} (h : lft X.K DI (wOp op wa wb) σ H Q) : tOp (lft2 X.K DI op) (lft X.K DI wa) (lft X.K DI wb) σ H Q := by
  obtain ⟨F, ρ, S, R, rel, env, w, f⟩ := h
  refine ⟨F, ρ, S, _, rel, env, w, fun x S1 v H1 q1 rel1 k1 d1 => ?_⟩
  refine ⟨F, ρ, S1, _, rel1, env.mn k1, q1, fun y S2 u H2 q2 rel2 k2 d2 => ?_⟩
  exact ⟨F, x, y, S2, R, rel2, d1.mn k2, d2, q2, f.up (k1.trans k2)⟩
theorem de_op {op : Operator} {w2 : W2} {a b : Expr} {wa wb : W} {pos : Pos} (ho : OpR X (binaryOp op) (lft2 X.K DI w2)) (ha : PE X a (lft X.K DI wa)) (hb : PE X b (lft X.K DI wb)) : PE X (.BinOp a op b pos) (lft X.K DI (wOp w2 wa wb)) :=
  (pe_op ho ha hb).imp fun _ _ _ q => tOp_of q
theorem de_cmp {op : CmpOp} {w2 : W2} {a b : Expr} {wa wb : W} {pos : Pos} (ho : OpR X (compareOp op) (lft2 X.K DI w2)) (ha : PE X a (lft X.K DI wa)) (hb : PE X b (lft X.K DI wb)) (hm : behindInMarks op b = false) : PE X (.Compare a [op] [b] pos) (lft X.K DI (wOp w2 wa wb)) :=
  (pe_cmpR ho ha hb hm).imp fun _ _ _ q => tOp_of q
theorem de_ix {w2 : W2} {a b : Expr} {wa wb : W} {pos : Pos} (ho : IxR X (lft2 X.K DI w2)) (ha : PE X a (lft X.K DI wa)) (hb : PE X b (lft X.K DI wb)) (hs : PlainIx b) : PE X (.Subscript a b pos) (lft X.K DI (wOp w2 wa wb)) :=
  (pe_ix ho ha hb hs).imp fun _ _ _ q => tOp_of q
theorem de_un {op : UnaryOp} {w1 : W1} {a : Expr} {wa : W} {pos : Pos} (ho : UnR X (unaryOp op) (lft1 X.K DI w1)) (ha : PE X a (lft X.K DI wa)) : PE X (.UnaryOp op a pos) (lft X.K DI (wUn w1 wa)) :=
  (pe_un ho ha).imp fun σ H Q q => by
    obtain ⟨F, ρ, S, R, rel, env, w, f⟩ := q
    exact ⟨F, ρ, S, _, rel, env, w, fun x S1 v H1 q1 rel1 k1 d1 => ⟨F, x, S1, R, rel1, d1, q1, f.up k1⟩⟩

/-! ### the operators -/
def oAdd : W2 := fun x y S Q => match x, y with
  | .int i, .int j => Q (.int (i + j)) S
  | .str i, .str j => i.length + j.length ≤ sizeLine ∧ Q (.str (i ++ j)) S
  | .tup xs, .tup ys => xs.length + ys.length ≤ sizeLine ∧ Q (.tup (xs ++ ys)) S
  | x, y => match asL S x, asL S y with
    | some xs, some ys => xs.length + ys.length ≤ sizeLine ∧ Q (.lst (xs ++ ys)) S
    | _, _ => False
theorem op_catR : OpR X (binaryOp .Add) (fun x y H Q => ∃ l b xs zs, x = .ref l ∧ y = .ref b ∧ Rd H l (.lst xs) ∧ Rd H b (.lst zs) ∧ xs.length + zs.length ≤ sizeLine ∧ ∀ p, H p = none → Q (.ref p) (upd H p (.lst (xs ++ zs)))) := by
  intro pins s σ H x y v u Q I rx ry h
  obtain ⟨l, b, xs, zs, rfl, rfl, h1, h2, hz, q⟩ := h
  cases rx
  cases ry
  obtain ⟨_, its, n, r, e⟩ := h1.ok I.hok
  obtain ⟨_, its2, n2, r2, e2⟩ := h2.ok I.hok
  have l1 := r.length
  have l2 := r2.length
  refine PySem.P.add_list e e2 ?_ (by simp only [List.size_toArray]; omega)
  rw [show its.toArray ++ its2.toArray = (its ++ its2).toArray by simp]
  exact ⟨.ref s.heap.objs.size, _, I.lnew (t' := s.toks) (r.append r2) (by rw [List.length_append]; omega), rfl, q _ I.fresh⟩
theorem Den.tupV {K : PySem.W.Frag} {H : Hp} {ds : List D} {v : V} (h : Den K H (.tup ds) v) : ∃ a vs, v = .ref a ∧ SqT K H a vs ∧ DenL K H ds vs := by
  cases h with
  | tup h1 h2 => exact ⟨_, _, rfl, h1, h2⟩
theorem Den.intV {K : PySem.W.Frag} {H : Hp} {i : Int} {v : V} (h : Den K H (.int i) v) : v = .int i := by cases h; rfl
theorem Den.strV {K : PySem.W.Frag} {H : Hp} {i : Str} {v : V} (h : Den K H (.str i) v) : v = .str i := by cases h; rfl
theorem dop_add : OpR X (binaryOp .Add) (lft2 X.K DI oAdd) := by
  refine OpR.imp (op_add.or (op_add_str.or (op_catA.or (opLQ op_catR)))) fun v u H Q h => ?_
  obtain ⟨F, x, y, S, R, rel, d1, d2, w, f⟩ := h
  unfold oAdd at w
  split at w
  · cases d1
    cases d2
    exact .inl ⟨_, _, rfl, rfl, f.at0 w rel (.int _)⟩
  · cases d1
    cases d2
    exact .inr (.inl ⟨_, _, rfl, rfl, w.1, f.at0 w.2 rel (.str _)⟩)
  · obtain ⟨a, vs, rfl, t1, e1⟩ := d1.tupV
    obtain ⟨b, us, rfl, t2, e2⟩ := d2.tupV
    have l1 := e1.length
    have l2 := e2.length
    refine .inr (.inr (.inl ⟨a, b, vs, us, rfl, rfl, t1, t2, by omega, fun e => ?_, fun _ e => ?_, fun _ _ p hp => ?_⟩))
    · subst e
      cases e1
      exact f.at0 w.2 rel (.tup t2 e2)
    · subst e
      cases e2
      rw [List.append_nil] at w
      exact f.at0 w.2 rel (.tup t1 e1)
    · exact f.tup w.2 rel (.refl H) (e1.append e2) hp
  · split at w
    · rename_i xs ys q1 q2
      obtain ⟨a, vs, rfl, t1, e1⟩ := asL_ok rel d1 q1
      obtain ⟨b, us, rfl, t2, e2⟩ := asL_ok rel d2 q2
      have l1 := e1.length
      have l2 := e2.length
      exact .inr (.inr (.inr ⟨a, b, vs, us, rfl, rfl, t1, t2, by omega, fun p hp => f.lst w.2 rel (.refl H) (e1.append e2) hp⟩))
    · exact w.elim
def oInt (C : Int → Int → Prop) (g : Int → Int → D) : W2 := fun x y S Q => match x, y with
  | .int i, .int j => C i j ∧ Q (g i j) S
  | _, _ => False
theorem dop_int {fn : Value → Value → Sem Value} {C : Int → Int → Prop} {g : Int → Int → V} {g' : Int → Int → D} (h : OpR X fn (rI C g)) (hg : ∀ H i j, Den X.K H (g' i j) (g i j)) : OpR X fn (lft2 X.K DI (oInt C g')) := by
  refine h.imp fun v u H Q h => ?_
  obtain ⟨F, x, y, S, R, rel, d1, d2, w, f⟩ := h
  unfold oInt at w
  split at w
  · cases d1
    cases d2
    exact ⟨_, _, rfl, rfl, w.1, f.at0 w.2 rel (hg H _ _)⟩
  · exact w.elim
def oInt0 (g : Int → Int → D) : W2 := fun x y S Q => match x, y with
  | .int i, .int j => Q (g i j) S
  | _, _ => False
theorem dop_int0 {fn : Value → Value → Sem Value} {g : Int → Int → V} {g' : Int → Int → D} (h : OpR X fn (rI0 g)) (hg : ∀ H i j, Den X.K H (g' i j) (g i j)) : OpR X fn (lft2 X.K DI (oInt0 g')) := by
  refine h.imp fun v u H Q h => ?_
  obtain ⟨F, x, y, S, R, rel, d1, d2, w, f⟩ := h
  unfold oInt0 at w
  split at w
  · cases d1
    cases d2
    exact ⟨_, _, rfl, rfl, f.at0 w rel (hg H _ _)⟩
  · exact w.elim
def oSub : W2 := oInt0 fun i j => .int (i - j)
theorem dop_sub : OpR X (binaryOp .Sub) (lft2 X.K DI oSub) := dop_int0 op_sub fun _ _ _ => .int _
def oMod : W2 := oInt (fun _ j => 0 < j) fun i j => .int (i % j)
theorem dop_mod : OpR X (binaryOp .Mod) (lft2 X.K DI oMod) := dop_int op_mod fun _ _ _ => .int _
def oFdiv : W2 := oInt CDiv fun i j => .int (i / j)
theorem dop_fdiv : OpR X (binaryOp .FloorDiv) (lft2 X.K DI oFdiv) := dop_int op_fdiv fun _ _ _ => .int _
def oPow : W2 := oInt CPow fun i j => .int (i ^ j.toNat)
theorem dop_pow : OpR X (binaryOp .Pow) (lft2 X.K DI oPow) := dop_int op_pow fun _ _ _ => .int _
/-- a product of two ints: one of them small, or both below a bound -/
def CMulA (i j : Int) : Prop := CMul i j ∨ L2.CMulW i j
def isRef : D → Bool
  | .ref _ => true
  | _ => false
def oMul : W2 := fun x y S Q => match x, y with
  | .int i, .int j => CMulA i j ∧ Q (.int (i * j)) S
  | .tup xs, .int k => xs ≠ [] ∧ 2 ≤ k ∧ k ≤ 1000 ∧ xs.length ≤ 1000 ∧ Q (.tup (List.replicate k.toNat xs).flatten) S
  | x, .int k => match asL S x with
    | some xs => -(2 ^ 63) ≤ k ∧ k < 2 ^ 63 ∧ xs.length * k.toNat ≤ sizeLine ∧ isRef x = true ∧ Q (.lst (List.replicate k.toNat xs).flatten) S
    | none => False
  | _, _ => False
end
end Dv

/-! Dv3: comparisons, truth, tests, arguments, displays, built-in calls and methods, by data. -/
namespace Dv
open PySem PySem.Spec L2
open PyProof.Rows hiding St

section
variable {X : Cx} {DI : Addr → GH → Prop}

theorem dop_mul : OpR X (binaryOp .Mult) (lft2 X.K DI oMul) := by
  refine OpR.imp (op_mul.or (op_mulW.or (op_repT.or (opLQ op_rep)))) fun v u H Q h => ?_
  obtain ⟨F, x, y, S, R, rel, d1, d2, w, f⟩ := h
  unfold oMul at w
  split at w
  · cases d1
    cases d2
    rcases w.1 with c | c
    · exact .inl ⟨_, _, rfl, rfl, c, f.at0 w.2 rel (.int _)⟩
    · exact .inr (.inl ⟨_, _, rfl, rfl, c, f.at0 w.2 rel (.int _)⟩)
  · rename_i xs k
    obtain ⟨a, vs, rfl, t1, e1⟩ := d1.tupV
    cases d2
    obtain ⟨h0, h1, h2, h3, r⟩ := w
    have l1 := e1.length
    have hne : vs ≠ [] := fun e => h0 (List.eq_nil_of_length_eq_zero (by rw [l1, e]; rfl))
    have rep : ∀ n : Nat, DenL X.K H (List.replicate n xs).flatten (List.replicate n vs).flatten := by
      intro n
      induction n with
      | zero => exact .nil
      | succ n ih =>
        rw [List.replicate_succ, List.flatten_cons, List.replicate_succ, List.flatten_cons]
        exact e1.append ih
    exact .inr (.inr (.inl ⟨a, k, vs, rfl, rfl, t1, hne, h1, h2, by omega, fun p hp => f.tup r rel (.refl H) (rep _) hp⟩))
  · rename_i k _ _
    split at w
    · rename_i xs q1
      cases d2
      -- a list of one's own, not locked
      cases d1 with
      | ref a =>
        unfold asL at q1
        cases q : S.g a with
        | none => simp [q] at q1
        | some m =>
          cases m with
          | dct _ => simp [q] at q1
          | fct _ => simp [q] at q1
          | lst es =>
            simp [q] at q1
            subst q1
            obtain ⟨vs, e1, e2⟩ := rel.rep a _ q
            obtain ⟨h1, h2, h3, _, r⟩ := w
            have l1 := e2.length
            have rep : ∀ n : Nat, DenL X.K H (List.replicate n es).flatten (List.replicate n vs).flatten := by
              intro n
              induction n with
              | zero => exact .nil
              | succ n ih =>
                rw [List.replicate_succ, List.flatten_cons, List.replicate_succ, List.flatten_cons]
                exact e2.append ih
            exact .inr (.inr (.inr ⟨a, k, vs, rfl, rfl, e1, h1, h2, by rw [← l1]; exact h3, fun p hp => f.lst r rel (.refl H) (rep _) hp⟩))
      | lst h1 h2 => exact absurd w.2.2.2.1 (by simp [isRef])
      | _ => cases q1
    · exact w.elim
  · exact w.elim

/-! ### comparisons -/
def oOrd (gi : Int → Int → Bool) (gs : Str → Str → Bool) : W2 := fun x y S Q => match x, y with
  | .int i, .int j => Q (.bl (gi i j)) S
  | .str i, .str j => Q (.bl (gs i j)) S
  | _, _ => False
theorem dop_ord {fn : Value → Value → Sem Value} {gi : Int → Int → Bool} {gs : Str → Str → Bool} (h1 : OpR X fn (rI0 fun i j => .bl (gi i j)))
    (h2 : OpR X fn (fun x y H Q => ∃ i j, x = .str i ∧ y = .str j ∧ Q (.bl (gs i j)) H)) : OpR X fn (lft2 X.K DI (oOrd gi gs)) := by
  refine OpR.imp (h1.or h2) fun v u H Q h => ?_
  obtain ⟨F, x, y, S, R, rel, d1, d2, w, f⟩ := h
  unfold oOrd at w
  split at w
  · cases d1
    cases d2
    exact .inl ⟨_, _, rfl, rfl, f.at0 w rel (.bl _)⟩
  · cases d1
    cases d2
    exact .inr ⟨_, _, rfl, rfl, f.at0 w rel (.bl _)⟩
  · exact w.elim
def ltS (i j : Str) : Bool := decide (i.cps.toList < j.cps.toList)
def oLt : W2 := oOrd (fun i j => decide (i < j)) fun i j => ltS i j
def oLe : W2 := oOrd (fun i j => decide (i ≤ j)) fun i j => !ltS j i
def oGt : W2 := oOrd (fun i j => decide (j < i)) fun i j => ltS j i
def oGe : W2 := oOrd (fun i j => decide (j ≤ i)) fun i j => !ltS i j
theorem dop_lt : OpR X (compareOp .Lt) (lft2 X.K DI oLt) := dop_ord op_lt op_lt_str
theorem dop_le : OpR X (compareOp .LtE) (lft2 X.K DI oLe) := dop_ord op_le op_le_str
theorem dop_gt : OpR X (compareOp .Gt) (lft2 X.K DI oGt) := dop_ord op_gt op_gt_str
theorem dop_ge : OpR X (compareOp .GtE) (lft2 X.K DI oGe) := dop_ord op_ge op_ge_str

def oEq : W2 := fun x y S Q => match x, y with
  | .int i, .int j => Q (.bl (decide (i = j))) S
  | .str i, .str j => Q (.bl (decide (i = j))) S
  | x, y => cmp? (snap S x) = true ∧ cmp? (snap S y) = true ∧ Q (.bl (eqb (snap S x) (snap S y))) S
def oNe : W2 := fun x y S Q => match x, y with
  | .int i, .int j => Q (.bl (!decide (i = j))) S
  | .str i, .str j => Q (.bl (!decide (i = j))) S
  | x, y => cmp? (snap S x) = true ∧ cmp? (snap S y) = true ∧ Q (.bl (!eqb (snap S x) (snap S y))) S
theorem cmp_parts {d : D} (h : cmp? d = true) : pure? d = true ∧ nod? d = true := by
  unfold cmp? at h
  simp only [Bool.and_eq_true, decide_eq_true_eq] at h
  exact ⟨h.1, h.2.1⟩
theorem dop_eq (hu : X.A.units + 64 < cLine) : OpR X (compareOp .Eq) (lft2 X.K DI oEq) := by
  refine OpR.imp (op_eq.or (op_eqD hu)) fun v u H Q h => ?_
  obtain ⟨F, x, y, S, R, rel, d1, d2, w, f⟩ := h
  unfold oEq at w
  split at w
  · rename_i i j
    cases d1
    cases d2
    refine .inl ⟨rfl, ?_⟩
    rw [show decide (V.int i = V.int j) = decide (i = j) by simp]
    exact f.at0 w rel (.bl _)
  · rename_i i j
    cases d1
    cases d2
    refine .inl ⟨rfl, ?_⟩
    rw [show decide (V.str i = V.str j) = decide (i = j) by simp]
    exact f.at0 w rel (.bl _)
  · obtain ⟨c1, c2, w⟩ := w
    exact .inr ⟨_, _, snap_dp rel d1 (cmp_parts c1).1 (cmp_parts c1).2, snap_dp rel d2 (cmp_parts c2).1 (cmp_parts c2).2, cmp_shaped c1, cmp_shaped c2, f.at0 w rel (.bl _)⟩
theorem dop_ne (hu : X.A.units + 64 < cLine) : OpR X (compareOp .NotEq) (lft2 X.K DI oNe) := by
  refine OpR.imp (op_ne.or (op_neD hu)) fun v u H Q h => ?_
  obtain ⟨F, x, y, S, R, rel, d1, d2, w, f⟩ := h
  unfold oNe at w
  split at w
  · rename_i i j
    cases d1
    cases d2
    refine .inl ⟨rfl, ?_⟩
    rw [show decide (V.int i = V.int j) = decide (i = j) by simp]
    exact f.at0 w rel (.bl _)
  · rename_i i j
    cases d1
    cases d2
    refine .inl ⟨rfl, ?_⟩
    rw [show decide (V.str i = V.str j) = decide (i = j) by simp]
    exact f.at0 w rel (.bl _)
  · obtain ⟨c1, c2, w⟩ := w
    exact .inr ⟨_, _, snap_dp rel d1 (cmp_parts c1).1 (cmp_parts c1).2, snap_dp rel d2 (cmp_parts c2).1 (cmp_parts c2).2, cmp_shaped c1, cmp_shaped c2, f.at0 w rel (.bl _)⟩

/-- is: beside None, or two bools -/
def isNon : D → Bool
  | .non => true
  | _ => false
def oIs : W2 := fun x y S Q => match x, y with
  | x, .non => Q (.bl (isNon x)) S
  | .bl a, .bl b => Q (.bl (decide (a = b))) S
  | _, _ => False
def oIsNot : W2 := fun x y S Q => match x, y with
  | x, .non => Q (.bl (!isNon x)) S
  | .bl a, .bl b => Q (.bl (!decide (a = b))) S
  | _, _ => False
theorem Den.isNon {K : PySem.W.Frag} {H : Hp} {d : D} {v : V} (h : Den K H d v) : decide (v = V.non) = isNon d := by
  cases h <;> simp [Dv.isNon]
theorem dop_is : OpR X (compareOp .Is) (lft2 X.K DI oIs) := by
  refine OpR.imp (op_isN.or op_isBl) fun v u H Q h => ?_
  obtain ⟨F, x, y, S, R, rel, d1, d2, w, f⟩ := h
  unfold oIs at w
  split at w
  · cases d2
    refine .inl ⟨rfl, ?_⟩
    rw [d1.isNon]
    exact f.at0 w rel (.bl _)
  · cases d1
    cases d2
    exact .inr ⟨_, _, rfl, rfl, f.at0 w rel (.bl _)⟩
  · exact w.elim
theorem dop_isNot : OpR X (compareOp .IsNot) (lft2 X.K DI oIsNot) := by
  refine OpR.imp (op_notN.or op_notBl) fun v u H Q h => ?_
  obtain ⟨F, x, y, S, R, rel, d1, d2, w, f⟩ := h
  unfold oIsNot at w
  split at w
  · cases d2
    refine .inl ⟨rfl, ?_⟩
    rw [d1.isNon]
    exact f.at0 w rel (.bl _)
  · cases d1
    cases d2
    exact .inr ⟨_, _, rfl, rfl, f.at0 w rel (.bl _)⟩
  · exact w.elim

/-- in: a text in a text, a key in a dict, a value in a list or tuple -/
def inStr (x y : Str) : Bool := match x.cps.toList with
  | [c] => decide (c ∈ y.cps.toList)
  | _ => !(Builtin.Str.occurrences y x 0 y.length 1).isEmpty
def oInG (fl : Bool → Bool) : W2 := fun x y S Q => match x, y with
  | .str i, .str j => Q (.bl (fl (inStr i j))) S
  | x, y => match asQ S y with
    | some ds => cmp? (snap S x) = true ∧ pureL ds = true ∧ nodL ds = true ∧ Q (.bl (fl (ds.any fun z => eqb z (snap S x)))) S
    | none => match asK S y, keyOf x with
      | some kvs, some k => Q (.bl (fl (has k kvs))) S
      | _, _ => False
def oIn : W2 := oInG id
def oNotIn : W2 := oInG (!·)
def rInG (K : PySem.W.Frag) (fl : Bool → Bool) : R2 := fun x y H Q => ∃ d ds, Dp K H x d ∧ (Dp K H y (.list ds) ∨ Dp K H y (.tuple ds)) ∧ SeqAt.shaped d = true ∧ PyData.canLayAll0 ds = true ∧ Q (.bl (fl (ds.any fun z => PyData.eqv z d))) H
theorem op_inT (hu : X.A.units + 65 < cLine) : OpR X (compareOp .In) (rInG X.K id) := by
  intro pins s σ H x y v u Q I rx ry h
  obtain ⟨d, ds, hd, he, sd, se, q⟩ := h
  obtain ⟨as, r1⟩ := Dp.reads I d x v hd rx
  rcases he with he | he
  · obtain ⟨bs, r2⟩ := Dp.reads I (.list ds) y u he ry
    exact SeqAt.in_list_reads r2 r1 se (SeqAt.canLay_of_shaped sd) (PyProof.Rows.room_in_shaped sd hu) ⟨.bl _, H, I, rfl, q⟩
  · obtain ⟨bs, r2⟩ := Dp.reads I (.tuple ds) y u he ry
    exact SeqAt.in_tuple_reads r2 r1 se (SeqAt.canLay_of_shaped sd) (PyProof.Rows.room_in_shaped sd hu) ⟨.bl _, H, I, rfl, q⟩
theorem op_notInT (hu : X.A.units + 65 < cLine) : OpR X (compareOp .NotIn) (rInG X.K (!·)) := by
  intro pins s σ H x y v u Q I rx ry h
  obtain ⟨d, ds, hd, he, sd, se, q⟩ := h
  obtain ⟨as, r1⟩ := Dp.reads I d x v hd rx
  rcases he with he | he
  · obtain ⟨bs, r2⟩ := Dp.reads I (.list ds) y u he ry
    exact SeqAt.notIn_list_reads r2 r1 se (SeqAt.canLay_of_shaped sd) (PyProof.Rows.room_in_shaped sd hu) ⟨.bl _, H, I, rfl, q⟩
  · obtain ⟨bs, r2⟩ := Dp.reads I (.tuple ds) y u he ry
    exact SeqAt.notIn_tuple_reads r2 r1 se (SeqAt.canLay_of_shaped sd) (PyProof.Rows.room_in_shaped sd hu) ⟨.bl _, H, I, rfl, q⟩
def rInK (fl : Bool → Bool) : R2 := fun y x H Q => ∃ a o, x = .ref a ∧ DGet H a y o ∧ Q (.bl (fl o.isSome)) H
theorem op_inK (hu : X.A.units + 1 < cLine) : OpR X (compareOp .In) (rInK id) := by
  intro pins s σ H x y v u Q I rx ry h
  obtain ⟨a, o, rfl, g, q⟩ := h
  cases ry
  exact d_in hu I g rx fun s' I' => ⟨.bl _, H, I', rfl, q⟩
theorem op_notInK (hu : X.A.units + 1 < cLine) : OpR X (compareOp .NotIn) (rInK (!·)) := by
  intro pins s σ H x y v u Q I rx ry h
  obtain ⟨a, o, rfl, g, q⟩ := h
  cases ry
  exact d_notIn hu I g rx fun s' I' => ⟨.bl _, H, I', rfl, q⟩
theorem DenL.seq {K : PySem.W.Frag} {F H : Hp} {S : GS} {d : D} {v : V} {ds : List D} (rel : Rel K DI F S H) (h : Den K H d v) (e : asQ S d = some ds) (p : pureL ds = true) (q : nodL ds = true) : Dp K H v (.list (datL ds)) ∨ Dp K H v (.tuple (datL ds)) := by
  obtain ⟨a, vs, rfl, t, den⟩ := asQ_ok rel h e
  rcases t with t | t
  · exact .inl (.lst t (DenL.dp _ _ p q den))
  · exact .inr (.tup t (DenL.dp _ _ p q den))
theorem datL_any (x : D) : ∀ ds : List D, ((datL ds).any fun z => PyData.eqv z (dat x)) = ds.any fun z => eqb z x
  | [] => by simp [datL]
  | d :: ds => by simp [datL, datL_any x ds, eqb]
theorem Den.get {K : PySem.W.Frag} {F H : Hp} {S : GS} {d y : D} {v u : V} {kvs : List (Key × D)} {k : Key} (rel : Rel K DI F S H) (h : Den K H d v) (hy : Den K H y u) (e : asK S d = some kvs) (ek : keyOf y = some k) :
    ∃ a o, v = .ref a ∧ DGet H a u o ∧ o.isSome = has k kvs ∧ ∀ x, look k kvs = some x → ∃ z, o = some z ∧ Den K H x z := by
  obtain ⟨a, vs, rfl, t, den⟩ := asK_ok rel h e
  refine ⟨a, valV vs k, rfl, .inl ⟨vs, k, t, keyOf_ok hy ek, rfl⟩, den.has.symm, fun x hx => ?_⟩
  obtain ⟨z, e1, e2⟩ := den.look.1 x hx
  exact ⟨z, e1, e2⟩
theorem dop_inG {fn : Value → Value → Sem Value} {fl : Bool → Bool} (h1 : OpR X fn (fun x y H Q => ∃ (c : Nat) (z : Str), x = .str ⟨#[c]⟩ ∧ y = .str z ∧ Q (.bl (fl (decide (c ∈ z.cps.toList)))) H))
    (h2 : OpR X fn (fun x y H Q => ∃ i j, x = .str i ∧ y = .str j ∧ Q (.bl (fl (!(Builtin.Str.occurrences j i 0 j.length 1).isEmpty))) H)) (h3 : OpR X fn (rInG X.K fl)) (h4 : OpR X fn (rInK fl)) : OpR X fn (lft2 X.K DI (oInG fl)) := by
  refine OpR.imp (h1.or (h2.or (h3.or h4))) fun v u H Q h => ?_
  obtain ⟨F, x, y, S, R, rel, d1, d2, w, f⟩ := h
  unfold oInG at w
  split at w
  · rename_i i j
    cases d1
    cases d2
    unfold inStr at w
    split at w
    · rename_i c e
      refine .inl ⟨c, j, ?_, rfl, f.at0 w rel (.bl _)⟩
      have e2 : i = ⟨#[c]⟩ := Str.ext' (Array.toList_inj.mp e)
      rw [e2]
    · exact .inr (.inl ⟨i, j, rfl, rfl, f.at0 w rel (.bl _)⟩)
  · split at w
    · rename_i ds e
      obtain ⟨c1, c2, c3, w⟩ := w
      refine .inr (.inr (.inl ⟨_, datL ds, snap_dp rel d1 (cmp_parts c1).1 (cmp_parts c1).2, DenL.seq rel d2 e c2 c3, cmp_shaped c1, lay_datL ds c3, ?_⟩))
      rw [datL_any]
      exact f.at0 w rel (.bl _)
    · split at w
      · rename_i kvs k ek e
        obtain ⟨a, o, rfl, g, es, _⟩ := Den.get rel d2 d1 ek e
        refine .inr (.inr (.inr ⟨a, o, rfl, g, ?_⟩))
        rw [es]
        exact f.at0 w rel (.bl _)
      · exact w.elim
theorem dop_in (hu : X.A.units + 65 < cLine) : OpR X (compareOp .In) (lft2 X.K DI oIn) := dop_inG op_in_sign op_in_str (op_inT hu) (op_inK (by omega))
theorem dop_notIn (hu : X.A.units + 65 < cLine) : OpR X (compareOp .NotIn) (lft2 X.K DI oNotIn) := dop_inG op_notIn_sign op_notin_str (op_notInT hu) (op_notInK (by omega))

/-! ### a[i] -/
def oIx : W2 := fun x y S Q => match x, y with
  | .str z, .int i => z.length ≤ sizeLine ∧ match atI z.cps.toList i with
    | some c => Q (.str ⟨#[c]⟩) S
    | none => False
  | x, y => match asQ S x, y with
    | some ds, .int i => match atI ds i with
      | some d => Q d S
      | none => False
    | _, y => match asK S x, keyOf y with
      | some kvs, some k => match look k kvs with
        | some d => Q d S
        | none => False
      | _, _ => False
theorem DenL.atI {K : PySem.W.Frag} {H : Hp} {ds : List D} {vs : List V} {i : Int} {d : D} (h : DenL K H ds vs) (e : L2.atI ds i = some d) : ∃ v, L2.atI vs i = some v ∧ Den K H d v := by
  unfold L2.atI at e ⊢
  rw [← h.length]
  cases q : ixN ds.length i with
  | none => rw [q] at e; cases e
  | some j =>
    rw [q] at e
    obtain ⟨v, e1, e2⟩ := h.get (i := j) (d := d) e
    exact ⟨v, e1, e2⟩
theorem ix_dictK (hu : X.A.units + 1 < cLine) : IxR X (fun x y H Q => ∃ a v, x = .ref a ∧ DGet H a y (some v) ∧ Q v H) := by
  intro value slice pins s σ H x y v u Q I rx ry h hs
  obtain ⟨a, z, rfl, g, q⟩ := h
  cases rx
  exact tail_any (dict_typeIs I g) PySem.F.slot_dict_getitem.lookup (d_getItem hu I g ry fun w' s' I' r' => ⟨z, H, I', r', q⟩) hs
theorem dix (hu : X.A.units + 1 < cLine) : IxR X (lft2 X.K DI oIx) := by
  refine IxR.imp (ix_list.or (ix_tup.or (ix_str.or (ix_dictK hu)))) fun v u H Q h => ?_
  obtain ⟨F, x, y, S, R, rel, d1, d2, w, f⟩ := h
  unfold oIx at w
  split at w
  · rename_i z i
    cases d1
    cases d2
    obtain ⟨hz, w⟩ := w
    split at w
    · rename_i c e
      exact .inr (.inr (.inl ⟨z, i, c, rfl, rfl, hz, e, f.at0 w rel (.str _)⟩))
    · exact w.elim
  · split at w
    · rename_i ds i e1 _
      split at w
      · rename_i d e
        obtain ⟨a, vs, rfl, t, den⟩ := asQ_ok rel d1 e1
        cases d2
        obtain ⟨z, e2, e3⟩ := den.atI e
        rcases t with t | t
        · exact .inl ⟨a, vs, i, z, rfl, rfl, t, e2, f.at0 w rel e3⟩
        · exact .inr (.inl ⟨a, vs, i, z, rfl, rfl, t, e2, f.at0 w rel e3⟩)
      · exact w.elim
    · split at w
      · rename_i kvs k ek e
        split at w
        · rename_i d el
          obtain ⟨a, o, rfl, g, _, hl⟩ := Den.get rel d1 d2 ek e
          obtain ⟨z, rfl, dz⟩ := hl d el
          exact .inr (.inr (.inr ⟨a, z, rfl, g, f.at0 w rel dz⟩))
        · exact w.elim
      · exact w.elim

/-! ### slices -/
def cutD (xs : List D) (lo hi : Option Int) : List D := (xs.drop (HT.sIx xs.length 0 lo)).take (HT.sIx xs.length xs.length hi - HT.sIx xs.length 0 lo)
abbrev WO := Env → GS → (Option Int → GS → Prop) → Prop
def wNoPart : WO := fun _ S Q => Q none S
def wPart (w : W) : WO := fun ρ S Q => w ρ S fun d S' => match d with
  | .int i => Q (some i) S'
  | _ => False
def wSlice (a : W) (l h : WO) : W := fun ρ S Q => a ρ S fun x S1 => l ρ S1 fun lo S2 => h ρ S2 fun hi S3 => match x with
  | .str z => z.length ≤ sizeLine ∧ Q (.str (cutS z lo hi)) S3
  | .tup ds => Q (.tup (cutD ds lo hi)) S3
  | x => match asL S3 x with
    | some ds => Q (.lst (cutD ds lo hi)) S3
    | none => False
def lftO (K : PySem.W.Frag) (DI : Addr → GH → Prop) (w : WO) : TO := fun σ H Q => ∃ F ρ S R, Rel K DI F S H ∧ EnvR K H ρ σ ∧ w ρ S R ∧ ∀ o S' H', R o S' → Rel K DI F S' H' → Kp H H' → Q o H'
theorem do_none : PO X none (lftO X.K DI wNoPart) := ⟨fun pins s σ H Q I h => by
  obtain ⟨F, ρ, S, R, rel, env, w, f⟩ := h
  exact po_none.run pins s σ H Q I (f _ _ _ w rel (.refl H))⟩
theorem do_some {e : Expr} {w : W} (h : PE X e (lft X.K DI w)) : PO X (some e) (lftO X.K DI (wPart w)) := ⟨fun pins s σ H Q I q => by
  obtain ⟨F, ρ, S, R, rel, env, w, f⟩ := q
  refine (po_some h).run pins s σ H Q I ⟨F, ρ, S, _, rel, env, w, fun d S' v H' q rel' k den => ?_⟩
  cases d with
  | int i =>
    cases den
    exact ⟨i, rfl, f _ _ _ q rel' k⟩
  | _ => exact q.elim⟩
theorem sl_listR : SlR X (fun x lo hi H Q => ∃ a xs, x = .ref a ∧ Rd H a (.lst xs) ∧ ∀ p, H p = none → Q (.ref p) (upd H p (.lst (cutV xs lo hi)))) := by
  intro pins s σ H x v vl vu lo hi sl Q I rx hs pl pu h
  obtain ⟨a, xs, e, t, q⟩ := h
  exact sl_list pins s σ H x v vl vu lo hi sl Q I rx hs pl pu ⟨a, xs, e, .inl t, q⟩
theorem slLQ {r : V → Option Int → Option Int → Hp → VK → Prop} (h : SlR X r) : SlR X (fun x lo hi H Q => r x lo hi H (LQ Q)) := fun pins s σ H x v vl vu lo hi sl Q I rx hs pl pu z => by
  obtain ⟨T, id, h1, h2, h3⟩ := h pins s σ H x v vl vu lo hi sl (LQ Q) I rx hs pl pu z
  exact ⟨T, id, h1, h2, thn h3 fun _ _ q => LQ.ep q⟩
theorem DenL.cut {K : PySem.W.Frag} {H : Hp} {ds : List D} {vs : List V} (h : DenL K H ds vs) (lo hi : Option Int) : DenL K H (cutD ds lo hi) (cutV vs lo hi) := by
  unfold cutD cutV
  rw [h.length]
  exact (h.drop _).take _
theorem de_slice {e : Expr} {lo hi : Option Expr} {wa : W} {wl wh : WO} {p2 pos : Pos} (he : PE X e (lft X.K DI wa)) (hl : PO X lo (lftO X.K DI wl)) (hh : PO X hi (lftO X.K DI wh)) : PE X (.Subscript e (.Slice lo hi none p2) pos) (lft X.K DI (wSlice wa wl wh)) := by
  refine (pe_slice (sl_str.or (sl_tupA.or (slLQ sl_listR))) he hl hh).imp fun σ H Q h => ?_
  obtain ⟨F, ρ, S, R, rel, env, w, f⟩ := h
  refine ⟨F, ρ, S, _, rel, env, w, fun x S1 v H1 q1 rel1 k1 d1 => ?_⟩
  refine ⟨F, ρ, S1, _, rel1, env.mn k1, q1, fun lo S2 H2 q2 rel2 k2 => ?_⟩
  refine ⟨F, ρ, S2, _, rel2, env.mn (k1.trans k2), q2, fun hi S3 H3 q3 rel3 k3 => ?_⟩
  have kk := k1.trans (k2.trans k3)
  have dx : Den X.K H3 x v := d1.mn (k2.trans k3)
  clear d1
  split at q3
  · cases dx
    exact .inl ⟨_, rfl, q3.1, f _ _ _ _ q3.2 rel3 kk (.str _)⟩
  · obtain ⟨a, vs, rfl, t, den⟩ := dx.tupV
    refine .inr (.inl ⟨a, vs, rfl, t, fun e => ?_, fun _ p hp => (f.up kk).tup q3 rel3 (.refl _) (den.cut lo hi) hp⟩)
    have e2 : cutV vs lo hi = vs := by
      unfold cutV
      rw [e.1, e.2]
      simp
    have q4 := den.cut lo hi
    rw [e2] at q4
    exact f _ _ _ _ q3 rel3 kk (.tup t q4)
  · split at q3
    · rename_i ds e
      obtain ⟨a, vs, rfl, t, den⟩ := asL_ok rel3 dx e
      exact .inr (.inr ⟨a, vs, rfl, t, fun p hp => (f.up kk).lst q3 rel3 (.refl _) (den.cut lo hi) hp⟩)
    · exact q3.elim

/-! ### truth and tests -/
def truD (S : GS) : D → Option Bool
  | .non => some false
  | .bl b => some b
  | .int i => some (i != 0)
  | .str x => if x.length ≤ sizeLine then some ((x.length : Int) != 0) else none
  | .tup ds => some (!ds.isEmpty)
  | .lst ds => some (!ds.isEmpty)
  | .ref p => match S.g p with
    | some (.lst ds) => some (!ds.isEmpty)
    | some (.dct ds) => some (!ds.isEmpty)
    | _ => none
  | _ => none
def wTru (w : W) : WT := fun ρ S Q => w ρ S fun d S' => match truD S' d with
  | some b => Q b S'
  | none => False
/-- a value that is a bool -/
def wB (w : W) : WT := fun ρ S Q => w ρ S fun d S' => match d with
  | .bl b => Q b S'
  | _ => False
theorem DenL.isEmpty {K : PySem.W.Frag} {H : Hp} {ds : List D} {vs : List V} (h : DenL K H ds vs) : ds.isEmpty = vs.isEmpty := by cases h <;> rfl
theorem DenK.isEmpty {K : PySem.W.Frag} {H : Hp} {ds : List (Key × D)} {vs : List (Key × V)} (h : DenK K H ds vs) : ds.isEmpty = vs.isEmpty := by cases h <;> rfl
theorem truD_ok {K : PySem.W.Frag} {F H : Hp} {S : GS} {d : D} {v : V} {b : Bool} (rel : Rel K DI F S H) (h : Den K H d v) (e : truD S d = some b) : TruV K v H b := by
  cases h with
  | non => cases e; rfl
  | bl b => cases e; rfl
  | int i => cases e; rfl
  | str x =>
    simp only [truD] at e
    split at e
    · cases e
      exact ⟨by assumption, rfl⟩
    · cases e
  | tup h1 h2 =>
    cases e
    rw [h2.isEmpty]
    exact .inr (.inl ⟨_, h1, rfl⟩)
  | lst h1 h2 =>
    cases e
    rw [h2.isEmpty]
    exact .inl ⟨_, .inl (.inr ⟨_, h1⟩), rfl⟩
  | ref p =>
    simp only [truD] at e
    split at e <;> rename_i q
    · cases e
      obtain ⟨vs, e1, e2⟩ := rel.rep _ _ q
      rw [e2.isEmpty]
      exact .inl ⟨_, .inl (.inl e1), rfl⟩
    · cases e
      obtain ⟨vs, e1, e2⟩ := rel.rep _ _ q
      rw [e2.isEmpty]
      exact .inr (.inr ⟨_, e1, rfl⟩)
    · cases e
  | _ => cases e
theorem dt_tru {e : Expr} {w : W} (h : PE X e (lft X.K DI w)) (he : ∀ whole, isTrue e X.env whole = (do let v ← whole; standAt e.pos; holding [v] (truthy v))) : PT X e (lftT X.K DI (wTru w)) := (pt_truth h he).imp fun σ H Q q => by
  obtain ⟨F, ρ, S, R, rel, env, w, f⟩ := q
  refine ⟨F, ρ, S, _, rel, env, w, fun d S' v H' q rel' k den => ?_⟩
  split at q
  · rename_i b e
    exact ⟨b, truD_ok rel' den e, f _ _ _ q rel' k⟩
  · exact q.elim
theorem wB_of {w : W} {σ : L2.St} {H : Hp} {Q : Bool → Hp → Prop} (h : lftT X.K DI (wB w) σ H Q) : lft X.K DI w σ H fun x H' => ∃ c, x = .bl c ∧ Q c H' := by
  obtain ⟨F, ρ, S, R, rel, env, w, f⟩ := h
  refine ⟨F, ρ, S, _, rel, env, w, fun d S' v H' q rel' k den => ?_⟩
  cases d with
  | bl b =>
    cases den
    exact ⟨b, rfl, f _ _ _ q rel' k⟩
  | _ => exact q.elim
theorem dt_cmp {op : CmpOp} {w2 : W2} {a b : Expr} {wa wb : W} {pos : Pos} (ho : OpR X (compareOp op) (lft2 X.K DI w2)) (ha : PE X a (lft X.K DI wa)) (hb : PE X b (lft X.K DI wb)) (hm : behindInMarks op b = false) : PT X (.Compare a [op] [b] pos) (lftT X.K DI (wB (wOp w2 wa wb))) :=
  (pt_cmpR ho ha hb hm).imp fun σ H Q q => tOp_of (wB_of q)
def wChain (o1 o2 : W2) (a b c : W) : W := fun ρ S Q => a ρ S fun x S1 => b ρ S1 fun y S2 => o1 x y S2 fun z S3 => match z with
  | .bl true => c ρ S3 fun u S4 => o2 y u S4 Q
  | .bl false => Q (.bl false) S3
  | _ => False
theorem chain_of {o1 o2 : W2} {wa wb wc : W} {σ : L2.St} {H : Hp} {Q : VK} (h : lft X.K DI (wChain o1 o2 wa wb wc) σ H Q) : tChain (lft2 X.K DI o1) (lft2 X.K DI o2) (lft X.K DI wa) (lft X.K DI wb) (lft X.K DI wc) σ H Q := by
  obtain ⟨F, ρ, S, R, rel, env, w, f⟩ := h
  refine ⟨F, ρ, S, _, rel, env, w, fun x S1 v H1 q1 rel1 k1 d1 => ?_⟩
  refine ⟨F, ρ, S1, _, rel1, env.mn k1, q1, fun y S2 u H2 q2 rel2 k2 d2 => ?_⟩
  refine ⟨F, x, y, S2, _, rel2, d1.mn k2, d2, q2, fun z S3 v3 H3 q3 rel3 k3 d3 => ?_⟩
  have k13 := k1.trans (k2.trans k3)
  cases z with
  | bl b =>
    cases d3
    cases b with
    | true =>
      refine ⟨true, rfl, ?_⟩
      rw [if_pos rfl]
      refine ⟨F, ρ, S3, _, rel3, env.mn k13, q3, fun u4 S4 v4 H4 q4 rel4 k4 d4 => ?_⟩
      exact ⟨F, y, u4, S4, R, rel4, d2.mn (k3.trans k4), d4, q4, f.up (k13.trans k4)⟩
    | false =>
      refine ⟨false, rfl, ?_⟩
      rw [if_neg (by decide)]
      exact f _ _ _ _ q3 rel3 k13 (.bl false)
  | _ => exact q3.elim
def wAnd (a b : WT) : WT := fun ρ S Q => a ρ S fun c S1 => if c = true then b ρ S1 Q else Q false S1
def wOr (a b : WT) : WT := fun ρ S Q => a ρ S fun c S1 => if c = true then Q true S1 else b ρ S1 Q
def wNot (a : WT) : WT := fun ρ S Q => a ρ S fun c S1 => Q (!c) S1
theorem and_of {wa wb : WT} {σ : L2.St} {H : Hp} {Q : Bool → Hp → Prop} (h : lftT X.K DI (wAnd wa wb) σ H Q) : tAnd (lftT X.K DI wa) (lftT X.K DI wb) σ H Q := by
  obtain ⟨F, ρ, S, R, rel, env, w, f⟩ := h
  refine ⟨F, ρ, S, _, rel, env, w, fun c S1 H1 q1 rel1 k1 => ?_⟩
  cases c with
  | true =>
    rw [if_pos rfl] at q1 ⊢
    exact ⟨F, ρ, S1, _, rel1, env.mn k1, q1, f.up k1⟩
  | false =>
    rw [if_neg (by decide)] at q1 ⊢
    exact f _ _ _ q1 rel1 k1
theorem or_of {wa wb : WT} {σ : L2.St} {H : Hp} {Q : Bool → Hp → Prop} (h : lftT X.K DI (wOr wa wb) σ H Q) : tOr (lftT X.K DI wa) (lftT X.K DI wb) σ H Q := by
  obtain ⟨F, ρ, S, R, rel, env, w, f⟩ := h
  refine ⟨F, ρ, S, _, rel, env, w, fun c S1 H1 q1 rel1 k1 => ?_⟩
  cases c with
  | true =>
    rw [if_pos rfl] at q1 ⊢
    exact f _ _ _ q1 rel1 k1
  | false =>
    rw [if_neg (by decide)] at q1 ⊢
    exact ⟨F, ρ, S1, _, rel1, env.mn k1, q1, f.up k1⟩
theorem not_of {wa : WT} {σ : L2.St} {H : Hp} {Q : Bool → Hp → Prop} (h : lftT X.K DI (wNot wa) σ H Q) : tNot (lftT X.K DI wa) σ H Q := by
  obtain ⟨F, ρ, S, R, rel, env, w, f⟩ := h
  exact ⟨F, ρ, S, _, rel, env, w, fun c S1 H1 q1 rel1 k1 => f _ _ _ q1 rel1 k1⟩
/-- .. as values -/
def wAndV (a b : W) : W := fun ρ S Q => a ρ S fun x S1 => match x with
  | .bl true => b ρ S1 Q
  | .bl false => Q (.bl false) S1
  | _ => False
def wOrV (a b : W) : W := fun ρ S Q => a ρ S fun x S1 => match x with
  | .bl false => b ρ S1 Q
  | .bl true => Q (.bl true) S1
  | _ => False
def wNotV (a : WT) : W := fun ρ S Q => a ρ S fun c S1 => Q (.bl (!c)) S1
theorem andV_of {wa wb : W} {σ : L2.St} {H : Hp} {Q : VK} (h : lft X.K DI (wAndV wa wb) σ H Q) : tAndV (lft X.K DI wa) (lft X.K DI wb) σ H Q := by
  obtain ⟨F, ρ, S, R, rel, env, w, f⟩ := h
  refine ⟨F, ρ, S, _, rel, env, w, fun x S1 v H1 q1 rel1 k1 d1 => ?_⟩
  cases x with
  | bl c =>
    cases d1
    refine ⟨c, rfl, ?_⟩
    cases c with
    | true =>
      rw [if_pos rfl]
      exact ⟨F, ρ, S1, _, rel1, env.mn k1, q1, f.up k1⟩
    | false =>
      rw [if_neg (by decide)]
      exact f _ _ _ _ q1 rel1 k1 (.bl false)
  | _ => exact q1.elim
theorem orV_of {wa wb : W} {σ : L2.St} {H : Hp} {Q : VK} (h : lft X.K DI (wOrV wa wb) σ H Q) : tOrV (lft X.K DI wa) (lft X.K DI wb) σ H Q := by
  obtain ⟨F, ρ, S, R, rel, env, w, f⟩ := h
  refine ⟨F, ρ, S, _, rel, env, w, fun x S1 v H1 q1 rel1 k1 d1 => ?_⟩
  cases x with
  | bl c =>
    cases d1
    refine ⟨c, rfl, ?_⟩
    cases c with
    | true =>
      rw [if_pos rfl]
      exact f _ _ _ _ q1 rel1 k1 (.bl true)
    | false =>
      rw [if_neg (by decide)]
      exact ⟨F, ρ, S1, _, rel1, env.mn k1, q1, f.up k1⟩
  | _ => exact q1.elim
def wIf (c : WT) (a b : W) : W := fun ρ S Q => c ρ S fun t S1 => if t = true then a ρ S1 Q else b ρ S1 Q
theorem if_of {wc : WT} {wa wb : W} {σ : L2.St} {H : Hp} {Q : VK} (h : lft X.K DI (wIf wc wa wb) σ H Q) : tIf (lftT X.K DI wc) (lft X.K DI wa) (lft X.K DI wb) σ H Q := by
  obtain ⟨F, ρ, S, R, rel, env, w, f⟩ := h
  refine ⟨F, ρ, S, _, rel, env, w, fun c S1 H1 q1 rel1 k1 => ?_⟩
  cases c with
  | true =>
    rw [if_pos rfl] at q1 ⊢
    exact ⟨F, ρ, S1, _, rel1, env.mn k1, q1, f.up k1⟩
  | false =>
    rw [if_neg (by decide)] at q1 ⊢
    exact ⟨F, ρ, S1, _, rel1, env.mn k1, q1, f.up k1⟩

/-! ### arguments, displays -/
def wNil : WA := fun _ S Q => Q [] S
def wCons (a : W) (r : WA) : WA := fun ρ S Q => a ρ S fun x S1 => r ρ S1 fun xs S2 => Q (x :: xs) S2
theorem da_nil : PA X [] (lftA X.K DI wNil) := pa_nil.imp fun σ H Q q => by
  obtain ⟨F, ρ, S, R, rel, env, w, f⟩ := q
  exact f _ _ _ _ w rel (.refl H) .nil
theorem da_cons {e : Expr} {es : List Expr} {a : W} {r : WA} (ha : PE X e (lft X.K DI a)) (hr : PA X es (lftA X.K DI r)) (hs : starEach (e :: es) X.env = (false, eval e X.env) :: starEach es X.env) : PA X (e :: es) (lftA X.K DI (wCons a r)) :=
  (pa_cons ha hr hs).imp fun σ H Q q => by
    obtain ⟨F, ρ, S, R, rel, env, w, f⟩ := q
    refine ⟨F, ρ, S, _, rel, env, w, fun x S1 v H1 q1 rel1 k1 d1 => ?_⟩
    refine ⟨F, ρ, S1, _, rel1, env.mn k1, q1, fun xs S2 vs H2 q2 rel2 k2 d2 => ?_⟩
    exact f _ _ _ _ q2 rel2 (k1.trans k2) (.cons (d1.mn k2) d2)
def wTup (a : WA) : W := fun ρ S Q => a ρ S fun xs S1 => xs.length ≤ sizeLine ∧ Q (.tup xs) S1
def wLst (a : WA) : W := fun ρ S Q => a ρ S fun xs S1 => xs.length ≤ sizeLine ∧ Q (.lst xs) S1
def wLstN (a : WA) : W := fun ρ S Q => a ρ S fun xs S1 => xs.length ≤ sizeLine ∧ ∀ p, S1.g p = none → Q (.ref p) (S1.set p (.lst xs))
theorem de_tup {es : List Expr} {x1 : Nat} {pos : Pos} {a : WA} (h : PA X es (lftA X.K DI a)) : PE X (.Tuple es x1 pos) (lft X.K DI (wTup a)) := (pe_tup h).imp fun σ H Q q => by
  obtain ⟨F, ρ, S, R, rel, env, w, f⟩ := q
  refine ⟨F, ρ, S, _, rel, env, w, fun xs S1 vs H1 q1 rel1 k1 d1 => ⟨by rw [← d1.length]; exact q1.1, fun p hp => (f.up k1).tup q1.2 rel1 (.refl _) d1 hp⟩⟩
theorem de_lst {es : List Expr} {pos : Pos} {a : WA} (h : PA X es (lftA X.K DI a)) : PE X (.List es pos) (lft X.K DI (wLst a)) := (peLQ (pe_lst h)).imp fun σ H Q q => by
  obtain ⟨F, ρ, S, R, rel, env, w, f⟩ := q
  refine ⟨F, ρ, S, _, rel, env, w, fun xs S1 vs H1 q1 rel1 k1 d1 => ⟨by rw [← d1.length]; exact q1.1, fun p hp => (f.up k1).lst q1.2 rel1 (.refl _) d1 hp⟩⟩
theorem de_lstN {es : List Expr} {pos : Pos} {a : WA} (h : PA X es (lftA X.K DI a)) : PE X (.List es pos) (lft X.K DI (wLstN a)) := (pe_lst h).imp fun σ H Q q => by
  obtain ⟨F, ρ, S, R, rel, env, w, f⟩ := q
  refine ⟨F, ρ, S, _, rel, env, w, fun xs S1 vs H1 q1 rel1 k1 d1 => ⟨by rw [← d1.length]; exact q1.1, fun p hp => (f.up k1).newL (q1.2 p (rel1.free hp)) rel1 (.refl _) d1 hp⟩⟩
end
end Dv

/-! Dv4: statements, targets, loops, comprehensions, by data. -/
namespace Dv
open PySem PySem.Spec L2
open PyProof.Rows hiding St

structure WEnds where
  nx : Env → GS → Prop
  rt : D → GS → Prop
  bk : Env → GS → Prop := fun _ _ => False
  ct : Env → GS → Prop := fun _ _ => False
abbrev WS := WEnds → Env → GS → Prop
section
variable (K : PySem.W.Frag) (DI : Addr → GH → Prop)
structure FinS (F H : Hp) (R : WEnds) (E : Ends) : Prop where
  nx : ∀ ρ S σ H', R.nx ρ S → Rel K DI F S H' → Kp H H' → EnvR K H' ρ σ → E.nx σ H'
  rt : ∀ d S v H', R.rt d S → Rel K DI F S H' → Kp H H' → Den K H' d v → E.rt v H'
  bk : ∀ ρ S σ H', R.bk ρ S → Rel K DI F S H' → Kp H H' → EnvR K H' ρ σ → E.bk σ H'
  ct : ∀ ρ S σ H', R.ct ρ S → Rel K DI F S H' → Kp H H' → EnvR K H' ρ σ → E.ct σ H'
def lftS (w : WS) : TS := fun E σ H => ∃ F ρ S R, Rel K DI F S H ∧ EnvR K H ρ σ ∧ w R ρ S ∧ FinS K DI F H R E
/-- a target: what it stores -/
abbrev WG := D → Env → GS → (Env → GS → Prop) → Prop
abbrev WGs := List D → Env → GS → (Env → GS → Prop) → Prop
def lftG (w : WG) : TG := fun v σ H Q => ∃ F d ρ S R, Rel K DI F S H ∧ EnvR K H ρ σ ∧ Den K H d v ∧ w d ρ S R ∧ ∀ ρ' S' σ' H', R ρ' S' → Rel K DI F S' H' → Kp H H' → EnvR K H' ρ' σ' → Q σ' H'
def lftGs (w : WGs) : TGs := fun vs σ H Q => ∃ F ds ρ S R, Rel K DI F S H ∧ EnvR K H ρ σ ∧ DenL K H ds vs ∧ w ds ρ S R ∧ ∀ ρ' S' σ' H', R ρ' S' → Rel K DI F S' H' → Kp H H' → EnvR K H' ρ' σ' → Q σ' H'
end
end Dv
namespace L2
theorem PG.imp {X : Cx} {e : PySem.Expr} {t u : TG} (h : PG X e t) (i : ∀ v σ H Q, u v σ H Q → t v σ H Q) : PG X e u := ⟨fun pins s σ H v w Q I r q => h.run pins s σ H v w Q I r (i _ _ _ _ q)⟩
theorem PGs.imp {X : Cx} {e : List PySem.Expr} {t u : TGs} (h : PGs X e t) (i : ∀ v σ H Q, u v σ H Q → t v σ H Q) : PGs X e u := ⟨fun pins s σ H v w Q I r q => h.run pins s σ H v w Q I r (i _ _ _ _ q)⟩
theorem PI.imp {X : Cx} {tg e : PySem.Expr} {t u : TI} (h : PI X tg e t) (i : ∀ σ H Q, u σ H Q → t σ H Q) : PI X tg e u := ⟨fun pins s σ H Q I q => h.run pins s σ H Q I (i _ _ _ q)⟩
end L2
namespace Dv
open PySem PySem.Spec L2
open PyProof.Rows hiding St
section
variable {K : PySem.W.Frag} {DI : Addr → GH → Prop} {F H H' : Hp}
theorem FinS.up {R : WEnds} {E : Ends} (f : FinS K DI F H R E) (k : Kp H H') : FinS K DI F H' R E :=
  ⟨fun ρ S σ H2 r rel kp env => f.nx ρ S σ H2 r rel (k.trans kp) env, fun d S v H2 r rel kp env => f.rt d S v H2 r rel (k.trans kp) env,
   fun ρ S σ H2 r rel kp env => f.bk ρ S σ H2 r rel (k.trans kp) env, fun ρ S σ H2 r rel kp env => f.ct ρ S σ H2 r rel (k.trans kp) env⟩
end
section
variable {X : Cx} {DI : Addr → GH → Prop}

/-! ### blocks -/
def wSkip : WS := fun R ρ S => R.nx ρ S
def wSeq (a b : WS) : WS := fun R ρ S => a { R with nx := b R } ρ S
theorem dss_nil : PSs X [] (lftS X.K DI wSkip) := pss_nil.imp fun E σ H q => by
  obtain ⟨F, ρ, S, R, rel, env, w, f⟩ := q
  exact f.nx _ _ _ _ w rel (.refl H) env
theorem dss_cons {st : Stmt} {sts : List Stmt} {a b : WS} (ha : PS X st (lftS X.K DI a)) (hb : PSs X sts (lftS X.K DI b)) : PSs X (st :: sts) (lftS X.K DI (wSeq a b)) :=
  (pss_cons ha hb).imp fun E σ H q => by
    obtain ⟨F, ρ, S, R, rel, env, w, f⟩ := q
    refine ⟨F, ρ, S, _, rel, env, w, ⟨fun ρ' S' σ' H' r rel' k env' => ⟨F, ρ', S', R, rel', env', r, f.up k⟩, f.rt, f.bk, f.ct⟩⟩
def wBrk : WS := fun R ρ S => R.bk ρ S
def wCnt : WS := fun R ρ S => R.ct ρ S
def wNever : WS := fun _ _ _ => False
theorem ds_pass {pos : Pos} : PS X (.Pass pos) (lftS X.K DI wSkip) := ps_pass.imp fun E σ H q => by
  obtain ⟨F, ρ, S, R, rel, env, w, f⟩ := q
  exact f.nx _ _ _ _ w rel (.refl H) env
theorem ds_brk {pos : Pos} : PS X (.Break pos) (lftS X.K DI wBrk) := ps_break.imp fun E σ H q => by
  obtain ⟨F, ρ, S, R, rel, env, w, f⟩ := q
  exact f.bk _ _ _ _ w rel (.refl H) env
theorem ds_cnt {pos : Pos} : PS X (.Continue pos) (lftS X.K DI wCnt) := ps_continue.imp fun E σ H q => by
  obtain ⟨F, ρ, S, R, rel, env, w, f⟩ := q
  exact f.ct _ _ _ _ w rel (.refl H) env
theorem ds_never {st : Stmt} : PS X st (lftS X.K DI wNever) := ps_never.imp fun E σ H q => by
  obtain ⟨F, ρ, S, R, rel, env, w, f⟩ := q
  exact w
def wExpr (a : W) : WS := fun R ρ S => a ρ S fun _ S1 => R.nx ρ S1
theorem ds_expr {e : Expr} {a : W} {pos : Pos} (h : PE X e (lft X.K DI a)) (hs : swapsWith e none pos.line X.env = pure false) : PS X (.Expr e pos) (lftS X.K DI (wExpr a)) :=
  (ps_expr h hs).imp fun E σ H q => by
    obtain ⟨F, ρ, S, R, rel, env, w, f⟩ := q
    exact ⟨F, ρ, S, _, rel, env, w, fun d S1 v H1 r rel1 k den => f.nx _ _ _ _ r rel1 k (env.mn k)⟩
/-- what is given back: as it is, or with things that are known by address alone from now on told by what they hold -/
def wRet (a : W) : WS := fun R ρ S => a ρ S R.rt
theorem ds_ret {e : Expr} {a : W} {pos : Pos} (h : PE X e (lft X.K DI a)) : PS X (.Return (some e) pos) (lftS X.K DI (wRet a)) :=
  (ps_ret h).imp fun E σ H q => by
    obtain ⟨F, ρ, S, R, rel, env, w, f⟩ := q
    exact ⟨F, ρ, S, _, rel, env, w, fun d S1 v H1 r rel1 k den => f.rt _ _ _ _ r rel1 k den⟩
def wRetN : WS := fun R _ S => R.rt .non S
theorem ds_retN {pos : Pos} : PS X (.Return none pos) (lftS X.K DI wRetN) := ps_retN.imp fun E σ H q => by
  obtain ⟨F, ρ, S, R, rel, env, w, f⟩ := q
  exact f.rt _ _ _ _ w rel (.refl H) .non
def wIfS (c : WT) (a b : WS) : WS := fun R ρ S => c ρ S fun t S1 => if t = true then a R ρ S1 else b R ρ S1
theorem ds_if {c : Expr} {a b : List Stmt} {wc : WT} {wa wb : WS} {pos : Pos} (hc : PT X c (lftT X.K DI wc)) (ha : PSs X a (lftS X.K DI wa)) (hb : PSs X b (lftS X.K DI wb)) : PS X (.If c a b pos) (lftS X.K DI (wIfS wc wa wb)) :=
  (ps_if hc ha hb).imp fun E σ H q => by
    obtain ⟨F, ρ, S, R, rel, env, w, f⟩ := q
    refine ⟨F, ρ, S, _, rel, env, w, fun t S1 H1 r rel1 k => ?_⟩
    cases t with
    | true =>
      rw [if_pos rfl] at r ⊢
      exact ⟨F, ρ, S1, R, rel1, env.mn k, r, f.up k⟩
    | false =>
      rw [if_neg (by decide)] at r ⊢
      exact ⟨F, ρ, S1, R, rel1, env.mn k, r, f.up k⟩

/-! ### targets -/
def gN (i : Nat) : WG := fun d ρ S Q => Q (ρ.set i (some d)) S
theorem dg_name {i : Nat} {x : Str} {pos : Pos} (hN : X.N.Nodup) (hi : X.N[i]? = some x) (hx : Loc X.env.scope x) (hf : X.fn x = true ∨ X.env.scope.names.lookup x = some .local) : PG X (.Name x pos) (lftG X.K DI (gN i)) :=
  (pg_name hN hi hx hf).imp fun v σ H Q q => by
    obtain ⟨F, d, ρ, S, R, rel, env, den, w, f⟩ := q
    exact f _ _ _ _ w rel (.refl H) (env.set den)
def gsNil : WGs := fun ds ρ S Q => ds = [] ∧ Q ρ S
def gsCons (g : WG) (r : WGs) : WGs := fun ds ρ S Q => match ds with
  | [] => False
  | d :: ds => g d ρ S fun ρ' S' => r ds ρ' S' Q
theorem dgs_nil : PGs X [] (lftGs X.K DI gsNil) := pgs_nil.imp fun v σ H Q q => by
  obtain ⟨F, d, ρ, S, R, rel, env, den, w, f⟩ := q
  obtain ⟨rfl, w⟩ := w
  cases den
  exact ⟨rfl, f _ _ _ _ w rel (.refl H) env⟩
theorem dgs_cons {e : Expr} {es : List Expr} {g : WG} {r : WGs} (h1 : PG X e (lftG X.K DI g)) (h2 : PGs X es (lftGs X.K DI r)) (hs : (assignEach (e :: es) X.env).map (·.2) = assign e X.env :: (assignEach es X.env).map (·.2)) : PGs X (e :: es) (lftGs X.K DI (gsCons g r)) :=
  (pgs_cons h1 h2 hs).imp fun v σ H Q q => by
    obtain ⟨F, ds, ρ, S, R, rel, env, den, w, f⟩ := q
    cases den with
    | nil => exact w.elim
    | cons d1 d2 =>
      refine ⟨_, _, rfl, F, _, ρ, S, _, rel, env, d1, w, fun ρ' S' σ' H' r rel' k env' => ?_⟩
      exact ⟨F, _, ρ', S', R, rel', env', d2.mn k, r, fun ρ2 S2 σ2 H2 r2 rel2 k2 env2 => f _ _ _ _ r2 rel2 (k.trans k2) env2⟩
/-- (a, b, ..) = a tuple, or a list of that length -/
def gT (n : Nat) (r : WGs) : WG := fun d ρ S Q => match d with
  | .tup ds => ds.length = n ∧ r ds ρ S Q
  | _ => False
theorem dg_tup {es : List Expr} {k n : Nat} {r : WGs} {pos : Pos} (hc : X.calm = true) (h : PGs X es (lftGs X.K DI r)) (hn : (assignEach es X.env).length = n) (hst : (assignEach es X.env).findIdx? (·.1) = none) : PG X (.Tuple es k pos) (lftG X.K DI (gT n r)) :=
  (pg_tup hc h hn hst).imp fun v σ H Q q => by
    obtain ⟨F, d, ρ, S, R, rel, env, den, w, f⟩ := q
    unfold gT at w
    split at w
    · obtain ⟨a, vs, rfl, t, dl⟩ := den.tupV
      exact ⟨a, vs, rfl, t, by rw [← dl.length]; exact w.1, F, _, ρ, S, R, rel, env, dl, w.2, f⟩
    · exact w.elim
/-- o[i] = v -/
abbrev W3 := D → D → D → GS → (GS → Prop) → Prop
def lft3 (K : PySem.W.Frag) (DI : Addr → GH → Prop) (w : W3) : TSet := fun o i v H Q => ∃ F a b d S R, Rel K DI F S H ∧ Den K H a o ∧ Den K H b i ∧ Den K H d v ∧ w a b d S R ∧ ∀ S' H', R S' → Rel K DI F S' H' → Kp H H' → Q H'
def oSet : W3 := fun o i v S Q => match o with
  | .ref p => match S.g p with
    | some (.lst ds) => match i with
      | .int k => match ixN ds.length k with
        | some j => Q (S.set p (.lst (ds.set j v)))
        | none => False
      | _ => False
    | some (.dct kvs) => match keyOf i with
      | some k => kvs.length < sizeLine ∧ Q (S.set p (.dct (put k v kvs)))
      | none => False
    | _ => False
  | _ => False
theorem set_dictK (hu : X.A.units + 1 < cLine) : PSet X (fun o i v H Q => ∃ a H', o = .ref a ∧ DPut H a i v H' ∧ Q H') := by
  intro pins s σ H o i v ov iv u Q I ro ri rv h
  obtain ⟨a, H', rfl, g, q⟩ := h
  cases ro
  exact d_setItem hu I g ri rv fun s' I' => ⟨H', I', q⟩
theorem psetOr {r r' : TSet} (h : PSet X r) (h' : PSet X r') : PSet X (fun o i v H Q => r o i v H Q ∨ r' o i v H Q) := by
  intro pins s σ H o i v ov iv u Q I ro ri rv q
  rcases q with q | q
  · exact h pins s σ H o i v ov iv u Q I ro ri rv q
  · exact h' pins s σ H o i v ov iv u Q I ro ri rv q
theorem psetImp {r r' : TSet} (h : PSet X r) (i : ∀ a b c H Q, r' a b c H Q → r a b c H Q) : PSet X r' := fun pins s σ H o j v ov iv u Q I ro ri rv q => h pins s σ H o j v ov iv u Q I ro ri rv (i _ _ _ _ _ q)
theorem dset (hu : X.A.units + 1 < cLine) : PSet X (lft3 X.K DI oSet) := by
  refine psetImp (psetOr set_list (set_dictK hu)) fun o i v H Q h => ?_
  obtain ⟨F, a, b, d, S, R, rel, da, db, dd, w, f⟩ := h
  unfold oSet at w
  split at w
  · cases da
    rename_i p
    split at w
    · rename_i ds e
      split at w
      · rename_i k
        split at w
        · rename_i j ej
          cases db
          obtain ⟨vs, e1, e2⟩ := rel.rep _ _ e
          have kk : Kp H (upd H p (.lst (vs.set j v))) := .lst e1
          exact .inl ⟨p, vs, k, j, rfl, rfl, e1, by rw [← e2.length]; exact ej, f _ _ w (rel.set kk (.inr ⟨_, e⟩) ⟨_, upd_same, (DenL.set dd j e2).mn kk⟩) kk⟩
        · exact w.elim
      · exact w.elim
    · rename_i kvs e
      split at w
      · rename_i k ek
        obtain ⟨vs, e1, e2⟩ := rel.rep _ _ e
        have kk : Kp H (upd H p (.dK (putK vs k v))) := .dct e1
        refine .inr ⟨p, _, rfl, .inl ⟨vs, k, e1, keyOf_ok db ek, by rw [← e2.length]; exact w.1, rfl⟩, f _ _ w.2 (rel.set kk (.inr ⟨_, e⟩) ⟨_, upd_same, (e2.put dd).mn kk⟩) kk⟩
      · exact w.elim
    · exact w.elim
  · exact w.elim
def gS (a b : W) : WG := fun d ρ S Q => a ρ S fun o S1 => b ρ S1 fun i S2 => oSet o i d S2 fun S3 => Q ρ S3
theorem dg_sub {o i : Expr} {a b : W} {pos : Pos} (hu : X.A.units + 1 < cLine) (ho : PE X o (lft X.K DI a)) (hi : PE X i (lft X.K DI b))
    (ha : ∀ v, assign (.Subscript o i pos) X.env v = (do
      let ov ← holding [v] (eval o X.env)
      let iv ← holding [v, ov] (eval i X.env)
      standAt pos
      holding [v, ov, iv] (setItem ov iv v)
      release [v, ov, iv] [])) : PG X (.Subscript o i pos) (lftG X.K DI (gS a b)) :=
  (pg_sub ho hi (dset (DI := DI) hu) ha).imp fun v σ H Q q => by
    obtain ⟨F, d, ρ, S, R, rel, env, den, w, f⟩ := q
    refine ⟨F, ρ, S, _, rel, env, w, fun x S1 v1 H1 q1 rel1 k1 d1 => ?_⟩
    refine ⟨F, ρ, S1, _, rel1, env.mn k1, q1, fun y S2 v2 H2 q2 rel2 k2 d2 => ?_⟩
    refine ⟨F, x, y, d, S2, _, rel2, d1.mn k2, d2, den.mn (k1.trans k2), q2, fun S3 H3 q3 rel3 k3 => ?_⟩
    exact f _ _ _ _ q3 rel3 (k1.trans (k2.trans k3)) (env.mn (k1.trans (k2.trans k3)))
def wAsg (a : W) (g : WG) : WS := fun R ρ S => a ρ S fun d S1 => g d ρ S1 R.nx
theorem asg_of {a : W} {g : WG} {E : Ends} {σ : L2.St} {H : Hp} (q : lftS X.K DI (wAsg a g) E σ H) : tAsg (lft X.K DI a) (lftG X.K DI g) E σ H := by
  obtain ⟨F, ρ, S, R, rel, env, w, f⟩ := q
  refine ⟨F, ρ, S, _, rel, env, w, fun d S1 v H1 q1 rel1 k1 d1 => ?_⟩
  exact ⟨F, d, ρ, S1, _, rel1, env.mn k1, d1, q1, fun ρ' S' σ' H' r rel' k env' => f.nx _ _ _ _ r rel' (k1.trans k) env'⟩
theorem ds_asg {tg e : Expr} {a : W} {g : WG} {pos : Pos} (he : PE X e (lft X.K DI a)) (hg : PG X tg (lftG X.K DI g)) (hs : swapsWithSole [tg] e pos.line X.env = pure false) (hw : swappedStores [tg] e X.env = pure none)
    (h1 : (assignEach [tg] X.env).map (·.2) = [assign tg X.env]) : PS X (.Assign [tg] e pos) (lftS X.K DI (wAsg a g)) := (ps_asg he hg hs hw h1).imp fun E σ H q => asg_of q
theorem ds_set {i : Nat} {x : Str} {e : Expr} {a : W} {pos pos' : Pos} (hN : X.N.Nodup) (hi : X.N[i]? = some x) (hx : Loc X.env.scope x) (he : PE X e (lft X.K DI a)) (hs : swapsWith e (some (.Name x pos')) pos.line X.env = pure false) (hf : X.fn x = true ∨ X.env.scope.names.lookup x = some .local) :
    PS X (.Assign [.Name x pos'] e pos) (lftS X.K DI (wAsg a (gN i))) :=
  (ps_set hN hi hx he hs hf).imp fun E σ H q => by
    obtain ⟨F, ρ, S, R, rel, env, w, f⟩ := q
    exact ⟨F, ρ, S, _, rel, env, w, fun d S1 v H1 q1 rel1 k1 d1 => f.nx _ _ _ _ q1 rel1 k1 ((env.mn k1).set d1)⟩
/-- a, b = x, y -/
def wPar (i j : Nat) (a : WA) : WS := fun R ρ S => a ρ S fun ds S1 => match ds with
  | [x, y] => R.nx ((ρ.set i (some x)).set j (some y)) S1
  | _ => False
theorem ds_par {i j : Nat} {x y : Str} {a b : Expr} {wa : WA} {px py pt pos : Pos} {kt k2 : Nat} {pt2 : Pos} (hc : X.calm = true) (hN : X.N.Nodup) (hi : X.N[i]? = some x) (hj : X.N[j]? = some y) (hij : i ≠ j)
    (hx : X.env.scope.names.lookup x = some .local) (hy : X.env.scope.names.lookup y = some .local) (ha : PA X [a, b] (lftA X.K DI wa))
    (hw : swappedStores [.Tuple [.Name x px, .Name y py] kt pt] (.Tuple [a, b] k2 pt2) X.env = pure (some [x, y]))
    (hs : swapsWithSole [.Tuple [.Name x px, .Name y py] kt pt] (.Tuple [a, b] k2 pt2) pos.line X.env = pure false) :
    PS X (.Assign [.Tuple [.Name x px, .Name y py] kt pt] (.Tuple [a, b] k2 pt2) pos) (lftS X.K DI (wPar i j wa)) :=
  (ps_par hc hN hi hj hij hx hy ha hw hs).imp fun E σ H q => by
    obtain ⟨F, ρ, S, R, rel, env, w, f⟩ := q
    refine ⟨F, ρ, S, _, rel, env, w, fun ds S1 vs H1 q1 rel1 k1 d1 => ?_⟩
    split at q1
    · cases d1 with
      | cons e1 r1 =>
        cases r1 with
        | cons e2 r2 =>
          cases r2
          exact ⟨_, _, rfl, f.nx _ _ _ _ q1 rel1 k1 (((env.mn k1).set e1).set e2)⟩
    · exact q1.elim
def wPar3 (i j l : Nat) (a : WA) : WS := fun R ρ S => a ρ S fun ds S1 => match ds with
  | [x, y, z] => R.nx (((ρ.set i (some x)).set j (some y)).set l (some z)) S1
  | _ => False
theorem ds_par3 {i j l : Nat} {x y z : Str} {a b c : Expr} {wa : WA} {px py pz pt pos : Pos} {kt k2 : Nat} {pt2 : Pos} (hc : X.calm = true) (hN : X.N.Nodup) (hi : X.N[i]? = some x) (hj : X.N[j]? = some y) (hl : X.N[l]? = some z) (hij : i ≠ j) (hil : i ≠ l) (hjl : j ≠ l)
    (hx : X.env.scope.names.lookup x = some .local) (hy : X.env.scope.names.lookup y = some .local) (hz : X.env.scope.names.lookup z = some .local) (ha : PA X [a, b, c] (lftA X.K DI wa))
    (hw : swappedStores [.Tuple [.Name x px, .Name y py, .Name z pz] kt pt] (.Tuple [a, b, c] k2 pt2) X.env = pure (some [x, y, z]))
    (hs : swapsWithSole [.Tuple [.Name x px, .Name y py, .Name z pz] kt pt] (.Tuple [a, b, c] k2 pt2) pos.line X.env = pure false) :
    PS X (.Assign [.Tuple [.Name x px, .Name y py, .Name z pz] kt pt] (.Tuple [a, b, c] k2 pt2) pos) (lftS X.K DI (wPar3 i j l wa)) :=
  (ps_par3 hc hN hi hj hl hij hil hjl hx hy hz ha hw hs).imp fun E σ H q => by
    obtain ⟨F, ρ, S, R, rel, env, w, f⟩ := q
    refine ⟨F, ρ, S, _, rel, env, w, fun ds S1 vs H1 q1 rel1 k1 d1 => ?_⟩
    split at q1
    · cases d1 with
      | cons e1 r1 =>
        cases r1 with
        | cons e2 r2 =>
          cases r2 with
          | cons e3 r3 =>
            cases r3
            exact ⟨_, _, _, rfl, f.nx _ _ _ _ q1 rel1 k1 ((((env.mn k1).set e1).set e2).set e3)⟩
    · exact q1.elim

/-! ### while -/
def wWhile (c : WT) (b : WS) : WS := fun R ρ S => ∃ P : Nat → Env → GS → Prop, (∃ m, P m ρ S) ∧ ∀ m ρ S, P m ρ S → c ρ S fun t S1 =>
  if t = true then b { R with nx := fun ρ' S' => ∃ m', m' < m ∧ P m' ρ' S', ct := fun ρ' S' => ∃ m', m' < m ∧ P m' ρ' S', bk := R.nx } ρ S1 else R.nx ρ S1
theorem ds_while {c : Expr} {body : List Stmt} {wc : WT} {wb : WS} {pos : Pos} (hp : PassesOwn (model X.prog X.w) X.A X.env X.xe) (hc : PT X c (lftT X.K DI wc)) (hb : PSs X body (lftS X.K DI wb)) : PS X (.While c body [] pos) (lftS X.K DI (wWhile wc wb)) :=
  (ps_while hp hc hb).imp fun E σ H q => by
    obtain ⟨F, ρ, S, R, rel, env, ⟨P, ⟨m0, p0⟩, step⟩, f⟩ := q
    refine ⟨fun m σ' H' => ∃ ρ' S', Rel X.K DI F S' H' ∧ EnvR X.K H' ρ' σ' ∧ Kp H H' ∧ P m ρ' S', ⟨m0, ρ, S, rel, env, .refl H, p0⟩, fun m σ1 H1 h => ?_⟩
    obtain ⟨ρ1, S1, rel1, env1, k1, p1⟩ := h
    refine ⟨F, ρ1, S1, _, rel1, env1, step m ρ1 S1 p1, fun t S2 H2 r rel2 k2 => ?_⟩
    have k12 := k1.trans k2
    cases t with
    | true =>
      rw [if_pos rfl] at r
      refine ⟨fun σ' H' => ∃ m', m' < m ∧ ∃ ρ' S', Rel X.K DI F S' H' ∧ EnvR X.K H' ρ' σ' ∧ Kp H H' ∧ P m' ρ' S', fun σ' H' h => h, ?_⟩
      refine ⟨F, ρ1, S2, _, rel2, env1.mn k2, r, ⟨fun ρ' S' σ' H' ⟨m', hm, p'⟩ rel' k' env' => ⟨m', hm, ρ', S', rel', env', k12.trans k', p'⟩, fun d S' v H' r' rel' k' den => f.rt _ _ _ _ r' rel' (k12.trans k') den,
        fun ρ' S' σ' H' r' rel' k' env' => f.nx _ _ _ _ r' rel' (k12.trans k') env', fun ρ' S' σ' H' ⟨m', hm, p'⟩ rel' k' env' => ⟨m', hm, ρ', S', rel', env', k12.trans k', p'⟩⟩⟩
    | false =>
      rw [if_neg (by decide)] at r
      exact f.nx _ _ _ _ r rel2 k12 (env1.mn k2)
end
end Dv

/-! Dv5: what is walked, for, list comprehensions, by data. -/
namespace Dv
open PySem PySem.Spec L2
open PyProof.Rows hiding St

/-- lists by address that a walk wants as they stand -/
abbrev Gd := List (Addr × List D)
def gdOk : Gd → GS → Prop
  | [], _ => True
  | (p, ds) :: r, S => S.g p = some (.lst ds) ∧ gdOk r S
abbrev WI := Env → GS → (List D → Gd → GS → Prop) → Prop
structure ItOk (K : PySem.W.Frag) (DI : Addr → GH → Prop) (H1 : Hp) (J : It) (ds : List D) (gd : Gd) : Prop where
  go : ∀ F i H S d, ds[i]? = some d → Rel K DI F S H → Kp H1 H → gdOk gd S → J.go i H
  yld : ∀ F i H S d x H', ds[i]? = some d → Rel K DI F S H → Kp H1 H → gdOk gd S → J.yld i H x H' → Rel K DI F S H' ∧ Kp H H' ∧ Den K H' d x
  stop : ∀ F i H S, ds.length ≤ i → Rel K DI F S H → Kp H1 H → gdOk gd S → J.stop i H
def lftI (K : PySem.W.Frag) (DI : Addr → GH → Prop) (w : WI) : TI := fun σ H R => ∃ F ρ S R', Rel K DI F S H ∧ EnvR K H ρ σ ∧ w ρ S R' ∧
  ∀ ds gd S' H1 J, R' ds gd S' → Rel K DI F S' H1 → Kp H H1 → ItOk K DI H1 J ds gd → R J H1
def kD : Key → D
  | .inl i => .int i
  | .inr x => .str x
theorem kD_den {K : PySem.W.Frag} {H : Hp} (k : Key) : Den K H (kD k) (kV k) := by
  cases k
  · exact .int _
  · exact .str _

section
variable {K : PySem.W.Frag} {DI : Addr → GH → Prop} {F H : Hp}
theorem DenL.none_of {ds : List D} {vs : List V} {i : Nat} (h : DenL K H ds vs) (e : ds.length ≤ i) : vs.length ≤ i := by rw [← h.length]; exact e
/-- a tuple -/
theorem it_tup {a : Addr} {vs : List V} {ds : List D} (t : SqT K H a vs) (d : DenL K H ds vs) : ItOk K DI H (Itt K a) ds [] where
  go := fun F i H' S x e rel k g => by
    obtain ⟨v, e1, e2⟩ := d.get e
    exact ⟨vs, v, k.sqT t, e1⟩
  yld := fun F i H' S x v H2 e rel k g y => by
    obtain ⟨rfl, y⟩ := y
    obtain ⟨v', e1, e2⟩ := d.get e
    have q := y vs (k.sqT t)
    rw [e1] at q
    cases q
    exact ⟨rel, .refl _, e2.mn k⟩
  stop := fun F i H' S e rel k g => ⟨vs, k.sqT t, d.none_of e⟩
/-- a list that is locked -/
theorem it_frz {a : Addr} {o : Obj} {vs : List V} {ds : List D} (t : H a = some (.frz o (.lst vs))) (d : DenL K H ds vs) : ItOk K DI H (Itl K a) ds [] where
  go := fun F i H' S x e rel k g => by
    obtain ⟨v, e1, e2⟩ := d.get e
    exact ⟨vs, v, .inl (.inr ⟨o, k.f _ _ _ t⟩), e1⟩
  yld := fun F i H' S x v H2 e rel k g y => by
    obtain ⟨rfl, y⟩ := y
    obtain ⟨v', e1, e2⟩ := d.get e
    have q := y vs (.inl (.inr ⟨o, k.f _ _ _ t⟩))
    rw [e1] at q
    cases q
    exact ⟨rel, .refl _, e2.mn k⟩
  stop := fun F i H' S e rel k g => ⟨vs, .inl (.inr ⟨o, k.f _ _ _ t⟩), d.none_of e⟩
/-- a list known by its address -/
theorem it_lst {p : Addr} {ds : List D} : ItOk K DI H (Itl K p) ds [(p, ds)] where
  go := fun F i H' S x e rel k g => by
    obtain ⟨vs, e1, e2⟩ := rel.rep _ _ g.1
    obtain ⟨v, e3, e4⟩ := e2.get e
    exact ⟨vs, v, .inl (.inl e1), e3⟩
  yld := fun F i H' S x v H2 e rel k g y => by
    obtain ⟨rfl, y⟩ := y
    obtain ⟨vs, e1, e2⟩ := rel.rep _ _ g.1
    obtain ⟨v', e3, e4⟩ := e2.get e
    have q := y vs (.inl (.inl e1))
    rw [e3] at q
    cases q
    exact ⟨rel, .refl _, e4⟩
  stop := fun F i H' S e rel k g => by
    obtain ⟨vs, e1, e2⟩ := rel.rep _ _ g.1
    exact ⟨vs, .inl (.inl e1), e2.none_of e⟩
theorem DenK.get {ds : List (Key × D)} {vs : List (Key × V)} : ∀ {i : Nat}, DenK K H ds vs → (∀ k d, ds[i]? = some (k, d) → ∃ v, vs[i]? = some (k, v) ∧ Den K H d v) := by
  induction ds generalizing vs with
  | nil => intro i _ k d e; simp at e
  | cons x r ih =>
    intro i h k d e
    cases h with
    | cons h1 h2 =>
      cases i with
      | zero => simp at e; obtain ⟨rfl, rfl⟩ := e; exact ⟨_, rfl, h1⟩
      | succ i =>
        obtain ⟨v, e1, e2⟩ := ih (i := i) h2 k d (by simpa using e)
        exact ⟨v, by simpa using e1, e2⟩
/-- the keys of a locked dict -/
theorem it_keys {a : Addr} {o : Obj} {vs : List (Key × V)} {kvs : List (Key × D)} (t : H a = some (.frz o (.dK vs))) (d : DenK K H kvs vs) : ItOk K DI H (Itk a o vs) (kvs.map fun p => kD p.1) [] where
  go := fun F i H' S x e rel k g => ⟨k.f _ _ _ t, by
    have := List.getElem?_eq_some_iff.mp e
    obtain ⟨hi, _⟩ := this
    rw [List.length_map] at hi
    rw [← d.length]
    exact hi⟩
  yld := fun F i H' S x v H2 e rel k g y => by
    obtain ⟨rfl, kk, vv, e1, rfl⟩ := y
    rw [List.getElem?_map] at e
    cases q : kvs[i]? with
    | none => rw [q] at e; cases e
    | some kd =>
      rw [q] at e
      cases e
      obtain ⟨v', e3, e4⟩ := d.get (i := i) kd.1 kd.2 q
      rw [e1] at e3
      cases e3
      exact ⟨rel, .refl _, kD_den _⟩
  stop := fun F i H' S e rel k g => ⟨k.f _ _ _ t, by rw [List.length_map] at e; rw [← d.length]; exact e⟩
/-- its values -/
theorem it_vals {a : Addr} {o : Obj} {vs : List (Key × V)} {kvs : List (Key × D)} (t : H a = some (.frz o (.dK vs))) (d : DenK K H kvs vs) : ItOk K DI H (Itd a o vs) (kvs.map (·.2)) [] where
  go := fun F i H' S x e rel k g => ⟨k.f _ _ _ t, by
    obtain ⟨hi, _⟩ := List.getElem?_eq_some_iff.mp e
    rw [List.length_map] at hi
    rw [← d.length]
    exact hi⟩
  yld := fun F i H' S x v H2 e rel k g y => by
    obtain ⟨rfl, kk, e1⟩ := y
    rw [List.getElem?_map] at e
    cases q : kvs[i]? with
    | none => rw [q] at e; cases e
    | some kd =>
      rw [q] at e
      cases e
      obtain ⟨v', e3, e4⟩ := d.get (i := i) kd.1 kd.2 q
      rw [e1] at e3
      cases e3
      exact ⟨rel, .refl _, e4.mn k⟩
  stop := fun F i H' S e rel k g => ⟨k.f _ _ _ t, by rw [List.length_map] at e; rw [← d.length]; exact e⟩
/-- its pairs -/
theorem it_items {a : Addr} {o : Obj} {vs : List (Key × V)} {kvs : List (Key × D)} (t : H a = some (.frz o (.dK vs))) (d : DenK K H kvs vs) : ItOk K DI H (Iti a o vs) (kvs.map fun p => .tup [kD p.1, p.2]) [] where
  go := fun F i H' S x e rel k g => ⟨k.f _ _ _ t, by
    obtain ⟨hi, _⟩ := List.getElem?_eq_some_iff.mp e
    rw [List.length_map] at hi
    rw [← d.length]
    exact hi⟩
  yld := fun F i H' S x v H2 e rel k g y => by
    obtain ⟨T, kk, vv, e1, rfl, hT, rfl⟩ := y
    rw [List.getElem?_map] at e
    cases q : kvs[i]? with
    | none => rw [q] at e; cases e
    | some kd =>
      rw [q] at e
      cases e
      obtain ⟨v', e3, e4⟩ := d.get (i := i) kd.1 kd.2 q
      rw [e1] at e3
      cases e3
      have kn : Kp H' (upd H' T (.tup [kV kd.1, vv])) := .new hT
      exact ⟨rel.new hT, kn, .tup (.inl (.inl upd_same)) (.cons (kD_den _) (.cons ((e4.mn k).mn kn) .nil))⟩
  stop := fun F i H' S e rel k g => ⟨k.f _ _ _ t, by rw [List.length_map] at e; rw [← d.length]; exact e⟩
/-- lo, lo + 1, .. -/
def rgD (lo : Int) (n : Nat) : List D := (List.range n).map fun i => .int (lo + (i : Nat))
theorem rgD_length (lo : Int) (n : Nat) : (rgD lo n).length = n := by unfold rgD; simp
theorem it_rng {lo : Int} {n : Nat} : ItOk K DI H (Itr lo n) (rgD lo n) [] where
  go := fun F i H' S x e rel k g => by
    obtain ⟨hi, _⟩ := List.getElem?_eq_some_iff.mp e
    rw [rgD_length] at hi
    exact hi
  yld := fun F i H' S x v H2 e rel k g y => by
    obtain ⟨rfl, rfl⟩ := y
    obtain ⟨hi, _⟩ := List.getElem?_eq_some_iff.mp e
    rw [rgD_length] at hi
    unfold rgD at e
    rw [List.getElem?_map, List.getElem?_range hi] at e
    cases e
    exact ⟨rel, .refl _, .int _⟩
  stop := fun F i H' S e rel k g => by rw [rgD_length] at e; exact e
/-- the signs of a text -/
def sgD (x : Str) : List D := x.cps.toList.map fun c => .str ⟨#[c]⟩
theorem it_str {x : Str} : ItOk K DI H (Its x) (sgD x) [] where
  go := fun F i H' S d e rel k g => by
    obtain ⟨hi, _⟩ := List.getElem?_eq_some_iff.mp e
    unfold sgD at hi
    rw [List.length_map, Array.length_toList] at hi
    exact hi
  yld := fun F i H' S d v H2 e rel k g y => by
    obtain ⟨rfl, c, e1, rfl⟩ := y
    unfold sgD at e
    rw [List.getElem?_map, Array.getElem?_toList, e1] at e
    cases e
    exact ⟨rel, .refl _, .str _⟩
  stop := fun F i H' S e rel k g => by
    unfold sgD at e
    rw [List.length_map, Array.length_toList] at e
    exact e
end

section
variable {X : Cx} {DI : Addr → GH → Prop} {tg : Expr}
/-- the values of a sequence, the signs of a text, the keys of a dict that is locked -/
def wiSeq (a : W) : WI := fun ρ S Q => a ρ S fun d S' => match d with
  | .tup ds => Q ds [] S'
  | .lst ds => Q ds [] S'
  | .str x => Q (sgD x) [] S'
  | .dct kvs => Q (kvs.map fun p => kD p.1) [] S'
  | .ref p => match S'.g p with
    | some (.lst ds) => Q ds [(p, ds)] S'
    | some (.fct kvs) => Q (kvs.map fun p => kD p.1) [] S'
    | _ => False
  | _ => False
theorem PI.alt {e : Expr} {te : TE} {ts : List (VK → Prop)} (he : PE X e te) (r : V → Hp → (It → Hp → Prop) → Prop)
    (h : ∀ (pins : List (Addr × Obj)) (s : Shared) (σ : L2.St) (H : Hp) (x : V) (u : Value) (R : It → Hp → Prop), Inv X pins σ H s → RelV x u → r x H R → wpAny (model X.prog X.w) X.A (pyIter u) (PIE X pins σ tg R) X.xe s) :
    PI X tg e (fun σ H R => te σ H fun x H1 => r x H1 R) := ⟨fun pins s σ H R I q => thn (he.run pins s σ H _ I q) fun v s1 ⟨x, H1, I1, r1, q1⟩ => h pins s1 σ H1 x v R I1 r1 q1⟩
def rSeq (K : PySem.W.Frag) (x : V) (H : Hp) (R : It → Hp → Prop) : Prop :=
  (∃ a, x = .ref a ∧ (∃ xs, SqL K H a xs) ∧ R (Itl K a) H) ∨ (∃ a, x = .ref a ∧ (∃ xs, SqT K H a xs) ∧ R (Itt K a) H) ∨ (∃ z, x = .str z ∧ R (Its z) H) ∨
  ∃ a o kvs, x = .ref a ∧ H a = some (.frz o (.dK kvs)) ∧ R (Itk a o kvs) H
theorem iter_seq (pins : List (Addr × Obj)) (s : Shared) (σ : L2.St) (H : Hp) (x : V) (u : Value) (R : It → Hp → Prop) (I : Inv X pins σ H s) (r : RelV x u) (q : rSeq X.K x H R) : wpAny (model X.prog X.w) X.A (pyIter u) (PIE X pins σ tg R) X.xe s := by
  rcases q with ⟨a, rfl, ⟨xs, hq⟩, q⟩ | ⟨a, rfl, ⟨xs, hq⟩, q⟩ | ⟨z, rfl, q⟩ | ⟨a, o, kvs, rfl, hd, q⟩
  · cases r
    obtain ⟨its, rv, p, _⟩ := I.list hq
    exact wpAny_pyIter_list p.isList (pi_one (tk := s.toks) I _ (turn_list a _) ⟨_, Heap.get?_push_size _ rfl, rfl, rfl⟩ q)
  · cases r
    obtain ⟨its, rv, p, _⟩ := I.tuple hq
    exact wpAny_pyIter_tuple (show s.heap.IsTuple a its.toArray from p) (pi_one (tk := s.toks) I _ (turn_tuple a _) ⟨_, Heap.get?_push_size _ rfl, rfl, rfl⟩ q)
  · obtain ⟨t, rfl⟩ := r
    by_cases ha : z.cps.all (· < 128) = true
    · exact wpAny_pyIter_ascii ha (pi_one (tk := s.toks) I _ (turn_str _ z t _ (.inl rfl)) ⟨_, Heap.get?_push_size _ rfl, rfl, rfl⟩ q)
    · exact wpAny_pyIter_wide (Bool.eq_false_iff.mpr ha) (pi_one (tk := s.toks) I _ (turn_str _ z t _ (.inr rfl)) ⟨_, Heap.get?_push_size _ rfl, rfl, rfl⟩ q)
  · cases r
    obtain ⟨hs, hgd, hx, es, ep, vs, hdt, hsz, _⟩ := I.frzK hd
    exact iter_keys hs hgd hx hdt (pi_one (tk := s.toks) I _ (turn_keys _ hdt) ⟨_, Heap.get?_push_size _ rfl, rfl, by rw [hsz] <;> rfl⟩ q)
theorem di_seq {e : Expr} {a : W} (h : PE X e (lft X.K DI a)) : PI X tg e (lftI X.K DI (wiSeq a)) :=
  (PI.alt (ts := []) h (rSeq X.K) iter_seq).imp fun σ H R q => by
    obtain ⟨F, ρ, S, R', rel, env, w, f⟩ := q
    refine ⟨F, ρ, S, _, rel, env, w, fun d S1 v H1 q1 rel1 k1 d1 => ?_⟩
    split at q1
    · obtain ⟨a, vs, rfl, t, den⟩ := d1.tupV
      exact .inr (.inl ⟨a, rfl, ⟨vs, t⟩, f _ _ _ _ _ q1 rel1 k1 (it_tup t den)⟩)
    · cases d1 with
      | lst h1 h2 => exact .inl ⟨_, rfl, ⟨_, .inl (.inr ⟨_, h1⟩)⟩, f _ _ _ _ _ q1 rel1 k1 (it_frz h1 h2)⟩
    · cases d1
      exact .inr (.inr (.inl ⟨_, rfl, f _ _ _ _ _ q1 rel1 k1 it_str⟩))
    · cases d1 with
      | dct h1 h2 => exact .inr (.inr (.inr ⟨_, _, _, rfl, h1, f _ _ _ _ _ q1 rel1 k1 (it_keys h1 h2)⟩))
    · cases d1
      split at q1
      · rename_i ds e
        obtain ⟨vs, e1, e2⟩ := rel1.rep _ _ e
        exact .inl ⟨_, rfl, ⟨vs, .inl (.inl e1)⟩, f _ _ _ _ _ q1 rel1 k1 it_lst⟩
      · rename_i kvs e
        obtain ⟨o, vs, e1, e2⟩ := rel1.rep _ _ e
        exact .inr (.inr (.inr ⟨_, _, _, rfl, e1, f _ _ _ _ _ q1 rel1 k1 (it_keys e1 e2)⟩))
      · exact q1.elim
    · exact q1.elim
/-- range(n), range(a, b) -/
def wiRg1 (a : W) : WI := fun ρ S Q => a ρ S fun d S' => ∃ j, d = .int j ∧ -(2 ^ 62) ≤ j ∧ j < 2 ^ 62 ∧ Q (rgD 0 j.toNat) [] S'
def wiRg2 (a b : W) : WI := fun ρ S Q => a ρ S fun d S1 => b ρ S1 fun e S2 => ∃ i j, d = .int i ∧ e = .int j ∧ -(2 ^ 62) ≤ i ∧ i < 2 ^ 62 ∧ -(2 ^ 62) ≤ j ∧ j < 2 ^ 62 ∧ Q (rgD i (j - i).toNat) [] S2
theorem DenL.zero {K : PySem.W.Frag} {H : Hp} {vs : List V} (h : DenL K H [] vs) : vs = [] := by cases h; rfl
theorem DenL.oneV {K : PySem.W.Frag} {H : Hp} {d : D} {vs : List V} (h : DenL K H [d] vs) : ∃ v, vs = [v] ∧ Den K H d v := by
  cases h with
  | cons h1 h2 => cases h2; exact ⟨_, rfl, h1⟩
theorem DenL.twoV {K : PySem.W.Frag} {H : Hp} {d e : D} {vs : List V} (h : DenL K H [d, e] vs) : ∃ v u, vs = [v, u] ∧ Den K H d v ∧ Den K H e u := by
  cases h with
  | cons h1 h2 =>
    cases h2 with
    | cons h2 h3 => cases h3; exact ⟨_, _, rfl, h1, h2⟩
theorem di_rg1 {e : Expr} {a : W} {p pos : Pos} (hg : Gl X "range") (hm : X.mg "range" = none) (h : PE X e (lft X.K DI a)) (hs : starEach [e] X.env = [(false, eval e X.env)]) : PI X tg (.Call (.Name "range" p) [e] [] pos) (lftI X.K DI (wiRg1 a)) :=
  (pi_range1 hg hm (da_cons h da_nil (by rw [hs]; rfl)) hs).imp fun σ H R q => by
    obtain ⟨F, ρ, S, R', rel, env, w, f⟩ := q
    refine ⟨F, ρ, S, fun ds S' => match ds with
      | [d] => ∃ j, d = .int j ∧ -(2 ^ 62) ≤ j ∧ j < 2 ^ 62 ∧ R' (rgD 0 j.toNat) [] S'
      | _ => False, rel, env, w, fun ds S1 vs H1 q1 rel1 k1 d1 => ?_⟩
    dsimp only at q1
    split at q1
    · obtain ⟨j, rfl, h1, h2, q1⟩ := q1
      obtain ⟨v, rfl, dv⟩ := d1.oneV
      cases dv
      exact ⟨_, rfl, h1, h2, f _ _ _ _ _ q1 rel1 k1 it_rng⟩
    · exact q1.elim
theorem di_rg2 {e e2 : Expr} {a b : W} {p pos : Pos} (hg : Gl X "range") (hm : X.mg "range" = none) (h : PE X e (lft X.K DI a)) (h' : PE X e2 (lft X.K DI b)) (hs : starEach [e, e2] X.env = [(false, eval e X.env), (false, eval e2 X.env)]) (hs2 : starEach [e2] X.env = [(false, eval e2 X.env)]) : PI X tg (.Call (.Name "range" p) [e, e2] [] pos) (lftI X.K DI (wiRg2 a b)) :=
  (pi_range2 hg hm (da_cons h (da_cons h' da_nil (by rw [hs2]; rfl)) (by rw [hs, hs2])) hs hs2).imp fun σ H R q => by
    obtain ⟨F, ρ, S, R', rel, env, w, f⟩ := q
    refine ⟨F, ρ, S, fun ds S' => match ds with
      | [d, e] => ∃ i j, d = .int i ∧ e = .int j ∧ -(2 ^ 62) ≤ i ∧ i < 2 ^ 62 ∧ -(2 ^ 62) ≤ j ∧ j < 2 ^ 62 ∧ R' (rgD i (j - i).toNat) [] S'
      | _ => False, rel, env, w, fun ds S1 vs H1 q1 rel1 k1 d1 => ?_⟩
    dsimp only at q1
    split at q1
    · obtain ⟨i, j, rfl, rfl, h1, h2, h3, h4, q1⟩ := q1
      obtain ⟨v, u, rfl, dv, du⟩ := d1.twoV
      cases dv
      cases du
      exact ⟨_, _, rfl, ⟨h1, h2, h3, h4⟩, f _ _ _ _ _ q1 rel1 k1 it_rng⟩
    · exact q1.elim

/-! ### for -/
/-- P: the invariant over the values that are left -/
def wFor (wi : WI) (g : WG) (b : WS) : WS := fun R ρ S => wi ρ S fun ds gd S1 => ∃ P : List D → Env → GS → Prop, P ds ρ S1 ∧
  (∀ d r ρ S, P (d :: r) ρ S → gdOk gd S ∧ g d ρ S fun ρ' S' => b { R with nx := P r, ct := P r, bk := R.nx } ρ' S') ∧ ∀ ρ S, P [] ρ S → gdOk gd S ∧ R.nx ρ S
theorem ds_for {t iter : Expr} {body : List Stmt} {wi : WI} {g : WG} {b : WS} {pos : Pos} (hp : PassesOwn (model X.prog X.w) X.A X.env X.xe) (hc : X.calm = true) (hi : PI X t iter (lftI X.K DI wi)) (hg : PG X t (lftG X.K DI g)) (hb : PSs X body (lftS X.K DI b)) (hs : ∀ x, foldedSetIterable iter X.env x = pure x) :
    PS X (.For t iter body [] pos) (lftS X.K DI (wFor wi g b)) :=
  (ps_for hp hc hi hg hb hs).imp fun E σ H q => by
    obtain ⟨F, ρ, S, R, rel, env, w, f⟩ := q
    refine ⟨F, ρ, S, _, rel, env, w, fun ds gd S1 H1 J q1 rel1 k1 it => ?_⟩
    obtain ⟨P, p0, step, done⟩ := q1
    refine ⟨fun i m σ' H' => i + m = ds.length ∧ ∃ ρ' S', Rel X.K DI F S' H' ∧ EnvR X.K H' ρ' σ' ∧ Kp H1 H' ∧ P (ds.drop i) ρ' S', ⟨ds.length, by omega, ρ, S1, rel1, env.mn k1, .refl _, p0⟩, fun i m σ2 H2 h => ?_⟩
    obtain ⟨hm, ρ2, S2, rel2, env2, k2, p2⟩ := h
    by_cases hi : i < ds.length
    · have e0 : ds[i]? = some ds[i] := List.getElem?_eq_getElem hi
      rw [List.drop_eq_getElem_cons hi] at p2
      obtain ⟨g2, st⟩ := step _ _ _ _ p2
      refine .inr ⟨it.go _ i H2 S2 _ e0 rel2 k2 g2, fun σ' H' => ∃ ρ' S', Rel X.K DI F S' H' ∧ EnvR X.K H' ρ' σ' ∧ Kp H1 H' ∧ P (ds.drop (i + 1)) ρ' S', fun σ' H' ⟨ρ', S', a1, a2, a3, a4⟩ => ⟨m - 1, by omega, by omega, ρ', S', a1, a2, a3, a4⟩, fun x H3 y => ?_⟩
      obtain ⟨rel3, k3, den⟩ := it.yld _ i H2 S2 _ x H3 e0 rel2 k2 g2 y
      refine ⟨F, _, ρ2, S2, _, rel3, env2.mn k3, den, st, fun ρ4 S4 σ4 H4 r4 rel4 k4 env4 => ?_⟩
      have kk : Kp H1 H4 := k2.trans (k3.trans k4)
      exact ⟨F, ρ4, S4, _, rel4, env4, r4, ⟨fun ρ' S' σ' H' p' rel' k' env' => ⟨ρ', S', rel', env', kk.trans k', p'⟩, fun d S' v H' r' rel' k' den' => f.rt _ _ _ _ r' rel' (k1.trans (kk.trans k')) den',
        fun ρ' S' σ' H' r' rel' k' env' => f.nx _ _ _ _ r' rel' (k1.trans (kk.trans k')) env', fun ρ' S' σ' H' p' rel' k' env' => ⟨ρ', S', rel', env', kk.trans k', p'⟩⟩⟩
    · have e0 : ds.drop i = [] := List.drop_eq_nil_of_le (by omega)
      rw [e0] at p2
      obtain ⟨g2, st⟩ := done _ _ p2
      exact .inl ⟨it.stop _ i H2 S2 (by omega) rel2 k2 g2, f.nx _ _ _ _ st rel2 (k1.trans k2) env2⟩

/-! ### list comprehensions -/
/-- the names of a comprehension's own are forgotten -/
def wipeD (ρ : Env) : List Nat → Env
  | [] => ρ
  | i :: r => (wipeD ρ r).set i none
theorem EnvR.forget {K : PySem.W.Frag} {H : Hp} {ρ : Env} {σ : L2.St} (e : EnvR K H ρ σ) (i : Nat) : EnvR K H (ρ.set i none) (σ.set i none) := by
  refine ⟨by simp [e.len], fun j x hx => ?_⟩
  by_cases hj : i = j
  · subst hj
    by_cases hl : i < ρ.length
    · rw [List.getElem?_set_self hl] at hx
      cases hx
    · rw [List.getElem?_eq_none (by rw [List.length_set]; omega)] at hx
      cases hx
  · rw [List.getElem?_set_ne hj] at hx ⊢
    exact e.at_ j x hx
theorem EnvR.wipe {K : PySem.W.Frag} {H : Hp} {ρ : Env} {σ : L2.St} (e : EnvR K H ρ σ) : ∀ vs : List Nat, EnvR K H (wipeD ρ vs) (L2.wipe σ vs)
  | [] => e
  | _ :: vs => (e.wipe vs).forget _
theorem wipe_get (σ : L2.St) (j : Nat) : ∀ vs : List Nat, (wipe σ vs)[j]? = if j ∈ vs then (if j < σ.length then some none else none) else σ[j]?
  | [] => by simp [wipe]
  | v :: vs => by
    unfold wipe
    by_cases h : v = j
    · subst h
      by_cases hl : v < σ.length
      · rw [List.getElem?_set_self (by rw [wipe_length]; exact hl)]
        simp [hl]
      · rw [List.getElem?_eq_none (by rw [List.length_set, wipe_length]; omega)]
        simp [hl]
    · rw [List.getElem?_set_ne h, wipe_get σ j vs]
      have : j ≠ v := fun e => h e.symm
      simp [this]
theorem wipe_set {σ : L2.St} {i : Nat} {x : Option V} {vs : List Nat} (h : i ∈ vs) : wipe (σ.set i x) vs = wipe σ vs := by
  apply List.ext_getElem?
  intro j
  rw [wipe_get, wipe_get, List.length_set]
  by_cases hj : j ∈ vs
  · rw [if_pos hj, if_pos hj]
  · rw [if_neg hj, if_neg hj, List.getElem?_set_ne (by rintro rfl; exact hj h)]
theorem wipe_wipe (σ : L2.St) (vs : List Nat) : wipe (wipe σ vs) vs = wipe σ vs := by
  apply List.ext_getElem?
  intro j
  rw [wipe_get, wipe_get, wipe_length]
  by_cases hj : j ∈ vs
  · rw [if_pos hj, if_pos hj]
  · rw [if_neg hj, if_neg hj]
/-- a comprehension's target, both readings: names of its own alone are stored -/
def GOk (K : PySem.W.Frag) (DI : Addr → GH → Prop) (vs : List Nat) (t : TG) (g : WG) : Prop :=
  ∀ (F : Hp) d v ρ S σ0 σ H R (Q : L2.St → Hp → Prop), wipe σ vs = wipe σ0 vs → Rel K DI F S H → EnvR K H ρ σ → Den K H d v → g d ρ S R → (∀ ρ' S' σ', R ρ' S' → Rel K DI F S' H → wipe σ' vs = wipe σ0 vs → EnvR K H ρ' σ' → Q σ' H) → t v σ H Q
def GsOk (K : PySem.W.Frag) (DI : Addr → GH → Prop) (vs : List Nat) (t : TGs) (g : WGs) : Prop :=
  ∀ (F : Hp) ds us ρ S σ0 σ H R (Q : L2.St → Hp → Prop), wipe σ vs = wipe σ0 vs → Rel K DI F S H → EnvR K H ρ σ → DenL K H ds us → g ds ρ S R → (∀ ρ' S' σ', R ρ' S' → Rel K DI F S' H → wipe σ' vs = wipe σ0 vs → EnvR K H ρ' σ' → Q σ' H) → t us σ H Q
theorem gok_name {K : PySem.W.Frag} {DI : Addr → GH → Prop} {vs : List Nat} {i : Nat} (h : i ∈ vs) : GOk K DI vs (gName i) (gN i) := fun F d v ρ S σ0 σ H R Q hw rel env den r f =>
  f _ _ _ r rel (by rw [wipe_set h]; exact hw) (env.set den)
theorem gsok_nil {K : PySem.W.Frag} {DI : Addr → GH → Prop} {vs : List Nat} : GsOk K DI vs gNil gsNil := fun F ds us ρ S σ0 σ H R Q hw rel env den r f => by
  obtain ⟨rfl, r⟩ := r
  cases den
  exact ⟨rfl, f _ _ _ r rel hw env⟩
theorem gsok_cons {K : PySem.W.Frag} {DI : Addr → GH → Prop} {vs : List Nat} {t : TG} {g : WG} {ts : TGs} {gs : WGs} (h1 : GOk K DI vs t g) (h2 : GsOk K DI vs ts gs) : GsOk K DI vs (gCons t ts) (gsCons g gs) := fun F ds us ρ S σ0 σ H R Q hw rel env den r f => by
  cases den with
  | nil => exact r.elim
  | cons d1 d2 =>
    refine ⟨_, _, rfl, h1 F _ _ ρ S σ0 σ H _ _ hw rel env d1 r fun ρ' S' σ' r' rel' hw' env' => ?_⟩
    exact h2 F _ _ ρ' S' σ0 σ' H _ _ hw' rel' env' d2 r' f
theorem gok_tup {K : PySem.W.Frag} {DI : Addr → GH → Prop} {vs : List Nat} {n : Nat} {ts : TGs} {gs : WGs} (h : GsOk K DI vs ts gs) : GOk K DI vs (gTup K n ts) (gT n gs) := fun F d v ρ S σ0 σ H R Q hw rel env den r f => by
  unfold gT at r
  split at r
  · obtain ⟨a, us, rfl, t, dl⟩ := den.tupV
    exact ⟨a, us, rfl, t, by rw [← dl.length]; exact r.1, h F _ _ ρ S σ0 σ H _ _ hw rel env dl r.2 f⟩
  · exact r.elim

/-- the values made; P: the invariant over the values that are left, and those made so far -/
def wLcB (wi : WI) (g : WG) (tt : WT) (te : W) (vs : List Nat) : Env → GS → (List D → GS → Prop) → Prop := fun ρ S Q => wi ρ S fun ds gd S1 =>
  ∃ P : List D → List D → GS → Prop, P ds [] S1 ∧
  (∀ d r acc S, P (d :: r) acc S → gdOk gd S ∧ g d (wipeD ρ vs) S fun ρ' S' => tt ρ' S' fun b S2 => if b = true then te ρ' S2 fun y S3 => acc.length < sizeLine ∧ P r (acc ++ [y]) S3 else P r acc S2) ∧
  ∀ acc S, P [] acc S → gdOk gd S ∧ Q acc S
theorem lc_of {wi : WI} {t : TG} {g : WG} {tt : WT} {te : W} {vs : List Nat} (hg : GOk X.K DI vs t g) {F H : Hp} {σ : L2.St} {Q : VK} {ρ : Env} {S : GS} {R : List D → GS → Prop} (rel : Rel X.K DI F S H) (env : EnvR X.K H ρ σ)
    (w : wLcB wi g tt te vs ρ S R) (f : ∀ acc S' H' p us, R acc S' → Rel X.K DI (upd F p (.lst us)) S' H' → F p = none → Kp H H' → DenL X.K H' acc us → Q (.ref p) H') :
    tLc (lftI X.K DI wi) t (lftT X.K DI tt) (lft X.K DI te) vs σ H Q := by
  refine ⟨F, ρ, S, _, rel, env, w, fun ds gd S1 H1 J q1 rel1 k1 it => ?_⟩
  obtain ⟨P, p0, step, done⟩ := q1
  intro p hp
  have hF : F p = none := by
    cases q : F p with
    | none => rfl
    | some o => rw [(rel1.frm p o q).1] at hp; cases hp
  have kn : Kp H1 (upd H1 p (.lst [])) := .new hp
  refine ⟨fun i m H' => i + m = ds.length ∧ ∃ S' acc us, Rel X.K DI (upd F p (.lst us)) S' H' ∧ Kp H1 H' ∧ DenL X.K H' acc us ∧ P (ds.drop i) acc S', ⟨ds.length, by omega, S1, [], [], rel1.beside hp, kn, .nil, p0⟩, fun i m H2 h => ?_⟩
  obtain ⟨hm, S2, acc, us, rel2, k2, den2, p2⟩ := h
  have rel2' : Rel X.K DI F S2 H2 := rel2.alone fun a o e => by rw [upd_ne (fun z => by rw [z, hF] at e; cases e)]; exact e
  by_cases hi : i < ds.length
  · have e0 : ds[i]? = some ds[i] := List.getElem?_eq_getElem hi
    rw [List.drop_eq_getElem_cons hi] at p2
    obtain ⟨g2, st⟩ := step _ _ _ _ p2
    refine .inr ⟨it.go _ i H2 S2 _ e0 rel2' k2 g2, fun H' => ∃ S' acc us, Rel X.K DI (upd F p (.lst us)) S' H' ∧ Kp H1 H' ∧ DenL X.K H' acc us ∧ P (ds.drop (i + 1)) acc S', fun H' q => ⟨m - 1, by omega, by omega, q⟩, fun x H3 y => ?_⟩
    obtain ⟨relX, k3, den⟩ := it.yld _ i H2 S2 _ x H3 e0 rel2' k2 g2 y
    obtain ⟨rel3, _, _⟩ := it.yld _ i H2 S2 _ x H3 e0 rel2 k2 g2 y
    have env3 : EnvR X.K H3 (wipeD ρ vs) (wipe σ vs) := (env.mn (k1.trans (k2.trans k3))).wipe vs
    refine hg _ _ _ _ _ σ _ _ _ _ (wipe_wipe σ vs) rel3 env3 den st fun ρ4 S4 σ4 r4 rel4 hw4 env4 => ⟨hw4, ?_⟩
    have k13 : Kp H1 H3 := k2.trans k3
    refine ⟨_, ρ4, S4, _, rel4, env4, r4, fun b S5 H5 r5 rel5 k5 => ?_⟩
    cases b with
    | true =>
      rw [if_pos rfl] at r5 ⊢
      refine ⟨_, ρ4, S5, _, rel5, env4.mn k5, r5, fun yv S6 u6 H6 r6 rel6 k6 d6 => ?_⟩
      have hp6 := (rel6.frm p _ upd_same).1
      have k36 : Kp H2 H6 := k3.trans (k5.trans k6)
      have den6 : DenL X.K H6 acc us := den2.mn k36
      have kn6 : Kp H6 (upd H6 p (.lst (us ++ [u6]))) := .lst hp6
      refine ⟨us, hp6, by rw [← den6.length]; exact r6.1, S6, acc ++ [yv], us ++ [u6], ?_, k2.trans (k36.trans kn6), (den6.append (.one d6)).mn kn6, r6.2⟩
      have z := rel6.turn upd_same kn6
      rw [upd_upd] at z
      exact z
    | false =>
      rw [if_neg (by decide)] at r5 ⊢
      exact ⟨S5, acc, us, rel5, k13.trans k5, den2.mn (k3.trans k5), r5⟩
  · have e0 : ds.drop i = [] := List.drop_eq_nil_of_le (by omega)
    rw [e0] at p2
    obtain ⟨g2, st⟩ := done _ _ p2
    exact .inl ⟨it.stop _ i H2 S2 (by omega) rel2' k2 g2, f _ _ _ _ _ st rel2 hF (k1.trans k2) den2⟩
end
end Dv

/-! Dv6: comprehensions as values and statements, freezing, defs and their calls, by data. -/
namespace Dv
open PySem PySem.Spec L2
open PyProof.Rows hiding St

section
variable {X : Cx} {DI : Addr → GH → Prop}
/-! ### locking behind a statement -/
def LS (P : L2.St → Hp → Prop) : L2.St → Hp → Prop := fun σ H => P σ H ∨ ∃ p u, H p = some u ∧ Mut (some u) ∧ ∀ od, P σ (upd H p (.frz od u))
theorem psLS {st : Stmt} {t : TS} (h : PS X st t) : PS X st (fun E σ H => t { E with nx := LS E.nx } σ H) := ⟨fun pins s σ H E I q => thn (h.run pins s σ H _ I q) fun f s1 q1 => by
  cases f with
  | next =>
    obtain ⟨σ1, H1, I1, q1⟩ := q1
    rcases q1 with q1 | ⟨p, u, hp, mu, q1⟩
    · exact ⟨σ1, H1, I1, q1⟩
    · obtain ⟨od, I2⟩ := I1.lock hp mu
      exact ⟨σ1, _, I2, q1 od⟩
  | brk => exact q1
  | cont => exact q1
  | ret u => exact q1⟩

def wLc (wi : WI) (g : WG) (tt : WT) (te : W) (vs : List Nat) : W := fun ρ S Q => wLcB wi g tt te vs ρ S fun acc S' => Q (.lst acc) S'
def wLcN (wi : WI) (g : WG) (tt : WT) (te : W) (vs : List Nat) : W := fun ρ S Q => wLcB wi g tt te vs ρ S fun acc S' => ∀ p, S'.g p = none → Q (.ref p) (S'.set p (.lst acc))
section
variable {K : PySem.W.Frag} {F H : Hp} {S : GS} {p : Addr} {us : List V}
theorem Rel.lockB (r : Rel K DI (upd F p (.lst us)) S H) (hF : F p = none) (od : Obj) : Rel K DI F S (upd H p (.frz od (.lst us))) := by
  have hp := (r.frm p _ upd_same).1
  have k : Kp H (upd H p (.frz od (.lst us))) := .lst hp
  refine (r.turn upd_same k).alone fun a o e => ?_
  have ha : a ≠ p := fun z => by rw [z, hF] at e; cases e
  rw [upd_ne ha, upd_ne ha]
  exact e
theorem Rel.ownB {acc : List D} (r : Rel K DI (upd F p (.lst us)) S H) (hF : F p = none) (d : DenL K H acc us) : Rel K DI F (S.set p (.lst acc)) H := by
  have hp := r.frm p _ upd_same
  refine ⟨fun a m e => ?_, fun dk e => ?_, fun a o e => ?_⟩
  · by_cases ha : a = p
    · subst ha
      rw [GS.set_same] at e
      cases e
      exact ⟨us, hp.1, d⟩
    · rw [GS.set_ne ha] at e
      exact r.rep a m e
  · obtain ⟨G, h1, h2, h3, h4⟩ := r.hid dk e
    refine ⟨G, h1, h2, fun a m q => ?_, fun a o q => ?_⟩
    · by_cases ha : a = p
      · rw [ha]; exact h4 p _ upd_same
      · rw [GS.set_ne ha] at q
        exact h3 a m q
    · have ha : a ≠ p := fun z => by rw [z, hF] at q; cases q
      exact h4 a o (by rw [upd_ne ha]; exact q)
  · have ha : a ≠ p := fun z => by rw [z, hF] at e; cases e
    obtain ⟨h1, h2⟩ := r.frm a o (by rw [upd_ne ha]; exact e)
    exact ⟨h1, by rw [GS.set_ne ha]; exact h2⟩
end
/-- a list comprehension: what is asked of its text -/
structure LcTxt (X : Cx) (tg iter elt : Expr) (ifs : List Expr) (scope : Scope) (own : List (Str × Nat)) (DI : Addr → GH → Prop) (wi : WI) (t : TG) (g : WG) (tt : WT) (te : W) : Prop where
  hc : X.calm = true
  hN : X.N.Nodup
  hi : PI X tg iter (lftI X.K DI wi)
  ok : BlkOk X.N X.env.scope scope own
  hg : ∀ (s : Shared) (H : Hp) (C : Addr) (cl : List (Str × Addr)) (fp : List Addr), PG (X.blk s H scope (compEnvC scope cl C X.env) fp) tg t
  gok : GOk X.K DI (own.map (·.2)) t g
  ht : ∀ (s : Shared) (H : Hp) (C : Addr) (cl : List (Str × Addr)) (fp : List Addr), PTs (X.blk s H scope (compEnvC scope cl C X.env) fp) ifs (lftT X.K DI tt)
  he : ∀ (s : Shared) (H : Hp) (C : Addr) (cl : List (Str × Addr)) (fp : List Addr), PE (X.blk s H scope (compEnvC scope cl C X.env) fp) elt (lft X.K DI te)
  hs : ∀ x, foldedSetIterable iter X.env x = pure x
variable {tg iter elt : Expr} {ifs : List Expr} {scope : Scope} {own : List (Str × Nat)} {wi : WI} {t : TG} {g : WG} {tt : WT} {te : W}
theorem de_lc {pos : Pos} (L : LcTxt X tg iter elt ifs scope own DI wi t g tt te) : PE X (.ListComp elt [⟨tg, iter, ifs, 0⟩] scope pos) (lft X.K DI (wLc wi g tt te (own.map (·.2)))) :=
  (peLQ (pe_lc L.hc L.hN L.hi L.ok L.hg L.ht L.he L.hs)).imp fun σ H Q q => by
    obtain ⟨F, ρ, S, R, rel, env, w, f⟩ := q
    refine lc_of L.gok rel env w fun acc S' H' p us r rel' hF k den => ?_
    refine .inr ⟨p, .lst us, (rel'.frm p _ upd_same).1, trivial, fun od => ?_⟩
    have kk : Kp H' (upd H' p (.frz od (.lst us))) := .lst (rel'.frm p _ upd_same).1
    exact f _ _ _ _ r (rel'.lockB hF od) (k.trans kk) (.lst upd_same (den.mn kk))
theorem de_lcN {pos : Pos} (L : LcTxt X tg iter elt ifs scope own DI wi t g tt te) : PE X (.ListComp elt [⟨tg, iter, ifs, 0⟩] scope pos) (lft X.K DI (wLcN wi g tt te (own.map (·.2)))) :=
  (pe_lc L.hc L.hN L.hi L.ok L.hg L.ht L.he L.hs).imp fun σ H Q q => by
    obtain ⟨F, ρ, S, R, rel, env, w, f⟩ := q
    refine lc_of L.gok rel env w fun acc S' H' p us r rel' hF k den => ?_
    exact f _ _ _ _ (r p (rel'.frm p _ upd_same).2) (rel'.ownB hF den) k (.ref p)
theorem ds_setLc {i : Nat} {y : Str} {py pos spos : Pos} (hy : X.N[i]? = some y) (hyl : X.env.scope.names.lookup y = some .local)
    (hsw : swapsWith (.ListComp elt [⟨tg, iter, ifs, 0⟩] scope pos) (some (.Name y py)) spos.line X.env = pure true) (L : LcTxt X tg iter elt ifs scope own DI wi t g tt te) :
    PS X (.Assign [.Name y py] (.ListComp elt [⟨tg, iter, ifs, 0⟩] scope pos) spos) (lftS X.K DI (wAsg (wLc wi g tt te (own.map (·.2))) (gN i))) :=
  (psLS (ps_setLc L.hc L.hN hy hyl hsw L.hi L.ok L.hg L.ht L.he L.hs)).imp fun E σ H q => by
    obtain ⟨F, ρ, S, R, rel, env, w, f⟩ := q
    refine lc_of L.gok rel env w fun acc S' H' p us r rel' hF k den => ?_
    refine .inr ⟨p, .lst us, (rel'.frm p _ upd_same).1, trivial, fun od => ?_⟩
    have kk : Kp H' (upd H' p (.frz od (.lst us))) := .lst (rel'.frm p _ upd_same).1
    exact f.nx _ _ _ _ r (rel'.lockB hF od) (k.trans kk) ((env.mn (k.trans kk)).set (.lst upd_same (den.mn kk)))
theorem ds_setLcN {i : Nat} {y : Str} {py pos spos : Pos} (hy : X.N[i]? = some y) (hyl : X.env.scope.names.lookup y = some .local)
    (hsw : swapsWith (.ListComp elt [⟨tg, iter, ifs, 0⟩] scope pos) (some (.Name y py)) spos.line X.env = pure true) (L : LcTxt X tg iter elt ifs scope own DI wi t g tt te) :
    PS X (.Assign [.Name y py] (.ListComp elt [⟨tg, iter, ifs, 0⟩] scope pos) spos) (lftS X.K DI (wAsg (wLcN wi g tt te (own.map (·.2))) (gN i))) :=
  (ps_setLc L.hc L.hN hy hyl hsw L.hi L.ok L.hg L.ht L.he L.hs).imp fun E σ H q => by
    obtain ⟨F, ρ, S, R, rel, env, w, f⟩ := q
    refine lc_of L.gok rel env w fun acc S' H' p us r rel' hF k den => ?_
    exact f.nx _ _ _ _ (r p (rel'.frm p _ upd_same).2) (rel'.ownB hF den) k ((env.mn k).set (.ref p))
def wYes : WT := fun _ S Q => Q true S
theorem dts_nil : PTs X [] (lftT X.K DI wYes) := ⟨fun pins s σ H Q I q => by
  obtain ⟨F, ρ, S, R, rel, env, w, f⟩ := q
  exact pts_nil.run pins s σ H Q I (f _ _ _ w rel (.refl H))⟩
theorem dts_one {c : Expr} {w : WT} (h : PT X c (lftT X.K DI w)) : PTs X [c] (lftT X.K DI w) := pts_one h

/-! ### a thing told by what it holds from here on -/
def wFrz (i : Nat) (b : WS) : WS := fun R ρ S => match ρ[i]? with
  | some (some (.ref p)) => match S.g p with
    | some (.lst ds) => b R (ρ.set i (some (.lst ds))) (S.del p)
    | some (.dct kvs) => b R (ρ.set i (some (.dct kvs))) (S.del p)
    | _ => b R ρ S
  | _ => b R ρ S
theorem setSelf {α : Type} {l : List α} {i : Nat} {x : α} (h : l[i]? = some x) : l.set i x = l := by
  apply List.ext_getElem?
  intro j
  by_cases hj : i = j
  · subst hj
    rw [List.getElem?_set_self (List.getElem?_eq_some_iff.mp h).1, h]
  · rw [List.getElem?_set_ne hj]
theorem Rel.drop {K : PySem.W.Frag} {F H : Hp} {S : GS} (r : Rel K DI F S H) (p : Addr) : Rel K DI F (S.del p) H := r.less (fun a m e => by
  by_cases ha : a = p
  · subst ha
    rw [show (S.del a).g a = none from if_pos rfl] at e
    cases e
  · rw [show (S.del p).g a = S.g a from if_neg ha] at e
    exact e) rfl
theorem Rel.frz {K : PySem.W.Frag} {F H : Hp} {S : GS} {p : Addr} {m : MO} {u : HO} {od : Obj} (r : Rel K DI F S H) (hm : S.g p = some m) (hp : H p = some u) (mu : Mut (some u)) : Rel K DI F (S.del p) (upd H p (.frz od u)) := by
  have k : Kp H (upd H p (.frz od u)) := .frz hp mu
  have r' := r.drop p
  have gp : (S.del p).g p = none := if_pos rfl
  refine ⟨fun a m' e => (r'.rep a m' e).mono k (upd_ne (fun z => by rw [z, gp] at e; cases e)), fun dk e => ?_, fun a o e => ?_⟩
  · obtain ⟨G, h1, h2, h3, h4⟩ := r.hid dk e
    have hg := h3 p m hm
    obtain ⟨G', h1', h2', h3', h4'⟩ := r'.hid dk e
    refine ⟨G, h1, fun a m' q => (h2 a m' q).mono k (upd_ne (fun z => by rw [z, hg] at q; cases q)), fun a m' q => ?_, h4⟩
    by_cases ha : a = p
    · rw [ha]; exact hg
    · rw [show (S.del p).g a = S.g a from if_neg ha] at q
      exact h3 a m' q
  · obtain ⟨h1, h2⟩ := r'.frm a o e
    have ha : a ≠ p := fun z => by
      have q := (r.frm a o e).2
      rw [z, hm] at q
      cases q
    exact ⟨by rw [upd_ne ha]; exact h1, h2⟩
theorem ds_frz {i : Nat} {st : Stmt} {b : WS} (h : PS X st (lftS X.K DI b)) : PS X st (lftS X.K DI (wFrz i b)) := ⟨fun pins s σ H E I q => by
  obtain ⟨F, ρ, S, R, rel, env, w, f⟩ := q
  unfold wFrz at w
  split at w
  · rename_i p e
    obtain ⟨v, e1, den⟩ := env.at_ i _ e
    cases den
    split at w
    · rename_i ds e2
      obtain ⟨vs, e3, d3⟩ := rel.rep _ _ e2
      obtain ⟨od, I2⟩ := I.lock e3 trivial
      have k : Kp H (upd H p (.frz od (.lst vs))) := .lst e3
      refine h.run pins s σ _ E I2 ⟨F, _, _, R, rel.frz e2 e3 trivial, ?_, w, f.up k⟩
      have z := (env.mn k).set (i := i) (v := .ref p) (.lst upd_same (d3.mn k))
      rw [setSelf e1] at z
      exact z
    · rename_i ds e2
      obtain ⟨vs, e3, d3⟩ := rel.rep _ _ e2
      obtain ⟨od, I2⟩ := I.lock e3 trivial
      have k : Kp H (upd H p (.frz od (.dK vs))) := .dct e3
      refine h.run pins s σ _ E I2 ⟨F, _, _, R, rel.frz e2 e3 trivial, ?_, w, f.up k⟩
      have z := (env.mn k).set (i := i) (v := .ref p) (.dct upd_same (d3.mn k))
      rw [setSelf e1] at z
      exact z
    · exact h.run pins s σ H E I ⟨F, ρ, S, R, rel, env, w, f⟩
  · exact h.run pins s σ H E I ⟨F, ρ, S, R, rel, env, w, f⟩⟩
end
end Dv

/-! Dv7: defs with what runs around them told (no repr under way), their calls, their bodies, the law's end. -/
namespace Dv
open PySem PySem.Spec L2
open PyProof.Rows hiding St

/-- a def keeps its promise wherever no repr is under way -/
structure FnG (P : Program) (w : World) (K : PySem.W.Frag) (mg : Str → Option Value) (base : Heap) (k : Nat) (f : Addr) (fd : FuncData) (ps : List Str) (sp : Sp) : Prop where
  len : ∀ vs H Q E, sp vs H Q E → vs.length = ps.length
  run : ∀ (A : Around) (outer : List PySem.Env) (s : Shared) (H : Hp) (args : Args) (us : List Value) (vs : List V) (Q : VK) (E : XK), Room k A → A.guards = some [] → Env0 P w K mg base A outer s H → BindsTo s fd args (ps.zip us) →
    Vals vs us → sp vs H Q E → codeAny (model P w) A (.call (.ref f) args) (CR CX0 outer P w H s Q E) s
theorem FnG.mono {P : Program} {w : World} {K : PySem.W.Frag} {mg : Str → Option Value} {base : Heap} {j k : Nat} {f : Addr} {fd : FuncData} {ps : List Str} {sp : Sp} (F : FnG P w K mg base j f fd ps sp) (h : j ≤ k) : FnG P w K mg base k f fd ps sp :=
  ⟨F.len, fun A outer s H args us vs Q E hr => F.run A outer s H args us vs Q E (hr.mono h)⟩

/-- a def that may be called: its name, how many parameters, what it promises; shapes of calls by keywords: how many by place, the keywords, the order -/
structure Fn where
  name : Str
  n : Nat
  sp : WF
  kws : List (Nat × List Str × List Nat) := []
def spOf (K : PySem.W.Frag) (DI : Addr → GH → Prop) (n : Nat) (sp : WF) : Sp := fun vs H Q _ => vs.length = n ∧ lftF K DI sp vs H Q
def pick {α : Type} (l : List α) (is : List Nat) : List α := is.filterMap fun i => l[i]?
def KwB (K : PySem.W.Frag) (fd : FuncData) (ps : List Str) (sh : Nat × List Str × List Nat) : Prop :=
  ∀ (s : Shared) (us ws : List Value), K.In s.heap → us.length = sh.1 → ws.length = sh.2.1.length → BindsTo s fd ⟨us, sh.2.1.zip ws⟩ (ps.zip (pick (us ++ ws) sh.2.2))
structure FnIn (P : Program) (w : World) (K : PySem.W.Frag) (mg : Str → Option Value) (base : Heap) (DI : Addr → GH → Prop) (k : Nat) (e : Fn) : Prop where
  ex : ∃ (f : Addr) (fd : FuncData) (ps : List Str), mg e.name = some (.ref f) ∧ PySem.W.keepIn K (.ref f) = true ∧ Binds K fd ps [] ∧ (∀ sh ∈ e.kws, KwB K fd ps sh) ∧ FnG P w K mg base k f fd ps (spOf K DI e.n e.sp)
theorem FnIn.mono {P : Program} {w : World} {K : PySem.W.Frag} {mg : Str → Option Value} {base : Heap} {DI : Addr → GH → Prop} {j k : Nat} {e : Fn} (F : FnIn P w K mg base DI j e) (h : j ≤ k) : FnIn P w K mg base DI k e := by
  obtain ⟨f, fd, ps, a1, a2, a3, a4, a5⟩ := F.ex
  exact ⟨f, fd, ps, a1, a2, a3, a4, a5.mono h⟩

/-- f(..) -/
def wCall (f : WF) (a : WA) : W := fun ρ S Q => a ρ S fun ds S' => f ds S' Q
section
variable {X : Cx} {DI : Addr → GH → Prop}
theorem run_fnG {k : Nat} {f : Addr} {fd : FuncData} {ps : List Str} {sp : Sp} {pins : List (Addr × Obj)} {σ : L2.St} {H : Hp} {s : Shared} {Q : VK} {args : Args} {us : List Value} {vs : List V} (F : FnG X.prog X.w X.K X.mg X.base k f fd ps sp) (hr : Room k X.A) (hg : X.A.guards = some [])
    (I : Inv X pins σ H s) (hb : BindsTo s fd args (ps.zip us)) (r : Vals vs us) (h : sp vs H Q E0) : codeAny (model X.prog X.w) X.A (.call (.ref f) args) (fun r s' => match r with
      | .ok (.ret u) => EP X pins σ Q u s'
      | _ => False) s := by
  refine codeAny_mono (F.run X.A X.stack s H args us vs Q E0 hr hg I.env0 hb r h) fun r s' hq => ?_
  cases r with
  | error e => exact hq
  | ok fl =>
    cases fl with
    | ret u => exact I.after hq
    | _ => exact hq
theorem callOf {f : Addr} {args : List Value} {kw : List (Str × Value)} {s : Shared} {Q : Value → Shared → Prop} {A : Around} {P : Program} {w : World} {E : Value → Shared → Prop} (h : codeAny (model P w) A (.call (.ref f) ⟨args, kw⟩) (fun r s' => match r with
      | .ok (.ret u) => Q u s'
      | _ => False) s) : wpAny (model P w) A (call (.ref f) args kw) Q E s := wpAny_call (codeAny_mono h fun r s' q => by
  cases r with
  | error e => exact q.elim
  | ok fl =>
    cases fl with
    | ret u => exact q
    | _ => exact q.elim)
theorem wCall_of {n : Nat} {fs : WF} {wa : WA} {es : List Expr} {σ : L2.St} {H : Hp} {Q : VK} (hn : es.length = n) (hl : ∀ ρ S Q, wa ρ S Q → True) (h : lft X.K DI (wCall fs wa) σ H Q) :
    lftA X.K DI wa σ H fun vs H1 => lftF X.K DI fs vs H1 Q := by
  obtain ⟨F, ρ, S, R, rel, env, w, f⟩ := h
  refine ⟨F, ρ, S, _, rel, env, w, fun ds S1 vs H1 q1 rel1 k1 d1 => ⟨F, ds, S1, R, rel1, d1, q1, f.up k1⟩⟩
/-- an argument list tells as many values as it has expressions -/
structure PAn (X : Cx) (es : List Expr) (t : TA) : Prop where
  pa : PA X es t
  len : ∀ (pos : Pos) (pins : List (Addr × Obj)) (s : Shared) (σ : L2.St) (H : Hp) (Q : List V → Hp → Prop), Inv X pins σ H s → t σ H Q →
    wpAny (model X.prog X.w) X.A (spliced (backTo pos (starEach es X.env))) (AP X pins σ fun vs H' => vs.length = es.length ∧ Q vs H') X.xe s
theorem pan_nil : PAn X [] (lftA X.K DI wNil) := ⟨da_nil, fun pos pins s σ H Q I h => by
  obtain ⟨F, ρ, S, R, rel, env, w, f⟩ := h
  exact Calls.spliced_nil ⟨[], H, I, .nil, rfl, f _ _ _ _ w rel (.refl H) .nil⟩⟩
theorem pan_cons {e : Expr} {es : List Expr} {a : W} {r : WA} (ha : PE X e (lft X.K DI a)) (hr : PAn X es (lftA X.K DI r)) (hs : starEach (e :: es) X.env = (false, eval e X.env) :: starEach es X.env) : PAn X (e :: es) (lftA X.K DI (wCons a r)) := ⟨da_cons ha hr.pa hs, fun pos pins s σ H Q I q => by
  obtain ⟨F, ρ, S, R, rel, env, w, f⟩ := q
  rw [hs]
  show wpAny _ _ (spliced ((false, eval e X.env) :: backTo pos (starEach es X.env))) _ _ s
  have h1 := ha.run pins s σ H (fun x H1 => lftA X.K DI r σ H1 fun vs H2 => Q (x :: vs) H2) I ⟨F, ρ, S, _, rel, env, w, fun x S1 v H1 q1 rel1 k1 d1 => ⟨F, ρ, S1, _, rel1, env.mn k1, q1, fun xs S2 vs H2 q2 rel2 k2 d2 => f _ _ _ _ q2 rel2 (k1.trans k2) (.cons (d1.mn k2) d2)⟩⟩
  refine Calls.spliced_cons (thn h1 fun u s1 ⟨x, H1, I1, r1, q1⟩ => ?_)
  exact thn (hr.len pos pins s1 σ H1 _ I1 q1) fun us s2 ⟨xs, H2, I2, r2, l2, q2⟩ => ⟨x :: xs, H2, I2, .cons r1 r2, by rw [List.length_cons, List.length_cons, l2], q2⟩⟩
section
variable {e0 : Fn} {k : Nat} {x : Str} {p pos : Pos} {e : Expr} {es : List Expr} {wa : WA}
theorem de_call (G : FnIn X.prog X.w X.K X.mg X.base DI k e0) (hr : Room k X.A) (hgu : X.A.guards = some []) (hg : Gl X e0.name) (ha : PAn X (e :: es) (lftA X.K DI wa)) (hn : es.length + 1 = e0.n) (hdb : (e0.name == ("__debug__" : Str)) = false)
    (he : starEach (e :: es) X.env = (false, eval e X.env) :: starEach es X.env) (hpl : (backTo pos (starEach es X.env)).any (·.1) = false) : PE X (.Call (.Name e0.name p) (e :: es) [] pos) (lft X.K DI (wCall e0.sp wa)) := by
  obtain ⟨f, fd, ps, hm, hk, hb, _, F⟩ := G.ex
  refine ⟨fun pins s σ H Q I h => ?_⟩
  obtain ⟨F0, ρ, S, R, rel, env, w, fin⟩ := h
  refine wpAny_Call_Name_kw (ld_glob I hg hm ?_ hdb)
  have h1 := ha.len pos pins s σ H (fun vs H1 => lftF X.K DI e0.sp vs H1 Q) I ⟨F0, ρ, S, _, rel, env, w, fun ds S1 vs H1 q1 rel1 k1 d1 => ⟨F0, ds, S1, R, rel1, d1, q1, fin.up k1⟩⟩
  refine PySem.W.callWith_K (h₀ := X.base) I.ok.mod.kin hk (thn h1 fun us s1 ⟨vs, H1, I1, r, l, q⟩ => ⟨I1.kIn, ?_⟩) he hpl
  have hsp : spOf X.K DI e0.n e0.sp vs H1 Q E0 := ⟨by rw [l, List.length_cons]; exact hn, q⟩
  have hl := F.len _ _ _ _ hsp
  have hlu : us.length = ps.length := by rw [← r.length]; exact hl
  have bb := hb s1 us I1.kIn (by simpa using hlu)
  rw [List.append_nil] at bb
  exact callOf (run_fnG F hr hgu I1 bb r hsp)
theorem de_call0 (G : FnIn X.prog X.w X.K X.mg X.base DI k e0) (hr : Room k X.A) (hgu : X.A.guards = some []) (hg : Gl X e0.name) (hn : 0 = e0.n) (hdb : (e0.name == ("__debug__" : Str)) = false) : PE X (.Call (.Name e0.name p) [] [] pos) (lft X.K DI (wCall e0.sp wNil)) := by
  obtain ⟨f, fd, ps, hm, hk, hb, _, F⟩ := G.ex
  refine ⟨fun pins s σ H Q I h => ?_⟩
  obtain ⟨F0, ρ, S, R, rel, env, w, fin⟩ := h
  refine wpAny_Call_Name_kw (ld_glob I hg hm ?_ hdb)
  have hsp : spOf X.K DI e0.n e0.sp [] H Q E0 := ⟨hn, F0, [], S, R, rel, .nil, w, fin⟩
  have hl := F.len _ _ _ _ hsp
  have bb := hb s [] I.kIn (by simpa using hl)
  exact PySem.W.callWith_K0 I.kIn hk (callOf (run_fnG F hr hgu I bb .nil hsp))
theorem Vals.pick : ∀ {vs : List V} {us : List Value} (is : List Nat), Vals vs us → Vals (Dv.pick vs is) (Dv.pick us is)
  | _, _, [], _ => .nil
  | vs, us, i :: is, h => by
    unfold Dv.pick
    rw [List.filterMap_cons, List.filterMap_cons]
    cases q : vs[i]? with
    | none =>
      rw [h.none_of q]
      exact Vals.pick is h
    | some v =>
      obtain ⟨u, e, r⟩ := h.get q
      rw [e]
      exact .cons r (Vals.pick is h)
theorem DenL.pick {K : PySem.W.Frag} {H : Hp} : ∀ {ds : List D} {vs : List V} (is : List Nat), DenL K H ds vs → DenL K H (Dv.pick ds is) (Dv.pick vs is)
  | _, _, [], _ => .nil
  | ds, vs, i :: is, h => by
    unfold Dv.pick
    rw [List.filterMap_cons, List.filterMap_cons]
    cases q : ds[i]? with
    | none =>
      rw [show vs[i]? = none from List.getElem?_eq_none_iff.mpr (h.none_of (List.getElem?_eq_none_iff.mp q))]
      exact DenL.pick is h
    | some v =>
      obtain ⟨u, e, r⟩ := h.get q
      rw [e]
      exact .cons r (DenL.pick is h)
/-- keywords alone: the values by the keywords' order, put in the parameters' order -/
def wCallK (f : WF) (is : List Nat) (a : WA) : W := fun ρ S Q => a ρ S fun ds S' => f (pick ds is) S' Q
structure PKn (X : Cx) (kws : List Keyword) (t : TA) : Prop where
  run : ∀ (pos : Pos) (pins : List (Addr × Obj)) (s : Shared) (σ : L2.St) (H : Hp) (Q : List V → Hp → Prop), Inv X pins σ H s → t σ H Q →
    wpAny (model X.prog X.w) X.A (evalAll ((backToKw pos (keywordEach kws X.env)).map (·.2))) (AP X pins σ fun vs H' => vs.length = kws.length ∧ Q vs H') X.xe s
theorem pkn_nil : PKn X [] (lftA X.K DI wNil) := ⟨fun pos pins s σ H Q I h => by
  obtain ⟨F, ρ, S, R, rel, env, w, f⟩ := h
  exact wpAny_evalAll_nil ⟨[], H, I, .nil, rfl, f _ _ _ _ w rel (.refl H) .nil⟩⟩
theorem pkn_cons {nm : Option Str} {kpos : Pos} {kws : List Keyword} {a : W} {r : WA} (ha : PE X e (lft X.K DI a)) (hr : PKn X kws (lftA X.K DI r)) : PKn X (⟨nm, e, kpos⟩ :: kws) (lftA X.K DI (wCons a r)) := ⟨fun pos pins s σ H Q I q => by
  obtain ⟨F, ρ, S, R, rel, env, w, f⟩ := q
  have h1 := ha.run pins s σ H (fun x H1 => lftA X.K DI r σ H1 fun vs H2 => Q (x :: vs) H2) I ⟨F, ρ, S, _, rel, env, w, fun x S1 v H1 q1 rel1 k1 d1 => ⟨F, ρ, S1, _, rel1, env.mn k1, q1, fun xs S2 vs H2 q2 rel2 k2 d2 => f _ _ _ _ q2 rel2 (k1.trans k2) (.cons (d1.mn k2) d2)⟩⟩
  show wpAny _ _ (evalAll ((do let v ← eval e X.env; standAt pos; pure v) :: (backToKw pos (keywordEach kws X.env)).map (·.2))) _ _ s
  refine wpAny_evalAll_cons (wpAny_bind (thn h1 fun u s1 ⟨x, H1, I1, r1, q1⟩ => wpAny_bind (wpAny_standAt (wpAny_pure ?_))))
  exact thn (hr.run pos pins s1 σ H1 _ I1 q1) fun us s2 ⟨xs, H2, I2, r2, l2, q2⟩ => ⟨x :: xs, H2, I2, .cons r1 r2, by rw [List.length_cons, List.length_cons, l2], q2⟩⟩
theorem de_callK {kws : List Keyword} {ks : List Str} {is : List Nat} (G : FnIn X.prog X.w X.K X.mg X.base DI k e0) (hsh : (0, ks, is) ∈ e0.kws) (hr : Room k X.A) (hgu : X.A.guards = some []) (hg : Gl X e0.name) (ha : PKn X kws (lftA X.K DI wa)) (hn : (pick (List.range kws.length) is).length = e0.n) (hdb : (e0.name == ("__debug__" : Str)) = false)
    (hall : (backToKw pos (keywordEach kws X.env)).all (·.1.isSome) = true) (hks : (backToKw pos (keywordEach kws X.env)).filterMap (·.1) = ks) (hkl : ks.length = kws.length)
    (hpl : ((backTo pos (starEach [] X.env)).any (·.1) || (backToKw pos (keywordEach kws X.env)).any (·.1.isNone)) = false) : PE X (.Call (.Name e0.name p) [] kws pos) (lft X.K DI (wCallK e0.sp is wa)) := by
  obtain ⟨f, fd, ps, hm, hk, _, hkw, F⟩ := G.ex
  have hb := hkw _ hsh
  refine ⟨fun pins s σ H Q I h => ?_⟩
  obtain ⟨F0, ρ, S, R, rel, env, w, fin⟩ := h
  refine wpAny_Call_Name_kw (ld_glob I hg hm ?_ hdb)
  have h1 := ha.run pos pins s σ H (fun vs H1 => lftF X.K DI e0.sp (pick vs is) H1 Q) I ⟨F0, ρ, S, _, rel, env, w, fun ds S1 vs H1 q1 rel1 k1 d1 => ⟨F0, _, S1, R, rel1, d1.pick is, q1, fin.up k1⟩⟩
  refine PySem.W.callWith_KW0 (h₀ := X.base) I.ok.mod.kin hk hall (thn h1 fun ws s1 ⟨vs, H1, I1, r, l, q⟩ => ⟨I1.kIn, ?_⟩) hpl
  rw [hks]
  have pl : ∀ {α β : Type} (l1 : List α) (l2 : List β) (is : List Nat), l1.length = l2.length → (pick l1 is).length = (pick l2 is).length := fun {α β} l1 l2 is h => by
    induction is with
    | nil => rfl
    | cons i is ih =>
      unfold pick at ih ⊢
      rw [List.filterMap_cons, List.filterMap_cons]
      by_cases hi : i < l1.length
      · rw [List.getElem?_eq_getElem hi, List.getElem?_eq_getElem (h ▸ hi)]
        simp only [List.length_cons, ih]
      · rw [List.getElem?_eq_none (by omega), List.getElem?_eq_none (by omega)]
        exact ih
  have hsp : spOf X.K DI e0.n e0.sp (pick vs is) H1 Q E0 := ⟨by rw [pl vs (List.range kws.length) is (by simpa using l)]; exact hn, q⟩
  have bb := hb s1 [] ws I1.kIn rfl (by show ws.length = ks.length; rw [hkl, ← r.length]; exact l)
  rw [List.nil_append] at bb
  exact callOf (run_fnG F hr hgu I1 bb (Vals.pick is r) hsp)
end

/-! ### a def by its body -/
def startD (N : List Str) (ds : List D) : Env := ds.map some ++ List.replicate (N.length - ds.length) none
theorem EnvR.start {K : PySem.W.Frag} {H : Hp} {N : List Str} {ds : List D} {vs : List V} (h : DenL K H ds vs) : EnvR K H (startD N ds) (L2.start N vs) := by
  have hl := h.length
  refine ⟨by simp [startD, L2.start, hl], fun i d e => ?_⟩
  unfold startD at e
  by_cases hi : i < ds.length
  · rw [List.getElem?_append_left (by simpa using hi), List.getElem?_map] at e
    cases q : ds[i]? with
    | none => rw [q] at e; cases e
    | some x =>
      rw [q] at e
      cases e
      obtain ⟨v, e1, e2⟩ := h.get q
      refine ⟨v, ?_, e2⟩
      unfold L2.start
      rw [List.getElem?_append_left (by simpa [hl] using hi), List.getElem?_map, e1]
      rfl
  · rw [List.getElem?_append_right (by simpa using hi), List.getElem?_replicate] at e
    split at e <;> cases e
/-- what is wanted where a body ends: what is given back, told as the caller wants it -/
inductive Told (S S' : GS) : D → D → Prop
  | same (d : D) : Told S S' d d
def Less (S' S : GS) : Prop := (∀ a m, S'.g a = some m → S.g a = some m) ∧ S'.o = S.o
theorem fnG_of {P : Program} {w : World} {K : PySem.W.Frag} {mg : Str → Option Value} {base : Heap} {DI : Addr → GH → Prop} {k : Nat} {x qual : Str} {st : Stmt} {f : Addr} {fd : FuncData} {N ps : List Str} {n : Nat} {sp : WF} {b : WS}
    (F : L2.Fun K x qual st f fd) (sc : FnScope N ps (defScope st)) (hn : ps.length = n)
    (hbody : ∀ (X : Cx), X.prog = P → X.w = w → X.K = K → X.mg = mg → X.base = base → X.N = N → X.env.scope = defScope st → X.calm = true → Room k X.A → X.A.guards = some [] → (X.xe = fun _ _ => False) → (X.fn = fun _ => true) → PSs X (defBody st) (lftS K DI b))
    (hsp : ∀ ds S R, ds.length = n → sp ds S R → b ⟨fun _ S' => R .non S', R, fun _ _ => False, fun _ _ => False⟩ (startD N ds) S) :
    FnG P w K mg base (k + 1) f fd ps (spOf K DI n sp) := by
  refine ⟨fun vs H Q E h => by rw [hn]; exact h.1, fun A outer s H args us vs Q E hr hgu e0 hb r hq => ?_⟩
  obtain ⟨oc, od, kV, doc, pm, an, cdv, ct, osl, rfl, lk, hcd⟩ := F.ex
  have hl : vs.length = ps.length := by rw [hn]; exact hq.1
  have KX : K.In s.heap := e0.mod.kin.keeps fun b o e => (e0.bs b o e).1
  have lim : s.heap.NoLimit := e0.mod.nolimit.keeps fun b o e => (e0.bs b o e).1
  refine codeAny_call_function hr.depth (KX _ _ lk) rfl sc.co sc.gen rfl (PySem.W.codeRec_of KX hcd) (hb _ _ _ _ ?_)
  refine wpAny_newFunctionEnv_cells sc.kind (fun y hy => ?_) fun env he s1 x => ?_
  · have hm := (List.of_mem_zip (show (y.1, y.2) ∈ ps.zip us from hy)).1
    rcases sc.par y.1 hm with q | q
    · exact .inl q
    · exact .inr ⟨q, PySem.W.cellsFrom_some _ _ _ (.inl q)⟩
  · subst he
    refine ⟨lim.keeps x.toInCall.keep, codeAny_func ?_⟩
    have I := inv_start (CX := CX0) (E := E) sc hr.hd e0 hl r x
    generalize hX : cxOf CX0 P w K mg base N qual (defScope st) f cdv A outer s H E = X at I
    have I2 : Inv X.nox [] (L2.start N vs) H s1 := I.wish _
    have hb2 := hbody X.nox (by rw [← hX]; rfl) (by rw [← hX]; rfl) (by rw [← hX]; rfl) (by rw [← hX]; rfl) (by rw [← hX]; rfl) (by rw [← hX]; rfl) (by rw [← hX]; rfl) (by rw [← hX]; rfl) (by rw [← hX]; exact hr.deeper _) (by rw [← hX]; exact hgu) rfl (by rw [← hX]; rfl)
    obtain ⟨hlen, F0, ds, S, R, rel, den, q, fin⟩ := hq
    have hds : ds.length = n := by rw [den.length]; exact hlen
    have body := hb2.run [] s1 (L2.start N vs) H { nx := fun _ H' => Q .non H', rt := Q } I2 ⟨F0, startD N ds, S, _, rel, .start den, hsp ds S R hds q,
      ⟨fun ρ S' σ H' r' rel' k' _ => fin _ _ _ _ r' rel' k' .non, fun d S' v H' r' rel' k' den' => fin _ _ _ _ r' rel' k' den', fun _ _ _ _ z => z.elim, fun _ _ _ _ z => z.elim⟩⟩
    have eX : wpAny (model P w) (A.deeper (envOfC qual (defScope st) s.heap.objs.size f cdv)) (execs (defBody st) (envOfC qual (defScope st) s.heap.objs.size f cdv)) (SP X.nox [] { nx := fun _ H' => Q .non H', rt := Q }) (fun _ _ => False) s1 := by
      rw [← hX] at body ⊢
      exact body
    refine wpAny_mono eX (fun fl s' hs => ?_) fun e s' hs => hs.elim
    have fin2 : ∀ {σ' : L2.St} {H' : Hp} {v : V} {u : Value}, Inv X.nox [] σ' H' s' → RelV v u → Q v H' → CE outer P w H s Q u s' := fun {σ' H' v u} J rv q => by
      rw [← hX] at J
      exact ⟨v, H', J.os, J.bare, J.base, J.hok, rv, q⟩
    cases fl with
    | ret u =>
      obtain ⟨v, σ', H', J, rv, q⟩ := hs
      exact fin2 J rv q
    | next =>
      obtain ⟨σ', H', J, q⟩ := hs
      exact fin2 (v := V.non) (u := Value.none) J rfl q
    | brk =>
      obtain ⟨_, _, _, q⟩ := hs
      exact q.elim
    | cont =>
      obtain ⟨_, _, _, q⟩ := hs
      exact q.elim
end
end Dv

/-! Dv8: built-in functions and methods, by data. -/
namespace Dv
open PySem PySem.Spec L2
open PyProof.Rows hiding St

section
variable {X : Cx} {DI : Addr → GH → Prop}
theorem de_callB {id : String} {f : WF} {x : Str} {p pos : Pos} {e : Expr} {es : List Expr} {wa : WA} (hc : CallR X (.builtin id) (lftF X.K DI f)) (hg : Gl X x) (hm : X.mg x = none) (hv : bootBuiltins x = some (.builtin id)) (ha : PA X (e :: es) (lftA X.K DI wa)) (hn : x ≠ "__name__") (hdb : (x == ("__debug__" : Str)) = false)
    (he : starEach (e :: es) X.env = (false, eval e X.env) :: starEach es X.env) (hpl : (backTo pos (starEach es X.env)).any (·.1) = false) : PE X (.Call (.Name x p) (e :: es) [] pos) (lft X.K DI (wCall f wa)) :=
  (pe_callB hc hg hm hv ha hn hdb he hpl).imp fun σ H Q q => by
    obtain ⟨F, ρ, S, R, rel, env, w, fin⟩ := q
    exact ⟨F, ρ, S, _, rel, env, w, fun ds S1 vs H1 q1 rel1 k1 d1 => ⟨F, ds, S1, R, rel1, d1, q1, fin.up k1⟩⟩
theorem de_callT {T : String} {f : WF} {x : Str} {p pos : Pos} {e : Expr} {es : List Expr} {wa : WA} (hc : CallR X (.type T) (lftF X.K DI f)) (hg : Gl X x) (hm : X.mg x = none) (hv : bootBuiltins x = some (.type T)) (ha : PA X (e :: es) (lftA X.K DI wa)) (hn : x ≠ "__name__") (hdb : (x == ("__debug__" : Str)) = false)
    (he : starEach (e :: es) X.env = (false, eval e X.env) :: starEach es X.env) (hpl : (backTo pos (starEach es X.env)).any (·.1) = false) : PE X (.Call (.Name x p) (e :: es) [] pos) (lft X.K DI (wCall f wa)) :=
  (pe_callTy hc hg hm hv ha hn hdb he hpl).imp fun σ H Q q => by
    obtain ⟨F, ρ, S, R, rel, env, w, fin⟩ := q
    exact ⟨F, ρ, S, _, rel, env, w, fun ds S1 vs H1 q1 rel1 k1 d1 => ⟨F, ds, S1, R, rel1, d1, q1, fin.up k1⟩⟩

/-- one argument -/
def f1 (g : D → GS → (D → GS → Prop) → Prop) : WF := fun ds S Q => match ds with
  | [d] => g d S Q
  | _ => False
def f2 (g : D → D → GS → (D → GS → Prop) → Prop) : WF := fun ds S Q => match ds with
  | [d, e] => g d e S Q
  | _ => False
theorem f1_ok {f : Value} {g : D → GS → (D → GS → Prop) → Prop} {r : List V → Hp → VK → Prop} (h : CallR X f r) (i : ∀ F d v S R H Q, Rel X.K DI F S H → Den X.K H d v → g d S R → Fin X.K DI F H R Q → r [v] H Q) : CallR X f (lftF X.K DI (f1 g)) := h.imp fun xs H Q q => by
  obtain ⟨F, ds, S, R, rel, den, w, fin⟩ := q
  unfold f1 at w
  split at w
  · obtain ⟨v, rfl, dv⟩ := den.oneV
    exact i F _ v S R H Q rel dv w fin
  · exact w.elim
theorem f2_ok {f : Value} {g : D → D → GS → (D → GS → Prop) → Prop} {r : List V → Hp → VK → Prop} (h : CallR X f r) (i : ∀ F d e v u S R H Q, Rel X.K DI F S H → Den X.K H d v → Den X.K H e u → g d e S R → Fin X.K DI F H R Q → r [v, u] H Q) : CallR X f (lftF X.K DI (f2 g)) := h.imp fun xs H Q q => by
  obtain ⟨F, ds, S, R, rel, den, w, fin⟩ := q
  unfold f2 at w
  split at w
  · obtain ⟨v, u, rfl, dv, du⟩ := den.twoV
    exact i F _ _ v u S R H Q rel dv du w fin
  · exact w.elim

/-- len -/
def lenD (S : GS) : D → Option Nat
  | .str x => if x.length ≤ sizeLine then some x.length else none
  | d => match asQ S d with
    | some ds => some ds.length
    | none => (asK S d).map (·.length)
def fLen : WF := f1 fun d S Q => match lenD S d with
  | some n => Q (.int n) S
  | none => False
theorem call_lenK : CallR X (.builtin "len") (fun xs H Q => ∃ a kvs, xs = [.ref a] ∧ Rd H a (.dK kvs) ∧ Q (.int kvs.length) H) := by
  intro pins s σ H xs us Q I r h
  obtain ⟨a, kvs, rfl, t, q⟩ := h
  rw [Vals.ref1 r]
  exact d_len I t fun t s' I' => ⟨.int kvs.length, H, I', ⟨t, rfl⟩, q⟩
theorem dc_len : CallR X (.builtin "len") (lftF X.K DI fLen) := f1_ok (call_len_seq.or (call_len_str.or call_lenK)) fun F d v S R H Q rel den w fin => by
  split at w
  · rename_i n e
    unfold lenD at e
    split at e
    · split at e
      · cases e
        cases den
        rename_i hz
        exact .inr (.inl ⟨_, rfl, hz, fin.at0 w rel (.int _)⟩)
      · cases e
    · split at e
      · rename_i ds e1
        cases e
        obtain ⟨a, vs, rfl, t, dl⟩ := asQ_ok rel den e1
        rw [dl.length] at w
        exact .inl ⟨a, vs, rfl, t, fin.at0 w rel (.int _)⟩
      · cases e2 : asK S d with
        | none => rw [e2] at e; cases e
        | some kvs =>
          rw [e2] at e
          cases e
          obtain ⟨a, vs, rfl, t, dl⟩ := asK_ok rel den e2
          have w : R (.int kvs.length) S := w
          rw [dl.length] at w
          exact .inr (.inr ⟨a, vs, rfl, t, fin.at0 w rel (.int _)⟩)
  · exact w.elim
/-- int(i), int(b) -/
def fInt : WF := f1 fun d S Q => match d with
  | .int i => Q (.int i) S
  | .bl b => Q (.int (if b then 1 else 0)) S
  | _ => False
theorem dc_int : CallR X (.type "int") (lftF X.K DI fInt) := f1_ok call_int1 fun F d v S R H Q rel den w fin => by
  split at w
  · cases den
    exact .inl ⟨_, rfl, fin.at0 w rel (.int _)⟩
  · cases den
    exact .inr ⟨_, rfl, fin.at0 w rel (.int _)⟩
  · exact w.elim
def fAbs : WF := f1 fun d S Q => match d with
  | .int i => Q (.int (if i < 0 then -i else i)) S
  | _ => False
theorem dc_abs : CallR X (.builtin "abs") (lftF X.K DI fAbs) := f1_ok call_abs fun F d v S R H Q rel den w fin => by
  split at w
  · cases den
    exact ⟨_, rfl, fin.at0 w rel (.int _)⟩
  · exact w.elim
def fMax : WF := f2 fun d e S Q => match d, e with
  | .int i, .int j => Q (.int (if j > i then j else i)) S
  | _, _ => False
theorem dc_max (hc : X.calm = true) : CallR X (.builtin "max") (lftF X.K DI fMax) := f2_ok (call_max2 hc) fun F d e v u S R H Q rel dd de w fin => by
  split at w
  · cases dd
    cases de
    exact ⟨_, _, rfl, fin.at0 w rel (.int _)⟩
  · exact w.elim
def fMin : WF := f2 fun d e S Q => match d, e with
  | .int i, .int j => Q (.int (if j < i then j else i)) S
  | _, _ => False
theorem dc_min (hc : X.calm = true) : CallR X (.builtin "min") (lftF X.K DI fMin) := f2_ok (call_min2 hc) fun F d e v u S R H Q rel dd de w fin => by
  split at w
  · cases dd
    cases de
    exact ⟨_, _, rfl, fin.at0 w rel (.int _)⟩
  · exact w.elim
/-- list(..) of a list or tuple, told by what it holds; by its address -/
def fList : WF := f1 fun d S Q => match asQ S d with
  | some ds => Q (.lst ds) S
  | none => False
def fListN : WF := f1 fun d S Q => match asQ S d with
  | some ds => ∀ p, S.g p = none → Q (.ref p) (S.set p (.lst ds))
  | none => False
theorem dc_list : CallR X (.type "list") (lftF X.K DI fList) := f1_ok (callLQ call_list_of) fun F d v S R H Q rel den w fin => by
  split at w
  · rename_i ds e
    obtain ⟨a, vs, rfl, t, dl⟩ := asQ_ok rel den e
    exact ⟨a, vs, rfl, t, fun l hl => fin.lst w rel (.refl _) dl hl⟩
  · exact w.elim
theorem dc_listN : CallR X (.type "list") (lftF X.K DI fListN) := f1_ok call_list_of fun F d v S R H Q rel den w fin => by
  split at w
  · rename_i ds e
    obtain ⟨a, vs, rfl, t, dl⟩ := asQ_ok rel den e
    exact ⟨a, vs, rfl, t, fun l hl => fin.newL (w l (rel.free hl)) rel (.refl _) dl hl⟩
  · exact w.elim
def fTuple : WF := f1 fun d S Q => match asQ S d with
  | some ds => Q (.tup ds) S
  | none => False
theorem dc_tuple : CallR X (.type "tuple") (lftF X.K DI fTuple) := f1_ok call_tuple_of fun F d v S R H Q rel den w fin => by
  split at w
  · rename_i ds e
    obtain ⟨a, vs, rfl, t, dl⟩ := asQ_ok rel den e
    refine ⟨a, vs, rfl, ?_⟩
    rcases t with t | t
    · exact .inl ⟨t, fun l hl => fin.tup w rel (.refl _) dl hl⟩
    · exact .inr ⟨t, fin.at0 w rel (.tup t dl)⟩
  · exact w.elim
/-- any, all of a list of bools -/
def bools : List D → Option (List Bool)
  | [] => some []
  | .bl b :: r => (bools r).map (b :: ·)
  | _ :: _ => none
theorem bools_ok {K : PySem.W.Frag} {H : Hp} : ∀ {ds : List D} {vs : List V} {bs : List Bool}, DenL K H ds vs → bools ds = some bs → vs = bs.map V.bl
  | [], _, _, h, e => by cases h; cases e; rfl
  | .bl b :: r, _, _, h, e => by
    cases h with
    | cons h1 h2 =>
      cases h1
      cases q : bools r with
      | none => simp [bools, q] at e
      | some cs =>
        simp [bools, q] at e
        subst e
        rw [bools_ok h2 q]
        rfl
  | .non :: _, _, _, _, e | .int _ :: _, _, _, _, e | .str _ :: _, _, _, _, e | .ty _ :: _, _, _, _, e | .ref _ :: _, _, _, _, e | .tup _ :: _, _, _, _, e | .lst _ :: _, _, _, _, e | .dct _ :: _, _, _, _, e => by simp [bools] at e
def fAny : WF := f1 fun d S Q => match asL S d with
  | some ds => match bools ds with
    | some bs => Q (.bl (bs.any id)) S
    | none => False
  | none => False
def fAll : WF := f1 fun d S Q => match asL S d with
  | some ds => match bools ds with
    | some bs => Q (.bl (bs.all id)) S
    | none => False
  | none => False
theorem dc_any (hc : X.calm = true) : CallR X (.builtin "any") (lftF X.K DI fAny) := f1_ok (cr_any hc) fun F d v S R H Q rel den w fin => by
  split at w
  · rename_i ds e
    split at w
    · rename_i bs eb
      obtain ⟨a, vs, rfl, t, dl⟩ := asL_ok rel den e
      have z := bools_ok dl eb
      subst z
      exact ⟨a, bs, rfl, .inl t, fin.at0 w rel (.bl _)⟩
    · exact w.elim
  · exact w.elim
theorem dc_all (hc : X.calm = true) : CallR X (.builtin "all") (lftF X.K DI fAll) := f1_ok (cr_all hc) fun F d v S R H Q rel den w fin => by
  split at w
  · rename_i ds e
    split at w
    · rename_i bs eb
      obtain ⟨a, vs, rfl, t, dl⟩ := asL_ok rel den e
      have z := bools_ok dl eb
      subst z
      exact ⟨a, bs, rfl, .inl t, fin.at0 w rel (.bl _)⟩
    · exact w.elim
  · exact w.elim
/-- isinstance(x, T), T a built-in class -/
def tyD (S : GS) : D → Option String
  | .non => some "NoneType"
  | .bl _ => some "bool"
  | .int _ => some "int"
  | .str _ => some "str"
  | .ty _ => none
  | .tup _ => some "tuple"
  | .lst _ => some "list"
  | .dct _ => some "dict"
  | .ref p => match S.g p with
    | some (.lst _) => some "list"
    | some (.dct _) => some "dict"
    | some (.fct _) => some "dict"
    | none => none
def isiB (t c : String) : Option Bool :=
  if c = "str" ∨ c = "tuple" ∨ c = "list" ∨ c = "bool" ∨ c = "dict" then some (decide (t = c)) else if c = "int" then some (decide (t = "int" ∨ t = "bool")) else none
def fIsi : WF := f2 fun d e S Q => match e with
  | .ty c => match tyD S d with
    | some t => match isiB t c with
      | some b => Q (.bl b) S
      | none => False
    | none => False
  | _ => False
theorem tyD_ok {K : PySem.W.Frag} {F H : Hp} {S : GS} {d : D} {v : V} {t : String} (rel : Rel K DI F S H) (den : Den K H d v) (e : tyD S d = some t) : TyX K H v (.type t) := by
  cases den with
  | non => cases e; exact .base .non
  | bl b => cases e; exact .base (.bl b)
  | int b => cases e; exact .base (.int b)
  | str b => cases e; exact .base (.str b)
  | ty b => cases e
  | tup h1 h2 =>
    cases e
    rcases h1 with (h | ⟨o, h⟩) | ⟨o, its, n, h, hc, _⟩
    · exact .base (.tup h)
    · exact .fTuple h
    · exact .kTuple h hc
  | lst h1 h2 => cases e; exact .base (.frz h1)
  | dct h1 h2 => cases e; exact .fDict h1
  | ref p =>
    simp only [tyD] at e
    split at e <;> rename_i q
    · cases e
      obtain ⟨vs, e1, _⟩ := rel.rep _ _ q
      exact .base (.lst e1)
    · cases e
      obtain ⟨vs, e1, _⟩ := rel.rep _ _ q
      exact .base (.dK e1)
    · cases e
      obtain ⟨o, vs, e1, _⟩ := rel.rep _ _ q
      exact .fDict e1
    · cases e

theorem isiB_ok {t c : String} {b : Bool} (ht : t = "NoneType" ∨ t = "bool" ∨ t = "int" ∨ t = "str" ∨ t = "tuple" ∨ t = "list" ∨ t = "dict") (h : isiB t c = some b) : kitB t c = some b := by
  unfold isiB at h
  split at h
  · rename_i hc
    cases h
    rcases hc with rfl | rfl | rfl | rfl | rfl <;> rcases ht with rfl | rfl | rfl | rfl | rfl | rfl | rfl <;> decide +kernel
  · split at h
    · rename_i hc
      cases h
      subst hc
      rcases ht with rfl | rfl | rfl | rfl | rfl | rfl | rfl <;> decide +kernel
    · cases h
theorem tyD_in {S : GS} {d : D} {t : String} (e : tyD S d = some t) : t = "NoneType" ∨ t = "bool" ∨ t = "int" ∨ t = "str" ∨ t = "tuple" ∨ t = "list" ∨ t = "dict" := by
  cases d <;> simp only [tyD] at e
  case ref p => split at e <;> first | (cases e; simp) | cases e
  all_goals first | (cases e; simp) | cases e
theorem dc_isi : CallR X (.builtin "isinstance") (lftF X.K DI fIsi) := f2_ok call_isi fun F d e v u S R H Q rel dd de w fin => by
  split at w
  · split at w
    · rename_i t ht
      split at w
      · rename_i b hb
        cases de
        exact ⟨v, _, .type t, .type _, b, rfl, .ty _, tyD_ok rel dd ht, kit_ty (isiB_ok (tyD_in ht) hb), fin.at0 w rel (.bl _)⟩
      · exact w.elim
    · exact w.elim
  · exact w.elim

/-! ### repr -/
/-- the text of a value -/
def shw (d : D) : Str := (dat d).shown
/-- may be shown: told by what it holds, no too great ints, not too long, not too deep -/
def shOk (d : D) : Prop := pure? d = true ∧ (dat d).showable = true ∧ (dat d).shown.length ≤ sizeLine ∧ dep d ≤ 64
section
variable {pins : List (Addr × Obj)} {σ : L2.St} {H : Hp} {s : Shared}
abbrev Shn (X : Cx) (s : Shared) (u : Value) (d : PyData) : Prop := ∃ as bs, Reads s.heap u d as ∧ ReadAtMost s.heap d.depth bs ∧ ReprK X.prog X.w bs s.heap d.depth u d.shown
abbrev ShnL (X : Cx) (s : Shared) (us : List Value) (ds : List PyData) : Prop := ∃ as bs, ReadsAll s.heap us ds as ∧ ReadAtMost s.heap (PyData.depthAll ds) bs ∧ ReprAllK X.prog X.w bs s.heap (PyData.depthAll ds) us (PyData.shownAll ds)
theorem shn_cons {u : Value} {us : List Value} {d : PyData} {ds : List PyData} (h1 : Shn X s u d) (h2 : ShnL X s us ds) : ShnL X s (u :: us) (d :: ds) := by
  obtain ⟨a1, b1, r1, m1, k1⟩ := h1
  obtain ⟨a2, b2, r2, m2, k2⟩ := h2
  have l1 : d.depth ≤ PyData.depthAll (d :: ds) := by simp only [PyData.depthAll]; exact Nat.le_max_left _ _
  have l2 : PyData.depthAll ds ≤ PyData.depthAll (d :: ds) := by simp only [PyData.depthAll]; exact Nat.le_max_right _ _
  refine ⟨a1 ++ a2, b1 ++ b2, .cons r1 r2, (m1.mono l1).append (m2.mono l2), ?_⟩
  simp only [PyData.shownAll]
  exact .cons ((k1.more fun b hb => List.mem_append_left _ hb).level_le l1) (k2.more_le (fun b hb => List.mem_append_right _ hb) l2)
theorem shn_list {a : Addr} {its : List Value} {n : Nat} {o : Obj} {ds : List PyData} (h1 : s.heap.get? a = some o) (h2 : o.cls = .type "list") (h3 : o.data = .seq its.toArray n) (h : ShnL X s its ds) : Shn X s (.ref a) (.list ds) := by
  obtain ⟨as, bs, r, m, k⟩ := h
  have rr : Reads s.heap (.ref a) (.list ds) (a :: as) := .list h1 h2 h3 (by simpa using r)
  have hna : a ∉ bs := not_mem_of_deeper rr (by simp only [PyData.depth]; omega) m
  refine ⟨_, a :: bs, rr, ReadAtMost.cons rr (by simp only [PyData.depth]; omega) m, ?_⟩
  simp only [PyData.depth, PyData.shown]
  cases its with
  | nil =>
    cases r
    simp only [PyData.shownAll, listText_nil]
    exact ReprK.listEmpty h1 h2 h3
  | cons x l => exact ReprK.list h1 h2 h3 hna (by simpa using k.length_eq) (fun i y e => k.item i y (by simpa using e))
theorem shn_tup {a : Addr} {its : List Value} {n : Nat} {o : Obj} {ds : List PyData} (h1 : s.heap.get? a = some o) (h2 : o.cls = .type "tuple") (h3 : o.data = .seq its.toArray n) (h : ShnL X s its ds) : Shn X s (.ref a) (.tuple ds) := by
  obtain ⟨as, bs, r, m, k⟩ := h
  have rr : Reads s.heap (.ref a) (.tuple ds) as := .tuple h1 h2 h3 (by simpa using r)
  have hna : a ∉ bs := not_mem_of_deeper rr (by simp only [PyData.depth]; omega) m
  refine ⟨_, a :: bs, rr, ReadAtMost.cons rr (by simp only [PyData.depth]; omega) m, ?_⟩
  simp only [PyData.depth, PyData.shown]
  exact ReprK.tuple h1 h2 h3 hna (by simpa using k)
def datKey : Key → PyData
  | .inl i => .int i
  | .inr x => .str x
theorem shn_key {k : Key} {u : Value} (h : keyIs k u = true) (hs : (datKey k).showable = true) (hz : (datKey k).shown.length ≤ sizeLine) : Shn X s u (datKey k) := by
  rcases keyIs_shape h with ⟨i, t, rfl, rfl⟩ | ⟨x, t, rfl, rfl⟩
  · refine ⟨[], [], .int i t, (fun _ z => nomatch z), ?_⟩
    simp only [datKey, PyData.shown]
    exact .of_is (ReprIs.int t (by simpa [datKey, PyData.showable] using hs)) _ _ _
  · refine ⟨[], [], .str x t, (fun _ z => nomatch z), ?_⟩
    simp only [datKey, PyData.shown]
    exact .of_is (ReprIs.str x t (by simpa only [datKey, PyData.shown] using hz)) _ _ _
theorem shn_dict {a : Addr} {o : Obj} {es : Array DictEntry} {n : Nat} {kvs : List (PyData × PyData)} (h1 : s.heap.get? a = some o) (h2 : o.cls = .type "dict") (h3 : o.data = .dict es n) (hs : (a == sysModules) = false)
    (hk : ShnL X s (es.toList.map (·.key)) (kvs.map (·.1))) (hv : ShnL X s (es.toList.map (·.val)) (kvs.map (·.2))) : Shn X s (.ref a) (.dict kvs) := by
  obtain ⟨as, b1, r1, m1, k1⟩ := hk
  obtain ⟨bs, b2, r2, m2, k2⟩ := hv
  have rr : Reads s.heap (.ref a) (.dict kvs) (a :: as ++ bs) := .dict h1 h2 h3 r1 r2
  have m : ReadAtMost s.heap (PyData.depthKv kvs) (b1 ++ b2) := (m1.mono (PyData.depthAll_keys_le kvs)).append (m2.mono (PyData.depthAll_vals_le kvs))
  have hna : a ∉ b1 ++ b2 := not_mem_of_deeper rr (by simp only [PyData.depth]; omega) m
  refine ⟨_, a :: (b1 ++ b2), rr, ReadAtMost.cons rr (by simp only [PyData.depth]; omega) m, ?_⟩
  simp only [PyData.depth, PyData.shown, PyData.shownKv_eq]
  exact ReprK.dict h1 h2 h3 hs hna (ReprEntriesK.of_two es.toList _ _ (k1.more_le (fun b hb => List.mem_append_left _ hb) (PyData.depthAll_keys_le kvs)) (k2.more_le (fun b hb => List.mem_append_right _ hb) (PyData.depthAll_vals_le kvs)))
theorem datK_eq : ∀ kvs : List (Key × D), datK kvs = kvs.map fun p => (datKey p.1, dat p.2)
  | [] => by simp [datK]
  | (k, d) :: r => by
    cases k <;> simp [datK, datKey, datK_eq r]
mutual
theorem den_shn (I : Inv X pins σ H s) : ∀ (d : D) (v : V) (u : Value), pure? d = true → (dat d).showable = true → (dat d).shown.length ≤ sizeLine → Den X.K H d v → RelV v u → Shn X s u (dat d)
  | .non, _, _, _, _, _, h, r => by
    cases h
    cases r
    refine ⟨[], [], by rw [dat]; exact .none, (fun _ z => nomatch z), ?_⟩
    simp only [dat, PyData.shown]
    exact .of_is ReprIs.none _ _ _
  | .bl b, _, _, _, _, _, h, r => by
    cases h
    cases r
    refine ⟨[], [], by rw [dat]; exact .bool b, (fun _ z => nomatch z), ?_⟩
    simp only [dat, PyData.shown]
    exact .of_is (ReprIs.bool b) _ _ _
  | .int i, _, _, _, hs, _, h, r => by
    cases h
    obtain ⟨t, rfl⟩ := r
    refine ⟨[], [], by rw [dat]; exact .int i t, (fun _ z => nomatch z), ?_⟩
    simp only [dat, PyData.shown]
    exact .of_is (ReprIs.int t (by simpa [dat, PyData.showable] using hs)) _ _ _
  | .str x, _, _, _, _, hz, h, r => by
    cases h
    obtain ⟨t, rfl⟩ := r
    refine ⟨[], [], by rw [dat]; exact .str x t, (fun _ z => nomatch z), ?_⟩
    simp only [dat, PyData.shown]
    exact .of_is (ReprIs.str x t (by simpa only [dat, PyData.shown] using hz)) _ _ _
  | .ty _, _, _, p, _, _, _, _ => by simp [pure?] at p
  | .ref _, _, _, p, _, _, _, _ => by simp [pure?] at p
  | .tup ds, _, _, p, hs, hz, h, r => by
    cases h with
    | tup h1 h2 =>
      cases r
      obtain ⟨its, rv, ⟨o, e1, e2, n, e3⟩, _⟩ := I.tuple h1
      rw [dat] at hs hz ⊢
      have hz' : (tupleText (PyData.shownAll (datL ds))).length ≤ sizeLine := by simpa only [PyData.shown] using hz
      exact shn_tup e1 e2 e3 (denL_shn I ds _ its (by simpa [pure?] using p) (by simpa [PyData.showable] using hs) (fun t ht => Nat.le_trans (tupleText_mem_le ht) hz') h2 rv)
  | .lst ds, _, _, p, hs, hz, h, r => by
    cases h with
    | lst h1 h2 =>
      cases r
      obtain ⟨hg, _, its, n, rv, e⟩ := I.hok _ _ h1
      rw [hg] at e
      cases e
      rw [dat] at hs hz ⊢
      have hz' : (listText (PyData.shownAll (datL ds))).length ≤ sizeLine := by simpa only [PyData.shown] using hz
      exact shn_list hg rfl rfl (denL_shn I ds _ its (by simpa [pure?] using p) (by simpa [PyData.showable] using hs) (fun t ht => Nat.le_trans (listText_mem_le ht) hz') h2 rv)
  | .dct kvs, _, _, p, hs, hz, h, r => by
    cases h with
    | dct h1 h2 =>
      cases r
      obtain ⟨hsy, hgd, hx, es, ep, vs, hdt, hsz, kv, hm⟩ := I.frzK h1
      obtain ⟨o', es', ho', hx', hdt', _, prs, _⟩ := hm
      rw [hgd] at ho'
      cases ho'
      rw [hdt] at hdt'
      cases hdt'
      rw [dat, datK_eq] at hs hz ⊢
      have hz' : (dictText (PyData.shownKv (kvs.map fun p => (datKey p.1, dat p.2)))).length ≤ sizeLine := by simpa only [PyData.shown] using hz
      have hs' := PyData.showableKv_split _ (by simpa [PyData.showable] using hs : PyData.showableKv (kvs.map fun p => (datKey p.1, dat p.2)) = true)
      have q := denK_shn I kvs _ vs es.toList (by simpa [pure?] using p) hs'.1 hs'.2
        (fun t ht => let ⟨p, hp, hl⟩ := PyData.shownKv_key_le _ t ht; Nat.le_trans hl (Nat.le_trans (dictText_mem_le hp) hz')) (fun t ht => let ⟨p, hp, hl⟩ := PyData.shownKv_val_le _ t ht; Nat.le_trans hl (Nat.le_trans (dictText_mem_le hp) hz')) h2 kv prs
      exact shn_dict hgd hx.1 hdt hsy q.1 q.2
theorem denL_shn (I : Inv X pins σ H s) : ∀ (ds : List D) (vs : List V) (us : List Value), pureL ds = true → PyData.showableAll (datL ds) = true → (∀ t ∈ PyData.shownAll (datL ds), t.length ≤ sizeLine) → DenL X.K H ds vs → Vals vs us → ShnL X s us (datL ds)
  | [], _, _, _, _, _, h, r => by
    cases h
    cases r
    refine ⟨[], [], by rw [datL]; exact .nil, (fun _ z => nomatch z), ?_⟩
    simp only [datL, PyData.shownAll]
    exact .nil
  | d :: ds, _, _, p, hs, hz, h, r => by
    cases h with
    | cons h1 h2 =>
      cases r with
      | cons r1 r2 =>
        have p' : pure? d = true ∧ pureL ds = true := by simpa [pureL] using p
        rw [datL] at hs hz ⊢
        have hs' : (dat d).showable = true ∧ PyData.showableAll (datL ds) = true := by simpa [PyData.showableAll] using hs
        simp only [PyData.shownAll, List.mem_cons, forall_eq_or_imp] at hz
        exact shn_cons (den_shn I d _ _ p'.1 hs'.1 hz.1 h1 r1) (denL_shn I ds _ _ p'.2 hs'.2 hz.2 h2 r2)
theorem denK_shn (I : Inv X pins σ H s) : ∀ (kvs : List (Key × D)) (ks : List (Key × V)) (vs : List (Key × Value)) (es : List DictEntry), pureK kvs = true → PyData.showableAll ((kvs.map fun p => (datKey p.1, dat p.2)).map (·.1)) = true →
    PyData.showableAll ((kvs.map fun p => (datKey p.1, dat p.2)).map (·.2)) = true → (∀ t ∈ PyData.shownAll ((kvs.map fun p => (datKey p.1, dat p.2)).map (·.1)), t.length ≤ sizeLine) → (∀ t ∈ PyData.shownAll ((kvs.map fun p => (datKey p.1, dat p.2)).map (·.2)), t.length ≤ sizeLine) →
    DenK X.K H kvs ks → KV ks vs → Pairs (mixKind X.prog X.w) es vs → ShnL X s (es.map (·.key)) ((kvs.map fun p => (datKey p.1, dat p.2)).map (·.1)) ∧ ShnL X s (es.map (·.val)) ((kvs.map fun p => (datKey p.1, dat p.2)).map (·.2))
  | [], _, _, _, _, _, _, _, _, h, r, q => by
    cases h
    cases r
    cases q
    have z : ShnL X s [] [] := ⟨[], [], .nil, (fun _ z => nomatch z), by simp only [PyData.shownAll]; exact .nil⟩
    exact ⟨z, z⟩
  | (k, d) :: r, _, _, _, p, hs1, hs2, hz1, hz2, h, kv, q => by
    cases h with
    | cons h1 h2 =>
      cases kv with
      | cons rk kr =>
        cases q with
        | cons e1 e2 qr =>
          have p' : pure? d = true ∧ pureK r = true := by simpa [pureK] using p
          simp only [List.map_cons, PyData.showableAll, Bool.and_eq_true] at hs1 hs2
          simp only [List.map_cons, PyData.shownAll, List.mem_cons, forall_eq_or_imp] at hz1 hz2
          obtain ⟨rk1, rk2⟩ := rk
          have ih := denK_shn I r _ _ _ p'.2 hs1.2 hs2.2 hz1.2 hz2.2 h2 kr qr
          simp only [List.map_cons]
          refine ⟨shn_cons (shn_key (by rw [show k = _ from rk1]; exact e1) hs1.1 hz1.1) ih.1, shn_cons (den_shn I d _ _ p'.1 hs2.1 hz2.1 h1 (by rw [e2]; exact rk2)) ih.2⟩
end
/-- the text of what is shown, at the top -/
def TopR (X : Cx) (s : Shared) (u : Value) (d : PyData) : Prop := X.A.guards = some [] → X.A.units + (d.depth + 1) < cLine → d.shown.length ≤ sizeLine →
  ∀ Q : Value → Shared → Prop, (∀ h' k tk, (∀ b o, s.heap.get? b = some o → h'.get? b = some o) → Q (.str d.shown k) { s with heap := h', toks := tk }) → wpAny (model X.prog X.w) X.A (call (.builtin "repr") [u]) Q X.xe s
theorem top_list {a : Addr} {its : List Value} {n : Nat} {o : Obj} {ds : List PyData} (h1 : s.heap.get? a = some o) (h2 : o.cls = .type "list") (h3 : o.data = .seq its.toArray n) (h : ShnL X s its ds) : TopR X s (.ref a) (.list ds) := by
  intro hg hu hz Q hq
  obtain ⟨as, bs, r, m, k⟩ := h
  have rr : Reads s.heap (.ref a) (.list ds) (a :: as) := .list h1 h2 h3 (by simpa using r)
  have hna : a ∉ bs := not_mem_of_deeper rr (by simp only [PyData.depth]; omega) m
  simp only [PyData.depth, PyData.shown] at hu hz hq
  refine call_repr_slot (by omega) (⟨o, h1, h2⟩ : s.TypeIs (.ref a) "list") F.slot_list_repr.toG ?_
  cases its with
  | nil =>
    cases r
    simp only [PyData.shownAll, listText_nil] at hq
    exact call_list_repr_empty (⟨o, h1, h2⟩ : s.TypeIs (.ref a) "list") h1 h3 ⟨_, _, rfl, hq s.heap _ _ fun _ _ e => e⟩
  | cons x l => exact call_list_reprK h1 h2 h3 hna (by simpa using k.length_eq) (fun i y e => k.item i y (by simpa using e)) hg (fun b _ => Clear.nil b) (by show X.A.units + 1 + _ < cLine; omega) (fun _ _ e => e) (fun h' u tk hk => ⟨_, _, rfl, hq h' u tk hk⟩) hz
theorem top_tup {a : Addr} {its : List Value} {n : Nat} {o : Obj} {ds : List PyData} (h1 : s.heap.get? a = some o) (h2 : o.cls = .type "tuple") (h3 : o.data = .seq its.toArray n) (h : ShnL X s its ds) : TopR X s (.ref a) (.tuple ds) := by
  intro hg hu hz Q hq
  obtain ⟨as, bs, r, m, k⟩ := h
  have rr : Reads s.heap (.ref a) (.tuple ds) as := .tuple h1 h2 h3 (by simpa using r)
  have hna : a ∉ bs := not_mem_of_deeper rr (by simp only [PyData.depth]; omega) m
  simp only [PyData.depth, PyData.shown] at hu hz hq
  exact call_repr_slot (by omega) (⟨o, h1, h2⟩ : s.TypeIs (.ref a) "tuple") F.slot_tuple_repr (call_tuple_reprK h1 h2 h3 hna (by simpa using k) hg (fun b _ => Clear.nil b) (by show X.A.units + 1 + _ < cLine; omega) (fun _ _ e => e) (fun h' u tk hk => ⟨_, _, rfl, hq h' u tk hk⟩) hz)
theorem top_dict {a : Addr} {o : Obj} {es : Array DictEntry} {n : Nat} {kvs : List (PyData × PyData)} (h1 : s.heap.get? a = some o) (h2 : o.cls = .type "dict") (h3 : o.data = .dict es n) (hs : (a == sysModules) = false)
    (hk : ShnL X s (es.toList.map (·.key)) (kvs.map (·.1))) (hv : ShnL X s (es.toList.map (·.val)) (kvs.map (·.2))) : TopR X s (.ref a) (.dict kvs) := by
  intro hg hu hz Q hq
  obtain ⟨as, b1, r1, m1, k1⟩ := hk
  obtain ⟨bs, b2, r2, m2, k2⟩ := hv
  have rr : Reads s.heap (.ref a) (.dict kvs) (a :: as ++ bs) := .dict h1 h2 h3 r1 r2
  have m : ReadAtMost s.heap (PyData.depthKv kvs) (b1 ++ b2) := (m1.mono (PyData.depthAll_keys_le kvs)).append (m2.mono (PyData.depthAll_vals_le kvs))
  have hna : a ∉ b1 ++ b2 := not_mem_of_deeper rr (by simp only [PyData.depth]; omega) m
  simp only [PyData.depth, PyData.shown, PyData.shownKv_eq] at hu hz hq
  exact call_repr_slot (by omega) (⟨o, h1, h2⟩ : s.TypeIs (.ref a) "dict") F.slot_dict_repr (call_dict_reprK h1 h2 h3 hs hna (ReprEntriesK.of_two es.toList _ _ (k1.more_le (fun b hb => List.mem_append_left _ hb) (PyData.depthAll_keys_le kvs)) (k2.more_le (fun b hb => List.mem_append_right _ hb) (PyData.depthAll_vals_le kvs)))
    hg (fun b _ => Clear.nil b) (by show X.A.units + 1 + _ < cLine; omega) (fun _ _ e => e) (fun h' u tk hk => ⟨_, _, rfl, hq h' u tk hk⟩) hz)
/-- .. of the dict at an address, locked or not -/
theorem top_dct (I : Inv X pins σ H s) {a : Addr} {o : Obj} {kvs : List (Key × D)} {ks : List (Key × V)} (h1 : H a = some (.frz o (.dK ks))) (h2 : DenK X.K H kvs ks) (p : pureK kvs = true) (hs : (dat (.dct kvs)).showable = true) (hz : (dat (.dct kvs)).shown.length ≤ sizeLine) : TopR X s (.ref a) (dat (.dct kvs)) := by
  obtain ⟨hsy, hgd, hx, es, ep, vs, hdt, hsz, kv, hm⟩ := I.frzK h1
  obtain ⟨o', es', ho', hx', hdt', _, prs, _⟩ := hm
  rw [hgd] at ho'
  cases ho'
  rw [hdt] at hdt'
  cases hdt'
  rw [dat, datK_eq] at hs hz ⊢
  have hz' : (dictText (PyData.shownKv (kvs.map fun p => (datKey p.1, dat p.2)))).length ≤ sizeLine := by simpa only [PyData.shown] using hz
  have hs' := PyData.showableKv_split _ (by simpa [PyData.showable] using hs : PyData.showableKv (kvs.map fun p => (datKey p.1, dat p.2)) = true)
  have q := denK_shn I kvs _ vs es.toList p hs'.1 hs'.2
    (fun t ht => let ⟨p, hp, hl⟩ := PyData.shownKv_key_le _ t ht; Nat.le_trans hl (Nat.le_trans (dictText_mem_le hp) hz')) (fun t ht => let ⟨p, hp, hl⟩ := PyData.shownKv_val_le _ t ht; Nat.le_trans hl (Nat.le_trans (dictText_mem_le hp) hz')) h2 kv prs
  exact top_dict hgd hx.1 hdt hsy q.1 q.2
theorem den_top (I : Inv X pins σ H s) : ∀ (d : D) (v : V) (u : Value), pure? d = true → (dat d).showable = true → (dat d).shown.length ≤ sizeLine → Den X.K H d v → RelV v u → TopR X s u (dat d)
  | .non, _, _, _, _, _, h, r => by
    cases h
    cases r
    intro _ _ _ Q hq
    simp only [dat, PyData.shown] at hq
    exact PySem.P.repr_of_none (hq s.heap _ _ fun _ _ e => e)
  | .bl b, _, _, _, _, _, h, r => by
    cases h
    cases r
    intro _ _ _ Q hq
    simp only [dat, PyData.shown] at hq
    exact PySem.P.repr_of_bool (hq s.heap _ _ fun _ _ e => e)
  | .int i, _, _, _, hs, _, h, r => by
    cases h
    obtain ⟨t, rfl⟩ := r
    intro _ _ _ Q hq
    simp only [dat, PyData.shown] at hq
    exact PySem.P.repr_of_int (by simpa [dat, PyData.showable] using hs) (hq s.heap _ _ fun _ _ e => e)
  | .str x, _, _, _, _, hz, h, r => by
    cases h
    obtain ⟨t, rfl⟩ := r
    intro _ _ _ Q hq
    simp only [dat, PyData.shown] at hq hz
    exact PySem.P.repr_of_str (hq s.heap _ _ fun _ _ e => e) hz
  | .ty _, _, _, p, _, _, _, _ => by simp [pure?] at p
  | .ref _, _, _, p, _, _, _, _ => by simp [pure?] at p
  | .tup ds, _, _, p, hs, hz, h, r => by
    cases h with
    | tup h1 h2 =>
      cases r
      obtain ⟨its, rv, ⟨o, e1, e2, n, e3⟩, _⟩ := I.tuple h1
      rw [dat] at hs hz ⊢
      have hz' : (tupleText (PyData.shownAll (datL ds))).length ≤ sizeLine := by simpa only [PyData.shown] using hz
      exact top_tup e1 e2 e3 (denL_shn I ds _ its (by simpa [pure?] using p) (by simpa [PyData.showable] using hs) (fun t ht => Nat.le_trans (tupleText_mem_le ht) hz') h2 rv)
  | .lst ds, _, _, p, hs, hz, h, r => by
    cases h with
    | lst h1 h2 =>
      cases r
      obtain ⟨hg, _, its, n, rv, e⟩ := I.hok _ _ h1
      rw [hg] at e
      cases e
      rw [dat] at hs hz ⊢
      have hz' : (listText (PyData.shownAll (datL ds))).length ≤ sizeLine := by simpa only [PyData.shown] using hz
      exact top_list hg rfl rfl (denL_shn I ds _ its (by simpa [pure?] using p) (by simpa [PyData.showable] using hs) (fun t ht => Nat.le_trans (listText_mem_le ht) hz') h2 rv)
  | .dct kvs, _, _, p, hs, hz, h, r => by
    cases h with
    | dct h1 h2 =>
      cases r
      exact top_dct I h1 h2 (by simpa [pure?] using p) hs hz
theorem snap_top {F : Hp} {S : GS} {d : D} {v : V} {u : Value} (I : Inv X pins σ H s) (rel : Rel X.K DI F S H) (den : Den X.K H d v) (r : RelV v u) (p : pure? (snap S d) = true) (hs : (dat (snap S d)).showable = true) (hz : (dat (snap S d)).shown.length ≤ sizeLine) : TopR X s u (dat (snap S d)) := by
  cases den with
  | ref a =>
    unfold snap at p hs hz ⊢
    cases e : S.g a with
    | none => simp [e, pure?] at p
    | some m =>
      cases r
      cases m with
      | lst ds =>
        simp only [e] at p hs hz ⊢
        obtain ⟨vs, e1, e2⟩ := rel.rep a _ e
        obtain ⟨_, its, n, rv, eg⟩ := I.hok _ _ e1
        rw [dat] at hs hz ⊢
        have hz' : (listText (PyData.shownAll (datL ds))).length ≤ sizeLine := by simpa only [PyData.shown] using hz
        exact top_list eg rfl rfl (denL_shn I ds _ its (by simpa [pure?] using p) (by simpa [PyData.showable] using hs) (fun t ht => Nat.le_trans (listText_mem_le ht) hz') e2 rv)
      | dct kvs =>
        simp only [e] at p hs hz ⊢
        obtain ⟨vs, e1, e2⟩ := rel.rep a _ e
        obtain ⟨od, I2⟩ := I.lock e1 trivial
        have k : Kp H (upd H a (.frz od (.dK vs))) := .dct e1
        exact top_dct I2 upd_same (e2.mn k) (by simpa [pure?] using p) hs hz
      | fct kvs =>
        simp only [e] at p hs hz ⊢
        obtain ⟨o, vs, e1, e2⟩ := rel.rep a _ e
        exact top_dct I e1 e2 (by simpa [pure?] using p) hs hz
  | non => exact den_top I _ _ u p hs hz .non r
  | bl b => exact den_top I _ _ u p hs hz (.bl b) r
  | int b => exact den_top I _ _ u p hs hz (.int b) r
  | str b => exact den_top I _ _ u p hs hz (.str b) r
  | ty b => exact den_top I _ _ u p hs hz (.ty b) r
  | tup h1 h2 => exact den_top I _ _ u p hs hz (.tup h1 h2) r
  | lst h1 h2 => exact den_top I _ _ u p hs hz (.lst h1 h2) r
  | dct h1 h2 => exact den_top I _ _ u p hs hz (.dct h1 h2) r
end
def fRepr : WF := f1 fun d S Q => shOk (snap S d) ∧ Q (.str (shw (snap S d))) S
theorem dc_repr (hg : X.A.guards = some []) (hu : X.A.units + 66 < cLine) : CallR X (.builtin "repr") (lftF X.K DI fRepr) := by
  intro pins s σ H xs us Q I r h
  obtain ⟨F, ds, S, R, rel, den, w, fin⟩ := h
  unfold fRepr f1 at w
  split at w
  · obtain ⟨v, rfl, dv⟩ := den.oneV
    obtain ⟨u, rfl, ru⟩ := vals1 r
    obtain ⟨⟨p, hs, hz, hd⟩, w⟩ := w
    refine snap_top I rel dv ru p hs hz hg (by rw [depth_dat]; omega) hz _ fun h' k tk hk => ?_
    exact ⟨.str _, H, I.kept hk, ⟨_, rfl⟩, fin.at0 w rel (.str _)⟩
  · exact w.elim
end
end Dv

/-! Dv9: what is asked of a text, as one check; each rule with its check. -/
namespace Dv
open PySem PySem.Spec L2
open PyProof.Rows hiding St

/-! ### texts -/
def nStar : Expr → Bool
  | .Starred _ _ => false
  | _ => true
theorem star_cons {e : Expr} {es : List Expr} {env : PySem.Env} (h : nStar e = true) : starEach (e :: es) env = (false, eval e env) :: starEach es env := by
  cases e <;> first | rfl | exact absurd h Bool.false_ne_true
theorem star_pl {pos : Pos} {env : PySem.Env} : ∀ {es : List Expr}, es.all nStar = true → (backTo pos (starEach es env)).any (·.1) = false
  | [], _ => rfl
  | e :: es, h => by
    rw [List.all_cons, Bool.and_eq_true] at h
    rw [star_cons h.1]
    exact star_pl (es := es) h.2
theorem star_all {pos : Pos} {env : PySem.Env} : ∀ {es : List Expr}, es.all nStar = true → (backTo pos (starEach es env)).all (fun x => !x.1) = true
  | [], _ => rfl
  | e :: es, h => by
    rw [List.all_cons, Bool.and_eq_true] at h
    rw [star_cons h.1]
    exact star_all (es := es) h.2
theorem tg_cons {e : Expr} {es : List Expr} {env : PySem.Env} (h : nStar e = true) : assignEach (e :: es) env = (false, assign e env) :: assignEach es env := by
  cases e <;> first | rfl | exact absurd h Bool.false_ne_true
theorem tg_map {env : PySem.Env} {e : Expr} {es : List Expr} (h : nStar e = true) : (assignEach (e :: es) env).map (·.2) = assign e env :: (assignEach es env).map (·.2) := by rw [tg_cons h]; rfl
theorem tg_len {env : PySem.Env} : ∀ {es : List Expr}, es.all nStar = true → (assignEach es env).length = es.length
  | [], _ => rfl
  | e :: es, h => by
    rw [List.all_cons, Bool.and_eq_true] at h
    rw [tg_cons h.1, List.length_cons, List.length_cons, tg_len (es := es) h.2]
theorem tg_find {env : PySem.Env} : ∀ {es : List Expr}, es.all nStar = true → (assignEach es env).findIdx? (·.1) = none
  | [], _ => rfl
  | e :: es, h => by
    rw [List.all_cons, Bool.and_eq_true] at h
    rw [tg_cons h.1, List.findIdx?_cons]
    show (if false = true then _ else _) = _
    rw [if_neg (by decide), tg_find (es := es) h.2]
    rfl
def nSet : Expr → Bool
  | .Set _ _ _ => false
  | _ => true
theorem fold_of {e : Expr} {env : PySem.Env} (h : nSet e = true) : ∀ x, foldedSetIterable e env x = pure x := fun x => by
  cases e <;> first | rfl | exact absurd h Bool.false_ne_true
theorem marks_of {op : CmpOp} {e : Expr} (h : nSet e = true) : behindInMarks op e = false := by
  cases e <;> first | rfl | exact absurd h Bool.false_ne_true
def nSlice : Expr → Bool
  | .Slice _ _ _ _ => false
  | _ => true
theorem plain_of {e : Expr} (h : nSlice e = true) : PlainIx e := fun o i => by
  cases e <;> first | rfl | exact absurd h Bool.false_ne_true
def nCtl : Expr → Bool
  | .UnaryOp .Not _ _ => false
  | .BoolOp _ _ _ => false
  | .IfExp _ _ _ _ => false
  | .Compare _ _ _ _ => false
  | _ => true
theorem true_of {e : Expr} {env : PySem.Env} (h : nCtl e = true) : ∀ whole, isTrue e env whole = (do let v ← whole; standAt e.pos; holding [v] (truthy v)) := fun whole => by
  cases e <;> first | rfl | exact absurd h Bool.false_ne_true | (rename_i op _ _; cases op <;> first | rfl | exact absurd h Bool.false_ne_true)
def nComp : Expr → Bool
  | .ListComp _ _ _ _ => false
  | .SetComp _ _ _ _ => false
  | .DictComp _ _ _ _ _ => false
  | _ => true
theorem swap_of {e : Expr} {t : Option Expr} {l : Nat} {env : PySem.Env} (h : nComp e = true) : swapsWith e t l env = pure false := by
  cases e <;> first | rfl | exact absurd h Bool.false_ne_true
theorem swapS_of {e t : Expr} {l : Nat} {env : PySem.Env} (h : nComp e = true) : swapsWithSole [t] e l env = pure false := swap_of h
def nBase : Expr → Bool
  | .Call (.Name _ _) [] [] _ => false
  | _ => true
theorem base_of {o : Expr} {at_ : Str} {env : PySem.Env} {w : Sem Value} (h : nBase o = true) : attributeBase o at_ env w = w := by
  unfold attributeBase
  cases o <;> first | rfl | skip
  rename_i f as kws p
  cases f <;> first | rfl | skip
  cases as <;> first | rfl | skip
  cases kws <;> first | rfl | exact absurd h Bool.false_ne_true
def swp (sc : Scope) (ts vs : List Expr) : Option (Option (List Str)) :=
  if (!(ts.length == 2 || ts.length == 3) || vs.length != ts.length) = true then some none
  else if (vs.any fun | .Starred .. => true | _ => false) = true then some none
  else
    let line := (ts.head?.map (·.pos.line)).getD 0
    let names := ts.filterMap fun
      | .Name id pos => if (sc.names.lookup id == some .local && pos.line == line) = true then some id else none
      | _ => none
    if (names.length != ts.length || names.eraseDups.length != names.length) = true then some none
    else if vs.all (foldedForSure 8) = true then some none
    else if vs.all (constantsAlone 8) = true then none
    else some (some names)
theorem swp_ok {sc : Scope} {env : PySem.Env} {ts vs : List Expr} {k k2 : Nat} {p p2 : Pos} {r : Option (List Str)} (hs : env.scope = sc) (hk : sc.kind = .function) (h : swp sc ts vs = some r) : swappedStores [.Tuple ts k p] (.Tuple vs k2 p2) env = pure r := by
  have hb : (env.blockKind != .function) = false := by
    unfold PySem.Env.blockKind
    rw [hs, hk]
    rfl
  unfold swp at h
  dsimp only at h
  unfold swappedStores
  subst hs
  simp only [hb, Bool.or_false]
  split at h
  · rename_i c; cases h; rw [if_pos c]
  · rename_i c; rw [if_neg c]
    split at h
    · rename_i c; cases h; exact if_pos c
    · rename_i c
      refine (if_neg c).trans ?_
      split at h
      · rename_i c; cases h; exact if_pos c
      · rename_i c
        refine (if_neg c).trans ?_
        split at h
        · rename_i c; cases h; exact if_pos c
        · rename_i c
          refine (if_neg c).trans ?_
          split at h
          · cases h
          · rename_i c
            cases h
            exact if_neg c
def nTup : Expr → Bool
  | .Tuple _ _ _ => false
  | _ => true
def nTup1 : Expr → Bool
  | .Tuple _ _ _ => false
  | .List _ _ => false
  | _ => true
theorem swp_no {t e : Expr} {env : PySem.Env} (h : (nTup e || nTup1 t) = true) : swappedStores [t] e env = pure none := by
  unfold swappedStores
  cases t <;> first | rfl | skip
  all_goals cases e <;> first | rfl | exact absurd h Bool.false_ne_true
end Dv

/-! Dv10: what is known where a def's text is walked, and each rule with its one check. -/
namespace L2
theorem PO.imp {X : Cx} {e : Option PySem.Expr} {t u : TO} (h : PO X e t) (i : ∀ σ H Q, u σ H Q → t σ H Q) : PO X e u := ⟨fun pins s σ H Q I q => h.run pins s σ H Q I (i _ _ _ q)⟩
theorem UnR.imp {X : Cx} {f : PySem.Value → PySem.Sem PySem.Value} {r q : V → Hp → VK → Prop} (h : UnR X f r) (i : ∀ x H Q, q x H Q → r x H Q) : UnR X f q := fun pins s σ H x v Q I rx z => h pins s σ H x v Q I rx (i _ _ _ z)
end L2
namespace Dv
open PySem PySem.Spec L2
open PyProof.Rows hiding St

def fnAt (fns : List Fn) (j : Nat) : Fn := fns.getD j ⟨"", 0, fun _ _ _ => False, []⟩
def csAt (cs : List (Str × D)) (j : Nat) : D := (cs.getD j ("", .non)).2
def csNm (cs : List (Str × D)) (j : Nat) : Str := (cs.getD j ("", .non)).1
structure Ob (X : Cx) (DI : Addr → GH → Prop) (N : List Str) (sc : Scope) (k : Nat) (fns : List Fn) (cs : List (Str × D)) (bl : List Str) (fc : Bool) : Prop where
  nd : N.Nodup
  hN : X.N = N
  hsc : X.env.scope = sc
  knd : sc.kind = .function
  hc : X.calm = true
  hr : Room k X.A
  hg : X.A.guards = some []
  hF : ∀ j, j < fns.length → FnIn X.prog X.w X.K X.mg X.base DI k (fnAt fns j)
  hk : ∀ j, j < cs.length → ∃ v u, X.mg (csNm cs j) = some u ∧ RelV v u ∧ ∀ H, Den X.K H (csAt cs j) v
  hb : ∀ x, bl.contains x = true → X.mg x = none
  fnT : fc = true → X.fn = fun _ => true
  xeF : fc = true → X.xe = fun _ _ => False

def isV (sc : Scope) (x : Str) : Bool := match sc.names.lookup x with
  | some .local => true
  | some .cell => true
  | some .free => true
  | _ => false
def isL (fc : Bool) (sc : Scope) (x : Str) : Bool := match sc.names.lookup x with
  | some .local => true
  | some .cell => fc
  | _ => false
def isG (sc : Scope) (x : Str) : Bool := match sc.names.lookup x with
  | some .globalImplicit => !(x == ("__debug__" : Str))
  | _ => false
def okV (N : List Str) (sc : Scope) (i : Nat) (x : Str) : Bool := decide (N[i]? = some x) && (isV sc x && (!(x == ("__debug__" : Str)) && !(x == ("__classdict__" : Str))))
def okT (fc : Bool) (N : List Str) (sc : Scope) (i : Nat) (x : Str) : Bool := decide (N[i]? = some x) && isL fc sc x
def okB (bl : List Str) (sc : Scope) (x : Str) (v : Value) : Bool := bl.contains x && (isG sc x && (!(x == ("__name__" : Str)) && (match bootBuiltins x, v with
  | some (.builtin a), .builtin b => decide (a = b)
  | some (.type a), .type b => decide (a = b)
  | _, _ => false)))
section
variable {X : Cx} {DI : Addr → GH → Prop} {N : List Str} {sc : Scope} {k : Nat} {fns : List Fn} {cs : List (Str × D)} {bl : List Str} {fc : Bool}
theorem vis_of {x : Str} (h : isV sc x = true) : Vis sc x := by
  unfold isV at h
  split at h
  · exact .inl (by assumption)
  · exact .inr (.inl (by assumption))
  · exact .inr (.inr (by assumption))
  · cases h
theorem gl_of {x : Str} (o : Ob X DI N sc k fns cs bl fc) (h : isG sc x = true) : Gl X x ∧ (x == ("__debug__" : Str)) = false := by
  unfold isG at h
  split at h
  · rename_i e
    refine ⟨?_, by simpa using h⟩
    show X.env.scope.names.lookup x = _
    rw [o.hsc]; exact e
  · cases h
theorem loc_of {x : Str} (o : Ob X DI N sc k fns cs bl fc) (h : isL fc sc x = true) : Loc X.env.scope x ∧ (X.fn x = true ∨ X.env.scope.names.lookup x = some .local) := by
  rw [o.hsc]
  unfold isL at h
  split at h
  · rename_i e; exact ⟨.inl e, .inr e⟩
  · rename_i e; exact ⟨.inr e, .inl (by rw [o.fnT h])⟩
  · cases h
theorem okB_ok {x : Str} {v : Value} (o : Ob X DI N sc k fns cs bl fc) (h : okB bl sc x v = true) : X.mg x = none ∧ Gl X x ∧ (x == ("__debug__" : Str)) = false ∧ x ≠ "__name__" ∧ bootBuiltins x = some v := by
  unfold okB at h
  simp only [Bool.and_eq_true] at h
  obtain ⟨h1, h2, h3, h4⟩ := h
  obtain ⟨g1, g2⟩ := gl_of o h2
  refine ⟨o.hb x h1, g1, g2, ?_, ?_⟩
  · intro z
    rw [z] at h3
    simp at h3
  · split at h4
    · rename_i e; rw [e]; simp at h4; rw [h4]
    · rename_i e; rw [e]; simp at h4; rw [h4]
    · cases h4
theorem Ob.u {o : Ob X DI N sc k fns cs bl fc} : X.A.units + 200 < cLine := by have := o.hr.un; omega

/-! ### expressions -/
variable {x : Str} {pos p2 p3 : Pos} {e e2 e3 : Expr} {es rest : List Expr} {a b c : W} {wa : WA} {ta tb : WT} {w2 w3 : W2} {j0 : Nat}
theorem e_var (o : Ob X DI N sc k fns cs bl fc) (i : Nat) (h : okV N sc i x = true := by kernel_rfl) : PE X (.Name x pos) (lft X.K DI (wVar i)) := by
  unfold okV at h
  simp only [Bool.and_eq_true, decide_eq_true_eq] at h
  exact de_var (pe_var (by rw [o.hN]; exact h.1) (by rw [o.hsc]; exact vis_of h.2.1) (by simpa using h.2.2.1) (by simpa using h.2.2.2))
theorem e_con (o : Ob X DI N sc k fns cs bl fc) (j : Nat) (h : (decide (j < cs.length) && (isG sc x && decide (csNm cs j = x))) = true := by kernel_rfl) : PE X (.Name x pos) (lft X.K DI (wC (csAt cs j))) := by
  simp only [Bool.and_eq_true, decide_eq_true_eq] at h
  obtain ⟨v, u, h1, h2, h3⟩ := o.hk j h.1
  obtain ⟨g1, g2⟩ := gl_of o h.2.1
  rw [h.2.2] at h1
  exact de_c (pe_glob g1 h1 h2 g2) h3
theorem e_non : PE X (.Constant .none j0 pos) (lft X.K DI (wC .non)) := de_c (v := .non) ⟨fun _ _ _ H _ I h => by
  unfold tC at h
  exact wpAny_Constant_none ⟨.non, H, I, rfl, h⟩⟩ fun _ => .non
theorem e_tt {v : Bool} : PE X (.Constant (.bool v) j0 pos) (lft X.K DI (wC (.bl v))) := de_c (v := .bl v) ⟨fun _ _ _ H _ I h => by
  unfold tC at h
  exact wpAny_Constant_bool ⟨.bl v, H, I, rfl, h⟩⟩ fun _ => .bl v
theorem e_int {i : Int} : PE X (.Constant (.int i) j0 pos) (lft X.K DI (wC (.int i))) := de_c pe_int fun _ => .int i
theorem e_str {i : Str} : PE X (.Constant (.str i) j0 pos) (lft X.K DI (wC (.str i))) := de_c pe_str fun _ => .str i
theorem e_ty (o : Ob X DI N sc k fns cs bl fc) (T : String) (h : okB bl sc x (.type T) = true := by kernel_rfl) : PE X (.Name x pos) (lft X.K DI (wC (.ty T))) := by
  obtain ⟨h1, h2, h3, h4, h5⟩ := okB_ok o h
  exact de_c (pe_bltn (v := .ty T) h2 h1 h5 rfl h4 h3) fun _ => .ty T
theorem e_add (ha : PE X e (lft X.K DI a)) (hb : PE X e2 (lft X.K DI b)) : PE X (.BinOp e .Add e2 pos) (lft X.K DI (wOp oAdd a b)) := de_op dop_add ha hb
theorem e_sub (ha : PE X e (lft X.K DI a)) (hb : PE X e2 (lft X.K DI b)) : PE X (.BinOp e .Sub e2 pos) (lft X.K DI (wOp oSub a b)) := de_op dop_sub ha hb
theorem e_mul (ha : PE X e (lft X.K DI a)) (hb : PE X e2 (lft X.K DI b)) : PE X (.BinOp e .Mult e2 pos) (lft X.K DI (wOp oMul a b)) := de_op dop_mul ha hb
theorem e_fdiv (ha : PE X e (lft X.K DI a)) (hb : PE X e2 (lft X.K DI b)) : PE X (.BinOp e .FloorDiv e2 pos) (lft X.K DI (wOp oFdiv a b)) := de_op dop_fdiv ha hb
theorem e_mod (ha : PE X e (lft X.K DI a)) (hb : PE X e2 (lft X.K DI b)) : PE X (.BinOp e .Mod e2 pos) (lft X.K DI (wOp oMod a b)) := de_op dop_mod ha hb
theorem e_pow (ha : PE X e (lft X.K DI a)) (hb : PE X e2 (lft X.K DI b)) : PE X (.BinOp e .Pow e2 pos) (lft X.K DI (wOp oPow a b)) := de_op dop_pow ha hb
/-- the comparisons -/
structure CmpB (X : Cx) (DI : Addr → GH → Prop) (op : CmpOp) (w2 : W2) : Prop where
  r : X.A.units + 200 < cLine → OpR X (compareOp op) (lft2 X.K DI w2)
theorem c_eq : CmpB X DI .Eq oEq := ⟨fun h => dop_eq (by omega)⟩
theorem c_ne : CmpB X DI .NotEq oNe := ⟨fun h => dop_ne (by omega)⟩
theorem c_lt : CmpB X DI .Lt oLt := ⟨fun h => dop_lt⟩
theorem c_le : CmpB X DI .LtE oLe := ⟨fun h => dop_le⟩
theorem c_gt : CmpB X DI .Gt oGt := ⟨fun h => dop_gt⟩
theorem c_ge : CmpB X DI .GtE oGe := ⟨fun h => dop_ge⟩
theorem c_is : CmpB X DI .Is oIs := ⟨fun h => dop_is⟩
theorem c_isN : CmpB X DI .IsNot oIsNot := ⟨fun h => dop_isNot⟩
theorem c_in : CmpB X DI .In oIn := ⟨fun h => dop_in (by omega)⟩
theorem c_nin : CmpB X DI .NotIn oNotIn := ⟨fun h => dop_notIn (by omega)⟩
theorem e_cmp {op : CmpOp} (o : Ob X DI N sc k fns cs bl fc) (hc : CmpB X DI op w2) (ha : PE X e (lft X.K DI a)) (hb : PE X e2 (lft X.K DI b)) (h : nSet e2 = true := by kernel_rfl) : PE X (.Compare e [op] [e2] pos) (lft X.K DI (wOp w2 a b)) := de_cmp (hc.r o.u) ha hb (marks_of h)
theorem e_chain {op op' : CmpOp} (o : Ob X DI N sc k fns cs bl fc) (hc : CmpB X DI op w2) (hc' : CmpB X DI op' w3) (ha : PE X e (lft X.K DI a)) (hb : PE X e2 (lft X.K DI b)) (hd : PE X e3 (lft X.K DI c)) (h : lastMarks [op, op'] [e2, e3] = false := by kernel_rfl) : PE X (.Compare e [op, op'] [e2, e3] pos) (lft X.K DI (wChain w2 w3 a b c)) :=
  (pe_chain (hc.r o.u) (hc'.r o.u) ha hb hd h).imp fun _ _ _ q => chain_of q
theorem e_ix (o : Ob X DI N sc k fns cs bl fc) (ha : PE X e (lft X.K DI a)) (hb : PE X e2 (lft X.K DI b)) (h : nSlice e2 = true := by kernel_rfl) : PE X (.Subscript e e2 pos) (lft X.K DI (wOp oIx a b)) := de_ix (dix (by have := o.u; omega)) ha hb (plain_of h)
theorem p_none : PO X none (lftO X.K DI wNoPart) := PO.imp po_none fun σ H Q q => by
  obtain ⟨F, ρ, S, R, rel, env, w, f⟩ := q
  exact f _ _ _ w rel (.refl H)
theorem p_some (ha : PE X e (lft X.K DI a)) : PO X (some e) (lftO X.K DI (wPart a)) := PO.imp (po_some ha) fun σ H Q q => by
  obtain ⟨F, ρ, S, R, rel, env, w, f⟩ := q
  refine ⟨F, ρ, S, _, rel, env, w, fun d S' v H' q rel' k' den => ?_⟩
  split at q
  · cases den
    exact ⟨_, rfl, f _ _ _ q rel' k'⟩
  · exact q.elim
theorem e_and (ha : PE X e (lft X.K DI a)) (hb : PE X (.BoolOp .And (e2 :: rest) pos) (lft X.K DI b)) : PE X (.BoolOp .And (e :: e2 :: rest) pos) (lft X.K DI (wAndV a b)) := (pe_and ha hb).imp fun _ _ _ q => andV_of q
theorem e_or (ha : PE X e (lft X.K DI a)) (hb : PE X (.BoolOp .Or (e2 :: rest) pos) (lft X.K DI b)) : PE X (.BoolOp .Or (e :: e2 :: rest) pos) (lft X.K DI (wOrV a b)) := (pe_or ha hb).imp fun _ _ _ q => orV_of q
theorem e_one {op : BoolOp} (ha : PE X e (lft X.K DI a)) : PE X (.BoolOp op [e] pos) (lft X.K DI a) := pe_one ha
theorem e_if (hc : PT X e (lftT X.K DI ta)) (ha : PE X e2 (lft X.K DI a)) (hb : PE X e3 (lft X.K DI b)) : PE X (.IfExp e e2 e3 pos) (lft X.K DI (wIf ta a b)) := (pe_ifExp hc ha hb).imp fun _ _ _ q => if_of q
def wNotB (a : W) : W := fun ρ S Q => a ρ S fun d S1 => match d with
  | .bl c => Q (.bl (!c)) S1
  | _ => False
theorem e_not (ha : PE X e (lft X.K DI a)) : PE X (.UnaryOp .Not e pos) (lft X.K DI (wNotB a)) := (pe_not ha).imp fun σ H Q q => by
  obtain ⟨F, ρ, S, R, rel, env, w, f⟩ := q
  refine ⟨F, ρ, S, _, rel, env, w, fun d S' v H' q rel' k' den => ?_⟩
  cases d with
  | bl c => cases den; exact ⟨c, rfl, f _ _ _ _ q rel' k' (.bl _)⟩
  | _ => exact q.elim
def oNeg : W1 := fun d S Q => match d with
  | .int i => Q (.int (-i)) S
  | _ => False
theorem e_neg (ha : PE X e (lft X.K DI a)) : PE X (.UnaryOp .USub e pos) (lft X.K DI (wUn oNeg a)) := de_un (UnR.imp un_neg fun x H Q q => by
  obtain ⟨F, d, S, R, rel, den, w, f⟩ := q
  cases d with
  | int i => cases den; exact ⟨_, rfl, f _ _ _ _ w rel (.refl H) (.int _)⟩
  | _ => exact w.elim) ha
/-! ### tests -/
theorem t_cmp {op : CmpOp} (o : Ob X DI N sc k fns cs bl fc) (hc : CmpB X DI op w2) (ha : PE X e (lft X.K DI a)) (hb : PE X e2 (lft X.K DI b)) (h : nSet e2 = true := by kernel_rfl) : PT X (.Compare e [op] [e2] pos) (lftT X.K DI (wB (wOp w2 a b))) := dt_cmp (hc.r o.u) ha hb (marks_of h)
theorem t_chain {op op' : CmpOp} (o : Ob X DI N sc k fns cs bl fc) (hc : CmpB X DI op w2) (hc' : CmpB X DI op' w3) (ha : PE X e (lft X.K DI a)) (hb : PE X e2 (lft X.K DI b)) (hd : PE X e3 (lft X.K DI c)) (h : lastMarks [op, op'] [e2, e3] = false := by kernel_rfl) : PT X (.Compare e [op, op'] [e2, e3] pos) (lftT X.K DI (wB (wChain w2 w3 a b c))) :=
  (pt_chain (hc.r o.u) (hc'.r o.u) ha hb hd h).imp fun _ _ _ q => chain_of (wB_of q)
theorem t_not (ha : PT X e (lftT X.K DI ta)) : PT X (.UnaryOp .Not e pos) (lftT X.K DI (wNot ta)) := (pt_not ha).imp fun _ _ _ q => not_of q
theorem w_and1 (ha : PT X e (lftT X.K DI ta)) : PW X (.BoolOp .And [e] pos) (lftT X.K DI ta) := pw_and1 ha
theorem w_or1 (ha : PT X e (lftT X.K DI ta)) : PW X (.BoolOp .Or [e] pos) (lftT X.K DI ta) := pw_or1 ha
theorem w_and (ha : PT X e (lftT X.K DI ta)) (hb : PW X (.BoolOp .And (e2 :: rest) pos) (lftT X.K DI tb)) : PW X (.BoolOp .And (e :: e2 :: rest) pos) (lftT X.K DI (wAnd ta tb)) := (pw_and ha hb).imp fun _ _ _ q => and_of q
theorem w_or (ha : PT X e (lftT X.K DI ta)) (hb : PW X (.BoolOp .Or (e2 :: rest) pos) (lftT X.K DI tb)) : PW X (.BoolOp .Or (e :: e2 :: rest) pos) (lftT X.K DI (wOr ta tb)) := (pw_or ha hb).imp fun _ _ _ q => or_of q
theorem t_w (h : PW X e (lftT X.K DI ta)) : PT X e (lftT X.K DI ta) := h.pt
theorem t_tru (h : PE X e (lft X.K DI a)) (hn : nCtl e = true := by kernel_rfl) : PT X e (lftT X.K DI (wTru a)) := dt_tru h (true_of hn)
end
end Dv

/-! Dv11: calls, displays, comprehensions, statements, each with its one check. -/
namespace Dv
open PySem PySem.Spec L2
open PyProof.Rows hiding St

section
variable {X : Cx} {DI : Addr → GH → Prop} {N : List Str} {sc : Scope} {k : Nat} {fns : List Fn} {cs : List (Str × D)} {bl : List Str} {fc : Bool}
variable {x : Str} {pos p2 p3 : Pos} {e e2 e3 : Expr} {es rest : List Expr} {a b c : W} {wa : WA} {ta tb : WT} {w2 w3 : W2} {j0 : Nat}
/-! ### argument lists, displays, calls -/
theorem a_nil : PAn X [] (lftA X.K DI wNil) := pan_nil
theorem a_cons (ha : PE X e (lft X.K DI a)) (hr : PAn X es (lftA X.K DI wa)) (h : nStar e = true := by kernel_rfl) : PAn X (e :: es) (lftA X.K DI (wCons a wa)) := pan_cons ha hr (star_cons h)
theorem e_tup (ha : PAn X es (lftA X.K DI wa)) : PE X (.Tuple es j0 pos) (lft X.K DI (wTup wa)) := de_tup ha.pa
theorem e_lst (ha : PAn X es (lftA X.K DI wa)) : PE X (.List es pos) (lft X.K DI (wLst wa)) := de_lst ha.pa
theorem e_lstN (ha : PAn X es (lftA X.K DI wa)) : PE X (.List es pos) (lft X.K DI (wLstN wa)) := de_lstN ha.pa
theorem e_slice {lo hi : Option Expr} {wl wh : WO} (he : PE X e (lft X.K DI a)) (hl : PO X lo (lftO X.K DI wl)) (hh : PO X hi (lftO X.K DI wh)) : PE X (.Subscript e (.Slice lo hi none p2) pos) (lft X.K DI (wSlice a wl wh)) := de_slice he hl hh
def okC (fns : List Fn) (sc : Scope) (j : Nat) (x : Str) (n : Nat) : Bool := decide (j < fns.length) && (decide ((fnAt fns j).name = x) && (isG sc x && decide (n = (fnAt fns j).n)))
theorem e_call (o : Ob X DI N sc k fns cs bl fc) (j : Nat) (ha : PAn X (e :: es) (lftA X.K DI wa)) (h : (okC fns sc j x (es.length + 1) && ((e :: es).all nStar)) = true := by kernel_rfl) : PE X (.Call (.Name x p2) (e :: es) [] pos) (lft X.K DI (wCall (fnAt fns j).sp wa)) := by
  unfold okC at h
  simp only [Bool.and_eq_true, decide_eq_true_eq] at h
  obtain ⟨⟨h1, h2, h3, h4⟩, h5⟩ := h
  rw [List.all_cons, Bool.and_eq_true] at h5
  subst h2
  obtain ⟨g1, g2⟩ := gl_of o h3
  exact de_call (o.hF j h1) o.hr o.hg g1 ha h4 g2 (star_cons h5.1) (star_pl h5.2)
theorem e_call0 (o : Ob X DI N sc k fns cs bl fc) (j : Nat) (h : okC fns sc j x 0 = true := by kernel_rfl) : PE X (.Call (.Name x p2) [] [] pos) (lft X.K DI (wCall (fnAt fns j).sp wNil)) := by
  unfold okC at h
  simp only [Bool.and_eq_true, decide_eq_true_eq] at h
  obtain ⟨h1, h2, h3, h4⟩ := h
  subst h2
  obtain ⟨g1, g2⟩ := gl_of o h3
  exact de_call0 (o.hF j h1) o.hr o.hg g1 h4 g2
theorem k_nil : PKn X [] (lftA X.K DI wNil) := pkn_nil
theorem k_cons {nm : Option Str} {kpos : Pos} {kws : List Keyword} (ha : PE X e (lft X.K DI a)) (hr : PKn X kws (lftA X.K DI wa)) : PKn X (⟨nm, e, kpos⟩ :: kws) (lftA X.K DI (wCons a wa)) := pkn_cons ha hr
def kwNm : Keyword → Option Str
  | ⟨n, _, _⟩ => n
theorem kw_map {pos : Pos} {env : PySem.Env} : ∀ kws : List Keyword, (backToKw pos (keywordEach kws env)).map (·.1) = kws.map kwNm
  | [] => rfl
  | ⟨n, e, p⟩ :: r => by
    have := kw_map (pos := pos) (env := env) r
    show n :: (backToKw pos (keywordEach r env)).map (·.1) = n :: r.map kwNm
    rw [this]
def okK (fns : List Fn) (sc : Scope) (j : Nat) (x : Str) (kws : List Keyword) (ks : List Str) (is : List Nat) : Bool :=
  decide (j < fns.length) && (decide ((fnAt fns j).name = x) && (isG sc x && (decide ((pick (List.range kws.length) is).length = (fnAt fns j).n) && (decide ((0, ks, is) ∈ (fnAt fns j).kws) && ((kws.map kwNm).all (·.isSome) && (decide ((kws.map kwNm).filterMap id = ks) && decide (ks.length = kws.length)))))))
theorem e_callK {kws : List Keyword} (o : Ob X DI N sc k fns cs bl fc) (j : Nat) (ks : List Str) (is : List Nat) (ha : PKn X kws (lftA X.K DI wa)) (h : okK fns sc j x kws ks is = true := by kernel_rfl) : PE X (.Call (.Name x p2) [] kws pos) (lft X.K DI (wCallK (fnAt fns j).sp is wa)) := by
  unfold okK at h
  simp only [Bool.and_eq_true, decide_eq_true_eq] at h
  obtain ⟨h1, h2, h3, h4, h5, h6, h7, h8⟩ := h
  subst h2
  obtain ⟨g1, g2⟩ := gl_of o h3
  have m := kw_map (pos := pos) (env := X.env) kws
  have e1 : (backToKw pos (keywordEach kws X.env)).all (·.1.isSome) = true := by
    rw [← m, List.all_map] at h6
    exact h6
  refine de_callK (o.hF j h1) h5 o.hr o.hg g1 ha h4 g2 e1 ?_ h8 ?_
  · rw [← h7, ← m, List.filterMap_map]
    rfl
  · show (false || _) = false
    rw [Bool.false_or]
    rw [Bool.eq_false_iff]
    intro z
    rw [List.any_eq_true] at z
    rw [List.all_eq_true] at e1
    obtain ⟨y, hy, z⟩ := z
    have := e1 y hy
    cases q : y.1 <;> simp [q] at z this
theorem e_callB (o : Ob X DI N sc k fns cs bl fc) (id : String) {f : WF} (hc : CallR X (.builtin id) (lftF X.K DI f)) (ha : PAn X (e :: es) (lftA X.K DI wa)) (h : (okB bl sc x (.builtin id) && ((e :: es).all nStar)) = true := by kernel_rfl) : PE X (.Call (.Name x p2) (e :: es) [] pos) (lft X.K DI (wCall f wa)) := by
  rw [Bool.and_eq_true, List.all_cons, Bool.and_eq_true] at h
  obtain ⟨h1, h2, h3, h4, h5⟩ := okB_ok o h.1
  exact de_callB hc h2 h1 h5 ha.pa h4 h3 (star_cons h.2.1) (star_pl h.2.2)
theorem e_callT (o : Ob X DI N sc k fns cs bl fc) (id : String) {f : WF} (hc : CallR X (.type id) (lftF X.K DI f)) (ha : PAn X (e :: es) (lftA X.K DI wa)) (h : (okB bl sc x (.type id) && ((e :: es).all nStar)) = true := by kernel_rfl) : PE X (.Call (.Name x p2) (e :: es) [] pos) (lft X.K DI (wCall f wa)) := by
  rw [Bool.and_eq_true, List.all_cons, Bool.and_eq_true] at h
  obtain ⟨h1, h2, h3, h4, h5⟩ := okB_ok o h.1
  exact de_callT hc h2 h1 h5 ha.pa h4 h3 (star_cons h.2.1) (star_pl h.2.2)
theorem e_len (o : Ob X DI N sc k fns cs bl fc) (ha : PAn X (e :: es) (lftA X.K DI wa)) (h : (okB bl sc x (.builtin "len") && ((e :: es).all nStar)) = true := by kernel_rfl) : PE X (.Call (.Name x p2) (e :: es) [] pos) (lft X.K DI (wCall fLen wa)) := e_callB o "len" dc_len ha h
theorem e_repr (o : Ob X DI N sc k fns cs bl fc) (ha : PAn X (e :: es) (lftA X.K DI wa)) (h : (okB bl sc x (.builtin "repr") && ((e :: es).all nStar)) = true := by kernel_rfl) : PE X (.Call (.Name x p2) (e :: es) [] pos) (lft X.K DI (wCall fRepr wa)) := e_callB o "repr" (dc_repr o.hg (by have := o.u; omega)) ha h
theorem e_abs (o : Ob X DI N sc k fns cs bl fc) (ha : PAn X (e :: es) (lftA X.K DI wa)) (h : (okB bl sc x (.builtin "abs") && ((e :: es).all nStar)) = true := by kernel_rfl) : PE X (.Call (.Name x p2) (e :: es) [] pos) (lft X.K DI (wCall fAbs wa)) := e_callB o "abs" dc_abs ha h
theorem e_isi (o : Ob X DI N sc k fns cs bl fc) (ha : PAn X (e :: es) (lftA X.K DI wa)) (h : (okB bl sc x (.builtin "isinstance") && ((e :: es).all nStar)) = true := by kernel_rfl) : PE X (.Call (.Name x p2) (e :: es) [] pos) (lft X.K DI (wCall fIsi wa)) := e_callB o "isinstance" dc_isi ha h
theorem e_all (o : Ob X DI N sc k fns cs bl fc) (ha : PAn X (e :: es) (lftA X.K DI wa)) (h : (okB bl sc x (.builtin "all") && ((e :: es).all nStar)) = true := by kernel_rfl) : PE X (.Call (.Name x p2) (e :: es) [] pos) (lft X.K DI (wCall fAll wa)) := e_callB o "all" (dc_all o.hc) ha h
theorem e_any (o : Ob X DI N sc k fns cs bl fc) (ha : PAn X (e :: es) (lftA X.K DI wa)) (h : (okB bl sc x (.builtin "any") && ((e :: es).all nStar)) = true := by kernel_rfl) : PE X (.Call (.Name x p2) (e :: es) [] pos) (lft X.K DI (wCall fAny wa)) := e_callB o "any" (dc_any o.hc) ha h
theorem e_max (o : Ob X DI N sc k fns cs bl fc) (ha : PAn X (e :: es) (lftA X.K DI wa)) (h : (okB bl sc x (.builtin "max") && ((e :: es).all nStar)) = true := by kernel_rfl) : PE X (.Call (.Name x p2) (e :: es) [] pos) (lft X.K DI (wCall fMax wa)) := e_callB o "max" (dc_max o.hc) ha h
theorem e_min (o : Ob X DI N sc k fns cs bl fc) (ha : PAn X (e :: es) (lftA X.K DI wa)) (h : (okB bl sc x (.builtin "min") && ((e :: es).all nStar)) = true := by kernel_rfl) : PE X (.Call (.Name x p2) (e :: es) [] pos) (lft X.K DI (wCall fMin wa)) := e_callB o "min" (dc_min o.hc) ha h
theorem e_toInt (o : Ob X DI N sc k fns cs bl fc) (ha : PAn X (e :: es) (lftA X.K DI wa)) (h : (okB bl sc x (.type "int") && ((e :: es).all nStar)) = true := by kernel_rfl) : PE X (.Call (.Name x p2) (e :: es) [] pos) (lft X.K DI (wCall fInt wa)) := e_callT o "int" dc_int ha h
theorem e_toList (o : Ob X DI N sc k fns cs bl fc) (ha : PAn X (e :: es) (lftA X.K DI wa)) (h : (okB bl sc x (.type "list") && ((e :: es).all nStar)) = true := by kernel_rfl) : PE X (.Call (.Name x p2) (e :: es) [] pos) (lft X.K DI (wCall fList wa)) := e_callT o "list" dc_list ha h
theorem e_toListN (o : Ob X DI N sc k fns cs bl fc) (ha : PAn X (e :: es) (lftA X.K DI wa)) (h : (okB bl sc x (.type "list") && ((e :: es).all nStar)) = true := by kernel_rfl) : PE X (.Call (.Name x p2) (e :: es) [] pos) (lft X.K DI (wCall fListN wa)) := e_callT o "list" dc_listN ha h
theorem e_toTup (o : Ob X DI N sc k fns cs bl fc) (ha : PAn X (e :: es) (lftA X.K DI wa)) (h : (okB bl sc x (.type "tuple") && ((e :: es).all nStar)) = true := by kernel_rfl) : PE X (.Call (.Name x p2) (e :: es) [] pos) (lft X.K DI (wCall fTuple wa)) := e_callT o "tuple" dc_tuple ha h
/-! ### targets -/
section
variable {g : WG} {gr : WGs}
theorem g_name (o : Ob X DI N sc k fns cs bl fc) (i : Nat) (h : okT fc N sc i x = true := by kernel_rfl) : PG X (.Name x pos) (lftG X.K DI (gN i)) := by
  unfold okT at h
  simp only [Bool.and_eq_true, decide_eq_true_eq] at h
  obtain ⟨l1, l2⟩ := loc_of o h.2
  exact dg_name (by rw [o.hN]; exact o.nd) (by rw [o.hN]; exact h.1) l1 l2
theorem g_nil : PGs X [] (lftGs X.K DI gsNil) := dgs_nil
theorem g_cons (h1 : PG X e (lftG X.K DI g)) (h2 : PGs X es (lftGs X.K DI gr)) (h : nStar e = true := by kernel_rfl) : PGs X (e :: es) (lftGs X.K DI (gsCons g gr)) := dgs_cons h1 h2 (tg_map h)
theorem g_tup (o : Ob X DI N sc k fns cs bl fc) (n : Nat) (h : PGs X es (lftGs X.K DI gr)) (hn : (decide (es.length = n) && es.all nStar) = true := by kernel_rfl) : PG X (.Tuple es j0 pos) (lftG X.K DI (gT n gr)) := by
  simp only [Bool.and_eq_true, decide_eq_true_eq] at hn
  exact dg_tup o.hc h (by rw [tg_len hn.2]; exact hn.1) (tg_find hn.2)
theorem sub_eq {o i : Expr} {pos : Pos} {env : PySem.Env} (h : nSlice i = true) (v : Value) : assign (.Subscript o i pos) env v = (do
      let ov ← holding [v] (eval o env)
      let iv ← holding [v, ov] (eval i env)
      standAt pos
      holding [v, ov, iv] (setItem ov iv v)
      release [v, ov, iv] []) := by
  cases i <;> first | rfl | exact absurd h Bool.false_ne_true
theorem g_sub (o : Ob X DI N sc k fns cs bl fc) (ha : PE X e (lft X.K DI a)) (hb : PE X e2 (lft X.K DI b)) (h : nSlice e2 = true := by kernel_rfl) : PG X (.Subscript e e2 pos) (lftG X.K DI (gS a b)) :=
  dg_sub (by have := o.u; omega) ha hb (fun v => sub_eq h v)
end
/-! ### what is walked -/
section
variable {tg : Expr} {own : List (Str × Nat)} {scope : Scope} {wi : WI} {g : WG} {gr : WGs} {ifs : List Expr}
theorem i_seq (ha : PE X e (lft X.K DI a)) : PI X tg e (lftI X.K DI (wiSeq a)) := di_seq ha
theorem i_rg1 (o : Ob X DI N sc k fns cs bl fc) (ha : PE X e (lft X.K DI a)) (h : (okB bl sc "range" (.type "range") && nStar e) = true := by kernel_rfl) : PI X tg (.Call (.Name "range" p2) [e] [] pos) (lftI X.K DI (wiRg1 a)) := by
  rw [Bool.and_eq_true] at h
  obtain ⟨h1, h2, h3, h4, h5⟩ := okB_ok o h.1
  exact di_rg1 h2 h1 ha (star_cons h.2)
theorem i_rg2 (o : Ob X DI N sc k fns cs bl fc) (ha : PE X e (lft X.K DI a)) (hb : PE X e2 (lft X.K DI b)) (h : (okB bl sc "range" (.type "range") && (nStar e && nStar e2)) = true := by kernel_rfl) : PI X tg (.Call (.Name "range" p2) [e, e2] [] pos) (lftI X.K DI (wiRg2 a b)) := by
  rw [Bool.and_eq_true, Bool.and_eq_true] at h
  obtain ⟨h1, h2, h3, h4, h5⟩ := okB_ok o h.1
  exact di_rg2 h2 h1 ha hb (by rw [star_cons h.2.1, star_cons h.2.2]; rfl) (star_cons h.2.2)
/-! ### comprehensions -/
theorem Ob.blk (o : Ob X DI N sc k fns cs bl fc) (hk : scope.kind = .function) (s : Shared) (H : Hp) (C : Addr) (cl : List (Str × Addr)) (fp : List Addr) : Ob (X.blk s H scope (compEnvC scope cl C X.env) fp) DI N (relS scope sc) k fns cs bl false where
  nd := o.nd
  hN := o.hN
  hsc := by
    show relabel scope X.env = relS scope sc
    rw [← o.hsc]; rfl
  knd := hk
  hc := o.hc
  hr := o.hr
  hg := o.hg
  hF := o.hF
  hk := o.hk
  hb := o.hb
  fnT := fun z => by cases z
  xeF := fun z => by cases z
/-- a target of a comprehension -/
structure CG (K : PySem.W.Frag) (DI : Addr → GH → Prop) (N : List Str) (sc : Scope) (k : Nat) (fns : List Fn) (cs : List (Str × D)) (bl : List Str) (tg : Expr) (vs : List Nat) (t : TG) (g : WG) : Prop where
  pg : ∀ Y : Cx, Y.K = K → Ob Y DI N sc k fns cs bl false → PG Y tg t
  gok : GOk K DI vs t g
structure CGs (K : PySem.W.Frag) (DI : Addr → GH → Prop) (N : List Str) (sc : Scope) (k : Nat) (fns : List Fn) (cs : List (Str × D)) (bl : List Str) (tg : List Expr) (vs : List Nat) (t : TGs) (g : WGs) : Prop where
  pg : ∀ Y : Cx, Y.K = K → Ob Y DI N sc k fns cs bl false → PGs Y tg t
  gok : GsOk K DI vs t g
theorem cg_name {K : PySem.W.Frag} {vs : List Nat} (i : Nat) (h : (okT false N sc i x && vs.contains i) = true := by kernel_rfl) : CG K DI N sc k fns cs bl (.Name x pos) vs (gName i) (gN i) := by
  unfold okT at h
  simp only [Bool.and_eq_true, decide_eq_true_eq] at h
  refine ⟨fun Y _ o => ?_, gok_name (by simpa using h.2)⟩
  obtain ⟨l1, l2⟩ := loc_of o h.1.2
  exact pg_name (by rw [o.hN]; exact o.nd) (by rw [o.hN]; exact h.1.1) l1 l2
theorem cg_nil {K : PySem.W.Frag} {vs : List Nat} : CGs K DI N sc k fns cs bl [] vs gNil gsNil := ⟨fun _ _ _ => pgs_nil, gsok_nil⟩
theorem cg_cons {K : PySem.W.Frag} {vs : List Nat} {t : TG} {ts : TGs} (h1 : CG K DI N sc k fns cs bl e vs t g) (h2 : CGs K DI N sc k fns cs bl es vs ts gr) (h : nStar e = true := by kernel_rfl) : CGs K DI N sc k fns cs bl (e :: es) vs (gCons t ts) (gsCons g gr) :=
  ⟨fun Y hK o => pgs_cons (h1.pg Y hK o) (h2.pg Y hK o) (tg_map h), gsok_cons h1.gok h2.gok⟩
theorem cg_tup {K : PySem.W.Frag} {vs : List Nat} {ts : TGs} (n : Nat) (h : CGs K DI N sc k fns cs bl es vs ts gr) (hn : (decide (es.length = n) && es.all nStar) = true := by kernel_rfl) : CG K DI N sc k fns cs bl (.Tuple es j0 pos) vs (gTup K n ts) (gT n gr) := by
  simp only [Bool.and_eq_true, decide_eq_true_eq] at hn
  refine ⟨fun Y hK o => ?_, gok_tup h.gok⟩
  subst hK
  exact pg_tup o.hc (h.pg Y rfl o) (by rw [tg_len hn.2]; exact hn.1) (tg_find hn.2)
theorem l_nil : PTs X [] (lftT X.K DI wYes) := dts_nil
theorem l_one (h : PT X e (lftT X.K DI ta)) : PTs X [e] (lftT X.K DI ta) := dts_one h
variable {t : TG}
theorem lc_txt (o : Ob X DI N sc k fns cs bl fc) (hi : PI X tg e (lftI X.K DI wi)) (hg : CG X.K DI N (relS scope sc) k fns cs bl tg (own.map (·.2)) t g) (ht : ∀ Y : Cx, Y.K = X.K → Ob Y DI N (relS scope sc) k fns cs bl false → PTs Y ifs (lftT Y.K DI ta))
    (he : ∀ Y : Cx, Y.K = X.K → Ob Y DI N (relS scope sc) k fns cs bl false → PE Y e2 (lft Y.K DI a)) (h : (blkC N sc scope own && nSet e) = true) : LcTxt X tg e e2 ifs scope own DI wi t g ta a := by
  rw [Bool.and_eq_true] at h
  have B := blkOk_by h.1
  exact ⟨o.hc, by rw [o.hN]; exact o.nd, hi, by rw [o.hN, o.hsc]; exact B, fun s H C cl fp => hg.pg _ rfl (o.blk B.kind s H C cl fp), hg.gok, fun s H C cl fp => ht _ rfl (o.blk B.kind s H C cl fp), fun s H C cl fp => he _ rfl (o.blk B.kind s H C cl fp), fold_of h.2⟩
theorem e_lc (o : Ob X DI N sc k fns cs bl fc) (own : List (Str × Nat)) (hi : PI X tg e (lftI X.K DI wi)) (hg : CG X.K DI N (relS scope sc) k fns cs bl tg (own.map (·.2)) t g) (ht : ∀ Y : Cx, Y.K = X.K → Ob Y DI N (relS scope sc) k fns cs bl false → PTs Y ifs (lftT Y.K DI ta))
    (he : ∀ Y : Cx, Y.K = X.K → Ob Y DI N (relS scope sc) k fns cs bl false → PE Y e2 (lft Y.K DI a)) (h : (blkC N sc scope own && nSet e) = true := by kernel_rfl) : PE X (.ListComp e2 [⟨tg, e, ifs, 0⟩] scope pos) (lft X.K DI (wLc wi g ta a (own.map (·.2)))) := de_lc (lc_txt o hi hg ht he h)
theorem e_lcN (o : Ob X DI N sc k fns cs bl fc) (own : List (Str × Nat)) (hi : PI X tg e (lftI X.K DI wi)) (hg : CG X.K DI N (relS scope sc) k fns cs bl tg (own.map (·.2)) t g) (ht : ∀ Y : Cx, Y.K = X.K → Ob Y DI N (relS scope sc) k fns cs bl false → PTs Y ifs (lftT Y.K DI ta))
    (he : ∀ Y : Cx, Y.K = X.K → Ob Y DI N (relS scope sc) k fns cs bl false → PE Y e2 (lft Y.K DI a)) (h : (blkC N sc scope own && nSet e) = true := by kernel_rfl) : PE X (.ListComp e2 [⟨tg, e, ifs, 0⟩] scope pos) (lft X.K DI (wLcN wi g ta a (own.map (·.2)))) := de_lcN (lc_txt o hi hg ht he h)
def okS (N : List Str) (sc scope : Scope) (i : Nat) (y : Str) (py lpos : Pos) : Bool := decide (N[i]? = some y) && (decide (sc.names.lookup y = some .local) && (py.line == lpos.line && !(scope.names.any fun (n, k) => n == y && (k == .local || k == .cell))))
theorem okS_ok {i : Nat} {y : Str} {py lpos : Pos} {gens : List Comprehension} {l : Nat} (o : Ob X DI N sc k fns cs bl fc) (h : okS N sc scope i y py lpos = true) : X.N[i]? = some y ∧ X.env.scope.names.lookup y = some .local ∧ swapsWith (.ListComp e2 gens scope lpos) (some (.Name y py)) l X.env = pure true := by
  unfold okS at h
  simp only [Bool.and_eq_true, decide_eq_true_eq] at h
  obtain ⟨h1, h2, h3, h4⟩ := h
  refine ⟨by rw [o.hN]; exact h1, by rw [o.hsc]; exact h2, ?_⟩
  show pure _ = _
  have b1 : (X.env.blockKind == .function) = true := by
    unfold PySem.Env.blockKind
    rw [o.hsc, o.knd]
    rfl
  have b2 : (X.env.kindOf y == some .local) = true := by
    show (X.env.scope.names.lookup y == some .local) = true
    rw [o.hsc, h2]
    rfl
  rw [b1, b2]
  show pure ((py.line == lpos.line) && _) = _
  rw [h3, h4]
  rfl
theorem s_lc {y : Str} {py : Pos} (o : Ob X DI N sc k fns cs bl fc) (i : Nat) (own : List (Str × Nat)) (hi : PI X tg e (lftI X.K DI wi)) (hg : CG X.K DI N (relS scope sc) k fns cs bl tg (own.map (·.2)) t g) (ht : ∀ Y : Cx, Y.K = X.K → Ob Y DI N (relS scope sc) k fns cs bl false → PTs Y ifs (lftT Y.K DI ta))
    (he : ∀ Y : Cx, Y.K = X.K → Ob Y DI N (relS scope sc) k fns cs bl false → PE Y e2 (lft Y.K DI a)) (h : (blkC N sc scope own && nSet e) = true := by kernel_rfl) (h2 : okS N sc scope i y py p2 = true := by kernel_rfl) : PS X (.Assign [.Name y py] (.ListComp e2 [⟨tg, e, ifs, 0⟩] scope p2) pos) (lftS X.K DI (wAsg (wLc wi g ta a (own.map (·.2))) (gN i))) := by
  obtain ⟨h3, h4, h5⟩ := okS_ok (e2 := e2) (gens := [⟨tg, e, ifs, 0⟩]) (l := pos.line) o h2
  exact ds_setLc h3 h4 h5 (lc_txt o hi hg ht he h)
theorem s_lcN {y : Str} {py : Pos} (o : Ob X DI N sc k fns cs bl fc) (i : Nat) (own : List (Str × Nat)) (hi : PI X tg e (lftI X.K DI wi)) (hg : CG X.K DI N (relS scope sc) k fns cs bl tg (own.map (·.2)) t g) (ht : ∀ Y : Cx, Y.K = X.K → Ob Y DI N (relS scope sc) k fns cs bl false → PTs Y ifs (lftT Y.K DI ta))
    (he : ∀ Y : Cx, Y.K = X.K → Ob Y DI N (relS scope sc) k fns cs bl false → PE Y e2 (lft Y.K DI a)) (h : (blkC N sc scope own && nSet e) = true := by kernel_rfl) (h2 : okS N sc scope i y py p2 = true := by kernel_rfl) : PS X (.Assign [.Name y py] (.ListComp e2 [⟨tg, e, ifs, 0⟩] scope p2) pos) (lftS X.K DI (wAsg (wLcN wi g ta a (own.map (·.2))) (gN i))) := by
  obtain ⟨h3, h4, h5⟩ := okS_ok (e2 := e2) (gens := [⟨tg, e, ifs, 0⟩]) (l := pos.line) o h2
  exact ds_setLcN h3 h4 h5 (lc_txt o hi hg ht he h)
end
/-! ### statements -/
section
variable {st : Stmt} {sts b1 b2 : List Stmt} {wa1 wb1 : WS} {g : WG} {tg : Expr} {wi : WI}
theorem s_nil : PSs X [] (lftS X.K DI wSkip) := dss_nil
theorem s_cons (ha : PS X st (lftS X.K DI wa1)) (hb : PSs X sts (lftS X.K DI wb1)) : PSs X (st :: sts) (lftS X.K DI (wSeq wa1 wb1)) := dss_cons ha hb
theorem s_ret (h : PE X e (lft X.K DI a)) : PS X (.Return (some e) pos) (lftS X.K DI (wRet a)) := ds_ret h
theorem s_retN : PS X (.Return none pos) (lftS X.K DI wRetN) := ds_retN
theorem s_expr (h : PE X e (lft X.K DI a)) (hs : nComp e = true := by kernel_rfl) : PS X (.Expr e pos) (lftS X.K DI (wExpr a)) := ds_expr h (swap_of hs)
theorem s_if (hc : PT X e (lftT X.K DI ta)) (ha : PSs X b1 (lftS X.K DI wa1)) (hb : PSs X b2 (lftS X.K DI wb1)) : PS X (.If e b1 b2 pos) (lftS X.K DI (wIfS ta wa1 wb1)) := ds_if hc ha hb
theorem s_asg (he : PE X e (lft X.K DI a)) (hg : PG X tg (lftG X.K DI g)) (h : (nComp e && (nStar tg && (nTup e || nTup1 tg))) = true := by kernel_rfl) : PS X (.Assign [tg] e pos) (lftS X.K DI (wAsg a g)) := by
  simp only [Bool.and_eq_true] at h
  exact ds_asg he hg (swapS_of h.1) (swp_no h.2.2) (tg_map h.2.1)
theorem s_set (o : Ob X DI N sc k fns cs bl fc) (i : Nat) (he : PE X e (lft X.K DI a)) (h : (okT fc N sc i x && nComp e) = true := by kernel_rfl) : PS X (.Assign [.Name x p2] e pos) (lftS X.K DI (wAsg a (gN i))) := by
  unfold okT at h
  simp only [Bool.and_eq_true, decide_eq_true_eq] at h
  obtain ⟨l1, l2⟩ := loc_of o h.1.2
  exact ds_set (by rw [o.hN]; exact o.nd) (by rw [o.hN]; exact h.1.1) l1 he (swap_of h.2) l2
/-- (a, b) = (constants) and its like -/
theorem s_asgT {ts vs : List Expr} {k1 k2 : Nat} {q1 q2 : Pos} (o : Ob X DI N sc k fns cs bl fc) (he : PE X (.Tuple vs k2 q2) (lft X.K DI a)) (hg : PG X (.Tuple ts k1 q1) (lftG X.K DI g)) (h : decide (swp sc ts vs = some none) = true := by kernel_rfl) : PS X (.Assign [.Tuple ts k1 q1] (.Tuple vs k2 q2) pos) (lftS X.K DI (wAsg a g)) :=
  ds_asg he hg rfl (swp_ok o.hsc o.knd (of_decide_eq_true h)) rfl
theorem s_par {x y : Str} {px py q1 q2 : Pos} {k1 k2 : Nat} (o : Ob X DI N sc k fns cs bl fc) (i j : Nat) (ha : PAn X [e, e2] (lftA X.K DI wa)) (h : (decide (N[i]? = some x) && (decide (N[j]? = some y) && (decide (i ≠ j) && (decide (sc.names.lookup x = some .local) && (decide (sc.names.lookup y = some .local) && decide (swp sc [.Name x px, .Name y py] [e, e2] = some (some [x, y]))))))) = true := by kernel_rfl) :
    PS X (.Assign [.Tuple [.Name x px, .Name y py] k1 q1] (.Tuple [e, e2] k2 q2) pos) (lftS X.K DI (wPar i j wa)) := by
  simp only [Bool.and_eq_true, decide_eq_true_eq] at h
  obtain ⟨h1, h2, h3, h4, h5, h6⟩ := h
  exact ds_par o.hc (by rw [o.hN]; exact o.nd) (by rw [o.hN]; exact h1) (by rw [o.hN]; exact h2) h3 (by rw [o.hsc]; exact h4) (by rw [o.hsc]; exact h5) ha.pa (swp_ok o.hsc o.knd h6) rfl
theorem s_par3 {x y z : Str} {px py pz q1 q2 : Pos} {k1 k2 : Nat} (o : Ob X DI N sc k fns cs bl fc) (i j l : Nat) (ha : PAn X [e, e2, e3] (lftA X.K DI wa)) (h : (decide (N[i]? = some x) && (decide (N[j]? = some y) && (decide (N[l]? = some z) && (decide (i ≠ j) && (decide (i ≠ l) && (decide (j ≠ l) && (decide (sc.names.lookup x = some .local) && (decide (sc.names.lookup y = some .local) && (decide (sc.names.lookup z = some .local) && decide (swp sc [.Name x px, .Name y py, .Name z pz] [e, e2, e3] = some (some [x, y, z]))))))))))) = true := by kernel_rfl) :
    PS X (.Assign [.Tuple [.Name x px, .Name y py, .Name z pz] k1 q1] (.Tuple [e, e2, e3] k2 q2) pos) (lftS X.K DI (wPar3 i j l wa)) := by
  simp only [Bool.and_eq_true, decide_eq_true_eq] at h
  obtain ⟨h1, h2, h3, h4, h5, h6, h7, h8, h9, h10⟩ := h
  exact ds_par3 o.hc (by rw [o.hN]; exact o.nd) (by rw [o.hN]; exact h1) (by rw [o.hN]; exact h2) (by rw [o.hN]; exact h3) h4 h5 h6 (by rw [o.hsc]; exact h7) (by rw [o.hsc]; exact h8) (by rw [o.hsc]; exact h9) ha.pa (swp_ok o.hsc o.knd h10) rfl
theorem s_while (o : Ob X DI N sc k fns cs bl true) (hc : PT X e (lftT X.K DI ta)) (hb : PSs X b1 (lftS X.K DI wa1)) : PS X (.While e b1 [] pos) (lftS X.K DI (wWhile ta wa1)) := ds_while (by rw [o.xeF rfl]; exact PassesOwn.never) hc hb
theorem s_for (o : Ob X DI N sc k fns cs bl true) (hi : PI X tg e (lftI X.K DI wi)) (hg : PG X tg (lftG X.K DI g)) (hb : PSs X b1 (lftS X.K DI wa1)) (h : nSet e = true := by kernel_rfl) : PS X (.For tg e b1 [] pos) (lftS X.K DI (wFor wi g wa1)) := ds_for (by rw [o.xeF rfl]; exact PassesOwn.never) o.hc hi hg hb (fold_of h)
theorem s_frz (i : Nat) (h : PS X st (lftS X.K DI wa1)) : PS X st (lftS X.K DI (wFrz i wa1)) := ds_frz h
end
end
end Dv

/-! Dv12: methods of lists and texts, displays of dicts, enumerate. -/
namespace Dv
open PySem PySem.Spec L2
open PyProof.Rows hiding St

section
variable {X : Cx} {DI : Addr → GH → Prop} {N : List Str} {sc : Scope} {k : Nat} {fns : List Fn} {cs : List (Str × D)} {bl : List Str} {fc : Bool}
variable {x : Str} {pos apos p2 p3 : Pos} {e e2 e3 : Expr} {es rest : List Expr} {a b c : W} {wa : WA} {ta tb : WT} {w2 w3 : W2} {j0 : Nat}
/-! ### methods -/
def isLs (S : GS) : D → Bool
  | .lst _ => true
  | .ref p => match S.g p with
    | some (.lst _) => true
    | _ => false
  | _ => false
theorem isLs_ok {K : PySem.W.Frag} {F H : Hp} {S : GS} {d : D} {v : V} (rel : Rel K DI F S H) (den : Den K H d v) (h : isLs S d = true) : tyV K "list" v H := by
  cases den with
  | lst h1 h2 => exact .inl ⟨rfl, _, .inl (.inr ⟨_, h1⟩)⟩
  | ref p =>
    unfold isLs at h
    simp only at h
    split at h
    · rename_i es q
      obtain ⟨vs, e1, e2⟩ := rel.rep p _ q
      exact .inl ⟨rfl, vs, .inl (.inl e1)⟩
    · cases h
  | _ => cases h
def wMl (f : D → WF) (a : W) (as : WA) : W := fun ρ S Q => a ρ S fun d S1 => isLs S1 d = true ∧ as ρ S1 fun ds S2 => f d ds S2 Q
theorem ml_of {f : D → WF} {σ : L2.St} {H : Hp} {Q : VK} (h : lft X.K DI (wMl f a wa) σ H Q) : tBM X.K "list" (lftM X.K DI f) (lft X.K DI a) (lftA X.K DI wa) σ H Q := by
  obtain ⟨F, ρ, S, R, rel, env, w, fin⟩ := h
  refine ⟨F, ρ, S, _, rel, env, w, fun d S1 v H1 q1 rel1 k1 d1 => ⟨isLs_ok rel1 d1 q1.1, ?_⟩⟩
  exact ⟨F, ρ, S1, _, rel1, env.mn k1, q1.2, fun ds S2 vs H2 q2 rel2 k2 d2 => ⟨F, d, ds, S2, R, rel2, d1.mn k2, d2, q2, fin.up (k1.trans k2)⟩⟩
theorem few_of {pos : Pos} {env : PySem.Env} {es : List Expr} (h : (es.all nStar && decide (es.length < 30)) = true) : ((backTo pos (starEach es env)).all (fun x => !x.1) && (backToKw pos (keywordEach [] env)).all (fun x => x.1.isSome)
      && decide (es.length + ([] : List Keyword).length + (if ([] : List Keyword).isEmpty then 0 else 1) < 30)) = true := by
  rw [Bool.and_eq_true] at h
  rw [star_all h.1]
  exact h.2
theorem m_list {name : Str} {id : String} {f : D → WF} (slot : Slot "list" name id) (hty : typeOf (.builtin id) = pure (.type "method_descriptor")) (hm : MtR X id (lftM X.K DI f)) (ho : PE X e (lft X.K DI a)) (ha : PAn X (e2 :: es) (lftA X.K DI wa))
    (h : (nBase e && ((apos.endLine == pos.line) && ((e2 :: es).all nStar && decide ((e2 :: es).length < 30)))) = true) : PE X (.Call (.Attribute e name apos) (e2 :: es) [] pos) (lft X.K DI (wMl f a wa)) := by
  simp only [Bool.and_eq_true] at h
  obtain ⟨h1, h2, h3, h4⟩ := h
  have h3' := h3
  rw [List.all_cons, Bool.and_eq_true] at h3'
  exact (pe_bm PySem.F.plainAttrs_list slot hty hm ho ha.pa (base_of h1) (few_of (by rw [h3, h4]; rfl)) h2 (star_cons h3'.1) (star_pl h3'.2)).imp fun _ _ _ q => ml_of q
theorem m_list0 {name : Str} {id : String} {f : D → WF} (slot : Slot "list" name id) (hty : typeOf (.builtin id) = pure (.type "method_descriptor")) (hm : MtR X id (lftM X.K DI f)) (ho : PE X e (lft X.K DI a))
    (h : (nBase e && (apos.endLine == pos.line)) = true) : PE X (.Call (.Attribute e name apos) [] [] pos) (lft X.K DI (wMl f a wNil)) := by
  simp only [Bool.and_eq_true] at h
  obtain ⟨h1, h2⟩ := h
  exact (pe_bm0 PySem.F.plainAttrs_list slot hty hm ho (base_of h1) h2).imp fun σ H Q q => by
    obtain ⟨F, ρ, S, R, rel, env, w, fin⟩ := q
    exact ⟨F, ρ, S, _, rel, env, w, fun d S1 v H1 q1 rel1 k1 d1 => ⟨isLs_ok rel1 d1 q1.1, F, d, [], S1, R, rel1, d1, .nil, q1.2, fin.up k1⟩⟩
/-- .append(y) -/
def fAppend : D → WF := fun d ds S Q => match d, ds with
  | .ref p, [y] => match S.g p with
    | some (.lst xs) => xs.length < sizeLine ∧ Q .non (S.set p (.lst (xs ++ [y])))
    | _ => False
  | _, _ => False
theorem dm_append : MtR X "list.append" (lftM X.K DI fAppend) := MtR.imp mt_append fun x xs H Q q => by
  obtain ⟨F, d, ds, S, R, rel, den, dl, w, fin⟩ := q
  unfold fAppend at w
  split at w
  · rename_i p y
    split at w
    · rename_i es q
      cases den
      cases dl with
      | cons d1 r =>
        cases r
        obtain ⟨vs, e1, e2⟩ := rel.rep _ _ q
        rename_i v0
        have kp : Kp H (upd H p (.lst (vs ++ [v0]))) := .lst e1
        exact ⟨p, vs, _, rfl, rfl, e1, by rw [← e2.length]; exact w.1, fin _ _ _ _ w.2 (rel.set kp (.inr ⟨_, q⟩) ⟨_, upd_same, (e2.append (.one d1)).mn kp⟩) kp .non⟩
    · exact w.elim
  · exact w.elim
theorem e_append (ho : PE X e (lft X.K DI a)) (ha : PAn X (e2 :: es) (lftA X.K DI wa)) (h : (nBase e && ((apos.endLine == pos.line) && ((e2 :: es).all nStar && decide ((e2 :: es).length < 30)))) = true := by kernel_rfl) : PE X (.Call (.Attribute e "append" apos) (e2 :: es) [] pos) (lft X.K DI (wMl fAppend a wa)) :=
  m_list PySem.F.slot_list_append PySem.F.type_list_append dm_append ho ha h
/-- .pop() -/
def fPop : D → WF := fun d ds S Q => match d, ds with
  | .ref p, [] => match S.g p with
    | some (.lst xs) => ∃ y, xs[xs.length - 1]? = some y ∧ Q y (S.set p (.lst xs.dropLast))
    | _ => False
  | _, _ => False
theorem dm_pop : MtR X "list.pop" (lftM X.K DI fPop) := MtR.imp mt_pop fun x xs H Q q => by
  obtain ⟨F, d, ds, S, R, rel, den, dl, w, fin⟩ := q
  unfold fPop at w
  split at w
  · rename_i p
    split at w
    · rename_i es q
      cases den
      cases dl
      obtain ⟨vs, e1, e2⟩ := rel.rep _ _ q
      obtain ⟨y, w1, w2⟩ := w
      rw [e2.length] at w1
      obtain ⟨v, g1, g2⟩ := e2.get w1
      have kp : Kp H (upd H p (.lst vs.dropLast)) := .lst e1
      exact ⟨p, vs, v, rfl, rfl, e1, g1, fin _ _ _ _ w2 (rel.set kp (.inr ⟨_, q⟩) ⟨_, upd_same, e2.dropLast.mn kp⟩) kp (g2.mn kp)⟩
    · exact w.elim
  · exact w.elim
theorem e_pop (ho : PE X e (lft X.K DI a)) (h : (nBase e && (apos.endLine == pos.line)) = true := by kernel_rfl) : PE X (.Call (.Attribute e "pop" apos) [] [] pos) (lft X.K DI (wMl fPop a wNil)) :=
  m_list0 PySem.F.slot_list_pop PySem.F.type_list_pop dm_pop ho h
/-- .pop(i), i from 0 on -/
def fPopAt : D → WF := fun d ds S Q => match d, ds with
  | .ref p, [.int i] => match S.g p with
    | some (.lst xs) => 0 ≤ i ∧ i < 2 ^ 62 ∧ ∃ y, xs[i.toNat]? = some y ∧ Q y (S.set p (.lst (xs.eraseIdx i.toNat)))
    | _ => False
  | _, _ => False
theorem dm_popAt : MtR X "list.pop" (lftM X.K DI fPopAt) := MtR.imp mt_popAt fun x xs H Q q => by
  obtain ⟨F, d, ds, S, R, rel, den, dl, w, fin⟩ := q
  unfold fPopAt at w
  split at w
  · rename_i p i
    split at w
    · rename_i es q
      cases den
      cases dl with
      | cons d1 r =>
        cases r
        cases d1
        obtain ⟨vs, e1, e2⟩ := rel.rep _ _ q
        obtain ⟨w0, w1, y, w2, w3⟩ := w
        obtain ⟨v, g1, g2⟩ := e2.get w2
        have kp : Kp H (upd H p (.lst (vs.eraseIdx i.toNat))) := .lst e1
        have hl : i.toNat < vs.length := by
          rcases Nat.lt_or_ge i.toNat vs.length with z | z
          · exact z
          · rw [List.getElem?_eq_none z] at g1; cases g1
        refine ⟨p, vs, i, i.toNat, v, rfl, rfl, e1, by omega, by omega, ?_, g1, fin _ _ _ _ w3 (rel.set kp (.inr ⟨_, q⟩) ⟨_, upd_same, (e2.eraseIdx _).mn kp⟩) kp (g2.mn kp)⟩
        unfold seqIndex?
        have c1 : ¬ i < 0 := by omega
        have c2 : i < (vs.length : Int) := by omega
        simp [c1, c2]
    · exact w.elim
  · exact w.elim
theorem e_popAt (ho : PE X e (lft X.K DI a)) (ha : PAn X (e2 :: es) (lftA X.K DI wa)) (h : (nBase e && ((apos.endLine == pos.line) && ((e2 :: es).all nStar && decide ((e2 :: es).length < 30)))) = true := by kernel_rfl) : PE X (.Call (.Attribute e "pop" apos) (e2 :: es) [] pos) (lft X.K DI (wMl fPopAt a wa)) :=
  m_list PySem.F.slot_list_pop PySem.F.type_list_pop dm_popAt ho ha h
/-- 'a b'.split() -/
def wWords (a : W) : W := fun ρ S Q => a ρ S fun d S1 => match d with
  | .str z => z.length + 2 ≤ sizeLine ∧ Q (.lst ((Txt.words z).map D.str)) S1
  | _ => False
theorem den_strs {K : PySem.W.Frag} {H : Hp} : ∀ zs : List Str, DenL K H (zs.map D.str) (zs.map V.str)
  | [] => .nil
  | z :: zs => .cons (.str z) (den_strs zs)
theorem e_words (ho : PE X e (lft X.K DI a)) (h : (nBase e && (apos.endLine == pos.line)) = true := by kernel_rfl) : PE X (.Call (.Attribute e "split" apos) [] [] pos) (lft X.K DI (wWords a)) := by
  rw [Bool.and_eq_true] at h
  exact (peLQ (pe_words ho (base_of h.1) h.2)).imp fun σ H Q q => by
    obtain ⟨F, ρ, S, R, rel, env, w, fin⟩ := q
    refine ⟨F, ρ, S, _, rel, env, w, fun d S1 v H1 q1 rel1 k1 d1 => ?_⟩
    cases d with
    | str z =>
      cases d1
      exact ⟨⟨z, rfl⟩, z, rfl, rfl, q1.1, fun p hp => fin.lst q1.2 rel1 k1 (den_strs _) hp⟩
    | _ => exact q1.elim

/-! ### displays of dicts -/
def wPairs : List (W × W) → Env → GS → (List (D × D) → GS → Prop) → Prop
  | [], _, S, Q => Q [] S
  | (a, b) :: r, ρ, S, Q => a ρ S fun d S1 => b ρ S1 fun e S2 => wPairs r ρ S2 fun ps S3 => Q ((d, e) :: ps) S3
def DenP (K : PySem.W.Frag) (H : Hp) : List (D × D) → List (V × V) → Prop
  | [], [] => True
  | p :: ps, q :: qs => Den K H p.1 q.1 ∧ Den K H p.2 q.2 ∧ DenP K H ps qs
  | _, _ => False
theorem DenP.mn {K : PySem.W.Frag} {H H' : Hp} (k : Kp H H') : ∀ {ps : List (D × D)} {qs : List (V × V)}, DenP K H ps qs → DenP K H' ps qs
  | [], [], h => h
  | _ :: _, _ :: _, h => ⟨h.1.mn k, h.2.1.mn k, DenP.mn k h.2.2⟩
  | [], _ :: _, h => h
  | _ :: _, [], h => h
def lftP (K : PySem.W.Frag) (DI : Addr → GH → Prop) (l : List (W × W)) : List (TE × TE) := l.map fun p => (lft K DI p.1, lft K DI p.2)
theorem pairs_of {K : PySem.W.Frag} {F : Hp} : ∀ (l : List (W × W)) {ρ : Env} {S : GS} {σ : L2.St} {H : Hp} {R : List (D × D) → GS → Prop} {Q : List (V × V) → Hp → Prop}, Rel K DI F S H → EnvR K H ρ σ → wPairs l ρ S R →
    (∀ ps S' qs H', R ps S' → Rel K DI F S' H' → Kp H H' → DenP K H' ps qs → Q qs H') → tPairs (lftP K DI l) σ H Q
  | [], _, _, _, H, _, _, rel, env, w, f => f _ _ _ _ w rel (.refl H) trivial
  | (a, b) :: r, ρ, S, σ, H, R, Q, rel, env, w, f => by
    refine ⟨F, ρ, S, _, rel, env, w, fun d S1 v H1 q1 rel1 k1 d1 => ?_⟩
    refine ⟨F, ρ, S1, _, rel1, env.mn k1, q1, fun d2 S2 v2 H2 q2 rel2 k2 d22 => ?_⟩
    exact pairs_of r rel2 (env.mn (k1.trans k2)) q2 fun ps S3 qs H3 q3 rel3 k3 d3 => f _ _ _ _ q3 rel3 (k1.trans (k2.trans k3)) ⟨d1.mn (k2.trans k3), d22.mn k3, d3⟩
structure PPd (X : Cx) (DI : Addr → GH → Prop) (pos : Pos) (keys : List (Option Expr)) (vals : List Expr) (l : List (W × W)) : Prop where
  p : PPs X pos keys vals (lftP X.K DI l)
theorem d_nil : PPd X DI pos [] [] [] := ⟨pps_nil⟩
theorem d_cons {keys : List (Option Expr)} {l : List (W × W)} (h1 : PE X e (lft X.K DI a)) (h2 : PE X e2 (lft X.K DI b)) (h3 : PPd X DI pos keys es l) : PPd X DI pos (some e :: keys) (e2 :: es) ((a, b) :: l) := ⟨pps_cons h1 h2 h3.p⟩
def keyPs : List (D × D) → Option (List (Key × D))
  | [] => some []
  | (d, e) :: r => match keyOf d, keyPs r with
    | some k, some ks => some ((k, e) :: ks)
    | _, _ => none
def mergeD (acc : List (Key × D)) (l : List (Key × D)) : List (Key × D) := l.foldl (fun acc p => put p.1 p.2 acc) acc
theorem keyPs_ok {K : PySem.W.Frag} {H : Hp} : ∀ {ps : List (D × D)} {qs : List (V × V)} {ks : List (Key × D)}, DenP K H ps qs → keyPs ps = some ks → ∃ kvs : List (Key × V), qs = kvs.map (fun kv => (kV kv.1, kv.2)) ∧ DenK K H ks kvs
  | [], [], _, _, e => by
    cases e
    exact ⟨[], rfl, .nil⟩
  | (d, x) :: ps, (v, y) :: qs, ks, h, e => by
    unfold keyPs at e
    split at e
    · rename_i k ks' e1 e2
      cases e
      obtain ⟨kvs, h1, h2⟩ := keyPs_ok h.2.2 e2
      have := keyOf_ok h.1 e1
      have h3 : v = kV k := this
      exact ⟨(k, y) :: kvs, by rw [h1, h3]; rfl, .cons h.2.1 h2⟩
    · cases e
  | [], _ :: _, _, h, _ => h.elim
  | _ :: _, [], _, h, _ => h.elim
theorem merge_ok {K : PySem.W.Frag} {H : Hp} : ∀ {l : List (Key × D)} {us : List (Key × V)} {acc : List (Key × D)} {vs : List (Key × V)}, DenK K H l us → DenK K H acc vs → DenK K H (mergeD acc l) (mergeK vs us)
  | [], _, _, _, h, h2 => by cases h; exact h2
  | (k, d) :: l, _, _, _, h, h2 => by
    cases h with
    | cons h1 h3 =>
      have z := merge_ok h3 (h2.put (k := k) h1)
      exact z
/-- {k: v, ..}, told by what it holds -/
def wDisp (l : List (W × W)) : W := fun ρ S Q => wPairs l ρ S fun ps S1 => ∃ ks, keyPs ps = some ks ∧ ks.length ≤ 15 ∧ Q (.dct (mergeD [] ks)) S1
def wDispN (l : List (W × W)) : W := fun ρ S Q => wPairs l ρ S fun ps S1 => ∃ ks, keyPs ps = some ks ∧ ks.length ≤ 15 ∧ ∀ p, S1.g p = none → Q (.ref p) (S1.set p (.dct (mergeD [] ks)))
theorem Rel.lockG {F H : Hp} {K : PySem.W.Frag} {S : GS} {p : Addr} {u : HO} {w : HO} (r : Rel K DI (upd F p u) S H) (hF : F p = none) (mu : Mut (some u)) : Rel K DI F S (upd H p w) ∧ Kp H (upd H p w) := by
  have hp := (r.frm p _ upd_same).1
  have k : Kp H (upd H p w) := ⟨fun b x e => by rw [upd_ne (fun z => by rw [z, hp] at e; cases e; exact mu)]; exact e, fun b x o e => by rw [upd_ne (fun z => by rw [z, hp] at e; cases e; exact mu)]; exact e⟩
  refine ⟨(r.turn upd_same k).alone fun a o e => ?_, k⟩
  have ha : a ≠ p := fun z => by rw [z, hF] at e; cases e
  rw [upd_ne ha, upd_ne ha]
  exact e
theorem disp_pre {K : PySem.W.Frag} {F : Hp} {l : List (W × W)} {ρ : Env} {S : GS} {σ : L2.St} {H : Hp} {R : List (D × D) → GS → Prop} {Q : V → Hp → Prop} (rel : Rel K DI F S H) (env : EnvR K H ρ σ) (w : wPairs l ρ S R)
    (f : ∀ p ps S' kvs H2 ks, R ps S' → Rel K DI (upd F p (.dK [])) S' H2 → F p = none → Kp H H2 → keyPs ps = some ks → DenK K H2 ks kvs → ks.length ≤ 15 → Q (.ref p) (upd H2 p (.dK (mergeK [] kvs)))) (hk : ∀ ps S', R ps S' → ∃ ks, keyPs ps = some ks ∧ ks.length ≤ 15) : tDisp (lftP K DI l) σ H Q := by
  intro p hp
  have hF : F p = none := by
    cases q : F p with
    | none => rfl
    | some o => rw [(rel.frm p o q).1] at hp; cases hp
  have kn : Kp H (upd H p (.dK [])) := .new hp
  refine pairs_of l (rel.beside hp) (env.mn kn) w fun ps S' qs H' r rel' k' dp => ?_
  obtain ⟨ks, e1, e2⟩ := hk ps S' r
  obtain ⟨kvs, e3, e4⟩ := keyPs_ok dp e1
  refine ⟨(rel'.frm p _ upd_same).1, kvs, e3, by rw [← e4.length]; exact e2, ?_⟩
  exact f p ps S' kvs H' ks r rel' hF (kn.trans k') e1 e4 e2
theorem e_disp {keys : List (Option Expr)} {vals : List Expr} {l : List (W × W)} (hp : PPd X DI pos keys vals l) (h : (keys.all (·.isSome) && (decide (keys.length = vals.length) && (!keys.isEmpty && decide (keys.length ≤ 15)))) = true := by kernel_rfl) : PE X (.Dict keys vals pos) (lft X.K DI (wDisp l)) := by
  simp only [Bool.and_eq_true, decide_eq_true_eq] at h
  obtain ⟨h1, h2, h3, h4⟩ := h
  refine (peLQ (pe_disp hp.p h1 h2 (by intro z; rw [z] at h3; cases h3) h4)).imp fun σ H Q q => ?_
  obtain ⟨F, ρ, S, R, rel, env, w, fin⟩ := q
  refine disp_pre rel env w (fun p ps S' kvs H2 ks r rel2 hF k2 e1 d2 l2 => ?_) fun ps S' ⟨ks, e1, e2, _⟩ => ⟨ks, e1, e2⟩
  obtain ⟨ks', e1', _, r⟩ := r
  rw [e1] at e1'
  cases e1'
  refine .inr ⟨p, .dK (mergeK [] kvs), upd_same, trivial, fun od => ?_⟩
  rw [upd_upd]
  obtain ⟨r3, k3⟩ := Rel.lockG (w := .frz od (.dK (mergeK [] kvs))) rel2 hF trivial
  exact fin _ _ _ _ r r3 (k2.trans k3) (.dct upd_same ((merge_ok d2 .nil).mn k3))
theorem e_dispN {keys : List (Option Expr)} {vals : List Expr} {l : List (W × W)} (hp : PPd X DI pos keys vals l) (h : (keys.all (·.isSome) && (decide (keys.length = vals.length) && (!keys.isEmpty && decide (keys.length ≤ 15)))) = true := by kernel_rfl) : PE X (.Dict keys vals pos) (lft X.K DI (wDispN l)) := by
  simp only [Bool.and_eq_true, decide_eq_true_eq] at h
  obtain ⟨h1, h2, h3, h4⟩ := h
  refine (pe_disp hp.p h1 h2 (by intro z; rw [z] at h3; cases h3) h4).imp fun σ H Q q => ?_
  obtain ⟨F, ρ, S, R, rel, env, w, fin⟩ := q
  refine disp_pre rel env w (fun p ps S' kvs H2 ks r rel2 hF k2 e1 d2 l2 => ?_) fun ps S' ⟨ks, e1, e2, _⟩ => ⟨ks, e1, e2⟩
  obtain ⟨ks', e1', _, r⟩ := r
  rw [e1] at e1'
  cases e1'
  have hp2 := rel2.frm p _ upd_same
  have k3 : Kp H2 (upd H2 p (.dK (mergeK [] kvs))) := .dct hp2.1
  have r1 : Rel X.K DI F S' (upd H2 p (.dK (mergeK [] kvs))) := (Rel.lockG (w := .dK (mergeK [] kvs)) rel2 hF trivial).1
  have hid : ∀ dk, S'.o = some dk → ∃ G, DI dk G ∧ G p = none := fun dk e => by
    obtain ⟨G, g1, g2, g3, g4⟩ := rel2.hid dk e
    exact ⟨G, g1, g4 p _ upd_same⟩
  have r2 : Rel X.K DI F (S'.set p (.dct (mergeD [] ks))) (upd H2 p (.dK (mergeK [] kvs))) := by
    have rB := rel2.turn upd_same k3
    refine ⟨fun a m e => ?_, fun dk e => ?_, fun a o e => ?_⟩
    · by_cases ha : a = p
      · subst ha
        rw [GS.set_same] at e
        cases e
        exact ⟨_, upd_same, (merge_ok d2 .nil).mn k3⟩
      · rw [GS.set_ne ha] at e
        exact rB.rep a m e
    · obtain ⟨G, g1, g2, g3, g4⟩ := rB.hid dk e
      refine ⟨G, g1, g2, fun a m q => ?_, fun a o q => ?_⟩
      · by_cases ha : a = p
        · rw [ha]; exact g4 p _ upd_same
        · rw [GS.set_ne ha] at q
          exact g3 a m q
      · have ha : a ≠ p := fun z => by rw [z, hF] at q; cases q
        exact g4 a o (by rw [upd_ne ha, upd_ne ha]; exact q)
    · have ha : a ≠ p := fun z => by rw [z, hF] at e; cases e
      obtain ⟨h1, h2⟩ := rB.frm a o (by rw [upd_ne ha, upd_ne ha]; exact e)
      exact ⟨h1, by rw [GS.set_ne ha]; exact h2⟩
  exact fin _ _ _ _ (r p hp2.2) r2 (k2.trans k3) (.ref p)
def wD0 : W := fun _ S Q => Q (.dct []) S
theorem e_d0 : PE X (.Dict [] [] pos) (lft X.K DI wD0) := (peLQ pe_dnewK).imp fun σ H Q q => by
  obtain ⟨F, ρ, S, R, rel, env, w, fin⟩ := q
  exact fun p hp => fin.dct (S := S) w rel (.refl H) .nil hp
def wD0N : W := fun _ S Q => ∀ p, S.g p = none → Q (.ref p) (S.set p (.dct []))
theorem e_d0N : PE X (.Dict [] [] pos) (lft X.K DI wD0N) := pe_dnewK.imp fun σ H Q q => by
  obtain ⟨F, ρ, S, R, rel, env, w, fin⟩ := q
  exact fun p hp => fin.newD (S := S) (w p (rel.free hp)) rel (.refl H) .nil hp
end
end Dv

/-! Dv13: enumerate over a tuple or a list. -/
namespace Dv
open PySem PySem.Spec L2
open PyProof.Rows hiding St

set_option maxHeartbeats 1000000 in
theorem meets_enum1 {v : Value} {o : Obj} {G : Heap → Prop} (B : Begins v o G) :
    Meets (Builtin.«enumerate.__new__» ⟨[.type "enumerate", v], []⟩) (fun _ R s => G s.heap ∧
      R (.ok (.ret (.ref (s.heap.push o).objs.size))) { s with heap := (s.heap.push o).push { cls := .type "enumerate", data := .fields #[.none, .bool false, .ref s.heap.objs.size, rawInt 0, .none, .none] } }) :=
  .of_wp fun prog w A R s h => by
    obtain ⟨hp, g, d, tk, os⟩ := s; obtain ⟨h1, h⟩ := h
    have hsub := sub_enumerate
    have q1 : ∀ {A' : Around} {E : Value → Shared → Prop} {Q : Value → Shared → Prop}, Q (.ref hp.objs.size) ⟨hp.push o, g, d, tk, os⟩ → wpAny (model prog w) A' (pyIter v) Q E ⟨hp, g, d, tk, os⟩ :=
      fun q => B.iter prog w _ _ ⟨hp, g, d, tk, os⟩ _ h1 q
    wp_walk using q1
    refine wpAny_stack_any fun st => wpAny_pure ?_
    split
    · rename_i c _ _ _ _ _
      cases (c == Value.type "enumerate")
      · wp_walk using q1
        exact ⟨_, rfl, h⟩
      · wp_walk using q1
        exact ⟨_, rfl, h⟩
    · wp_walk using q1
      exact ⟨_, rfl, h⟩
theorem enum_one {prog : Program} {w : World} {A : Around} {E : Value → Shared → Prop} {s : Shared} {v : Value} {o : Obj} {G : Heap → Prop} {Q : Value → Shared → Prop} (B : Begins v o G) (h1 : G s.heap)
    (h : ∀ h', IsEnum h' (s.heap.objs.size + 1) s.heap.objs.size 0 .none → h'.get? s.heap.objs.size = some o → h'.objs.size = s.heap.objs.size + 2 →
      (∀ b o, s.heap.get? b = some o → h'.get? b = some o) → Q (.ref (s.heap.objs.size + 1)) { s with heap := h' }) :
    wpAny (model prog w) A (call (.type "enumerate") [v]) Q E s := by
  refine callType_new PySem.F.called_enumerate (by decide) (PySem.F.typeCall_enumerate_1 _) (PySem.F.newCall_enumerate_1 _) (fun obj => PySem.F.args_object_init_2 obj _) PySem.F.entry_enumerate_new
    (meets_enum1 B) ⟨h1, ?_⟩
  have hz : (s.heap.push o).objs.size = s.heap.objs.size + 1 := Heap.size_push ..
  show _ ∧ _
  rw [hz]
  have he : IsEnum ((s.heap.push o).push { cls := .type "enumerate", data := .fields #[.none, .bool false, .ref s.heap.objs.size, rawInt 0, .none, .none] }) (s.heap.objs.size + 1) s.heap.objs.size 0 .none := by
    have := Heap.get?_push_size (s.heap.push o) (o := { cls := .type "enumerate", data := .fields #[.none, .bool false, .ref s.heap.objs.size, rawInt 0, .none, .none] }) rfl
    rw [hz] at this; exact this
  exact ⟨⟨_, he, rfl⟩, h _ he (Heap.get?_push_of_some _ (Heap.get?_push_size _ B.free)) (by rw [Heap.size_push, hz]) fun b o x => Heap.get?_push_of_some _ (Heap.get?_push_of_some _ x)⟩

/-- the tuple at a, each item in a new pair with its place -/
def Iet (K : PySem.W.Frag) (a : Addr) : It :=
  ⟨fun i H => ∃ (xs : List V) (x : V), SqT K H a xs ∧ xs[i]? = some x, fun i H v H' => ∃ T x, v = .ref T ∧ H T = none ∧ H' = upd H T (.tup [.int (i : Nat), x]) ∧ ∀ xs, SqT K H a xs → xs[i]? = some x, fun i H => ∃ xs : List V, SqT K H a xs ∧ xs.length ≤ i⟩
theorem turn_enumT {P : Program} {w : World} {K : PySem.W.Frag} {elts : List Expr} {kk : Nat} {tpos : Pos} (a e it : Addr) :
    Turn P w K (.Tuple elts kk tpos) (Iet K a) [e, it] e (fun i h => (∃ old, IsEnum h e it ((i : Nat) : Int) old) ∧ h.IsTupleIter it a i ∧ e ≠ it) where
  mem := by simp
  obj := fun i h st b hb => by
    obtain ⟨⟨old, he⟩, ⟨o, ho, hc, hd⟩, _⟩ := st
    have e' : b = e ∨ b = it := by simpa using hb
    rcases e' with z | z
    · rw [z]; exact ⟨_, he, fun v q => nomatch q⟩
    · rw [z]; exact ⟨o, ho, fun v q => by rw [hd] at q; cases q⟩
  keep := fun i h h' st k => let ⟨⟨old, he⟩, hi, hne⟩ := st; ⟨⟨old, k e (by simp) _ he⟩, hi.at fun o q => k it (by simp) o q, hne⟩
  item := by
    intro X hP hw hK hc i pins s σ H E I hf st hg
    subst hP hw hK
    obtain ⟨⟨old, he⟩, hit, hne⟩ := st
    obtain ⟨xs, x, hq, hx⟩ := hg
    obtain ⟨its, rv, p, hz⟩ := I.tuple hq
    obtain ⟨u, hu, ru⟩ := rv.get hx
    have hT0 : s.heap.IsTuple a its.toArray := p
    have hel : e < s.heap.objs.size := Heap.lt_size he
    have hil : it < s.heap.objs.size := by obtain ⟨_, q, _⟩ := hit; exact Heap.lt_size q
    have hae : e ≠ a := by
      rintro rfl
      obtain ⟨o, ho, hcl, _⟩ := hT0
      rw [he] at ho
      cases ho
      exact absurd (Value.type.inj hcl) (by decide)
    have hai : a ≠ it := by
      rintro rfl
      obtain ⟨o, ho, hcl, _⟩ := hT0
      obtain ⟨o2, ho2, hc2, _⟩ := hit
      rw [ho] at ho2
      cases ho2
      rw [hcl] at hc2
      exact absurd (Value.type.inj hc2) (by decide)
    have DT := Draws.tuple (prog := X.prog) (w := X.w) (A := X.A.in1) (I.ok.hd hc) it a hai its.toArray
    have hlt : i < its.toArray.size := by
      have := (List.getElem?_eq_some_iff.mp hu).1
      simpa using this
    refine wpAny_pyNext_enum_itemD DT he ⟨hit, hT0⟩ hlt hne (by simp [hae, hne]) fun y h' tk hy ho hst hT hsz hk => ?_
    have hyu : y = u := by
      rw [List.getElem?_toArray, hu] at hy
      exact (Option.some.inj hy).symm
    subst hyu
    refine ⟨_, rfl, wpAny_letOwnedTupleGo_enum (s := { s with heap := h', toks := tk + 1 }) ho fun h'' he' sb => ?_⟩
    have hT2 : h''.get? s.heap.objs.size = some { cls := .type "tuple", data := .seq #[.int i tk, y] } := (sb.2 _ (Nat.ne_of_gt hel)).trans hT
    have new : ObjOk X.prog X.w (upd H s.heap.objs.size (.tup [.int (i : Nat), x])) h'' s.heap.objs.size (.tup [.int (i : Nat), x]) :=
      ⟨by show 2 ≤ sizeLine; decide, [.int i tk, y], .cons ⟨_, rfl⟩ (.cons ru .nil), ⟨_, hT2, rfl, _, rfl⟩⟩
    have I1 : Inv X pins σ (upd H s.heap.objs.size (.tup [.int (i : Nat), x])) { s with heap := h'', toks := tk + 1 } :=
      I.turnedNew (ch := [e, it]) (fun b ob hb q => (sb.2 b (fun z => hb (by simp [z]))).trans (hk b ob (fun z => hb (by simp [z])) (fun z => hb (by simp [z])) q)) hf (Nat.le_refl _) new
    refine ⟨.ref s.heap.objs.size, _, I1, rfl, ⟨_, x, rfl, I.hok.fresh (Nat.le_refl _), rfl, fun ys hy => by rw [I.tuple_inj hy hq]; exact hx⟩, ⟨⟨y, ?_⟩, hst.1.at fun o q => (sb.2 it (Ne.symm hne)).trans q, hne⟩, fun b hb => ?_⟩
    · have e1 : ((i + 1 : Nat) : Int) = (i : Int) + 1 := by omega
      rw [e1]; exact he'
    · have hb' : b < s.heap.objs.size := by
        have e' : b = e ∨ b = it := by simpa using hb
        rcases e' with z | z
        · rw [z]; exact hel
        · rw [z]; exact hil
      rw [upd_ne (Nat.ne_of_lt hb')]
      exact (hf b hb).1
  done := by
    intro X hP hw hK hc i pins s σ H E I hf st hg
    subst hP hw hK
    obtain ⟨⟨old, he⟩, hit, hne⟩ := st
    obtain ⟨xs, hq, hx⟩ := hg
    obtain ⟨its, rv, p, hz⟩ := I.tuple hq
    have hT0 : s.heap.IsTuple a its.toArray := p
    obtain ⟨f0, f1, f2, f3, f4, f5⟩ := hf it (by simp)
    have hl := rv.length
    unfold pyNext
    have hT : s.TypeIs (.ref e) "enumerate" := ⟨_, he, rfl⟩
    refine wpAny_bind (wpAny_attempt (wpAny_callSpecial?_slot (name := Str.ofString "__next__") hT PySem.F.slot_enumerate_next
      (wpAny_call_entry PySem.F.slot_enumerate_next hT PySem.F.entry_enumerate_next ?_ (PySem.F.args_enumerate_next_1 _))))
    show wpAny _ _ (field (.ref e) 2 >>= _) _ _ _
    refine wpAny_bind (wpAny_field he rfl (x := .ref it) rfl ?_)
    refine wpAny_bind (wpAny_nextOf_tuple_end (I.ok.hd hc) hit hT0 (by simp; omega) fun h' x he' hx' => ?_)
    obtain ⟨o, ho, hcl⟩ := hx'
    refine wpAny_bind (wpAny_isInstance (T := "StopIteration") (b := true) ⟨o, ho, hcl⟩ isSubtype_stop ?_)
    exact wpAny_pure ⟨rfl, I.turned (t' := s.toks) (fun b o hb q => he' b o hb q) f0 f1 f3 f4 f5⟩
  self := fun A i s Q E st h => let ⟨⟨_, he⟩, _⟩ := st; wpAny_pyIter_enum he h
def enD : Nat → List D → List D
  | _, [] => []
  | n, d :: ds => .tup [.int (n : Nat), d] :: enD (n + 1) ds
theorem enD_length : ∀ (n : Nat) (ds : List D), (enD n ds).length = ds.length
  | _, [] => rfl
  | n, d :: ds => by rw [enD, List.length_cons, List.length_cons, enD_length]
theorem enD_get : ∀ (n : Nat) (ds : List D) (i : Nat), (enD n ds)[i]? = (ds[i]?).map fun d => .tup [.int ((n + i : Nat) : Int), d]
  | _, [], i => by simp [enD]
  | n, d :: ds, 0 => rfl
  | n, d :: ds, i + 1 => by
    rw [enD, List.getElem?_cons_succ, List.getElem?_cons_succ, enD_get (n + 1) ds i, show n + 1 + i = n + (i + 1) by omega]
section
variable {K : PySem.W.Frag} {DI : Addr → GH → Prop} {H : Hp}
theorem it_enT {a : Addr} {vs : List V} {ds : List D} (t : SqT K H a vs) (d : DenL K H ds vs) : ItOk K DI H (Iet K a) (enD 0 ds) [] where
  go := fun F i H' S x e rel k g => by
    rw [enD_get] at e
    cases q : ds[i]? with
    | none => rw [q] at e; cases e
    | some y =>
      obtain ⟨v, e1, e2⟩ := d.get q
      exact ⟨vs, v, k.sqT t, e1⟩
  yld := fun F i H' S x v H2 e rel k g y => by
    obtain ⟨T, z, rfl, hT, rfl, y⟩ := y
    rw [enD_get] at e
    cases q : ds[i]? with
    | none => rw [q] at e; cases e
    | some w =>
      rw [q] at e
      cases e
      obtain ⟨v', e1, e2⟩ := d.get q
      have q2 := y vs (k.sqT t)
      rw [e1] at q2
      cases q2
      have kn : Kp H' (upd H' T (.tup [.int (i : Nat), z])) := .new hT
      rw [Nat.zero_add]
      exact ⟨rel.new hT, kn, .tup (.inl (.inl upd_same)) (.cons (.int _) (.cons ((e2.mn k).mn kn) .nil))⟩
  stop := fun F i H' S e rel k g => ⟨vs, k.sqT t, by rw [enD_length] at e; exact d.none_of e⟩
theorem it_enF {a : Addr} {o : Obj} {vs : List V} {ds : List D} (t : H a = some (.frz o (.lst vs))) (d : DenL K H ds vs) : ItOk K DI H (Ite K a) (enD 0 ds) [] where
  go := fun F i H' S x e rel k g => by
    rw [enD_get] at e
    cases q : ds[i]? with
    | none => rw [q] at e; cases e
    | some y =>
      obtain ⟨v, e1, e2⟩ := d.get q
      exact ⟨vs, v, .inl (.inr ⟨o, k.f _ _ _ t⟩), e1⟩
  yld := fun F i H' S x v H2 e rel k g y => by
    obtain ⟨T, z, rfl, hT, rfl, y⟩ := y
    rw [enD_get] at e
    cases q : ds[i]? with
    | none => rw [q] at e; cases e
    | some w =>
      rw [q] at e
      cases e
      obtain ⟨v', e1, e2⟩ := d.get q
      have q2 := y vs (.inl (.inr ⟨o, k.f _ _ _ t⟩))
      rw [e1] at q2
      cases q2
      have kn : Kp H' (upd H' T (.tup [.int (i : Nat), z])) := .new hT
      rw [Nat.zero_add]
      exact ⟨rel.new hT, kn, .tup (.inl (.inl upd_same)) (.cons (.int _) (.cons ((e2.mn k).mn kn) .nil))⟩
  stop := fun F i H' S e rel k g => ⟨vs, .inl (.inr ⟨o, k.f _ _ _ t⟩), by rw [enD_length] at e; exact d.none_of e⟩
theorem it_enL {p : Addr} {ds : List D} : ItOk K DI H (Ite K p) (enD 0 ds) [(p, ds)] where
  go := fun F i H' S x e rel k g => by
    rw [enD_get] at e
    cases q : ds[i]? with
    | none => rw [q] at e; cases e
    | some y =>
      obtain ⟨vs, r1, r2⟩ := rel.rep _ _ g.1
      obtain ⟨v, e1, e2⟩ := r2.get q
      exact ⟨vs, v, .inl (.inl r1), e1⟩
  yld := fun F i H' S x v H2 e rel k g y => by
    obtain ⟨T, z, rfl, hT, rfl, y⟩ := y
    rw [enD_get] at e
    cases q : ds[i]? with
    | none => rw [q] at e; cases e
    | some w =>
      rw [q] at e
      cases e
      obtain ⟨vs, r1, r2⟩ := rel.rep _ _ g.1
      obtain ⟨v', e1, e2⟩ := r2.get q
      have q2 := y vs (.inl (.inl r1))
      rw [e1] at q2
      cases q2
      have kn : Kp H' (upd H' T (.tup [.int (i : Nat), z])) := .new hT
      rw [Nat.zero_add]
      exact ⟨rel.new hT, kn, .tup (.inl (.inl upd_same)) (.cons (.int _) (.cons (e2.mn kn) .nil))⟩
  stop := fun F i H' S e rel k g => by
    obtain ⟨vs, r1, r2⟩ := rel.rep _ _ g.1
    exact ⟨vs, .inl (.inl r1), by rw [enD_length] at e; exact r2.none_of e⟩
end
section
variable {X : Cx} {DI : Addr → GH → Prop} {N : List Str} {sc : Scope} {k : Nat} {fns : List Fn} {cs : List (Str × D)} {bl : List Str} {fc : Bool}
variable {pos p2 tpos : Pos} {e : Expr} {elts : List Expr} {kk : Nat} {a : W}
def iEnumA (K : PySem.W.Frag) (ta : TA) : TI := fun σ H R => ta σ H fun vs H1 => ∃ a, vs = [.ref a] ∧ (((∃ xs, SqT K H1 a xs) ∧ R (Iet K a) H1) ∨ ((∃ xs, SqL K H1 a xs) ∧ R (Ite K a) H1))
theorem pi_enumA {ta : TA} (hg : Gl X "enumerate") (hm : X.mg "enumerate" = none) (ha : PA X [e] ta) (hs : starEach [e] X.env = [(false, eval e X.env)]) :
    PI X (.Tuple elts kk tpos) (.Call (.Name "enumerate" p2) [e] [] pos) (iEnumA X.K ta) := by
  refine ⟨fun pins s σ H R I h => ?_⟩
  refine Call_ (ld_blt I hg hm boot_enumerate (PyProof.Rows.callWith_type1 (thn (ha.run pos pins s σ H _ I h) fun us s1 ⟨vs, H1, I1, r1, q1⟩ => ?_) hs rfl))
  obtain ⟨a, ex, q⟩ := q1
  subst ex
  cases r1 with
  | cons r rr =>
    cases rr
    cases r
    have fp : ∀ b ∈ [s1.heap.objs.size + 1, s1.heap.objs.size], FpOk X pins H1 b := fun b hb => by
      have e' : b = s1.heap.objs.size + 1 ∨ b = s1.heap.objs.size := by simpa using hb
      have hle : s1.heap.objs.size ≤ b := by
        rcases e' with z | z
        · rw [z]; exact Nat.le_add_right _ _
        · rw [z]; exact Nat.le_refl _
      exact I1.fpOk hle (I1.hok.fresh hle)
    rcases q with ⟨⟨xs, hq⟩, q⟩ | ⟨⟨xs, hq⟩, q⟩
    · obtain ⟨its, rv, p', hz⟩ := I1.tuple hq
      have hT : s1.heap.IsTuple a its.toArray := p'
      refine enum_one (begins_tuple a its.toArray) hT fun h' he hit hsz hk => wpAny_pyIter_enum he ?_
      have I2 : Inv X pins σ H1 { s1 with heap := h' } := I1.kept (t' := s1.toks) hk
      exact ⟨s1.heap.objs.size + 1, [s1.heap.objs.size + 1, s1.heap.objs.size], _, _, H1, rfl, I2, turn_enumT a (s1.heap.objs.size + 1) s1.heap.objs.size, ⟨⟨.none, he⟩, ⟨_, hit, rfl, rfl⟩, Nat.succ_ne_self _⟩, fp, q⟩
    · obtain ⟨its, rv, p', hz⟩ := I1.list hq
      refine call_enumerate_list p'.isList fun h' he hit hsz hk => wpAny_pyIter_enum he ?_
      have I2 : Inv X pins σ H1 { s1 with heap := h' } := I1.kept (t' := s1.toks) hk
      exact ⟨s1.heap.objs.size + 1, [s1.heap.objs.size + 1, s1.heap.objs.size], _, _, H1, rfl, I2, turn_enum a (s1.heap.objs.size + 1) s1.heap.objs.size, ⟨⟨.none, he⟩, hit, Nat.succ_ne_self _⟩, fp, q⟩
def wiEn (a : W) : WI := fun ρ S Q => a ρ S fun d S' => match d with
  | .tup ds => Q (enD 0 ds) [] S'
  | .lst ds => Q (enD 0 ds) [] S'
  | .ref p => match S'.g p with
    | some (.lst ds) => Q (enD 0 ds) [(p, ds)] S'
    | _ => False
  | _ => False
theorem i_enum (o : Ob X DI N sc k fns cs bl fc) (ha : PE X e (lft X.K DI a)) (h : (okB bl sc "enumerate" (.type "enumerate") && nStar e) = true := by kernel_rfl) : PI X (.Tuple elts kk tpos) (.Call (.Name "enumerate" p2) [e] [] pos) (lftI X.K DI (wiEn a)) := by
  rw [Bool.and_eq_true] at h
  obtain ⟨h1, h2, h3, h4, h5⟩ := okB_ok o h.1
  refine (pi_enumA h2 h1 (a_cons ha a_nil h.2).pa (star_cons h.2)).imp fun σ H R q => ?_
  obtain ⟨F, ρ, S, R', rel, env, w, f⟩ := q
  refine ⟨F, ρ, S, fun ds S' => match ds with
    | [d] => (match d with
      | .tup ds => R' (enD 0 ds) [] S'
      | .lst ds => R' (enD 0 ds) [] S'
      | .ref p => (match S'.g p with
        | some (.lst ds) => R' (enD 0 ds) [(p, ds)] S'
        | _ => False)
      | _ => False)
    | _ => False, rel, env, w, fun ds S1 vs H1 q1 rel1 k1 d1 => ?_⟩
  dsimp only at q1
  split at q1
  · obtain ⟨v, rfl, dd⟩ := d1.oneV
    clear d1
    split at q1
    · obtain ⟨a, vs, rfl, t, den⟩ := dd.tupV
      exact ⟨a, rfl, .inl ⟨⟨vs, t⟩, f _ _ _ _ _ q1 rel1 k1 (it_enT t den)⟩⟩
    · cases dd with
      | lst h1 h2 => exact ⟨_, rfl, .inr ⟨⟨_, .inl (.inr ⟨_, h1⟩)⟩, f _ _ _ _ _ q1 rel1 k1 (it_enF h1 h2)⟩⟩
    · cases dd
      split at q1
      · rename_i ds e
        obtain ⟨vs, e1, e2⟩ := rel1.rep _ _ e
        exact ⟨_, rfl, .inr ⟨⟨vs, .inl (.inl e1)⟩, f _ _ _ _ _ q1 rel1 k1 it_enL⟩⟩
      · exact q1.elim
    · exact q1.elim
  · exact q1.elim
end
end Dv

/-! Dv14: the hidden things brought to light and hidden again; a law's end; what the top has left. -/
namespace Dv
open PySem PySem.Spec L2
open PyProof.Rows hiding St

section
variable {K : PySem.W.Frag} {DI : Addr → GH → Prop} {F H H' : Hp} {S : GS}
/-- what is hidden stands beside what is known -/
def GS.plus (S : GS) (G : GH) : GS := ⟨fun a => match G a with
  | some m => some m
  | none => S.g a, none⟩
theorem Rel.opened {dk : Addr} (r : Rel K DI F S H) (ho : S.o = some dk) : ∃ G, DI dk G ∧ (∀ a m, S.g a = some m → G a = none) ∧ Rel K DI F (S.plus G) H := by
  obtain ⟨G, h1, h2, h3, h4⟩ := r.hid dk ho
  refine ⟨G, h1, h3, ⟨fun a m e => ?_, (fun dk e => nomatch e), fun a o e => ⟨(r.frm a o e).1, ?_⟩⟩⟩
  · unfold GS.plus at e
    dsimp only at e
    split at e
    · rename_i m' q
      cases e
      exact h2 a _ q
    · exact r.rep a m e
  · unfold GS.plus
    dsimp only
    rw [h4 a o e]
    exact (r.frm a o e).2
/-- S2 holds S's things and, apart from them, G's -/
structure Hides (S2 S : GS) (G : GH) : Prop where
  o : S2.o = none
  g : ∀ a m, G a = some m → S2.g a = some m
  s : ∀ a m, S.g a = some m → S2.g a = some m ∧ G a = none
theorem Rel.closed {dk : Addr} {S2 : GS} {G : GH} (r : Rel K DI F S2 H) (hd : DI dk G) (h : Hides S2 S G) : Rel K DI F ⟨S.g, some dk⟩ H where
  rep := fun a m e => r.rep a m (h.s a m e).1
  hid := fun dk' e => by
    cases e
    refine ⟨G, hd, fun a m e => r.rep a m (h.g a m e), fun a m e => (h.s a m e).2, fun a o e => ?_⟩
    cases q : G a with
    | none => rfl
    | some m =>
      have z := h.g a m q
      rw [(r.frm a o e).2] at z
      cases z
  frm := fun a o e => ⟨(r.frm a o e).1, by
    have z := (r.frm a o e).2
    cases q : S.g a with
    | none => rfl
    | some m => rw [(h.s a m q).1] at z; cases z⟩
theorem GS.eta (S : GS) {o : Option Addr} (h : S.o = o) : (⟨S.g, o⟩ : GS) = S := by subst h; rfl
end
/-- a promise kept with what is hidden laid open -/
theorem lftF_open {K : PySem.W.Frag} {DI : Addr → GH → Prop} {sp sp' : WF} {vs : List V} {H : Hp} {Q : VK}
    (h : ∀ ds S R, sp ds S R → ∃ dk, S.o = some dk ∧ ∀ G, DI dk G → (∀ a m, S.g a = some m → G a = none) → sp' ds (S.plus G) fun d S2 => ∃ G', DI dk G' ∧ Hides S2 S G' ∧ R d S)
    (w : lftF K DI sp vs H Q) : lftF K DI sp' vs H Q := by
  obtain ⟨F, ds, S, R, rel, den, q, fin⟩ := w
  obtain ⟨dk, ho, q⟩ := h ds S R q
  obtain ⟨G, g1, g2, g3⟩ := rel.opened ho
  refine ⟨F, ds, S.plus G, _, g3, den, q G g1 g2, fun d S2 v H' r rel' k den' => ?_⟩
  obtain ⟨G', i1, i2, i3⟩ := r
  have rc := rel'.closed i1 i2
  rw [S.eta ho] at rc
  exact fin d S v H' i3 rc k den'
/-- a promise kept, then something is hidden -/
theorem lftF_hide {K : PySem.W.Frag} {DI : Addr → GH → Prop} {sp sp' : WF} {vs : List V} {H : Hp} {Q : VK}
    (h : ∀ ds S R, sp ds S R → sp' ds S fun d S2 => ∃ dk G' S3, DI dk G' ∧ Hides S2 ⟨S3, none⟩ G' ∧ R d ⟨S3, some dk⟩)
    (w : lftF K DI sp vs H Q) : lftF K DI sp' vs H Q := by
  obtain ⟨F, ds, S, R, rel, den, q, fin⟩ := w
  refine ⟨F, ds, S, _, rel, den, h ds S R q, fun d S2 v H' r rel' k den' => ?_⟩
  obtain ⟨dk, G', S3, i1, i2, i3⟩ := r
  exact fin d ⟨S3, some dk⟩ v H' i3 (rel'.closed i1 i2) k den'
theorem FnG.imp {P : Program} {w : World} {K : PySem.W.Frag} {mg : Str → Option Value} {base : Heap} {k : Nat} {f : Addr} {fd : FuncData} {ps : List Str} {sp sp' : Sp} (F : FnG P w K mg base k f fd ps sp') (h : ∀ vs H Q E, sp vs H Q E → sp' vs H Q E) : FnG P w K mg base k f fd ps sp :=
  ⟨fun vs H Q E q => F.len vs H Q E (h _ _ _ _ q), fun A outer s H args us vs Q E hr hg e0 hb r q => F.run A outer s H args us vs Q E hr hg e0 hb r (h _ _ _ _ q)⟩
theorem FnIn.imp {P : Program} {w : World} {K : PySem.W.Frag} {mg : Str → Option Value} {base : Heap} {DI : Addr → GH → Prop} {k : Nat} {nm : Str} {n : Nat} {sp sp' : WF} {kws : List (Nat × List Str × List Nat)} (F : FnIn P w K mg base DI k ⟨nm, n, sp', kws⟩) (h : ∀ vs H Q, lftF K DI sp vs H Q → lftF K DI sp' vs H Q) : FnIn P w K mg base DI k ⟨nm, n, sp, kws⟩ := by
  obtain ⟨f, fd, ps, a1, a2, a3, a4, a5⟩ := F.ex
  exact ⟨f, fd, ps, a1, a2, a3, a4, a5.imp fun vs H Q E q => ⟨q.1, h _ _ _ q.2⟩⟩

/-! ### the law's own call -/
theorem law_callG {P : Program} {w : World} {K : PySem.W.Frag} {mg mb : Str → Option Value} {k : Nat} {fa a : Addr} {fd : FuncData} {x : Str} {sp : Sp} {t : Shared} {us : List Value} {ns : List Int}
    (inK : K.In t.heap) (nsM : t.heap.Ns mainGlobals mg) (nsB : t.heap.Ns builtinsNs mb) (boot : ∀ z : Str, z ≠ "__name__" → mb z = bootBuiltins z) (lim : t.heap.NoLimit) (noG : t.gens = #[])
    (script : t.heap.get? a = some { cls := .type "list", data := .seq us.toArray }) (ints' : IntsAre us ns) (short : ns.length ≤ sizeLine) (room : Room k callerA)
    (keeps : ∀ b0 : Heap, K.In b0 → b0.Ns mainGlobals mg → FnG P w K mg b0 k fa fd [x] sp) (binds : ∀ (s : Shared) (u : Value), BindsTo s fd ⟨[u], []⟩ [(x, u)])
    (asks : ∀ (H : Hp) (ob : Obj), H a = some (.frz ob (.lst (ns.map V.int))) → sp [.ref a] H (fun v _ => v = .bl true) E0) (noLst : ∀ o, K.lookup a = some o → o.cls = .type "list" → False) :
    codeAny (model P w) callerA (.call (.ref fa) ⟨[.ref a], []⟩) (fun r s' => r = .ok (.ret (.bool true)) ∧ OldK t.heap s'.heap ∧ s'.os = t.os ∧ AllBare s'.gens) t := by
  have lays := vals_ints ints'
  have sameN := ints'.length
  have main : ∀ H : Hp, (∀ b, H b = none ∨ ∃ o xs, H b = some (.frz o (.lst xs))) → (∃ ob, H a = some (.frz ob (.lst (ns.map V.int)))) → HOk P w H t.heap → (∀ b, H b ≠ none → b = a) → (H a ≠ none → K.lookup a = none) →
      codeAny (model P w) callerA (.call (.ref fa) ⟨[.ref a], []⟩) (fun r s' => r = .ok (.ret (.bool true)) ∧ OldK t.heap s'.heap ∧ s'.os = t.os ∧ AllBare s'.gens) t := by
    intro H only hS hok alone notK
    obtain ⟨ob0, hS⟩ := hS
    have dictN : ∀ {b : Addr} {o : Obj} {es : Array DictEntry} {n : Nat}, t.heap.get? b = some o → o.data = .dict es n → H b = none := fun {b o es n} e d => by
      cases q : H b with
      | none => rfl
      | some u =>
        obtain rfl : b = a := alone b fun z => by rw [q] at z; cases z
        rw [script] at e
        cases e
        exact absurd (show Data.seq us.toArray _ = Data.dict es n from d) (fun z => by cases z)
    have nsH : ∀ {b : Addr} {m : Str → Option Value}, t.heap.Ns b m → (hidT t.heap H).Ns b m := fun {b m} ⟨o, es, n, e, d, r⟩ => ⟨o, es, n, hidT_get e (dictN e d), d, r⟩
    have inB : K.In (hidT t.heap H) := fun b o e => hidT_get (inK b o e) (by
      cases q : H b with
      | none => rfl
      | some u =>
        obtain rfl : b = a := alone b fun z => by rw [q] at z; cases z
        rw [notK fun z => by rw [q] at z; cases z] at e
        cases e)
    have modB : Mod K mg (hidT t.heap H) := ⟨inB, nsH nsM, ⟨mb, nsH nsB, boot⟩, let ⟨mc, l1, l2⟩ := lim; ⟨mc, nsH l1, l2⟩⟩
    have env : Env0 P w K mg (hidT t.heap H) callerA [] t H := ⟨rfl, modB, fun b o e => of_hidT e, Nat.le_of_eq (hidT_size _ _), trivial, (fun b hb => by cases hb), hok, .of_eq noG⟩
    have run := (keeps _ inB (nsH nsM)).run callerA [] t H ⟨[.ref a], []⟩ [.ref a] [.ref a] _ _ room rfl env (binds t (.ref a)) (.cons rfl .nil) (asks H ob0 hS)
    refine codeAny_mono run fun r s' h => ?_
    cases r with
    | error e => exact False.elim h
    | ok fl =>
      cases fl with
      | ret u =>
        obtain ⟨v, H', os, bare, un, hok', rv, q⟩ := h
        have q' : v = .bl true := q
        subst q'
        obtain rfl : u = Value.bool true := rv
        refine ⟨rfl, .of_keep fun b o e => ?_, os, bare⟩
        cases q : H b with
        | none => exact un.keep b o e q (fun z => nomatch z) (by simp)
        | some u =>
          rcases only b with z | ⟨ob, xs, z⟩
          · rw [z] at q; cases q
          · obtain ⟨e1, _⟩ := hok b _ z
            obtain ⟨e2, _⟩ := hok' b _ (un.frzs b ob _ z)
            rw [e] at e1
            cases e1
            exact e2
      | _ => exact False.elim h
  cases own : K.lookup a with
  | some o =>
    have e := inK a o own
    rw [script] at e
    cases e
    exact (noLst _ own rfl).elim
  | none =>
    have hit : ∀ (o : HO), (if a = a then some o else none) = some o := fun o => if_pos rfl
    refine main (fun b => if b = a then some (.frz { cls := .type "list", data := .seq us.toArray } (.lst (ns.map V.int))) else none) (fun b => ?_) ⟨_, hit _⟩ (fun b u z => ?_) (fun b z => ?_) fun _ => own
    · by_cases c : b = a
      · exact .inr ⟨_, _, if_pos c⟩
      · exact .inl (if_neg c)
    · by_cases c : b = a
      · subst c
        cases (hit _).symm.trans z
        exact ⟨script, by rw [List.length_map]; exact short, us, _, lays, script⟩
      · cases (if_neg c).symm.trans z
    · by_cases c : b = a
      · exact c
      · exact absurd (if_neg c) z
theorem den_ints {K : PySem.W.Frag} {H : Hp} : ∀ ns : List Int, DenL K H (ns.map D.int) (ns.map V.int)
  | [] => .nil
  | n :: r => .cons (.int n) (den_ints r)
theorem lookup_mem {α : Type} {a : Nat} {o : α} : ∀ {l : List (Nat × α)}, l.lookup a = some o → (a, o) ∈ l
  | (b, u) :: r, h => by
    rw [List.lookup_cons] at h
    split at h
    · rename_i c
      cases h
      rw [beq_iff_eq.mp c]
      exact List.mem_cons_self
    · exact List.mem_cons_of_mem _ (lookup_mem h)
/-- the goal that k_head leaves, from the law's own promise: True, whatever the script -/
theorem walk_G {l : PySem.W.OpenLaw} {n k : Nat} {q : Program} {loose : List Str} {XP : (Str → Option Value) → Heap → Prop} {YP : World → Heap → Prop} {d : DefRec} {K : Params → PySem.W.Frag} {DI : Addr → GH → Prop} {sp : WF} {x : Str}
    (h1 : l.most = some n) (h2 : n ≤ sizeLine) (h3 : d.params.defaults = []) (room : Room k callerA) (inY : ∀ (w : World) (h : Heap), YP w h → (K w.params).In h)
    (top : ∀ (w : World) (mg : Str → Option Value) (fa : Addr) (h : Heap), (K w.params).In h → h.Ns mainGlobals mg → mg d.name = some (.ref fa) →
      ∃ fd : FuncData, (∀ (s : Shared) (u : Value), BindsTo s fd ⟨[u], []⟩ [(x, u)]) ∧ ∀ b0 : Heap, (K w.params).In b0 → b0.Ns mainGlobals mg → FnG l.prog w (K w.params) mg b0 k fa fd [x] (spOf (K w.params) DI 1 sp))
    (asks : ∀ ns : List Int, ns.length ≤ n → ∀ d R, (∀ S', R (.bl true) S') → (d = .lst (ns.map D.int)) → sp [d] ⟨fun _ => none, none⟩ R)
    (noLst : ∀ P : Params, ((K P).all fun p => !(p.2.cls == .type "list")) = true) :
    PySem.W.WalkO q loose XP YP l.row.toRowW d [] (fun f vs => PySem.call f vs) := by
  refine Att.attach_call h1 h3 fun w s0 s1 mg mb fa o pm cd doc a vs ns G Y ho hd hcd hmg hobj hints hlen hg => ?_
  obtain ⟨fd, hb, hF⟩ := top w mg fa _ (inY w _ Y) G.T.g hmg
  refine law_callG (inY w _ Y) G.T.g G.T.b G.T.builtins G.T.nolimit hg hobj hints (Nat.le_trans hlen h2) room hF hb (fun H ob hS => ?_) fun o e1 e2 => ?_
  · exact ⟨rfl, fun _ => none, [.lst (ns.map D.int)], ⟨fun _ => none, none⟩, fun d _ => d = .bl true, ⟨(fun a m e => nomatch e), (fun dk e => nomatch e), (fun a o e => nomatch e)⟩, .one (.lst hS (den_ints ns)), asks ns hlen _ _ (fun _ => rfl) rfl, fun d S v H' r rel k den => by subst r; cases den; rfl⟩
  · have z := noLst w.params
    have m := List.all_eq_true.mp z (a, o) (lookup_mem e1)
    rw [e2] at m
    cases m
end Dv

/-! Dv15: a def from its text; what the module holds. -/
namespace Dv
open PySem PySem.Spec L2
open PyProof.Rows hiding St

/-- a def of the module: its text, its parameters, how it may be called by keywords -/
structure Df (K : PySem.W.Frag) (mg : Str → Option Value) (x : Str) (st : Stmt) (ps : List Str) (kws : List (Nat × List Str × List Nat)) : Prop where
  ex : ∃ (f : Addr) (fd : FuncData), mg x = some (.ref f) ∧ L2.Fun K x x st f fd ∧ Binds K fd ps [] ∧ ∀ sh ∈ kws, KwB K fd ps sh
def FnsIn (P : Program) (w : World) (K : PySem.W.Frag) (mg : Str → Option Value) (base : Heap) (DI : Addr → GH → Prop) (k : Nat) : List Fn → Prop
  | [] => True
  | e :: r => FnIn P w K mg base DI k e ∧ FnsIn P w K mg base DI k r
def CsIn (K : PySem.W.Frag) (mg : Str → Option Value) : List (Str × D) → Prop
  | [] => True
  | p :: r => (∃ v u, mg p.1 = some u ∧ RelV v u ∧ ∀ H, Den K H p.2 v) ∧ CsIn K mg r
def BlIn (mg : Str → Option Value) (bl : List Str) : Prop := ∀ x, bl.contains x = true → mg x = none
theorem FnsIn.at {P : Program} {w : World} {K : PySem.W.Frag} {mg : Str → Option Value} {base : Heap} {DI : Addr → GH → Prop} {k : Nat} : ∀ {fns : List Fn}, FnsIn P w K mg base DI k fns → ∀ j, j < fns.length → FnIn P w K mg base DI k (fnAt fns j)
  | _ :: _, h, 0, _ => h.1
  | _ :: _, h, j + 1, l => FnsIn.at h.2 j (Nat.lt_of_succ_lt_succ l)
  | [], _, _, l => absurd l (Nat.not_lt_zero _)
theorem CsIn.at {K : PySem.W.Frag} {mg : Str → Option Value} : ∀ {cs : List (Str × D)}, CsIn K mg cs → ∀ j, j < cs.length → ∃ v u, mg (csNm cs j) = some u ∧ RelV v u ∧ ∀ H, Den K H (csAt cs j) v
  | _ :: _, h, 0, _ => h.1
  | _ :: _, h, j + 1, l => CsIn.at h.2 j (Nat.lt_of_succ_lt_succ l)
  | [], _, _, l => absurd l (Nat.not_lt_zero _)
theorem fn_mk {P : Program} {w : World} {K : PySem.W.Frag} {mg : Str → Option Value} {base : Heap} {DI : Addr → GH → Prop} {k : Nat} {x : Str} {st : Stmt} {N ps : List Str} {kws : List (Nat × List Str × List Nat)} {n : Nat} {sp : WF} {b : WS} {fns : List Fn} {cs : List (Str × D)} {bl : List Str}
    (d : Df K mg x st ps kws) (sc : FnScope N ps (defScope st)) (hn : ps.length = n) (hF : FnsIn P w K mg base DI k fns) (hk : CsIn K mg cs) (hb : BlIn mg bl)
    (hbody : ∀ (X : Cx) (o : Ob X DI N (defScope st) k fns cs bl true), PSs X (defBody st) (lftS X.K DI b))
    (hsp : ∀ ds S R, ds.length = n → sp ds S R → b ⟨fun _ S' => R .non S', R, fun _ _ => False, fun _ _ => False⟩ (startD N ds) S) : FnIn P w K mg base DI (k + 1) ⟨x, n, sp, kws⟩ := by
  obtain ⟨f, fd, h1, h2, h3, h4⟩ := d.ex
  refine ⟨f, fd, ps, h1, h2.kp, h3, h4, fnG_of h2 sc hn (fun X e1 e2 e3 e4 e5 e6 e7 hc hr hg hx hfn => ?_) hsp⟩
  subst e1 e2 e3 e4 e5
  exact hbody X ⟨sc.nd, e6, e7, sc.kind, hc, hr, hg, hF.at, hk.at, hb, fun _ => hfn, fun _ => hx⟩
/-- the law's def, by its body; its script is a list of ints that nobody changes -/
theorem law_mk {P : Program} {w : World} {K : PySem.W.Frag} {mg : Str → Option Value} {base : Heap} {DI : Addr → GH → Prop} {k : Nat} {x : Str} {f : Addr} {fd : FuncData} {st : Stmt} {N ps : List Str} {n : Nat} {sp : WF} {b : WS} {fns : List Fn} {cs : List (Str × D)} {bl : List Str}
    (d : L2.Fun K x x st f fd) (sc : FnScope N ps (defScope st)) (hn : ps.length = n) (hF : FnsIn P w K mg base DI k fns) (hk : CsIn K mg cs) (hb : BlIn mg bl)
    (hbody : ∀ (X : Cx) (o : Ob X DI N (defScope st) k fns cs bl true), PSs X (defBody st) (lftS X.K DI b))
    (hsp : ∀ ds S R, ds.length = n → sp ds S R → b ⟨fun _ S' => R .non S', R, fun _ _ => False, fun _ _ => False⟩ (startD N ds) S) : FnG P w K mg base (k + 1) f fd ps (spOf K DI n sp) := by
  refine fnG_of d sc hn (fun X e1 e2 e3 e4 e5 e6 e7 hc hr hg hx hfn => ?_) hsp
  subst e1 e2 e3 e4 e5
  exact hbody X ⟨sc.nd, e6, e7, sc.kind, hc, hr, hg, hF.at, hk.at, hb, fun _ => hfn, fun _ => hx⟩
end Dv

/-! Dv16: the readings, applied; rules for comprehensions and loops. -/
namespace Dv
open PySem PySem.Spec L2
open PyProof.Rows hiding St

section
variable {ρ : Env} {S : GS} {Q : D → GS → Prop} {QA : List D → GS → Prop} {QT : Bool → GS → Prop} {R : WEnds} {a b c : W} {as r : WA} {t u : WT} {o1 o2 : W2} {QG : Env → GS → Prop}
theorem x_var {i : Nat} : wVar i ρ S Q = (match ρ[i]? with | some (some d) => Q d S | _ => False) := propext ⟨id, id⟩
theorem x_C {d : D} : wC d ρ S Q = Q d S := propext ⟨id, id⟩
theorem x_op : wOp o1 a b ρ S Q = a ρ S fun x S1 => b ρ S1 fun y S2 => o1 x y S2 Q := propext ⟨id, id⟩
theorem x_un {o : W1} : wUn o a ρ S Q = a ρ S fun x S1 => o x S1 Q := propext ⟨id, id⟩
theorem x_slice {l h : WO} : wSlice a l h ρ S Q = a ρ S fun x S1 => l ρ S1 fun lo S2 => h ρ S2 fun hi S3 => (match x with
  | .str z => z.length ≤ sizeLine ∧ Q (.str (cutS z lo hi)) S3
  | .tup ds => Q (.tup (cutD ds lo hi)) S3
  | x => match asL S3 x with
    | some ds => Q (.lst (cutD ds lo hi)) S3
    | none => False) := propext ⟨id, id⟩
theorem x_noPart {QO : Option Int → GS → Prop} : wNoPart ρ S QO = QO none S := propext ⟨id, id⟩
theorem x_part {QO : Option Int → GS → Prop} : wPart a ρ S QO = a ρ S fun d S' => (match d with | .int i => QO (some i) S' | _ => False) := propext ⟨id, id⟩
theorem x_tru : wTru a ρ S QT = a ρ S fun d S' => (match truD S' d with | some b => QT b S' | none => False) := propext ⟨id, id⟩
theorem x_B : wB a ρ S QT = a ρ S fun d S' => (match d with | .bl b => QT b S' | _ => False) := propext ⟨id, id⟩
theorem x_chain : wChain o1 o2 a b c ρ S Q = a ρ S fun x S1 => b ρ S1 fun y S2 => o1 x y S2 fun z S3 => (match z with
  | .bl true => c ρ S3 fun u S4 => o2 y u S4 Q
  | .bl false => Q (.bl false) S3
  | _ => False) := propext ⟨id, id⟩
theorem x_and : wAnd t u ρ S QT = t ρ S fun c S1 => if c = true then u ρ S1 QT else QT false S1 := propext ⟨id, id⟩
theorem x_or : wOr t u ρ S QT = t ρ S fun c S1 => if c = true then QT true S1 else u ρ S1 QT := propext ⟨id, id⟩
theorem x_not : wNot t ρ S QT = t ρ S fun c S1 => QT (!c) S1 := propext ⟨id, id⟩
theorem x_andV : wAndV a b ρ S Q = a ρ S fun x S1 => (match x with | .bl true => b ρ S1 Q | .bl false => Q (.bl false) S1 | _ => False) := propext ⟨id, id⟩
theorem x_orV : wOrV a b ρ S Q = a ρ S fun x S1 => (match x with | .bl false => b ρ S1 Q | .bl true => Q (.bl true) S1 | _ => False) := propext ⟨id, id⟩
theorem x_notB : wNotB a ρ S Q = a ρ S fun d S1 => (match d with | .bl c => Q (.bl (!c)) S1 | _ => False) := propext ⟨id, id⟩
theorem x_if : wIf t a b ρ S Q = t ρ S fun c S1 => if c = true then a ρ S1 Q else b ρ S1 Q := propext ⟨id, id⟩
theorem x_nil : wNil ρ S QA = QA [] S := propext ⟨id, id⟩
theorem x_cons : wCons a r ρ S QA = a ρ S fun x S1 => r ρ S1 fun xs S2 => QA (x :: xs) S2 := propext ⟨id, id⟩
theorem x_tup : wTup as ρ S Q = as ρ S fun xs S1 => xs.length ≤ sizeLine ∧ Q (.tup xs) S1 := propext ⟨id, id⟩
theorem x_lst : wLst as ρ S Q = as ρ S fun xs S1 => xs.length ≤ sizeLine ∧ Q (.lst xs) S1 := propext ⟨id, id⟩
theorem x_lstN : wLstN as ρ S Q = as ρ S fun xs S1 => xs.length ≤ sizeLine ∧ ∀ p, S1.g p = none → Q (.ref p) (S1.set p (.lst xs)) := propext ⟨id, id⟩
theorem x_call {f : WF} : wCall f as ρ S Q = as ρ S fun ds S' => f ds S' Q := propext ⟨id, id⟩
theorem x_callK {f : WF} {is : List Nat} : wCallK f is as ρ S Q = as ρ S fun ds S' => f (pick ds is) S' Q := propext ⟨id, id⟩
theorem x_ml {f : D → WF} : wMl f a as ρ S Q = a ρ S fun d S1 => isLs S1 d = true ∧ as ρ S1 fun ds S2 => f d ds S2 Q := propext ⟨id, id⟩
theorem x_words : wWords a ρ S Q = a ρ S fun d S1 => (match d with | .str z => z.length + 2 ≤ sizeLine ∧ Q (.lst ((Txt.words z).map D.str)) S1 | _ => False) := propext ⟨id, id⟩
theorem x_disp {l : List (W × W)} : wDisp l ρ S Q = wPairs l ρ S fun ps S1 => ∃ ks, keyPs ps = some ks ∧ ks.length ≤ 15 ∧ Q (.dct (mergeD [] ks)) S1 := propext ⟨id, id⟩
theorem x_dispN {l : List (W × W)} : wDispN l ρ S Q = wPairs l ρ S fun ps S1 => ∃ ks, keyPs ps = some ks ∧ ks.length ≤ 15 ∧ ∀ p, S1.g p = none → Q (.ref p) (S1.set p (.dct (mergeD [] ks))) := propext ⟨id, id⟩
theorem x_d0 : wD0 ρ S Q = Q (.dct []) S := propext ⟨id, id⟩
theorem x_d0N : wD0N ρ S Q = ∀ p, S.g p = none → Q (.ref p) (S.set p (.dct [])) := propext ⟨id, id⟩
theorem x_pnil {QP : List (D × D) → GS → Prop} : wPairs [] ρ S QP = QP [] S := propext ⟨id, id⟩
theorem x_pcons {l : List (W × W)} {QP : List (D × D) → GS → Prop} : wPairs ((a, b) :: l) ρ S QP = a ρ S fun d S1 => b ρ S1 fun e S2 => wPairs l ρ S2 fun ps S3 => QP ((d, e) :: ps) S3 := propext ⟨id, id⟩
theorem x_seq {p q : WS} : wSeq p q R ρ S = p { R with nx := q R } ρ S := propext ⟨id, id⟩
theorem x_skip : wSkip R ρ S = R.nx ρ S := propext ⟨id, id⟩
theorem x_brk : wBrk R ρ S = R.bk ρ S := propext ⟨id, id⟩
theorem x_cnt : wCnt R ρ S = R.ct ρ S := propext ⟨id, id⟩
theorem x_ifS {p q : WS} : wIfS t p q R ρ S = t ρ S fun c S1 => if c = true then p R ρ S1 else q R ρ S1 := propext ⟨id, id⟩
theorem x_ret : wRet a R ρ S = a ρ S R.rt := propext ⟨id, id⟩
theorem x_retN : wRetN R ρ S = R.rt .non S := propext ⟨id, id⟩
theorem x_expr : wExpr a R ρ S = a ρ S fun _ S1 => R.nx ρ S1 := propext ⟨id, id⟩
theorem x_asg {g : WG} : wAsg a g R ρ S = a ρ S fun d S1 => g d ρ S1 R.nx := propext ⟨id, id⟩
theorem x_par {i j : Nat} : wPar i j as R ρ S = as ρ S fun ds S1 => (match ds with | [x, y] => R.nx ((ρ.set i (some x)).set j (some y)) S1 | _ => False) := propext ⟨id, id⟩
theorem x_gN {i : Nat} {d : D} : gN i d ρ S QG = QG (ρ.set i (some d)) S := propext ⟨id, id⟩
theorem x_gT {n : Nat} {g : WGs} {d : D} : gT n g d ρ S QG = (match d with | .tup ds => ds.length = n ∧ g ds ρ S QG | _ => False) := propext ⟨id, id⟩
theorem x_gs0 {ds : List D} : gsNil ds ρ S QG = (ds = [] ∧ QG ρ S) := propext ⟨id, id⟩
theorem x_gs1 {g : WG} {gr : WGs} {d : D} {ds : List D} : gsCons g gr (d :: ds) ρ S QG = g d ρ S fun ρ' S' => gr ds ρ' S' QG := propext ⟨id, id⟩
theorem x_gS {d : D} : gS a b d ρ S QG = a ρ S fun o S1 => b ρ S1 fun i S2 => oSet o i d S2 fun S3 => QG ρ S3 := propext ⟨id, id⟩
theorem x_yes : wYes ρ S QT = QT true S := propext ⟨id, id⟩
variable {QI : List D → Gd → GS → Prop}
theorem x_iSeq : wiSeq a ρ S QI = a ρ S fun d S' => (match d with
  | .tup ds => QI ds [] S'
  | .lst ds => QI ds [] S'
  | .str x => QI (sgD x) [] S'
  | .dct kvs => QI (kvs.map fun p => kD p.1) [] S'
  | .ref p => (match S'.g p with
    | some (.lst ds) => QI ds [(p, ds)] S'
    | some (.fct kvs) => QI (kvs.map fun p => kD p.1) [] S'
    | _ => False)
  | _ => False) := propext ⟨id, id⟩
theorem x_iRg1 : wiRg1 a ρ S QI = a ρ S fun d S' => ∃ j, d = .int j ∧ -(2 ^ 62) ≤ j ∧ j < 2 ^ 62 ∧ QI (rgD 0 j.toNat) [] S' := propext ⟨id, id⟩
theorem x_iEn : wiEn a ρ S QI = a ρ S fun d S' => (match d with
  | .tup ds => QI (enD 0 ds) [] S'
  | .lst ds => QI (enD 0 ds) [] S'
  | .ref p => (match S'.g p with
    | some (.lst ds) => QI (enD 0 ds) [(p, ds)] S'
    | _ => False)
  | _ => False) := propext ⟨id, id⟩
theorem x_lc {wi : WI} {g : WG} {te : W} {vs : List Nat} : wLc wi g t te vs ρ S Q = wLcB wi g t te vs ρ S fun acc S' => Q (.lst acc) S' := propext ⟨id, id⟩
theorem x_lcN {wi : WI} {g : WG} {te : W} {vs : List Nat} : wLcN wi g t te vs ρ S Q = wLcB wi g t te vs ρ S fun acc S' => ∀ p, S'.g p = none → Q (.ref p) (S'.set p (.lst acc)) := propext ⟨id, id⟩
/-! ### branches in one -/
theorem i_fold {QT : Bool → GS → Prop} {c d : Bool} : (if c = true then QT true S else QT d S) = QT (c || d) S := by cases c <;> rfl
theorem i_fold2 {QT : Bool → GS → Prop} {c d : Bool} : (if c = true then QT d S else QT false S) = QT (c && d) S := by cases c <;> rfl

/-! ### comprehensions -/
/-- one turn -/
def turnLc (g : WG) (tt : WT) (te : W) (ρ : Env) (d : D) (S : GS) (Q : Option D → GS → Prop) : Prop := g d ρ S fun ρ' S' => tt ρ' S' fun b S2 => if b = true then te ρ' S2 fun y S3 => Q (some y) S3 else Q none S2
/-- what each item gives is told by a relation; nothing known changes -/
theorem lc_run {wi : WI} {g : WG} {tt : WT} {te : W} {vs : List Nat} {Q : List D → GS → Prop} {ds : List D} {gd : Gd} (T : D → Option D → Prop) (hi : ∀ Q : List D → Gd → GS → Prop, Q ds gd S → wi ρ S Q) (hgd : gdOk gd S) (hz : ds.length ≤ sizeLine)
    (ht : ∀ d ∈ ds, ∀ Q : Option D → GS → Prop, (∀ o, T d o → Q o S) → turnLc g tt te (wipeD ρ vs) d S Q)
    (hQ : ∀ os : List (Option D), os.length = ds.length → (∀ (i : Nat) (d : D) (o : Option D), ds[i]? = some d → os[i]? = some o → T d o) → Q (os.filterMap id) S) : wLcB wi g tt te vs ρ S Q := by
  let P : List D → List D → GS → Prop := fun rest acc S' => S' = S ∧ ∃ os : List (Option D), os.length + rest.length = ds.length ∧ rest = ds.drop os.length ∧ acc = os.filterMap id ∧ ∀ (i : Nat) (d : D) (o : Option D), ds[i]? = some d → os[i]? = some o → T d o
  refine hi _ ⟨P, ⟨rfl, [], by simp, rfl, rfl, fun i d o _ e => by simp at e⟩, ?_, ?_⟩
  · rintro d r acc _ ⟨rfl, os, hl, hr, rfl, hT⟩
    refine ⟨hgd, ?_⟩
    have hd : ds[os.length]? = some d := by
      have := congrArg List.head? hr
      rw [List.head?_drop] at this
      exact this.symm
    have hmem : d ∈ ds := List.mem_of_getElem? hd
    have nxt : ∀ o, T d o → r = ds.drop (os ++ [o]).length ∧ (os ++ [o]).length + r.length = ds.length ∧ ∀ (i : Nat) (x : D) (y : Option D), ds[i]? = some x → (os ++ [o])[i]? = some y → T x y := fun o ho => by
      refine ⟨?_, ?_, fun i x y e1 e2 => ?_⟩
      · have := congrArg List.tail hr
        rw [List.tail_drop] at this
        rw [List.length_append]
        exact this
      · rw [List.length_append]
        rw [List.length_cons] at hl
        show os.length + 1 + r.length = _
        omega
      · by_cases hi : i < os.length
        · rw [List.getElem?_append_left hi] at e2
          exact hT i x y e1 e2
        · have h2 := (List.getElem?_eq_some_iff.mp e2).1
          rw [List.length_append] at h2
          have : i = os.length := by
            have : i < os.length + 1 := h2
            omega
          subst this
          rw [hd] at e1
          cases e1
          rw [List.getElem?_append_right (Nat.le_refl _)] at e2
          simp at e2
          rw [← e2]
          exact ho
    refine ht d hmem (fun o S3 => (match o with
      | some y => (os.filterMap id).length < sizeLine ∧ P r (os.filterMap id ++ [y]) S3
      | none => P r (os.filterMap id) S3)) fun o ho => ?_
    obtain ⟨n1, n2, n3⟩ := nxt o ho
    cases o with
    | some y =>
      refine ⟨?_, rfl, os ++ [some y], n2, n1, ?_, n3⟩
      · have h1 := List.length_filterMap_le id os
        rw [List.length_cons] at hl
        omega
      · rw [List.filterMap_append]; rfl
    | none =>
      refine ⟨rfl, os ++ [none], n2, n1, ?_, n3⟩
      rw [List.filterMap_append]; simp
  · rintro acc _ ⟨rfl, os, hl, hr, rfl, hT⟩
    exact ⟨hgd, hQ os (by simpa using hl) hT⟩
/-- each item gives one value, a function of it -/
theorem lc_map {wi : WI} {g : WG} {tt : WT} {te : W} {vs : List Nat} {Q : List D → GS → Prop} {ds : List D} {gd : Gd} (f : D → D) (hi : ∀ Q : List D → Gd → GS → Prop, Q ds gd S → wi ρ S Q) (hgd : gdOk gd S) (hz : ds.length ≤ sizeLine)
    (ht : ∀ d ∈ ds, ∀ Q : Option D → GS → Prop, Q (some (f d)) S → turnLc g tt te (wipeD ρ vs) d S Q) (hQ : Q (ds.map f) S) : wLcB wi g tt te vs ρ S Q := by
  refine lc_run (fun d o => o = some (f d)) hi hgd hz (fun d m Q q => ht d m Q (q _ rfl)) fun os hl h => ?_
  have : os = (ds.map f).map some := by
    apply List.ext_getElem?
    intro i
    rw [List.map_map, List.getElem?_map]
    cases q : ds[i]? with
    | none => rw [List.getElem?_eq_none (by rw [hl]; exact List.getElem?_eq_none_iff.mp q)]; rfl
    | some d =>
      have hi' := (List.getElem?_eq_some_iff.mp q).1
      have z := List.getElem?_eq_getElem (l := os) (i := i) (by rw [hl]; exact hi')
      rw [z, h i d _ q z]
      rfl
  rw [this, List.filterMap_map]
  have e : List.filterMap (id ∘ some) (ds.map f) = ds.map f := List.filterMap_some
  rw [e]
  exact hQ
/-- the items of which it is so, themselves -/
theorem lc_filter {wi : WI} {g : WG} {tt : WT} {te : W} {vs : List Nat} {Q : List D → GS → Prop} {ds : List D} {gd : Gd} (p : D → Bool) (hi : ∀ Q : List D → Gd → GS → Prop, Q ds gd S → wi ρ S Q) (hgd : gdOk gd S) (hz : ds.length ≤ sizeLine)
    (ht : ∀ d ∈ ds, ∀ Q : Option D → GS → Prop, Q (if p d = true then some d else none) S → turnLc g tt te (wipeD ρ vs) d S Q) (hQ : Q (ds.filter p) S) : wLcB wi g tt te vs ρ S Q := by
  refine lc_run (fun d o => o = if p d = true then some d else none) hi hgd hz (fun d m Q q => ht d m Q (q _ rfl)) fun os hl h => ?_
  have : os = ds.map fun d => if p d = true then some d else none := by
    apply List.ext_getElem?
    intro i
    rw [List.getElem?_map]
    cases q : ds[i]? with
    | none => rw [List.getElem?_eq_none (by rw [hl]; exact List.getElem?_eq_none_iff.mp q)]; rfl
    | some d =>
      have hi' := (List.getElem?_eq_some_iff.mp q).1
      have z := List.getElem?_eq_getElem (l := os) (i := i) (by rw [hl]; exact hi')
      rw [z, h i d _ q z]
      rfl
  rw [this, List.filterMap_map]
  have e : ∀ l : List D, List.filterMap (id ∘ fun d => if p d = true then some d else none) l = l.filter p := fun l => by
    induction l with
    | nil => rfl
    | cons x r ih =>
      rw [List.filterMap_cons, List.filter_cons]
      by_cases c : p x = true
      · simp [c]; exact ih
      · simp [c]; exact ih
  rw [e]
  exact hQ
/-- each item gives one value of which something is so -/
theorem lc_all {wi : WI} {g : WG} {tt : WT} {te : W} {vs : List Nat} {Q : List D → GS → Prop} {ds : List D} {gd : Gd} (G : D → Prop) (hi : ∀ Q : List D → Gd → GS → Prop, Q ds gd S → wi ρ S Q) (hgd : gdOk gd S) (hz : ds.length ≤ sizeLine)
    (ht : ∀ d ∈ ds, ∀ Q : Option D → GS → Prop, (∀ y, G y → Q (some y) S) → turnLc g tt te (wipeD ρ vs) d S Q) (hQ : ∀ ys, ys.length = ds.length → (∀ y ∈ ys, G y) → Q ys S) : wLcB wi g tt te vs ρ S Q := by
  refine lc_run (fun d o => ∃ y, G y ∧ o = some y) hi hgd hz (fun d m Q q => ht d m Q fun y gy => q _ ⟨y, gy, rfl⟩) fun os hl h => ?_
  have : ∀ (os : List (Option D)), (∀ o ∈ os, ∃ y, G y ∧ o = some y) → ∃ ys : List D, os = ys.map some ∧ ∀ y ∈ ys, G y := fun os => by
    induction os with
    | nil => exact fun _ => ⟨[], rfl, fun y m => nomatch m⟩
    | cons o r ih =>
      intro z
      obtain ⟨ys, e1, e2⟩ := ih fun o m => z o (by simp [m])
      obtain ⟨y, gy, e3⟩ := z o (by simp)
      exact ⟨y :: ys, by rw [e1, e3]; rfl, fun x m => by rcases List.mem_cons.mp m with rfl | m; exact gy; exact e2 x m⟩
  obtain ⟨ys, e1, e2⟩ := this os fun o m => by
    obtain ⟨i, hi', e⟩ := List.getElem_of_mem m
    have z := List.getElem?_eq_getElem (l := os) (i := i) hi'
    have z2 := List.getElem?_eq_getElem (l := ds) (i := i) (by rw [← hl]; exact hi')
    rw [e] at z
    exact h i _ o z2 z
  subst e1
  rw [List.filterMap_map]
  have e : List.filterMap (id ∘ some) ys = ys := List.filterMap_some
  rw [e]
  exact hQ ys (by simpa using hl) e2
theorem gd0 {S : GS} : gdOk [] S := trivial
theorem bools_map {α : Type} (f : α → Bool) : ∀ l : List α, bools (l.map fun x => .bl (f x)) = some (l.map f)
  | [] => rfl
  | x :: r => by rw [List.map_cons, bools, bools_map f r]; rfl
theorem all_id {α : Type} (f : α → Bool) (l : List α) : (l.map f).all id = l.all f := by
  induction l with
  | nil => rfl
  | cons x r ih => rw [List.map_cons, List.all_cons, List.all_cons, ih]; rfl
end
end Dv

/-! Dv17: t[::-1], sorted of texts. -/
namespace Dv
open PySem PySem.Spec L2
open PyProof.Rows hiding St
section
variable {prog : Program} {w : World} {A : Around} {E : Value → Shared → Prop} {s : Shared}
theorem back_adjust (n : Nat) : Builtin.Slice.sliceAdjust none none (-1) (n : Int) = ((n : Int) - 1, -1) := by
  unfold Builtin.Slice.sliceAdjust
  simp
theorem back_places (n : Nat) : Builtin.Slice.slicePlaces ((n : Int) - 1) (-1) (-1) = n := by
  unfold Builtin.Slice.slicePlaces
  have h1 : ¬ ((-1 : Int) > 0) := by decide
  simp only [h1, if_false]
  split
  · simp
  · omega
theorem back_pick (xs : Array Value) : ((List.range xs.size).filterMap fun (m : Nat) => xs[(((xs.size : Int) - 1) + (m : Int) * (-1)).toNat]?).toArray = xs.toList.reverse.toArray := by
  have e : ∀ l : List Nat, (∀ m ∈ l, m < xs.size) → l.filterMap (fun (m : Nat) => xs[(((xs.size : Int) - 1) + (m : Int) * (-1)).toNat]?) = (l.map fun k => xs.size - 1 - k).filterMap (xs[·]?) := fun l => by
    induction l with
    | nil => exact fun _ => rfl
    | cons m r ih =>
      intro h
      have hm := h m (by simp)
      have e1 : (((xs.size : Int) - 1) + (m : Int) * (-1)).toNat = xs.size - 1 - m := by omega
      rw [List.map_cons, List.filterMap_cons, List.filterMap_cons, e1, ih fun k hk => h k (by simp [hk])]
  rw [e _ fun m hm => List.mem_range.mp hm, PySem.W.krv_range, List.filterMap_reverse, PySem.W.krv_all]
theorem slice_back {sl : Addr} {vs : Value} {n : Nat} {Q : Int × Int × Nat → Shared → Prop} (hs : s.heap.IsSliceOf sl .none .none vs) (ps : IsPart vs (some (-1))) (h : Q ((n : Int) - 1, -1, n) s) :
    wpAny (model prog w) A (Builtin.Slice.sliceApplied (.ref sl) (pure (n : Int))) Q E s := by
  obtain ⟨ob, h1, h2, h3⟩ := id hs
  unfold Builtin.Slice.sliceApplied Builtin.Slice.sliceFields
  refine wpAny_bind (wpAny_bind (wpAny_field h1 h3 (x := .none) rfl (wpAny_bind (wpAny_field h1 h3 (x := .none) rfl (wpAny_bind (wpAny_field h1 h3 (x := vs) rfl (wpAny_pure ?_)))))))
  refine wpAny_bind (HT.slicePart_ ps ?_)
  show wpAny _ _ (if ((-1 : Int) == 0) = true then _ else _) _ _ s
  rw [if_neg (by decide)]
  refine wpAny_bind (HT.slicePart_ .none (wpAny_bind (HT.slicePart_ .none (wpAny_bind (wpAny_pure ?_)))))
  show wpAny _ _ (match Builtin.Slice.sliceAdjust none none (-1) (n : Int) with | (lo, hi) => pure (lo, (-1 : Int), Builtin.Slice.slicePlaces lo hi (-1))) _ _ s
  rw [back_adjust n]
  show wpAny _ _ (pure ((n : Int) - 1, (-1 : Int), Builtin.Slice.slicePlaces ((n : Int) - 1) (-1) (-1))) _ _ s
  rw [back_places]
  exact wpAny_pure h
theorem tup_back {t sl : Addr} {items : Array Value} {vs : Value} {Q : Value → Shared → Prop} (ht : IsTup s.heap t items) (hs : s.heap.IsSliceOf sl .none .none vs) (ps : IsPart vs (some (-1)))
    (h : Q (.ref s.heap.objs.size) { s with heap := s.heap.push { cls := .type "tuple", data := .seq items.toList.reverse.toArray } }) (hz : items.size ≤ sizeLine) : wpAny (model prog w) A (getItem (.ref t) (.ref sl)) Q E s := by
  have hfit : sizeOk (.seq items.toList.reverse.toArray) := by
    show items.toList.reverse.toArray.size ≤ sizeLine
    rw [List.size_toArray, List.length_reverse, Array.length_toList]
    exact hz
  obtain ⟨ob, h1, h2, h3⟩ := id hs
  have isSl : s.TypeIs (.ref sl) "slice" := ⟨ob, h1, h2⟩
  unfold getItem
  try with_reducible refine wpAny_holding ?_
  first | refine wpAny_bind (wpAny_pure ?_) | skip
  refine wpAny_bind (wpAny_sequenceKey ht.typeIs (by decide) ?_)
  refine wpAny_bind (wpAny_callSpecial?_slot (name := Str.ofString "__getitem__") ht.typeIs slot_tuple_getitem (wpAny_call_entry slot_tuple_getitem ht.typeIs entry_tuple_getitem ?_ (args_tuple_getitem _ _)))
  show wpAny _ _ (Builtin.Tuple.tupleItemsOf (.ref t) >>= _) _ _ s
  refine wpAny_bind (tupleItemsOf_ ht (wpAny_bind (wpAny_typeOf isSl ?_)))
  rw [if_pos (by decide)]
  refine wpAny_bind (slice_back hs ps ?_)
  have other : ¬ ((((items.size : Int) - 1) == 0 && (-1 : Int) == 1 && items.size == items.size) = true) := by
    rw [show ((-1 : Int) == 1) = false by decide, Bool.and_false, Bool.false_and]
    decide
  show wpAny _ _ (if (((items.size : Int) - 1) == 0 && (-1 : Int) == 1 && items.size == items.size) = true then _ else _) _ _ s
  rw [if_neg other, back_pick]
  have made := h
  first
    | exact wpAny_bind (m := Builtin.Tuple.tupleExact _) (wpAny_newObj_type (wpAny_pure ⟨_, rfl, wpAny_pure made⟩) hfit)
    | exact wpAny_bind (m := Builtin.Tuple.tupleExact _) (wpAny_newObj_type (wpAny_bind (wpAny_pure (wpAny_pure ⟨_, rfl, wpAny_pure made⟩))) hfit)
    | exact wpAny_bind (wpAny_bind (m := Builtin.Tuple.tupleExact _) (wpAny_newObj_type (wpAny_pure (wpAny_pure ⟨_, rfl, wpAny_pure made⟩)) hfit))
    | exact wpAny_bind (wpAny_bind (m := Builtin.Tuple.tupleExact _) (wpAny_newObj_type (wpAny_pure ⟨_, rfl, wpAny_pure made⟩) hfit))
end
section
variable {X : Cx} {DI : Addr → GH → Prop} {N : List Str} {sc : Scope} {k : Nat} {fns : List Fn} {cs : List (Str × D)} {bl : List Str} {fc : Bool}
variable {x : Str} {pos p1 p2 p3 : Pos} {e : Expr} {es : List Expr} {a : W} {wa : WA} {j0 : Nat}
def tBack (K : PySem.W.Frag) (te : TE) : TE := fun σ H Q => te σ H fun x H1 => ∃ a xs, x = .ref a ∧ ((SqL K H1 a xs ∧ ∀ p, H1 p = none → Q (.ref p) (upd H1 p (.lst xs.reverse))) ∨ (SqT K H1 a xs ∧ ∀ p, H1 p = none → Q (.ref p) (upd H1 p (.tup xs.reverse))))
theorem pe_back {te : TE} (he : PE X e te) : PE X (.Subscript e (.Slice none none (some (.UnaryOp .USub (.Constant (.int 1) j0 p1) p2)) p3) pos) (tBack X.K te) := by
  refine ⟨fun pins s σ H Q I h => Subscript_ (thn (he.run pins s σ H _ I h) fun v s1 ⟨x, H1, I1, r1, a, xs, ex, q⟩ => ?_)⟩
  subst ex
  cases r1
  have step : PO X (some (.UnaryOp .USub (.Constant (.int 1) j0 p1) p2)) (tPart (tUn (rU fun i => .int (-i)) (tC (.int 1)))) := po_some (pe_un un_neg pe_int)
  refine wpAny_Slice (thn (po_none.run pins s1 σ H1 (fun o G => o = none ∧ G = H1) I1 ⟨rfl, rfl⟩) fun vl s2 ⟨l, H2, I2, pl, el, e2⟩ => ?_)
  subst el e2
  refine thn (po_none.run pins s2 σ H2 (fun o G => o = none ∧ G = H2) I2 ⟨rfl, rfl⟩) fun vu s3 ⟨u, H3, I3, pu, eu, e3⟩ => ?_
  subst eu e3
  refine thn (step.run pins s3 σ H3 (fun o G => o = some (-1) ∧ G = H3) I3 ⟨1, rfl, -1, rfl, rfl, rfl⟩) fun vs s4 ⟨o, H4, I4, ps, eo, e4⟩ => ?_
  subst eo e4
  have I5 : Inv X pins σ H4 { s4 with heap := s4.heap.push { cls := .type "slice", data := .fields #[vl, vu, vs] } } := I4.kept (t' := s4.toks) fun b ob z => Heap.get?_push_of_some _ z
  show wpAny (model X.prog X.w) X.A (subscriptTail e (.Slice none none (some (.UnaryOp .USub (.Constant (.int 1) j0 p1) p2)) p3) (.ref a) (.ref s4.heap.objs.size)) (EP X pins σ Q) X.xe { s4 with heap := s4.heap.push { cls := .type "slice", data := .fields #[vl, vu, vs] } }
  rcases q with ⟨hx, q⟩ | ⟨hx, q⟩
  · obtain ⟨its, r, ht, hz⟩ := I5.list hx
    have hlen := r.length
    refine tail_any (ops := [.ref a, .ref s4.heap.objs.size]) ht.isList.typeIs (PySem.slot_list_getitem.lookup) ?_ (by with_unfolding_all rfl)
    refine wpAny_getItem_list_slice ht.isList (Heap.IsSliceOf.new _ vl vu vs) pl pu ps (by decide) ?_ (by rw [List.size_toArray]; omega)
    rw [PySem.W.krv_pick]
    exact ⟨.ref _, _, I5.laid (t' := s4.toks) (o := .lst xs.reverse) (fun b ob z => Heap.get?_push_of_some _ z) (Nat.le_refl _) ⟨by rw [List.length_reverse]; exact hz, _, 0, r.reverse, Heap.get?_push_size _ rfl⟩, rfl, q _ (I5.hok.fresh (Nat.le_refl _))⟩
  · obtain ⟨its, r, ht, hz⟩ := I5.tuple hx
    have hlen := r.length
    cases pl
    cases pu
    refine tail_any (ops := [.ref a, .ref s4.heap.objs.size]) ht.typeIs (PyProof.Rows.slot_tuple_getitem.lookup) ?_ (by with_unfolding_all rfl)
    refine tup_back ht (Heap.IsSliceOf.new _ .none .none vs) ps ?_ (by rw [List.size_toArray]; omega)
    exact ⟨.ref _, _, I5.laid (t' := s4.toks) (o := .tup xs.reverse) (fun b ob z => Heap.get?_push_of_some _ z) (Nat.le_refl _) ⟨by rw [List.length_reverse]; exact hz, _, r.reverse, IsTup.new _ _⟩, rfl, q _ (I5.hok.fresh (Nat.le_refl _))⟩
def wBack (a : W) : W := fun ρ S Q => a ρ S fun d S1 => match d with
  | .tup ds => Q (.tup ds.reverse) S1
  | d => match asL S1 d with
    | some ds => Q (.lst ds.reverse) S1
    | none => False
theorem e_back (he : PE X e (lft X.K DI a)) : PE X (.Subscript e (.Slice none none (some (.UnaryOp .USub (.Constant (.int 1) j0 p1) p2)) p3) pos) (lft X.K DI (wBack a)) := (peLQ (pe_back he)).imp fun σ H Q q => by
  obtain ⟨F, ρ, S, R, rel, env, w, f⟩ := q
  refine ⟨F, ρ, S, _, rel, env, w, fun d S1 v H1 q1 rel1 k1 d1 => ?_⟩
  split at q1
  · obtain ⟨a, vs, rfl, t, den⟩ := d1.tupV
    exact ⟨a, vs, rfl, .inr ⟨t, fun p hp => .inl (f.tup q1 rel1 k1 den.reverse hp)⟩⟩
  · split at q1
    · rename_i ds e
      obtain ⟨a, vs, rfl, t, den⟩ := asL_ok rel1 d1 e
      exact ⟨a, vs, rfl, .inl ⟨.inl t, fun p hp => f.lst q1 rel1 k1 den.reverse hp⟩⟩
    · exact q1.elim
theorem x_back {ρ : Env} {S : GS} {Q : D → GS → Prop} : wBack a ρ S Q = a ρ S fun d S1 => (match d with
  | .tup ds => Q (.tup ds.reverse) S1
  | d => match asL S1 d with
    | some ds => Q (.lst ds.reverse) S1
    | none => False) := propext ⟨id, id⟩
/-! ### a if t else b, as a test -/
theorem truth_if {c e1 e2 : Expr} {env : PySem.Env} {whole : Sem Value} : isTrue (.IfExp c e1 e2 pos) env whole = (do
    let t ← isTrue c env (eval c env)
    if t = true then isTrue e1 env (eval e1 env) else isTrue e2 env (eval e2 env)) := by rfl
def wIfT (c t u : WT) : WT := fun ρ S Q => c ρ S fun b S1 => if b = true then t ρ S1 Q else u ρ S1 Q
theorem t_if {c e1 e2 : Expr} {wc t u : WT} (hc : PT X c (lftT X.K DI wc)) (ha : PT X e1 (lftT X.K DI t)) (hb : PT X e2 (lftT X.K DI u)) : PT X (.IfExp c e1 e2 pos) (lftT X.K DI (wIfT wc t u)) := ⟨fun pins s σ H Q I q => by
  obtain ⟨F, ρ, S, R, rel, env, w, f⟩ := q
  rw [truth_if]
  refine wpAny_bind (thn (hc.run pins s σ H (fun b H1 => if b = true then lftT X.K DI t σ H1 Q else lftT X.K DI u σ H1 Q) I ⟨F, ρ, S, _, rel, env, w, fun b S1 H1 r rel1 k1 => ?_⟩) fun b s1 ⟨H1, I1, z⟩ => ?_)
  · cases b with
    | true =>
      rw [if_pos rfl] at r ⊢
      exact ⟨F, ρ, S1, R, rel1, env.mn k1, r, f.up k1⟩
    | false =>
      rw [if_neg (by decide)] at r ⊢
      exact ⟨F, ρ, S1, R, rel1, env.mn k1, r, f.up k1⟩
  · cases b with
    | true =>
      rw [if_pos rfl] at z ⊢
      exact ha.run pins s1 σ H1 Q I1 z
    | false =>
      rw [if_neg (by decide)] at z ⊢
      exact hb.run pins s1 σ H1 Q I1 z⟩
theorem x_ifT {c t u : WT} {ρ : Env} {S : GS} {Q : Bool → GS → Prop} : wIfT c t u ρ S Q = c ρ S fun b S1 => if b = true then t ρ S1 Q else u ρ S1 Q := propext ⟨id, id⟩
/-! ### sorted, of texts -/
def strsOf : List D → Option (List Str)
  | [] => some []
  | .str z :: r => (strsOf r).map (z :: ·)
  | _ :: _ => none
theorem strsOf_ok {K : PySem.W.Frag} {H : Hp} : ∀ {ds : List D} {vs : List V} {zs : List Str}, strsOf ds = some zs → DenL K H ds vs → vs = zs.map V.str
  | [], _, _, e, h => by cases e; cases h; rfl
  | .str z :: r, _, _, e, h => by
    unfold strsOf at e
    obtain ⟨ys, e1, e2⟩ := Option.map_eq_some_iff.mp e
    cases e2
    cases h with
    | cons h1 h2 =>
      cases h1
      rw [strsOf_ok e1 h2]
      rfl
  | .non :: _, _, _, e, _ | .bl _ :: _, _, _, e, _ | .int _ :: _, _, _, e, _ | .ty _ :: _, _, _, e, _ | .ref _ :: _, _, _, e, _ | .tup _ :: _, _, _, e, _ | .lst _ :: _, _, _, e, _ | .dct _ :: _, _, _, e, _ => by cases e
def fSortS : WF := f1 fun d S Q => match asL S d with
  | some ds => match strsOf ds with
    | some zs => zs.length < 64 ∧ ∀ ys : List Str, ys.Perm zs → sortedS ys = true → Q (.lst (ys.map D.str)) S
    | none => False
  | none => False
theorem dc_sortS : CallR X (.builtin "sorted") (lftF X.K DI fSortS) := f1_ok (callLQ cr_sortedS) fun F d v S R H Q rel den w fin => by
  split at w
  · rename_i ds e
    split at w
    · rename_i zs ez
      obtain ⟨a, vs, rfl, t, dl⟩ := asL_ok rel den e
      have z := strsOf_ok ez dl
      subst z
      exact ⟨a, zs, rfl, .inl t, w.1, fun ys p h1 h2 hp => fin.lst (w.2 ys h1 h2) rel (.refl _) (den_strs ys) hp⟩
    · exact w.elim
  · exact w.elim
theorem e_sortS (o : Ob X DI N sc k fns cs bl fc) (ha : PAn X (e :: es) (lftA X.K DI wa)) (h : (okB bl sc x (.builtin "sorted") && ((e :: es).all nStar)) = true := by kernel_rfl) : PE X (.Call (.Name x p2) (e :: es) [] pos) (lft X.K DI (wCall fSortS wa)) := e_callB o "sorted" dc_sortS ha h
end
end Dv

namespace K05
open PySem PySem.Spec L2 Dv
open PyProof.Rows hiding St
def topS (i : Nat) : Stmt := PySem.Challenge.pw_heldapart_k05_what_are_stores_and_heaps.main.body.getD i (.Pass ⟨0, 0, 0, 0⟩)
abbrev s__law_deck : Stmt := topS 13
abbrev N__law_deck : List Str := ["script", "deck", "cell", "whole"]
theorem sc__law_deck : FnScope N__law_deck ["script"] (defScope s__law_deck) := ⟨rfl, rfl, rfl, by decide +kernel, rfl, by decide +kernel, by decide +kernel⟩
abbrev s__law_is_from : Stmt := topS 20
abbrev N__law_is_from : List Str := ["value", "least"]
theorem sc__law_is_from : FnScope N__law_is_from ["value", "least"] (defScope s__law_is_from) := ⟨rfl, rfl, rfl, by decide +kernel, rfl, by decide +kernel, by decide +kernel⟩
abbrev s__law_words : Stmt := topS 17
abbrev N__law_words : List Str := []
theorem sc__law_words : FnScope N__law_words [] (defScope s__law_words) := ⟨rfl, rfl, rfl, by decide +kernel, rfl, by decide +kernel, by decide +kernel⟩
abbrev s__law_is_name : Stmt := topS 19
abbrev N__law_is_name : List Str := ["value", "sign"]
theorem sc__law_is_name : FnScope N__law_is_name ["value"] (defScope s__law_is_name) := ⟨rfl, rfl, rfl, by decide +kernel, rfl, by decide +kernel, by decide +kernel⟩
abbrev s__law_due : Stmt := topS 21
abbrev N__law_due : List Str := ["value", "is_store", "spot", "own"]
theorem sc__law_due : FnScope N__law_due ["value", "is_store"] (defScope s__law_due) := ⟨rfl, rfl, rfl, by decide +kernel, rfl, by decide +kernel, by decide +kernel⟩
abbrev s_order_error : Stmt := topS 9
abbrev N_order_error : List Str := ["value", "spot"]
theorem sc_order_error : FnScope N_order_error ["value"] (defScope s_order_error) := ⟨rfl, rfl, rfl, by decide +kernel, rfl, by decide +kernel, by decide +kernel⟩
abbrev s_is_name : Stmt := topS 3
abbrev N_is_name : List Str := ["value", "sign"]
theorem sc_is_name : FnScope N_is_name ["value"] (defScope s_is_name) := ⟨rfl, rfl, rfl, by decide +kernel, rfl, by decide +kernel, by decide +kernel⟩
abbrev s_is_told_name : Stmt := topS 4
abbrev N_is_told_name : List Str := ["value"]
theorem sc_is_told_name : FnScope N_is_told_name ["value"] (defScope s_is_told_name) := ⟨rfl, rfl, rfl, by decide +kernel, rfl, by decide +kernel, by decide +kernel⟩
abbrev s_is_value : Stmt := topS 6
abbrev N_is_value : List Str := ["value"]
theorem sc_is_value : FnScope N_is_value ["value"] (defScope s_is_value) := ⟨rfl, rfl, rfl, by decide +kernel, rfl, by decide +kernel, by decide +kernel⟩
abbrev s_is_store_item : Stmt := topS 7
abbrev N_is_store_item : List Str := ["value"]
theorem sc_is_store_item : FnScope N_is_store_item ["value"] (defScope s_is_store_item) := ⟨rfl, rfl, rfl, by decide +kernel, rfl, by decide +kernel, by decide +kernel⟩
abbrev s_store_error : Stmt := topS 10
abbrev N_store_error : List Str := ["value", "spot", "item"]
theorem sc_store_error : FnScope N_store_error ["value"] (defScope s_store_error) := ⟨rfl, rfl, rfl, by decide +kernel, rfl, by decide +kernel, by decide +kernel⟩
abbrev s_is_heap_item : Stmt := topS 8
abbrev N_is_heap_item : List Str := ["value"]
theorem sc_is_heap_item : FnScope N_is_heap_item ["value"] (defScope s_is_heap_item) := ⟨rfl, rfl, rfl, by decide +kernel, rfl, by decide +kernel, by decide +kernel⟩
abbrev s_heap_error : Stmt := topS 11
abbrev N_heap_error : List Str := ["value", "spot", "item"]
theorem sc_heap_error : FnScope N_heap_error ["value"] (defScope s_heap_error) := ⟨rfl, rfl, rfl, by decide +kernel, rfl, by decide +kernel, by decide +kernel⟩
abbrev s__law_is_right : Stmt := topS 22
abbrev N__law_is_right : List Str := ["value", "is_store", "is_named", "known", "due", "seen", "own"]
theorem sc__law_is_right : FnScope N__law_is_right ["value", "is_store", "is_named"] (defScope s__law_is_right) := ⟨rfl, rfl, rfl, by decide +kernel, rfl, by decide +kernel, by decide +kernel⟩
abbrev s__law_draw : Stmt := topS 14
abbrev N__law_draw : List Str := ["deck", "many", "number", "whole"]
theorem sc__law_draw : FnScope N__law_draw ["deck", "many"] (defScope s__law_draw) := ⟨rfl, rfl, rfl, by decide +kernel, rfl, by decide +kernel, by decide +kernel⟩
abbrev s__law_pick : Stmt := topS 15
abbrev N__law_pick : List Str := ["deck", "items"]
theorem sc__law_pick : FnScope N__law_pick ["deck", "items"] (defScope s__law_pick) := ⟨rfl, rfl, rfl, by decide +kernel, rfl, by decide +kernel, by decide +kernel⟩
abbrev s__law_heap : Stmt := topS 24
abbrev N__law_heap : List Str := ["deck", "many", "turn", "at", "rest"]
theorem sc__law_heap : FnScope N__law_heap ["deck", "many"] (defScope s__law_heap) := ⟨rfl, rfl, rfl, by decide +kernel, rfl, by decide +kernel, by decide +kernel⟩
abbrev s__law_shuffled : Stmt := topS 16
abbrev N__law_shuffled : List Str := ["deck", "items", "left", "rest"]
theorem sc__law_shuffled : FnScope N__law_shuffled ["deck", "items"] (defScope s__law_shuffled) := ⟨rfl, rfl, rfl, by decide +kernel, rfl, by decide +kernel, by decide +kernel⟩
abbrev s__law_store : Stmt := topS 23
abbrev N__law_store : List Str := ["deck", "pool", "names", "name"]
theorem sc__law_store : FnScope N__law_store ["deck"] (defScope s__law_store) := ⟨rfl, rfl, rfl, by decide +kernel, rfl, by decide +kernel, by decide +kernel⟩
abbrev s__law_odd_item : Stmt := topS 25
abbrev N__law_odd_item : List Str := ["deck", "own", "is_store", "begins", "values", "menu", "first", "second"]
theorem sc__law_odd_item : FnScope N__law_odd_item ["deck", "own", "is_store"] (defScope s__law_odd_item) := ⟨rfl, rfl, rfl, by decide +kernel, rfl, by decide +kernel, by decide +kernel⟩
abbrev s__law_turned : Stmt := topS 26
abbrev N__law_turned : List Str := ["deck", "value", "is_store", "twice", "at", "way"]
theorem sc__law_turned : FnScope N__law_turned ["deck", "value", "is_store"] (defScope s__law_turned) := ⟨rfl, rfl, rfl, by decide +kernel, rfl, by decide +kernel, by decide +kernel⟩
abbrev s__law_odd_value : Stmt := topS 18
abbrev N__law_odd_value : List Str := ["deck", "deep", "way", "inner", "plain", "turn"]
theorem sc__law_odd_value : FnScope N__law_odd_value ["deck", "deep"] (defScope s__law_odd_value) := ⟨rfl, rfl, rfl, by decide +kernel, rfl, by decide +kernel, by decide +kernel⟩
abbrev s_law : Stmt := topS 27
abbrev N_law : List Str := ["script", "deck", "turn", "top", "far", "long", "is_store", "value", "again", "once"]
theorem sc_law : FnScope N_law ["script"] (defScope s_law) := ⟨rfl, rfl, rfl, by decide +kernel, rfl, by decide +kernel, by decide +kernel⟩
abbrev c_SMALL_LETTERS : D := .str "abcdefghijklmnopqrstuvwxyz"
abbrev c_WORDS : D := .tup [.str "nil", .str "result", .str "fun", .str "head", .str "foot", .str "with", .str "var", .str "if", .str "else", .str "while", .str "keep", .str "new", .str "free", .str "any", .str "cell", .str "list", .str "empty", .str "is", .str "isnt"]
/-! ### values that may be told -/
/-- a plain value of which little is told -/
def lf (d : PyData) : Bool := d.showable && decide (d.shown.length ≤ 400)
mutual
def gd : D → Bool
  | .non => true
  | .bl _ => true
  | .int i => lf (.int i)
  | .str x => decide (x.length ≤ 400) && (PyData.strOk x && lf (.str x))
  | .ty _ => false
  | .ref _ => false
  | .tup ds => gdL ds
  | .lst ds => gdL ds
  | .dct kvs => gdK kvs
def gdL : List D → Bool
  | [] => true
  | d :: ds => gd d && gdL ds
def gdK : List (Key × D) → Bool
  | [] => true
  | (k, d) :: ds => lf (datKey k) && (gd d && gdK ds)
end
theorem gdL_mem : ∀ {ds : List D}, gdL ds = true → ∀ d ∈ ds, gd d = true
  | [], _, _, h => nomatch h
  | x :: xs, h, d, m => by
    rw [gdL, Bool.and_eq_true] at h
    rcases List.mem_cons.mp m with rfl | m
    · exact h.1
    · exact gdL_mem h.2 d m
theorem gdL_of : ∀ {ds : List D}, (∀ d ∈ ds, gd d = true) → gdL ds = true
  | [], _ => rfl
  | x :: xs, h => by rw [gdL, h x (by simp), gdL_of fun d m => h d (by simp [m])]; rfl
theorem gd_str {x : Str} (h : gd (.str x) = true) : x.length ≤ sizeLine := by
  rw [gd, Bool.and_eq_true, decide_eq_true_eq] at h
  exact Nat.le_trans h.1 (by rw [sizeLine_eq]; omega)
theorem gd_cmpS {x : Str} (h : gd (.str x) = true) : cmp? (.str x) = true := by
  rw [gd, Bool.and_eq_true, Bool.and_eq_true] at h
  simp [cmp?, pure?, nod?, dep, h.2.1]
mutual
theorem gd_pure : ∀ d : D, gd d = true → pure? d = true
  | .non, _ => rfl
  | .bl _, _ => rfl
  | .int _, _ => rfl
  | .str _, _ => rfl
  | .ty _, h => by simp [gd] at h
  | .ref _, h => by simp [gd] at h
  | .tup ds, h => by rw [pure?]; exact gd_pureL ds (by rw [gd] at h; exact h)
  | .lst ds, h => by rw [pure?]; exact gd_pureL ds (by rw [gd] at h; exact h)
  | .dct ds, h => by rw [pure?]; exact gd_pureK ds (by rw [gd] at h; exact h)
theorem gd_pureL : ∀ ds : List D, gdL ds = true → pureL ds = true
  | [], _ => rfl
  | d :: ds, h => by
    rw [gdL, Bool.and_eq_true] at h
    rw [pureL, gd_pure d h.1, gd_pureL ds h.2]; rfl
theorem gd_pureK : ∀ ds : List (Key × D), gdK ds = true → pureK ds = true
  | [], _ => rfl
  | (k, d) :: ds, h => by
    rw [gdK, Bool.and_eq_true, Bool.and_eq_true] at h
    rw [pureK, gd_pure d h.2.1, gd_pureK ds h.2.2]; rfl
end
theorem gd_noref {d : D} (h : gd d = true) (S : GS) : snap S d = d := by
  cases d <;> first | rfl | (simp [gd] at h)
theorem gd_ty {d : D} (h : gd d = true) (S S' : GS) : tyD S d = tyD S' d := by
  cases d <;> first | rfl | (simp [gd] at h)
theorem isi_tup (d : D) (h : gd d = true) (S : GS) : tyD S d = some "tuple" ∧ (∃ ds, d = .tup ds) ∨ ∃ t, tyD S d = some t ∧ isiB t "tuple" = some false ∧ ∀ ds, d ≠ .tup ds := by
  cases d with
  | tup ds => exact .inl ⟨rfl, ds, rfl⟩
  | ref a => simp [gd] at h
  | ty a => simp [gd] at h
  | _ => exact .inr ⟨_, rfl, by simp [isiB], fun ds z => by cases z⟩
theorem isi_str (d : D) (h : gd d = true) (S : GS) : tyD S d = some "str" ∧ (∃ x, d = .str x) ∨ ∃ t, tyD S d = some t ∧ isiB t "str" = some false ∧ ∀ x, d ≠ .str x := by
  cases d with
  | str x => exact .inl ⟨rfl, x, rfl⟩
  | ref a => simp [gd] at h
  | ty a => simp [gd] at h
  | _ => exact .inr ⟨_, rfl, by simp [isiB], fun ds z => by cases z⟩
theorem isi_tt : isiB "tuple" "tuple" = some true := rfl
theorem isi_ss : isiB "str" "str" = some true := rfl
theorem eqb_str (a b : Str) : eqb (.str a) (.str b) = decide (a = b) := by
  unfold eqb
  simp only [dat]
  by_cases h : a = b
  · subst h; simp [PyData.eqv]
  · simp [PyData.eqv, h]
theorem empty_filter {α : Type} (p : α → Bool) (l : List α) : (l.filter p).isEmpty = l.all fun x => !p x := by
  induction l with
  | nil => rfl
  | cons x r ih =>
    rw [List.filter_cons, List.all_cons]
    cases c : p x <;> simp [ih]
theorem eqb_nil (l : List D) : eqb (.lst l) (.lst []) = l.isEmpty := by
  unfold eqb
  cases l with
  | nil => simp [dat, datL, PyData.eqv, PyData.eqvAll]
  | cons x r => simp [dat, datL, PyData.eqv, PyData.eqvAll]
theorem eqb_tnil (l : List D) : eqb (.tup l) (.tup []) = l.isEmpty := by
  unfold eqb
  cases l with
  | nil => simp [dat, datL, PyData.eqv, PyData.eqvAll]
  | cons x r => simp [dat, datL, PyData.eqv, PyData.eqvAll]
/-! ### how long a value's text may be -/
mutual
def sz : D → Nat
  | .non | .bl _ | .int _ | .str _ | .ty _ | .ref _ => 400
  | .tup ds => 3 + szL ds
  | .lst ds => 3 + szL ds
  | .dct kvs => 3 + szK kvs
def szL : List D → Nat
  | [] => 0
  | d :: ds => sz d + 2 + szL ds
def szK : List (Key × D) → Nat
  | [] => 0
  | (_, d) :: ds => sz d + 406 + szK ds
end
theorem textFrom_le : ∀ (ts : List Str) (k : Nat) (acc : Str), (textFrom k acc ts).length ≤ acc.length + piled ts
  | [], k, acc => by show acc.length ≤ _; omega
  | t :: r, k, acc => by
    have h := textFrom_le r (k + 1) (acc ++ (if k > 0 then ", " else "" : String) ++ t)
    have e : (acc ++ (if k > 0 then ", " else "" : String) ++ t).length ≤ acc.length + 2 + t.length := by
      rw [strLen_append, strLen_append]
      have : ((if k > 0 then ", " else "" : String) : Str).length ≤ 2 := by split <;> decide
      omega
    rw [piled_cons]
    show (textFrom (k + 1) (acc ++ (if k > 0 then ", " else "" : String) ++ t) r).length ≤ _
    omega
theorem tupleText_le (ts : List Str) : (tupleText ts).length ≤ 3 + piled ts := by
  unfold tupleText
  rw [strLen_append, strLen_append]
  have h1 : (("(" : String) : Str).length = 1 := rfl
  have h2 : ((if ts.length == 1 then ",)" else ")" : String) : Str).length ≤ 2 := by split <;> decide
  by_cases h : ts = []
  · subst h
    have : (Str.join ", " []).length = 0 := rfl
    rw [this]
    omega
  · have := join_length_add ts h
    omega
theorem listText_le (ts : List Str) : (listText ts).length ≤ 3 + piled ts := by
  unfold listText
  rw [strLen_append]
  have h1 := textFrom_le ts 0 "["
  have h2 : (("[" : String) : Str).length = 1 := rfl
  have h3 : (("]" : String) : Str).length = 1 := rfl
  rw [h2] at h1
  rw [h3]
  omega
theorem dictText_le (ts : List Str) : (dictText ts).length ≤ 3 + piled ts := by
  unfold dictText
  rw [strLen_append, strLen_append]
  have h1 : (("{" : String) : Str).length = 1 := rfl
  have h2 : (("}" : String) : Str).length = 1 := rfl
  rw [h1, h2]
  by_cases h : ts = []
  · subst h
    have : (Str.join ", " []).length = 0 := rfl
    rw [this]
    omega
  · have := join_length_add ts h
    omega
theorem lf_ok {d : PyData} (h : lf d = true) : d.showable = true ∧ d.shown.length ≤ 400 := by
  unfold lf at h
  rw [Bool.and_eq_true, decide_eq_true_eq] at h
  exact h
mutual
theorem sz_ok : ∀ d : D, gd d = true → (dat d).showable = true ∧ (dat d).shown.length ≤ sz d
  | .non, _ => ⟨rfl, by show (4 : Nat) ≤ 400; omega⟩
  | .bl b, _ => ⟨rfl, by cases b <;> decide⟩
  | .int i, h => lf_ok (by rw [gd] at h; exact h)
  | .str x, h => by
    rw [gd, Bool.and_eq_true, Bool.and_eq_true] at h
    exact lf_ok h.2.2
  | .ty _, h => by simp [gd] at h
  | .ref _, h => by simp [gd] at h
  | .tup ds, h => by
    rw [gd] at h
    obtain ⟨h1, h2⟩ := szL_ok ds h
    refine ⟨by simp [dat, PyData.showable, h1], ?_⟩
    have := tupleText_le (PyData.shownAll (datL ds))
    rw [dat, PyData.shown, sz]
    omega
  | .lst ds, h => by
    rw [gd] at h
    obtain ⟨h1, h2⟩ := szL_ok ds h
    refine ⟨by simp [dat, PyData.showable, h1], ?_⟩
    have := listText_le (PyData.shownAll (datL ds))
    rw [dat, PyData.shown, sz]
    omega
  | .dct ds, h => by
    rw [gd] at h
    obtain ⟨h1, h2⟩ := szK_ok ds h
    refine ⟨by simp [dat, PyData.showable, h1], ?_⟩
    have := dictText_le (PyData.shownKv (datK ds))
    rw [dat, PyData.shown, sz]
    omega
theorem szL_ok : ∀ ds : List D, gdL ds = true → PyData.showableAll (datL ds) = true ∧ piled (PyData.shownAll (datL ds)) ≤ szL ds
  | [], _ => ⟨rfl, Nat.le_refl _⟩
  | d :: ds, h => by
    rw [gdL, Bool.and_eq_true] at h
    obtain ⟨h1, h2⟩ := sz_ok d h.1
    obtain ⟨h3, h4⟩ := szL_ok ds h.2
    refine ⟨by simp [datL, PyData.showableAll, h1, h3], ?_⟩
    rw [datL, PyData.shownAll, piled_cons, szL]
    omega
theorem szK_ok : ∀ ds : List (Key × D), gdK ds = true → PyData.showableKv (datK ds) = true ∧ piled (PyData.shownKv (datK ds)) ≤ szK ds
  | [], _ => ⟨rfl, Nat.le_refl _⟩
  | (k, d) :: ds, h => by
    rw [gdK, Bool.and_eq_true, Bool.and_eq_true] at h
    obtain ⟨h0, h00⟩ := lf_ok h.1
    obtain ⟨h1, h2⟩ := sz_ok d h.2.1
    obtain ⟨h3, h4⟩ := szK_ok ds h.2.2
    have e : datK ((k, d) :: ds) = (datKey k, dat d) :: datK ds := by cases k <;> rfl
    rw [e]
    refine ⟨by simp [PyData.showableKv, h0, h1, h3], ?_⟩
    rw [PyData.shownKv, piled_cons, szK, strLen_append, strLen_append]
    have : ((": " : String) : Str).length = 2 := rfl
    omega
end
/-- may be told, its text short, not deep -/
structure Bd (s n : Nat) (d : D) : Prop where
  g : gd d = true
  s : sz d ≤ s
  n : dep d ≤ n
theorem Bd.mono {s n s' n' : Nat} {d : D} (b : Bd s n d) (h1 : s ≤ s') (h2 : n ≤ n') : Bd s' n' d := ⟨b.g, Nat.le_trans b.s h1, Nat.le_trans b.n h2⟩
theorem Bd.sh {s n : Nat} {d : D} (b : Bd s n d) (h1 : s ≤ 10000000) (h2 : n ≤ 64) : shOk d :=
  ⟨gd_pure d b.g, (sz_ok d b.g).1, Nat.le_trans (sz_ok d b.g).2 (by have := b.s; rw [sizeLine_eq]; omega), Nat.le_trans b.n h2⟩
theorem BdL {s n : Nat} : ∀ {ds : List D}, (∀ d ∈ ds, Bd s n d) → gdL ds = true ∧ szL ds ≤ ds.length * (s + 2) ∧ depL ds ≤ n
  | [], _ => ⟨rfl, by simp [szL], Nat.zero_le _⟩
  | d :: ds, h => by
    obtain ⟨h1, h2, h3⟩ := BdL (ds := ds) fun x m => h x (by simp [m])
    have b := h d (by simp)
    refine ⟨by rw [gdL, b.g, h1]; rfl, ?_, ?_⟩
    · rw [szL, List.length_cons, Nat.succ_mul]
      have := b.s
      omega
    · rw [depL]
      have := b.n
      omega
theorem Bd.tup {s n m : Nat} {ds : List D} (h : ∀ d ∈ ds, Bd s n d) (hm : ds.length ≤ m) : Bd (3 + m * (s + 2)) (n + 1) (.tup ds) := by
  obtain ⟨h1, h2, h3⟩ := BdL h
  have := Nat.mul_le_mul_right (s + 2) hm
  exact ⟨by rw [gd]; exact h1, by rw [sz]; omega, by rw [dep]; omega⟩
theorem Bd.lst {s n m : Nat} {ds : List D} (h : ∀ d ∈ ds, Bd s n d) (hm : ds.length ≤ m) : Bd (3 + m * (s + 2)) (n + 1) (.lst ds) := by
  obtain ⟨h1, h2, h3⟩ := BdL h
  have := Nat.mul_le_mul_right (s + 2) hm
  exact ⟨by rw [gd]; exact h1, by rw [sz]; omega, by rw [dep]; omega⟩
/-! ### the deck -/
structure DeckAt (S : GS) (dk gr : Addr) (xs : List Int) (m t : Int) : Prop where
  ne : gr ≠ dk
  d : S.g dk = some (.dct [(.inr "great", .ref gr), (.inr "mixed", .int m), (.inr "turns", .int t)])
  l : S.g gr = some (.lst (xs.map D.int))
  nn : ∀ x ∈ xs, 0 ≤ x
  ln : xs.length ≤ 63
def DI : Addr → GH → Prop := fun dk G => ∃ gr xs m t, DeckAt ⟨G, none⟩ dk gr xs m t ∧ ∀ a, a ≠ dk → a ≠ gr → G a = none
section
variable {S : GS} {dk gr : Addr} {xs : List Int} {m t : Int} {Q : D → GS → Prop}
theorem DeckAt.great (D : DeckAt S dk gr xs m t) : oIx (.ref dk) (.str "great") S Q = Q (.ref gr) S := by
  have lk : look (.inr "great") [(.inr "great", .ref gr), (.inr "mixed", .int m), (.inr "turns", .int t)] = some (.ref gr) := by kernel_rfl
  unfold oIx
  simp only [asQ, asL, D.d, asK, keyOf, lk]
theorem DeckAt.mixed (D : DeckAt S dk gr xs m t) : oIx (.ref dk) (.str "mixed") S Q = Q (.int m) S := by
  have lk : look (.inr "mixed") [(.inr "great", .ref gr), (.inr "mixed", .int m), (.inr "turns", .int t)] = some (.int m) := by kernel_rfl
  unfold oIx
  simp only [asQ, asL, D.d, asK, keyOf, lk]
theorem DeckAt.turns (D : DeckAt S dk gr xs m t) : oIx (.ref dk) (.str "turns") S Q = Q (.int t) S := by
  have lk : look (.inr "turns") [(.inr "great", .ref gr), (.inr "mixed", .int m), (.inr "turns", .int t)] = some (.int t) := by kernel_rfl
  unfold oIx
  simp only [asQ, asL, D.d, asK, keyOf, lk]
theorem cmp_ints (xs : List Int) : cmp? (.lst (xs.map D.int)) = true := by
  have z : pureL (xs.map D.int) = true ∧ nodL (xs.map D.int) = true ∧ depL (xs.map D.int) = 0 := by
    induction xs with
    | nil => exact ⟨rfl, rfl, rfl⟩
    | cons x r ih => simp [pureL, nodL, depL, pure?, nod?, dep, ih.1, ih.2.1, ih.2.2]
  simp [cmp?, pure?, nod?, dep, z.1, z.2.1, z.2.2]
end
def bdB (s n : Nat) (d : D) : Bool := gd d && (decide (sz d ≤ s) && decide (dep d ≤ n))
theorem bd_of {s n : Nat} {d : D} (h : bdB s n d = true) : Bd s n d := by
  unfold bdB at h
  simp only [Bool.and_eq_true, decide_eq_true_eq] at h
  exact ⟨h.1, h.2.1, h.2.2⟩
theorem bd_str {s n : Nat} {x : Str} (h : gd (.str x) = true) (hs : 400 ≤ s) : Bd s n (.str x) := ⟨h, by rw [sz]; exact hs, by rw [dep]; omega⟩
theorem cut_mem {xs : List D} {lo hi : Option Int} {y : D} (m : y ∈ Dv.cutD xs lo hi) : y ∈ xs := by
  unfold Dv.cutD at m
  exact List.mem_of_mem_drop (List.mem_of_mem_take m)
theorem cut_len {xs : List D} {lo hi : Option Int} : (Dv.cutD xs lo hi).length ≤ xs.length := by
  unfold Dv.cutD
  rw [List.length_take, List.length_drop]
  omega
theorem la (S : GS) (ds : List D) : asL S (.lst ds) = some ds := rfl
theorem add_tup {S : GS} {xs ys : List D} {Q : D → GS → Prop} : oAdd (.tup xs) (.tup ys) S Q = (xs.length + ys.length ≤ sizeLine ∧ Q (.tup (xs ++ ys)) S) := rfl
theorem add_lst {S : GS} {xs ys : List D} {Q : D → GS → Prop} : oAdd (.lst xs) (.lst ys) S Q = (xs.length + ys.length ≤ sizeLine ∧ Q (.lst (xs ++ ys)) S) := rfl
theorem add_int {S : GS} {i j : Int} {Q : D → GS → Prop} : oAdd (.int i) (.int j) S Q = Q (.int (i + j)) S := rfl
theorem lzn (n : Nat) (h : n ≤ 1000 := by omega) : n ≤ sizeLine := Nat.le_trans h (by rw [sizeLine_eq]; omega)
theorem list_tup {S : GS} {ys : List D} {Q : D → GS → Prop} : fList [.tup ys] S Q = Q (.lst ys) S := rfl
theorem seq_if {t : WT} {a r : WS} {R : WEnds} {ρ : Dv.Env} {S : GS} (good : Prop) (ht : ∀ Q : Bool → GS → Prop, Q false S → (good → Q true S) → t ρ S Q) (ha : good → a { R with nx := r R } ρ S) (hr : r R ρ S) : wSeq (wIfS t a wSkip) r R ρ S := ht _ hr ha
theorem mul_tup {S : GS} {y : D} {n : Int} {Q : D → GS → Prop} (h1 : 2 ≤ n) (h2 : n ≤ 1000) (q : ∀ l : List D, (∀ x ∈ l, x = y) → l.length = n.toNat → Q (.tup l) S) : oMul (.tup [y]) (.int n) S Q := by
  refine ⟨List.cons_ne_nil _ _, h1, h2, by show 1 ≤ 1000; omega, q _ (fun x m => ?_) ?_⟩
  · obtain ⟨l, ml, mx⟩ := List.mem_flatten.mp m
    rw [(List.mem_replicate.mp ml).2] at mx
    exact List.mem_singleton.mp mx
  · simp
theorem seq_if2 {t : WT} {a r : WS} {R : WEnds} {ρ : Dv.Env} {S : GS} (good bad : Prop) (ht : ∀ Q : Bool → GS → Prop, (bad → Q false S) → (good → Q true S) → t ρ S Q) (ha : good → a { R with nx := r R } ρ S) (hr : bad → r R ρ S) : wSeq (wIfS t a wSkip) r R ρ S := ht _ hr ha
section
variable {P : Program} {w : World} {K : PySem.W.Frag} {mg : Str → Option Value} {base : Heap} {k : Nat}
/-- S2: the deck at dk, all else as in S -/
def Beside (S S2 : GS) (dk gr : Addr) : Prop := S2.o = S.o ∧ ∀ a, a ≠ dk → a ≠ gr → S2.g a = S.g a
def draw0 : WF := fun ds S R => ∃ (dk gr : Addr) (xs : List Int) (mi t m : Int), ds = [.ref dk, .int m] ∧ m < 1073741824 ∧ DeckAt S dk gr xs mi t ∧
  ∀ (n : Nat) (S2 : GS) (ys : List Int) (t2 : Int), (n : Int) < max 1 m → DeckAt S2 dk gr ys mi t2 → Beside S S2 dk gr → R (.int (n : Nat)) S2
theorem nat_of {i m : Int} (h0 : 0 ≤ i) (h : i < m) : ∃ n : Nat, i = n ∧ (n : Int) < max 1 m := ⟨i.toNat, by omega, by omega⟩
theorem mod_nat (i : Int) {m : Int} (h : 2 ≤ m) : ∃ n : Nat, i % m = n ∧ (n : Int) < max 1 m := nat_of (Int.emod_nonneg i (by omega)) (Int.emod_lt_of_pos i (by omega))
theorem fn_draw0 (d : Df K mg "_law_draw" s__law_draw ["deck", "many"] []) (hb : BlIn mg ["int"]) : FnIn P w K mg base DI (k + 1) ⟨"_law_draw", 2, draw0, []⟩ := by
  refine fn_mk d sc__law_draw rfl (fns := []) (cs := []) trivial trivial hb (fun X o => (s_cons (s_if (t_cmp o c_lt (e_var o 1) e_int)
  (s_cons (s_ret e_int)
  s_nil)
  s_nil)
  (s_cons (s_if (t_cmp o c_ne (e_ix o (e_var o 0) e_str) (e_lst a_nil))
  (s_cons (s_set o 3 (e_pop (e_ix o (e_var o 0) e_str)))
  (s_cons (s_if (t_cmp o c_ge (e_var o 3) (e_var o 1))
  (s_cons (s_expr (e_append (e_ix o (e_var o 0) e_str) (a_cons (e_fdiv (e_var o 3) (e_var o 1)) a_nil)))
  s_nil)
  s_nil)
  (s_cons (s_ret (e_mod (e_toInt o (a_cons (e_var o 3) a_nil)) (e_var o 1)))
  s_nil)))
  s_nil)
  (s_cons (s_asg (e_add (e_ix o (e_var o 0) e_str) e_int) (g_sub o (e_var o 0) e_str))
  (s_cons (s_set o 2 (e_mod (e_toInt o (a_cons (e_add (e_ix o (e_var o 0) e_str) (e_mul e_int (e_ix o (e_var o 0) e_str))) a_nil)) e_int))
  (s_cons (s_set o 2 (e_mod (e_toInt o (a_cons (e_add (e_add (e_mul (e_var o 2) (e_var o 2)) (e_mul e_int (e_ix o (e_var o 0) e_str))) e_int) a_nil)) e_int))
  (s_cons (s_set o 2 (e_mod (e_toInt o (a_cons (e_add (e_mul (e_var o 2) (e_var o 2)) (e_mul (e_ix o (e_var o 0) e_str) e_int)) a_nil)) e_int))
  (s_cons (s_ret (e_mod (e_toInt o (a_cons (e_fdiv (e_var o 2) e_int) a_nil)) (e_var o 1)))
  s_nil)))))))) ?_
  intro ds S R hl h
  obtain ⟨dk, gr, xs, mi, t, m, rfl, hm, D0, hR⟩ := h
  show wSeq _ _ _ [some (.ref dk), some (.int m), none, none] S
  have ne : ∀ Q : D → GS → Prop, oNe (.ref gr) (.lst []) S Q = Q (.bl (!xs.isEmpty)) S := fun Q => by
    unfold oNe
    have e : eqb (.lst (xs.map D.int)) (.lst []) = xs.isEmpty := by rw [eqb_nil]; cases xs <;> rfl
    have c2 : cmp? (.lst []) = true := by decide
    simp only [snap, D0.l, cmp_ints, e, c2, true_and]
  simp only [x_back, x_ifT, fnAt, x_lc, x_lcN, x_var, x_C, x_op, x_un, x_slice, x_noPart, x_part, x_tru, x_B, x_chain, x_and, x_or, x_not, x_andV, x_orV, x_notB, x_if, x_nil, x_cons, x_tup, x_lst, x_call, x_callK, x_gN, x_gT, x_gs0, x_gs1, x_yes, x_iSeq, x_iEn, x_words, x_ml, x_disp, x_d0, x_pnil, x_pcons, csAt, List.getD_cons_zero, List.getD_cons_succ, List.getElem?_cons_zero, List.getElem?_cons_succ, List.set_cons_zero, List.set_cons_succ, x_seq, x_skip, x_ifS, x_ret, x_retN, x_asg, x_par, x_expr, x_brk, x_cnt, f1, oLt, oOrd, D0.great, ne, wLst]
  by_cases q1 : m < 2
  · rw [if_pos (decide_eq_true q1)]
    exact hR 0 S xs t (by omega) D0 ⟨rfl, fun _ _ _ => rfl⟩
  rw [if_neg (by rw [decide_eq_true_eq]; exact q1)]
  refine ⟨Nat.zero_le _, ?_⟩
  have isl : isLs S (.ref gr) = true := by simp only [isLs, D0.l]
  cases xs with
  | cons x0 r0 =>
    rw [if_pos (show (!(x0 :: r0).isEmpty) = true from rfl)]
    refine ⟨isl, ?_⟩
    generalize hxs : x0 :: r0 = xs at *
    have hne : xs ≠ [] := by rw [← hxs]; simp
    have hlast : xs[xs.length - 1]? = some (xs.getLast hne) := by rw [← List.getLast?_eq_getElem?]; exact List.getLast?_eq_getLast hne
    have hnn : 0 ≤ xs.getLast hne := D0.nn _ (List.getLast_mem hne)
    generalize xs.getLast hne = wh at *
    unfold fPop
    simp only [D0.l]
    refine ⟨.int wh, by rw [List.length_map, List.getElem?_map, hlast]; rfl, ?_⟩
    generalize hS1 : S.set gr (.lst (List.map D.int xs).dropLast) = S1
    have D1 : DeckAt S1 dk gr xs.dropLast mi t := by
      subst hS1
      refine ⟨D0.ne, by rw [GS.set_ne D0.ne.symm]; exact D0.d, by rw [GS.set_same, List.map_dropLast], fun x m => D0.nn x (List.dropLast_subset _ m), by rw [List.length_dropLast]; have := D0.ln; omega⟩
    have B1 : Beside S S1 dk gr := by
      subst hS1
      exact ⟨rfl, fun a h1 h2 => GS.set_ne h2⟩
    have isl1 : isLs S1 (.ref gr) = true := by simp only [isLs, D1.l]
    simp only [x_back, x_ifT, fnAt, x_lc, x_lcN, x_var, x_C, x_op, x_un, x_slice, x_noPart, x_part, x_tru, x_B, x_chain, x_and, x_or, x_not, x_andV, x_orV, x_notB, x_if, x_nil, x_cons, x_tup, x_lst, x_call, x_callK, x_gN, x_gT, x_gs0, x_gs1, x_yes, x_iSeq, x_iEn, x_words, x_ml, x_disp, x_d0, x_pnil, x_pcons, csAt, List.getD_cons_zero, List.getD_cons_succ, List.getElem?_cons_zero, List.getElem?_cons_succ, List.set_cons_zero, List.set_cons_succ, x_seq, x_skip, x_ifS, x_ret, x_retN, x_asg, x_par, x_expr, x_brk, x_cnt, oGe, oOrd, D1.great, oFdiv, oInt]
    by_cases q2 : m ≤ wh
    · rw [if_pos (decide_eq_true q2)]
      refine ⟨isl1, ⟨by omega, hm⟩, ?_⟩
      unfold fAppend
      simp only [D1.l]
      refine ⟨by rw [List.length_map, List.length_dropLast, sizeLine_eq]; have := D0.ln; omega, ?_⟩
      obtain ⟨n, e1, e2⟩ := mod_nat wh (m := m) (by omega)
      show 0 < m ∧ R (.int (wh % m)) _
      refine ⟨by omega, ?_⟩
      rw [e1]
      refine hR n _ (xs.dropLast ++ [wh / m]) t e2 ⟨D0.ne, ?_, ?_, fun x mx => ?_, ?_⟩ ⟨B1.1, fun a h1 h2 => ?_⟩
      · rw [GS.set_ne D0.ne.symm]; exact D1.d
      · rw [GS.set_same, List.map_append]; rfl
      · rcases List.mem_append.mp mx with z | z
        · exact D1.nn x z
        · rw [List.mem_singleton.mp z]
          exact Int.ediv_nonneg hnn (by omega)
      · rw [List.length_append, List.length_dropLast]
        have := D0.ln
        have h0 : xs.length ≠ 0 := fun z => hne (List.length_eq_zero_iff.mp z)
        show xs.length - 1 + 1 ≤ 63
        omega
      · rw [GS.set_ne h2]; exact B1.2 a h1 h2
    · rw [if_neg (by rw [decide_eq_true_eq]; exact q2)]
      obtain ⟨n, e1, e2⟩ := mod_nat wh (m := m) (by omega)
      show 0 < m ∧ R (.int (wh % m)) _
      refine ⟨by omega, ?_⟩
      rw [e1]
      exact hR n _ xs.dropLast t e2 D1 B1
  | nil =>
    rw [if_neg (show ¬ (!([] : List Int).isEmpty) = true by decide)]
    simp only [x_back, x_ifT, fnAt, x_lc, x_lcN, x_var, x_C, x_op, x_un, x_slice, x_noPart, x_part, x_tru, x_B, x_chain, x_and, x_or, x_not, x_andV, x_orV, x_notB, x_if, x_nil, x_cons, x_tup, x_lst, x_call, x_callK, x_gN, x_gT, x_gs0, x_gs1, x_yes, x_iSeq, x_iEn, x_words, x_ml, x_disp, x_d0, x_pnil, x_pcons, csAt, List.getD_cons_zero, List.getD_cons_succ, List.getElem?_cons_zero, List.getElem?_cons_succ, List.set_cons_zero, List.set_cons_succ, x_seq, x_skip, x_ifS, x_ret, x_retN, x_asg, x_par, x_expr, x_brk, x_cnt, f1, x_gS, D0.turns, oAdd]
    unfold oSet
    simp only [D0.d, keyOf]
    refine ⟨by rw [sizeLine_eq]; show (3 : Nat) < 16777216; omega, ?_⟩
    generalize hS1 : S.set dk (.dct _) = S1
    have pt : put (.inr "turns") (.int (t + 1)) [(.inr "great", .ref gr), (.inr "mixed", .int mi), (.inr "turns", .int t)] = [(.inr "great", .ref gr), (.inr "mixed", .int mi), (.inr "turns", .int (t + 1))] := by kernel_rfl
    have D1 : DeckAt S1 dk gr [] mi (t + 1) := by
      subst hS1
      rw [pt]
      exact ⟨D0.ne, by rw [GS.set_same], by rw [GS.set_ne D0.ne]; exact D0.l, (fun x m => nomatch m), by decide⟩
    have B1 : Beside S S1 dk gr := by
      subst hS1
      exact ⟨rfl, fun a h1 h2 => GS.set_ne h1⟩
    clear hS1
    have cm : ∀ i j : Int, -(2 ^ 64) < i → i < 2 ^ 64 → CMulA i j := fun i j h1 h2 => .inl (.inl ⟨h1, h2⟩)
    have cr : ∀ i j : Int, -(2 ^ 64) < j → j < 2 ^ 64 → CMulA i j := fun i j h1 h2 => .inl (.inr ⟨h1, h2⟩)
    simp only [x_back, x_ifT, fnAt, x_lc, x_lcN, x_var, x_C, x_op, x_un, x_slice, x_noPart, x_part, x_tru, x_B, x_chain, x_and, x_or, x_not, x_andV, x_orV, x_notB, x_if, x_nil, x_cons, x_tup, x_lst, x_call, x_callK, x_gN, x_gT, x_gs0, x_gs1, x_yes, x_iSeq, x_iEn, x_words, x_ml, x_disp, x_d0, x_pnil, x_pcons, csAt, List.getD_cons_zero, List.getD_cons_succ, List.getElem?_cons_zero, List.getElem?_cons_succ, List.set_cons_zero, List.set_cons_succ, x_seq, x_skip, x_ifS, x_ret, x_retN, x_asg, x_par, x_expr, x_brk, x_cnt, f1, D1.turns, D1.mixed, oAdd, oMul, oMod, oInt, fInt, oFdiv]
    refine ⟨cm _ _ (by decide) (by decide), by decide, ?_⟩
    have n1 : ∀ i : Int, 0 ≤ i % 4294967279 ∧ i % 4294967279 < 4294967279 := fun i => ⟨Int.emod_nonneg i (by decide), Int.emod_lt_of_pos i (by decide)⟩
    have n2 : ∀ i : Int, 0 ≤ i % 4294967231 ∧ i % 4294967231 < 4294967231 := fun i => ⟨Int.emod_nonneg i (by decide), Int.emod_lt_of_pos i (by decide)⟩
    have b1 := n1 (mi + 2654435761 * (t + 1))
    generalize (mi + 2654435761 * (t + 1)) % 4294967279 = a1 at *
    have b2 := n2 (a1 * a1 + 40503 * (t + 1) + 19)
    generalize (a1 * a1 + 40503 * (t + 1) + 19) % 4294967231 = a2 at *
    obtain ⟨n, e1, e2⟩ := mod_nat ((a2 * a2 + mi * 7) % 4294967197 / 64) (m := m) (by omega)
    rw [e1]
    exact ⟨cm _ _ (by omega) (by omega), cm _ _ (by decide) (by decide), by decide, cm _ _ (by omega) (by omega), cr _ _ (by decide) (by decide), by decide, ⟨by decide, by decide⟩, by omega, hR n _ [] (t + 1) e2 D1 B1⟩
/-- any number that may be drawn -/
def sp__law_draw : WF := fun ds S R => ∃ (dk : Addr) (m : Int), ds = [.ref dk, .int m] ∧ S.o = some dk ∧ m < 1073741824 ∧ ∀ n : Nat, (n : Int) < max 1 m → R (.int (n : Nat)) S
theorem fn__law_draw (d : Df K mg "_law_draw" s__law_draw ["deck", "many"] []) (hb : BlIn mg ["int"]) : FnIn P w K mg base DI (k + 1) ⟨"_law_draw", 2, sp__law_draw, []⟩ := by
  refine (fn_draw0 d hb).imp fun vs H Q => lftF_open fun ds S R h => ?_
  obtain ⟨dk, m, rfl, ho, hm, hR⟩ := h
  refine ⟨dk, ho, fun G hG dis => ?_⟩
  obtain ⟨gr, xs, mi, t, D0, oth⟩ := hG
  have gd1 : G dk = some _ := D0.d
  have gl1 : G gr = some _ := D0.l
  have pl : ∀ a x, G a = some x → (S.plus G).g a = some x := fun a x e => by unfold GS.plus; simp only [e]
  have pn : ∀ a, G a = none → (S.plus G).g a = S.g a := fun a e => by unfold GS.plus; simp only [e]
  refine ⟨dk, gr, xs, mi, t, m, rfl, hm, ⟨D0.ne, pl _ _ gd1, pl _ _ gl1, D0.nn, D0.ln⟩, fun n S2 ys t2 hn D2 B2 => ?_⟩
  refine ⟨fun a => if a = dk ∨ a = gr then S2.g a else none, ⟨gr, ys, mi, t2, ⟨D2.ne, ?_, ?_, D2.nn, D2.ln⟩, fun a h1 h2 => if_neg fun z => z.elim h1 h2⟩, ⟨B2.1, fun a x e => ?_, fun a x e => ?_⟩, hR n hn⟩
  · exact (if_pos (.inl rfl)).trans D2.d
  · exact (if_pos (.inr rfl)).trans D2.l
  · by_cases c : a = dk ∨ a = gr
    · exact (if_pos c).symm.trans e
    · cases (if_neg c).symm.trans e
  · have hn := dis a x e
    have h1 : a ≠ dk := fun z => by rw [z, gd1] at hn; cases hn
    have h2 : a ≠ gr := fun z => by rw [z, gl1] at hn; cases hn
    exact ⟨(B2.2 a h1 h2).trans ((pn a hn).trans e), if_neg fun z => z.elim h1 h2⟩
/-! ### picking -/
theorem ix_seq {S : GS} {d : D} {ds : List D} {n : Nat} {y : D} {Q : D → GS → Prop} (h : asQ S d = some ds) (e : ds[n]? = some y) (q : Q y S) : oIx d (.int (n : Nat)) S Q := by
  have ea := atI_nat e
  cases d with
  | str x => cases h
  | _ =>
    unfold oIx
    simp only [h, ea]
    exact q
theorem len_seq {S : GS} {d : D} {ds : List D} (h : asQ S d = some ds) : lenD S d = some ds.length := by
  cases d with
  | str x => cases h
  | _ =>
    unfold lenD
    simp only [h]
def sp__law_pick : WF := fun ds S R => ∃ (dk : Addr) (d : D) (xs : List D), ds = [.ref dk, d] ∧ S.o = some dk ∧ asQ S d = some xs ∧ xs ≠ [] ∧ xs.length < 1073741824 ∧ ∀ y ∈ xs, R y S
theorem fn__law_pick (c1 : FnIn P w K mg base DI k ⟨"_law_draw", 2, sp__law_draw, []⟩) (d : Df K mg "_law_pick" s__law_pick ["deck", "items"] []) (hb : BlIn mg ["len"]) : FnIn P w K mg base DI (k + 1) ⟨"_law_pick", 2, sp__law_pick, []⟩ := by
  refine fn_mk d sc__law_pick rfl (fns := [⟨"_law_draw", 2, sp__law_draw, []⟩]) (cs := []) ⟨c1, trivial⟩ trivial hb (fun X o => (s_cons (s_ret (e_ix o (e_var o 1) (e_call o 0 (a_cons (e_var o 0) (a_cons (e_len o (a_cons (e_var o 1) a_nil)) a_nil)))))
  s_nil)) ?_
  intro ds S R hl h
  obtain ⟨dk, d, xs, rfl, ho, hq, hne, hlen, hR⟩ := h
  show wSeq _ _ _ [some (.ref dk), some d] S
  simp only [x_back, x_ifT, fnAt, x_lc, x_lcN, x_var, x_C, x_op, x_un, x_slice, x_noPart, x_part, x_tru, x_B, x_chain, x_and, x_or, x_not, x_andV, x_orV, x_notB, x_if, x_nil, x_cons, x_tup, x_lst, x_call, x_callK, x_gN, x_gT, x_gs0, x_gs1, x_yes, x_iSeq, x_iEn, x_words, x_ml, x_disp, x_d0, x_pnil, x_pcons, csAt, List.getD_cons_zero, List.getD_cons_succ, List.getElem?_cons_zero, List.getElem?_cons_succ, List.set_cons_zero, List.set_cons_succ, x_seq, x_skip, x_ifS, x_ret, x_retN, x_asg, x_par, x_expr, x_brk, x_cnt, fLen, f1, len_seq hq]
  refine ⟨dk, _, rfl, ho, by omega, fun n hn => ?_⟩
  have hl2 : xs.length ≠ 0 := fun z => hne (List.length_eq_zero_iff.mp z)
  have hn2 : n < xs.length := by omega
  exact ix_seq hq (List.getElem?_eq_getElem hn2) (hR _ (List.getElem_mem hn2))
end
section
variable {P : Program} {w : World} {K : PySem.W.Frag} {mg : Str → Option Value} {base : Heap} {k : Nat}
def Apart (S S2 : GS) (dk gr : Addr) : Prop := S2.o = S.o ∧ ∀ a x, S.g a = some x → S2.g a = some x ∧ a ≠ dk ∧ a ≠ gr
def deck0 : WF := fun ds S R => ∃ ns : List Int, ds = [.lst (ns.map D.int)] ∧ ns.length ≤ 63 ∧ ∀ dk gr xs m t S2, DeckAt S2 dk gr xs m t → Apart S S2 dk gr → R (.ref dk) S2
theorem fn_deck0 (d : Df K mg "_law_deck" s__law_deck ["script"] []) (hb : BlIn mg ["abs", "int", "len"]) : FnIn P w K mg base DI (k + 1) ⟨"_law_deck", 1, deck0, []⟩ := by
  refine fn_mk d sc__law_deck rfl (fns := []) (cs := []) trivial trivial hb (fun X o => (s_cons (s_set o 1 (e_dispN (d_cons e_str (e_lstN a_nil) (d_cons e_str (e_add e_int (e_len o (a_cons (e_slice (e_var o 0) p_none (p_some e_int)) a_nil))) (d_cons e_str e_int d_nil)))))
  (s_cons (s_for o (i_seq (e_slice (e_var o 0) p_none (p_some e_int))) (g_name o 2)
  (s_cons (s_set o 3 (e_add (e_mul e_int (e_abs o (a_cons (e_var o 2) a_nil))) (e_toInt o (a_cons (e_cmp o c_lt (e_var o 2) e_int) a_nil))))
  (s_cons (s_if (t_cmp o c_ge (e_var o 3) (e_pow e_int e_int))
  (s_cons (s_expr (e_append (e_ix o (e_var o 1) e_str) (a_cons (e_var o 3) a_nil)))
  s_nil)
  s_nil)
  (s_cons (s_asg (e_mod (e_toInt o (a_cons (e_add (e_add (e_mul (e_ix o (e_var o 1) e_str) e_int) (e_var o 3)) e_int) a_nil)) e_int) (g_sub o (e_var o 1) e_str))
  s_nil))))
  (s_cons (s_ret (e_var o 1))
  s_nil)))) ?_
  intro ds S R hl h
  obtain ⟨ns, rfl, hlen, hR⟩ := h
  show wSeq _ _ _ [some (.lst (ns.map D.int)), none, none, none] S
  have la : ∀ (S : GS) (ds : List D), asL S (.lst ds) = some ds := fun _ _ => rfl
  have ll : ∀ (S : GS) (ds : List D), lenD S (.lst ds) = some ds.length := fun _ _ => rfl
  simp only [x_back, x_ifT, fnAt, x_lc, x_lcN, x_var, x_C, x_op, x_un, x_slice, x_noPart, x_part, x_tru, x_B, x_chain, x_and, x_or, x_not, x_andV, x_orV, x_notB, x_if, x_nil, x_cons, x_tup, x_lst, x_call, x_callK, x_gN, x_gT, x_gs0, x_gs1, x_yes, x_iSeq, x_iEn, x_words, x_ml, x_disp, x_d0, x_pnil, x_pcons, csAt, List.getD_cons_zero, List.getD_cons_succ, List.getElem?_cons_zero, List.getElem?_cons_succ, List.set_cons_zero, List.set_cons_succ, x_dispN, x_lstN, x_seq, x_skip, x_ifS, x_ret, x_retN, x_asg, x_par, x_expr, x_brk, x_cnt, f1, fLen, oAdd, la, ll]
  refine ⟨Nat.zero_le _, fun gr hgr => ⟨_, rfl, by show (3 : Nat) ≤ 15; omega, fun dk hdk => ?_⟩⟩
  have ne : gr ≠ dk := fun z => by
    rw [← z, GS.set_same] at hdk
    cases hdk
  rw [GS.set_ne ne.symm] at hdk
  generalize hcut : Dv.cutD (ns.map D.int) none (some 63) = cut
  have hc1 : cut.length ≤ 63 := by
    rw [← hcut]
    unfold Dv.cutD
    rw [List.length_take, List.length_drop, List.length_map]
    omega
  have hc2 : ∀ d ∈ cut, ∃ i, d = D.int i := fun d m => by
    rw [← hcut] at m
    unfold Dv.cutD at m
    obtain ⟨i, _, e⟩ := List.mem_map.mp (List.mem_of_mem_drop (List.mem_of_mem_take m))
    exact ⟨i, e.symm⟩
  have mg3 : ∀ v : D, mergeD [] [(.inr "great", .ref gr), (.inr "mixed", v), (.inr "turns", .int 0)] = [(.inr "great", .ref gr), (.inr "mixed", v), (.inr "turns", .int 0)] := fun v => by kernel_rfl
  generalize hS1 : GS.set _ dk _ = S1
  obtain ⟨m0, D1⟩ : ∃ m0, DeckAt S1 dk gr [] m0 0 := ⟨1283 + (cut.length : Nat), by
    subst hS1
    rw [mg3]
    exact ⟨ne, GS.set_same, by rw [GS.set_ne ne, GS.set_same]; rfl, (fun x m => nomatch m), by decide⟩⟩
  have A1 : Apart S S1 dk gr := by
    subst hS1
    refine ⟨rfl, fun a x e => ?_⟩
    have h1 : a ≠ dk := fun z => by rw [z, hdk] at e; cases e
    have h2 : a ≠ gr := fun z => by rw [z, hgr] at e; cases e
    exact ⟨by rw [GS.set_ne h1, GS.set_ne h2]; exact e, h1, h2⟩
  clear hS1
  refine ⟨fun rest ρ S' => ∃ xs m x y, ρ = [some (.lst (ns.map D.int)), some (.ref dk), x, y] ∧ DeckAt S' dk gr xs m 0 ∧ Apart S S' dk gr ∧ xs.length + rest.length ≤ 63 ∧ ∀ d ∈ rest, ∃ i, d = D.int i, ⟨[], m0, none, none, rfl, D1, A1, by rw [hcut]; show 0 + cut.length ≤ 63; omega, by rw [hcut]; exact hc2⟩, ?_, ?_⟩
  · rintro c r ρ S' ⟨xs, mi, x, y, rfl, D2, A2, hn, hi⟩
    refine ⟨trivial, ?_⟩
    obtain ⟨i, rfl⟩ := hi c (by simp)
    show wSeq _ _ _ [some (.lst (ns.map D.int)), some (.ref dk), some (.int i), y] S'
    have cm : ∀ i j : Int, -(2 ^ 64) < i → i < 2 ^ 64 → CMulA i j := fun i j h1 h2 => .inl (.inl ⟨h1, h2⟩)
    have cr : ∀ i j : Int, -(2 ^ 64) < j → j < 2 ^ 64 → CMulA i j := fun i j h1 h2 => .inl (.inr ⟨h1, h2⟩)
    simp only [x_back, x_ifT, fnAt, x_lc, x_lcN, x_var, x_C, x_op, x_un, x_slice, x_noPart, x_part, x_tru, x_B, x_chain, x_and, x_or, x_not, x_andV, x_orV, x_notB, x_if, x_nil, x_cons, x_tup, x_lst, x_call, x_callK, x_gN, x_gT, x_gs0, x_gs1, x_yes, x_iSeq, x_iEn, x_words, x_ml, x_disp, x_d0, x_pnil, x_pcons, csAt, List.getD_cons_zero, List.getD_cons_succ, List.getElem?_cons_zero, List.getElem?_cons_succ, List.set_cons_zero, List.set_cons_succ, x_seq, x_skip, x_ifS, x_ret, x_retN, x_asg, x_par, x_expr, x_brk, x_cnt, f1, fAbs, fInt, oAdd, oMul, oLt, oOrd, oGe, oPow, oInt]
    refine ⟨cm _ _ (by decide) (by decide), ⟨by decide, by decide, by decide⟩, ?_⟩
    have hw : 0 ≤ 2 * (if i < 0 then -i else i) + (if decide (i < 0) = true then 1 else 0) := by
      split <;> split <;> omega
    generalize 2 * (if i < 0 then -i else i) + (if decide (i < 0) = true then 1 else 0) = wh at *
    rw [List.length_cons] at hn
    have tail : ∀ S3 zs, DeckAt S3 dk gr zs mi 0 → Apart S S3 dk gr → zs.length + r.length ≤ 63 → oIx (.ref dk) (.str "mixed") S3 (fun x S1 => oMul x (.int 75161) S1 fun x S2 => oAdd x (.int wh) S2 fun x S3 => oAdd x (.int 11) S3 fun x S4 => fInt [x] S4 fun x S5 => oMod x (.int 4294967291) S5 fun d S6 => oSet (.ref dk) (.str "mixed") d S6 fun S7 => ∃ xs m x y, [some (D.lst (ns.map D.int)), some (.ref dk), some (.int i), some (.int wh)] = [some (D.lst (ns.map D.int)), some (.ref dk), x, y] ∧ DeckAt S7 dk gr xs m 0 ∧ Apart S S7 dk gr ∧ xs.length + r.length ≤ 63 ∧ ∀ d ∈ r, ∃ i, d = D.int i) := fun S3 zs D3 A3 hz => by
      rw [D3.mixed]
      refine ⟨cr _ _ (by decide) (by decide), ?_⟩
      simp only [oAdd, fInt, f1, oMod, oInt]
      refine ⟨by decide, ?_⟩
      unfold oSet
      simp only [D3.d, keyOf]
      refine ⟨by rw [sizeLine_eq]; show (3 : Nat) < 16777216; omega, zs, (mi * 75161 + wh + 11) % 4294967291, some (.int i), some (.int wh), rfl, ⟨D3.ne, ?_, ?_, D3.nn, D3.ln⟩, ⟨A3.1, fun a x e => ?_⟩, hz, fun d m => hi d (by simp [m])⟩
      · rw [GS.set_same]
        have pt : ∀ v : Int, put (.inr "mixed") (.int v) [(.inr "great", .ref gr), (.inr "mixed", .int mi), (.inr "turns", .int 0)] = [(.inr "great", .ref gr), (.inr "mixed", .int v), (.inr "turns", .int 0)] := fun v => by kernel_rfl
        rw [pt]
      · rw [GS.set_ne D3.ne]; exact D3.l
      · obtain ⟨e1, e2, e3⟩ := A3.2 a x e
        exact ⟨by rw [GS.set_ne e2]; exact e1, e2, e3⟩
    by_cases q : (10 : Int) ^ Int.toNat 16 ≤ wh
    · rw [if_pos (decide_eq_true q)]
      rw [D2.great]
      have isl : isLs S' (.ref gr) = true := by simp only [isLs, D2.l]
      refine ⟨isl, ?_⟩
      unfold fAppend
      simp only [D2.l]
      refine ⟨by rw [List.length_map, sizeLine_eq]; have := D2.ln; omega, ?_⟩
      refine tail _ (xs ++ [wh]) ⟨D2.ne, ?_, ?_, fun z m => ?_, ?_⟩ ⟨A2.1, fun a x e => ?_⟩ ?_
      · rw [GS.set_ne D2.ne.symm]; exact D2.d
      · rw [GS.set_same, List.map_append]; rfl
      · rcases List.mem_append.mp m with m | m
        · exact D2.nn z m
        · rw [List.mem_singleton.mp m]; exact hw
      · rw [List.length_append]; show xs.length + 1 ≤ 63; omega
      · obtain ⟨e1, e2, e3⟩ := A2.2 a x e
        exact ⟨by rw [GS.set_ne e3]; exact e1, e2, e3⟩
      · rw [List.length_append]; show xs.length + 1 + r.length ≤ 63; omega
    · rw [if_neg (by rw [decide_eq_true_eq]; exact q)]
      exact tail S' xs D2 A2 (by omega)
  · rintro ρ S' ⟨xs, mi, x, y, rfl, D2, A2, hn, hi⟩
    exact ⟨trivial, hR dk gr xs mi 0 S' D2 A2⟩
def sp__law_deck : WF := fun ds S R => ∃ ns : List Int, ds = [.lst (ns.map D.int)] ∧ ns.length ≤ 63 ∧ S.o = none ∧ ∀ dk, R (.ref dk) ⟨S.g, some dk⟩
theorem fn__law_deck (d : Df K mg "_law_deck" s__law_deck ["script"] []) (hb : BlIn mg ["abs", "int", "len"]) : FnIn P w K mg base DI (k + 1) ⟨"_law_deck", 1, sp__law_deck, []⟩ := by
  refine (fn_deck0 d hb).imp fun vs H Q => lftF_hide fun ds S R h => ?_
  obtain ⟨ns, rfl, hn, ho, hR⟩ := h
  refine ⟨ns, rfl, hn, fun dk gr xs m t S2 D2 A2 => ⟨dk, fun a => if a = dk ∨ a = gr then S2.g a else none, S.g, ⟨gr, xs, m, t, ⟨D2.ne, ?_, ?_, D2.nn, D2.ln⟩, fun a h1 h2 => if_neg fun z => z.elim h1 h2⟩, ⟨A2.1.trans ho, fun a x e => ?_, fun a x e => ?_⟩, hR dk⟩⟩
  · exact (if_pos (.inl rfl)).trans D2.d
  · exact (if_pos (.inr rfl)).trans D2.l
  · by_cases c : a = dk ∨ a = gr
    · exact (if_pos c).symm.trans e
    · cases (if_neg c).symm.trans e
  · obtain ⟨e1, e2, e3⟩ := A2.2 a x e
    exact ⟨e1, if_neg fun z => z.elim e2 e3⟩
end
theorem tup_lst {S : GS} {ys : List D} {Q : D → GS → Prop} : fTuple [.lst ys] S Q = Q (.tup ys) S := rfl
def VV : Nat → Nat
  | 0 => 4000
  | n + 1 => 6 * VV n + 900
theorem VV_ge : ∀ n, 4000 ≤ VV n
  | 0 => Nat.le_refl _
  | n + 1 => by have := VV_ge n; show 4000 ≤ 6 * VV n + 900; omega
section
variable {P : Program} {w : World} {K : PySem.W.Frag} {mg : Str → Option Value} {base : Heap} {k : Nat}
theorem fn_none {x : Str} {st : Stmt} {ps : List Str} {kws : List (Nat × List Str × List Nat)} {n : Nat} (hn : ps.length = n) (d : Df K mg x st ps kws) : FnIn P w K mg base DI k ⟨x, n, fun _ _ _ => False, kws⟩ := by
  obtain ⟨f, fd, h1, h2, h3, h4⟩ := d.ex
  exact ⟨f, fd, ps, h1, h2.kp, h3, h4, ⟨fun vs H Q E h => by rw [hn]; exact h.1, fun A outer s H args us vs Q E hr hg e0 hb r q => by
    obtain ⟨_, F, ds, S, R, _, _, z, _⟩ := q
    exact z.elim⟩⟩
def sp__law_odd_value (D0 : Nat) : WF := fun ds S R => ∃ (dk : Addr) (n : Nat), ds = [.ref dk, .int n] ∧ S.o = some dk ∧ n ≤ D0 ∧ ∀ y, Bd (VV D0) (4 + 2 * D0) y → (∀ l, y = .tup l → l.length ≤ 6) → R y S
theorem ite_draw {c : Bool} {dk : Addr} {S : GS} {Q : D → GS → Prop} (ho : S.o = some dk) (h : ∀ w : Nat, (w < 7 ∨ c = true ∧ w < 11) → Q (.int w) S) : if c = true then sp__law_draw [.ref dk, .int 11] S Q else sp__law_draw [.ref dk, .int 7] S Q := by
  cases c with
  | true => rw [if_pos rfl]; exact ⟨dk, _, rfl, ho, by decide, fun n hn => h n (.inr ⟨rfl, by omega⟩)⟩
  | false => rw [if_neg (by decide)]; exact ⟨dk, _, rfl, ho, by decide, fun n hn => h n (.inl (by omega))⟩
def big : Int := 10 ^ Int.toNat 60 * 10 ^ Int.toNat 60
def plainL : List D := [.non, .bl true, .bl false, .int 0, .int 1, .int (-1), .int big, .str "", .str "x", .str "nil", .str "empty", .str "x = y", .tup [], .lst [], .dct [], .str "list"] ++
  [.tup [.str "x", .str "y"], .tup [.tup [], .tup []], .tup [.tup [.tup [], .tup []]], .tup [.tup [.str "x", .int 1]], .tup [.tup [.int 1, .int 2]], .tup [.str "is", .str "x", .str "y"]]
theorem plain_bd : ∀ y ∈ plainL, Bd 4000 4 y := fun y m => by
  have h : plainL.all (bdB 4000 4) = true := by decide +kernel
  exact bd_of (List.all_eq_true.mp h y m)
theorem plain_len : ∀ y ∈ plainL, ∀ l, y = .tup l → l.length ≤ 6 := fun y m l e => by
  have h : plainL.all (fun y => match y with | .tup l => decide (l.length ≤ 6) | _ => true) = true := by decide +kernel
  have := List.all_eq_true.mp h y m
  subst e
  exact of_decide_eq_true this
theorem odd_step (D0 : Nat) (self : WF) (hs : ∀ m, D0 = m + 1 → ∀ ds S R, sp__law_odd_value m ds S R → self ds S R) (c1 : FnIn P w K mg base DI k ⟨"_law_draw", 2, sp__law_draw, []⟩) (c2 : FnIn P w K mg base DI k ⟨"_law_odd_value", 2, self, []⟩) (c3 : FnIn P w K mg base DI k ⟨"_law_pick", 2, sp__law_pick, []⟩) (d : Df K mg "_law_odd_value" s__law_odd_value ["deck", "deep"] []) (hb : BlIn mg ["range", "tuple"]) : FnIn P w K mg base DI (k + 1) ⟨"_law_odd_value", 2, sp__law_odd_value D0, []⟩ := by
  refine fn_mk d sc__law_odd_value rfl (fns := [⟨"_law_draw", 2, sp__law_draw, []⟩, ⟨"_law_odd_value", 2, self, []⟩, ⟨"_law_pick", 2, sp__law_pick, []⟩]) (cs := []) ⟨c1, c2, c3, trivial⟩ trivial hb (fun X o => (s_cons (s_set o 2 (e_call o 0 (a_cons (e_var o 0) (a_cons (e_if (t_cmp o c_gt (e_var o 1) e_int) e_int e_int) a_nil))))
  (s_cons (s_if (t_cmp o c_lt (e_var o 2) e_int)
  (s_cons (s_set o 4 (e_lst (a_cons e_non (a_cons e_tt (a_cons e_tt (a_cons e_int (a_cons e_int (a_cons (e_neg e_int) (a_cons (e_mul (e_pow e_int e_int) (e_pow e_int e_int)) (a_cons e_str (a_cons e_str (a_cons e_str (a_cons e_str (a_cons e_str (a_cons (e_tup a_nil) (a_cons (e_lst a_nil) (a_cons e_d0 (a_cons e_str a_nil))))))))))))))))))
  (s_cons (s_ret (e_call o 2 (a_cons (e_var o 0) (a_cons (e_add (e_var o 4) (e_lst (a_cons (e_tup (a_cons e_str (a_cons e_str a_nil))) (a_cons (e_tup (a_cons (e_tup a_nil) (a_cons (e_tup a_nil) a_nil))) (a_cons (e_tup (a_cons (e_tup (a_cons (e_tup a_nil) (a_cons (e_tup a_nil) a_nil))) a_nil)) (a_cons (e_tup (a_cons (e_tup (a_cons e_str (a_cons e_int a_nil))) a_nil)) (a_cons (e_tup (a_cons (e_tup (a_cons e_int (a_cons e_int a_nil))) a_nil)) (a_cons (e_tup (a_cons e_str (a_cons e_str (a_cons e_str a_nil)))) a_nil)))))))) a_nil))))
  s_nil))
  s_nil)
  (s_cons (s_lc o 3 [("turn", 5)] (i_rg1 o (e_call o 0 (a_cons (e_var o 0) (a_cons e_int a_nil)))) (cg_name 5) (fun Y _ o1 => l_nil) (fun Y _ o1 => (e_call o1 1 (a_cons (e_var o1 0) (a_cons (e_sub (e_var o1 1) e_int) a_nil)))))
  (s_cons (s_if (t_cmp o c_lt (e_var o 2) e_int)
  (s_cons (s_ret (e_toTup o (a_cons (e_var o 3) a_nil)))
  s_nil)
  s_nil)
  (s_cons (s_ret (e_if (t_cmp o c_eq (e_var o 2) e_int) (e_var o 3) (e_disp (d_cons e_str (e_var o 3) (d_cons e_int (e_toTup o (a_cons (e_var o 3) a_nil)) d_nil)))))
  s_nil)))))) ?_
  intro ds S R hl h
  obtain ⟨dk, n, rfl, ho, hn, hR⟩ := h
  show wSeq _ _ _ [some (.ref dk), some (.int n), none, none, none, none] S
  rw [x_seq]
  simp only [x_back, x_ifT, fnAt, x_lc, x_lcN, x_var, x_C, x_op, x_un, x_slice, x_noPart, x_part, x_tru, x_B, x_chain, x_and, x_or, x_not, x_andV, x_orV, x_notB, x_if, x_nil, x_cons, x_tup, x_lst, x_call, x_callK, x_gN, x_gT, x_gs0, x_gs1, x_yes, x_iSeq, x_iEn, x_words, x_ml, x_disp, x_d0, x_pnil, x_pcons, csAt, List.getD_cons_zero, List.getD_cons_succ, List.getElem?_cons_zero, List.getElem?_cons_succ, List.set_cons_zero, List.set_cons_succ, x_asg, oGt, oOrd]
  refine ite_draw ho fun wy hw => ?_
  show wSeq _ _ _ [some (.ref dk), some (.int n), some (.int wy), none, none, none] S
  refine seq_if2 (wy < 7) (¬ wy < 7) (fun Q q0 q1 => ?_) (fun h7 => ?_) (fun h7 => ?_)
  · simp only [x_back, x_ifT, fnAt, x_lc, x_lcN, x_var, x_C, x_op, x_un, x_slice, x_noPart, x_part, x_tru, x_B, x_chain, x_and, x_or, x_not, x_andV, x_orV, x_notB, x_if, x_nil, x_cons, x_tup, x_lst, x_call, x_callK, x_gN, x_gT, x_gs0, x_gs1, x_yes, x_iSeq, x_iEn, x_words, x_ml, x_disp, x_d0, x_pnil, x_pcons, csAt, List.getD_cons_zero, List.getD_cons_succ, List.getElem?_cons_zero, List.getElem?_cons_succ, List.set_cons_zero, List.set_cons_succ, oLt, oOrd]
    by_cases h : (wy : Int) < 7
    · rw [decide_eq_true h]; exact q1 (by omega)
    · rw [decide_eq_false h]; exact q0 (by omega)
  · simp only [x_back, x_ifT, fnAt, x_lc, x_lcN, x_var, x_C, x_op, x_un, x_slice, x_noPart, x_part, x_tru, x_B, x_chain, x_and, x_or, x_not, x_andV, x_orV, x_notB, x_if, x_nil, x_cons, x_tup, x_lst, x_call, x_callK, x_gN, x_gT, x_gs0, x_gs1, x_yes, x_iSeq, x_iEn, x_words, x_ml, x_disp, x_d0, x_pnil, x_pcons, csAt, List.getD_cons_zero, List.getD_cons_succ, List.getElem?_cons_zero, List.getElem?_cons_succ, List.set_cons_zero, List.set_cons_succ, x_seq, x_skip, x_ifS, x_ret, x_retN, x_asg, x_par, x_expr, x_brk, x_cnt, List.length_cons, List.length_nil, Nat.reduceAdd, Nat.zero_add, add_lst, oPow, oMul, oInt, oNeg]
    refine ⟨⟨by decide, by decide, by decide⟩, ⟨by decide, by decide, by decide⟩, .inr (by unfold L2.CMulW; decide +kernel), lzn 0, lzn 0, lzn 16, lzn 2, lzn 0, lzn 0, lzn 2, lzn 0, lzn 0, lzn 2, lzn 1, lzn 2, lzn 1, lzn 2, lzn 1, lzn 3, lzn 6, lzn 22, ?_⟩
    exact ⟨dk, _, plainL, rfl, ho, rfl, List.cons_ne_nil _ _, by show (22 : Nat) < _; omega, fun y hy => hR y ((plain_bd y hy).mono (VV_ge D0) (by omega)) (plain_len y hy)⟩
  · have hn0 : 0 < n := by
      rcases hw with h | ⟨h, _⟩
      · exact absurd h h7
      · have := of_decide_eq_true h; omega
    obtain ⟨m, rfl⟩ : ∃ m, D0 = m + 1 := ⟨D0 - 1, by omega⟩
    have hs' := hs m rfl
    have rl : ∀ n : Nat, (rgD 0 ((n : Int)).toNat).length = n := fun n => by rw [rgD_length]; rfl
    rw [x_seq]
    simp only [x_back, x_ifT, fnAt, x_lc, x_lcN, x_var, x_C, x_op, x_un, x_slice, x_noPart, x_part, x_tru, x_B, x_chain, x_and, x_or, x_not, x_andV, x_orV, x_notB, x_if, x_nil, x_cons, x_tup, x_lst, x_call, x_callK, x_gN, x_gT, x_gs0, x_gs1, x_yes, x_iSeq, x_iEn, x_words, x_ml, x_disp, x_d0, x_pnil, x_pcons, csAt, List.getD_cons_zero, List.getD_cons_succ, List.getElem?_cons_zero, List.getElem?_cons_succ, List.set_cons_zero, List.set_cons_succ, x_asg]
    refine ⟨dk, _, rfl, ho, by decide, fun j hj => ⟨_, rfl, by omega, by omega, ?_⟩⟩
    refine lc_all (wi := fun _ S Q => Q (rgD 0 ((j : Int)).toNat) [] S) (gd := []) (fun r => Bd (VV m) (4 + 2 * m) r) (fun Q q => q) trivial (by rw [rl, sizeLine_eq]; omega) (fun d m' Q q => ?_) fun ys hy1 hy2 => ?_
    · show self [.ref dk, .int ((n : Int) - 1)] S fun y S3 => Q (some y) S3
      refine hs' _ _ _ ⟨dk, n - 1, ?_, ho, by omega, fun y by_ _ => q y by_⟩
      rw [show ((n - 1 : Nat) : Int) = (n : Int) - 1 by omega]
    rw [rl] at hy1
    have hy3 : ys.length ≤ 3 := by omega
    have bl : Bd (3 + 3 * (VV m + 2)) (4 + 2 * m + 1) (.lst ys) := Bd.lst hy2 hy3
    have bt : Bd (3 + 3 * (VV m + 2)) (4 + 2 * m + 1) (.tup ys) := Bd.tup hy2 hy3
    have v : VV (m + 1) = 6 * VV m + 900 := rfl
    show wSeq _ _ _ [some (.ref dk), some (.int n), some (.int wy), some (.lst ys), none, none] S
    refine seq_if True (fun Q q0 q1 => ?_) (fun _ => ?_) ?_
    · simp only [x_back, x_ifT, fnAt, x_lc, x_lcN, x_var, x_C, x_op, x_un, x_slice, x_noPart, x_part, x_tru, x_B, x_chain, x_and, x_or, x_not, x_andV, x_orV, x_notB, x_if, x_nil, x_cons, x_tup, x_lst, x_call, x_callK, x_gN, x_gT, x_gs0, x_gs1, x_yes, x_iSeq, x_iEn, x_words, x_ml, x_disp, x_d0, x_pnil, x_pcons, csAt, List.getD_cons_zero, List.getD_cons_succ, List.getElem?_cons_zero, List.getElem?_cons_succ, List.set_cons_zero, List.set_cons_succ, oLt, oOrd]
      by_cases h : (wy : Int) < 9
      · rw [decide_eq_true h]; exact q1 trivial
      · rw [decide_eq_false h]; exact q0
    · show fTuple [.lst ys] S R
      rw [tup_lst]
      exact hR _ (bt.mono (by omega) (by omega)) (fun l e => by cases e; omega)
    · simp only [x_back, x_ifT, fnAt, x_lc, x_lcN, x_var, x_C, x_op, x_un, x_slice, x_noPart, x_part, x_tru, x_B, x_chain, x_and, x_or, x_not, x_andV, x_orV, x_notB, x_if, x_nil, x_cons, x_tup, x_lst, x_call, x_callK, x_gN, x_gT, x_gs0, x_gs1, x_yes, x_iSeq, x_iEn, x_words, x_ml, x_disp, x_d0, x_pnil, x_pcons, csAt, List.getD_cons_zero, List.getD_cons_succ, List.getElem?_cons_zero, List.getElem?_cons_succ, List.set_cons_zero, List.set_cons_succ, x_seq, x_skip, x_ifS, x_ret, x_retN, x_asg, x_par, x_expr, x_brk, x_cnt, oEq]
      have fin : ∀ (Q : D → GS → Prop), (∀ y, Bd (VV (m + 1)) (4 + 2 * (m + 1)) y → (∀ l, y = .tup l → l.length ≤ 6) → Q y S) → fTuple [.lst ys] S fun e S2 => ∃ ks, keyPs [(.str "x", .lst ys), (.int 3, e)] = some ks ∧ ks.length ≤ 15 ∧ Q (.dct (mergeD [] ks)) S2 := fun Q hQ => by
        rw [tup_lst]
        refine ⟨[(.inr "x", .lst ys), (.inl 3, .tup ys)], rfl, by show (2 : Nat) ≤ 15; omega, hQ _ ?_ (fun l e => by cases e)⟩
        have e : mergeD [] [(.inr "x", D.lst ys), (.inl 3, .tup ys)] = [(.inr "x", .lst ys), (.inl 3, .tup ys)] := by kernel_rfl
        rw [e]
        refine ⟨?_, ?_, ?_⟩
        · rw [gd, gdK, gdK, gdK, bl.g, bt.g, show lf (datKey (.inr "x")) = true by decide +kernel, show lf (datKey (.inl 3)) = true by decide +kernel]
          rfl
        · rw [sz, szK, szK, szK]
          have := bl.s
          have := bt.s
          omega
        · rw [dep, depK, depK, depK]
          have := bl.n
          have := bt.n
          omega
      by_cases h : (wy : Int) = 9
      · rw [decide_eq_true h]
        exact hR _ (bl.mono (by omega) (by omega)) (fun l e => by cases e)
      · rw [decide_eq_false h]
        exact fin R hR
theorem fn__law_odd_value (c1 : FnIn P w K mg base DI k ⟨"_law_draw", 2, sp__law_draw, []⟩) (c3 : FnIn P w K mg base DI k ⟨"_law_pick", 2, sp__law_pick, []⟩) (d : Df K mg "_law_odd_value" s__law_odd_value ["deck", "deep"] []) (hb : BlIn mg ["range", "tuple"]) : ∀ D0 : Nat, FnIn P w K mg base DI (k + D0 + 1) ⟨"_law_odd_value", 2, sp__law_odd_value D0, []⟩
  | 0 => odd_step 0 (fun _ _ _ => False) (fun m e => by cases e) c1 (fn_none rfl d) c3 d hb
  | D0 + 1 => odd_step (k := k + D0 + 1) (D0 + 1) (sp__law_odd_value D0) (fun m e ds S R h => by cases e; exact h) (c1.mono (by omega)) (fn__law_odd_value c1 c3 d hb D0) (c3.mono (by omega)) d hb
end
theorem rg_int {n : Int} {m : Nat} : ∀ d ∈ rgD n m, ∃ i, d = D.int i := fun d h => by
  unfold rgD at h
  obtain ⟨i, _, rfl⟩ := List.mem_map.mp h
  exact ⟨_, rfl⟩
theorem ix_eq {S : GS} {d : D} {ds : List D} {n : Nat} {y : D} {Q : D → GS → Prop} (h : asQ S d = some ds) (e : ds[n]? = some y) : oIx d (.int (n : Nat)) S Q = Q y S := by
  have ea := atI_nat e
  cases d with
  | str x => cases h
  | _ =>
    unfold oIx
    simp only [h, ea]
theorem ix0_eq {S : GS} {d : D} {ds : List D} {y : D} {Q : D → GS → Prop} (h : asQ S d = some ds) (e : ds[0]? = some y) : oIx d (.int 0) S Q = Q y S := ix_eq (n := 0) h e
theorem tup_ref {S : GS} {p : Addr} {xs : List D} {Q : D → GS → Prop} (h : S.g p = some (.lst xs)) : fTuple [.ref p] S Q = Q (.tup xs) S := by
  unfold fTuple f1
  simp only [asQ, asL, h]
theorem mul_any {S : GS} {ys : List D} {n : Int} {Q : D → GS → Prop} (h0 : ys ≠ []) (hl : ys.length ≤ 1000) (h1 : 2 ≤ n) (h2 : n ≤ 1000) (q : ∀ l : List D, (∀ x ∈ l, x ∈ ys) → Q (.tup l) S) : oMul (.tup ys) (.int n) S Q := by
  refine ⟨h0, h1, h2, hl, q _ (fun x m => ?_)⟩
  obtain ⟨l, ml, mx⟩ := List.mem_flatten.mp m
  rw [(List.mem_replicate.mp ml).2] at mx
  exact mx
theorem cut65 (l : List D) : (Dv.cutD l none (some 65)).length ≤ 65 := by
  unfold Dv.cutD
  rw [List.length_take, HT.sIx_none, show HT.sIx l.length l.length (some 65) = min 65 l.length from HT.sIx_nat l.length l.length 65]
  omega
end K05

namespace K05
open PySem PySem.Spec L2 Dv
open PyProof.Rows hiding St
/-! ### names, values, items -/
def letters : Str := "abcdefghijklmnopqrstuvwxyz"
def letB (c : Nat) : Bool := decide (c ∈ letters.cps.toList)
def wl : List D := match c_WORDS with
  | .tup l => l
  | _ => []
def wordB (x : Str) : Bool := wl.any fun z => eqb z (.str x)
def lenB (x : Str) : Bool := decide ((1 : Int) ≤ (x.length : Nat)) && decide (((x.length : Nat) : Int) ≤ 8)
def nameB : D → Bool
  | .str x => lenB x && (!wordB x && x.cps.toList.all letB)
  | _ => false
def isS (z : Str) : D → Bool
  | .str x => decide (x = z)
  | _ => false
def toldB (d : D) : Bool := nameB d || isS "result" d
def valB (least : Int) : D → Bool
  | .int i => decide (least ≤ i)
  | _ => false
def storeB : D → Bool
  | .tup [a, b] => toldB a && valB 0 b
  | _ => false
def heapB : D → Bool
  | .tup [a, b] => valB 1 a && valB 0 b
  | _ => false
def itemB (st : Bool) (d : D) : Bool := if st = true then storeB d else heapB d
theorem pair_no {st : Bool} {d : D} (h : ∀ a b, d ≠ .tup [a, b]) : itemB st d = false := by
  cases st
  · show heapB d = false
    unfold heapB
    split
    · exact absurd rfl (h _ _)
    · rfl
  · show storeB d = false
    unfold storeB
    split
    · exact absurd rfl (h _ _)
    · rfl
def fstD : D → D
  | .tup (a :: _) => a
  | _ => .non
def keyLe : D → D → Bool
  | .int i, .int j => decide (i ≤ j)
  | .str i, .str j => !ltS j i
  | _, _ => false
def ordF : Nat → D → List D → D
  | _, _, [] => .non
  | n, p, x :: r => if keyLe (fstD x) (fstD p) = true then .tup [.str "order", .int (n : Nat)] else ordF (n + 1) x r
def ordD : List D → D
  | [] => .non
  | x :: r => ordF 1 x r
def errF (st : Bool) (all : List D) : Nat → List D → D
  | _, [] => ordD all
  | n, x :: r => if itemB st x = true then errF st all (n + 1) r else .tup [.str "item", .int (n : Nat)]
def errD (st : Bool) : D → D
  | .tup ds => errF st ds 0 ds
  | _ => .str "form"
theorem errD_no {st : Bool} {d : D} (h : ∀ ds, d ≠ .tup ds) : errD st d = .str "form" := by
  unfold errD
  split
  · exact absurd rfl (h _)
  · rfl
theorem rgD_cons (lo : Int) (n : Nat) : rgD lo (n + 1) = .int lo :: rgD (lo + 1) n := by
  unfold rgD
  rw [List.range_succ_eq_map, List.map_cons, List.map_map]
  congr 1
  · show D.int (lo + ((0 : Nat) : Int)) = _
    rw [show lo + ((0 : Nat) : Int) = lo by omega]
  · apply List.map_congr_left
    intro i _
    show D.int (lo + ((i + 1 : Nat) : Int)) = D.int (lo + 1 + (i : Nat))
    rw [show lo + ((i + 1 : Nat) : Int) = lo + 1 + (i : Nat) by omega]
/-- keys of one kind -/
def Keys (ds : List D) : Prop := (∀ x ∈ ds, ∃ (a : Str) (b : D), x = .tup [.str a, b]) ∨ ∀ x ∈ ds, ∃ (a : Int) (b : D), x = .tup [.int a, b]
theorem le_keys {ds : List D} (hk : Keys ds) {x y : D} (hx : x ∈ ds) (hy : y ∈ ds) (S : GS) (Q : D → GS → Prop) : oLe (fstD x) (fstD y) S Q = Q (.bl (keyLe (fstD x) (fstD y))) S := by
  rcases hk with h | h
  · obtain ⟨a, b, rfl⟩ := h x hx
    obtain ⟨c, d, rfl⟩ := h y hy
    rfl
  · obtain ⟨a, b, rfl⟩ := h x hx
    obtain ⟨c, d, rfl⟩ := h y hy
    rfl
theorem ix_fst {ds : List D} (hk : Keys ds) {x : D} (hx : x ∈ ds) (S : GS) (Q : D → GS → Prop) : oIx x (.int 0) S Q = Q (fstD x) S := by
  rcases hk with h | h
  · obtain ⟨a, b, rfl⟩ := h x hx
    exact ix0_eq (ds := [.str a, b]) rfl rfl
  · obtain ⟨a, b, rfl⟩ := h x hx
    exact ix0_eq (ds := [.int a, b]) rfl rfl
section
variable {P : Program} {w : World} {K : PySem.W.Frag} {mg : Str → Option Value} {base : Heap} {DI : Addr → GH → Prop} {k : Nat}
def sp_is_name : WF := fun ds S R => match ds with
  | [d] => gd d = true ∧ R (.bl (nameB d)) S
  | _ => False
theorem fn_is_name (d : Df K mg "is_name" s_is_name ["value"] []) (hk : CsIn K mg [("SMALL_LETTERS", c_SMALL_LETTERS), ("WORDS", c_WORDS)]) (hb : BlIn mg ["all", "isinstance", "len", "str"]) : FnIn P w K mg base DI (k + 1) ⟨"is_name", 1, sp_is_name, []⟩ := by
  refine fn_mk d sc_is_name rfl (fns := []) trivial hk hb (fun X o => (s_cons (s_if (t_w (w_or (t_not (t_tru (e_isi o (a_cons (e_var o 0) (a_cons (e_ty o "str") a_nil))))) (w_or (t_not (t_chain o c_le c_le e_int (e_len o (a_cons (e_var o 0) a_nil)) e_int)) (w_or1 (t_cmp o c_in (e_var o 0) (e_con o 1))))))
  (s_cons (s_ret e_tt)
  s_nil)
  s_nil)
  (s_cons (s_ret (e_all o (a_cons (e_lc o [("sign", 1)] (i_seq (e_var o 0)) (cg_name 1) (fun Y _ o1 => l_nil) (fun Y _ o1 => (e_cmp o1 c_in (e_var o1 1) (e_con o1 0)))) a_nil)))
  s_nil))) ?_
  intro ds S R hl h
  match ds, hl, h with
  | [d], _, h =>
    obtain ⟨h1, h2⟩ := h
    show wSeq _ _ _ [some d, none] S
    cases d with
    | str x =>
      have hz := gd_str h1
      have t1 : isiB "str" "str" = some true := rfl
      have t2 : cmp? (.str x) = true := gd_cmpS h1
      have t3 : pureL wl = true := rfl
      have t4 : nodL wl = true := by kernel_rfl
      simp only [x_back, x_ifT, fnAt, x_lc, x_lcN, x_var, x_C, x_op, x_un, x_slice, x_noPart, x_part, x_tru, x_B, x_chain, x_and, x_or, x_not, x_andV, x_orV, x_notB, x_if, x_nil, x_cons, x_tup, x_lst, x_call, x_callK, x_gN, x_gT, x_gs0, x_gs1, x_yes, x_iSeq, x_iEn, x_words, x_ml, x_disp, x_d0, x_pnil, x_pcons, csAt, List.getD_cons_zero, List.getD_cons_succ, List.getElem?_cons_zero, List.getElem?_cons_succ, List.set_cons_zero, List.set_cons_succ, x_seq, x_skip, x_ifS, x_ret, x_retN, x_asg, x_par, x_expr, x_brk, x_cnt, fIsi, f1, f2, tyD, t1, truD, fLen, lenD, hz, if_true, oLe, oOrd, Bool.not_true, Bool.not_false, Bool.false_eq_true, if_false]
      have hn : nameB (.str x) = (decide ((1 : Int) ≤ (x.length : Nat)) && decide (((x.length : Nat) : Int) ≤ 8) && (!wordB x && x.cps.toList.all letB)) := rfl
      rw [hn] at h2
      rcases Bool.eq_false_or_eq_true (decide ((1 : Int) ≤ (x.length : Nat))) with c1 | c1
      case inr => rw [c1] at h2 ⊢; exact h2
      rcases Bool.eq_false_or_eq_true (decide (((x.length : Nat) : Int) ≤ 8)) with c2 | c2
      case inr => simp only [c1, c2, Bool.not_false, if_true] at h2 ⊢; exact h2
      simp only [c1, c2, Bool.not_true, Bool.false_eq_true, if_false, Bool.true_and] at h2 ⊢
      refine ⟨t2, t3, t4, ?_⟩
      show (if wordB x = true then _ else _)
      rcases Bool.eq_false_or_eq_true (wordB x) with c3 | c3
      case inl => rw [c3] at h2 ⊢; exact h2
      simp only [c3, Bool.false_eq_true, if_false] at h2 ⊢
      have c8 : x.length ≤ 8 := by have := of_decide_eq_true c2; omega
      have z8 : (sgD x).length ≤ sizeLine := by
        have e : (sgD x).length = x.length := by unfold sgD; simp; rfl
        rw [e]; exact hz
      refine lc_map (ds := sgD x) (gd := []) (fun d => .bl (match d with
        | .str y => inStr y letters
        | _ => false)) (fun Q q => q) trivial z8 (fun d m Q q => ?_) ?_
      · unfold sgD at m
        obtain ⟨c, _, rfl⟩ := List.mem_map.mp m
        exact q
      · show fAll [_] _ _
        unfold sgD
        rw [List.map_map]
        show (match bools (List.map (fun c => D.bl (letB c)) x.cps.toList) with
          | some bs => R (.bl (bs.all id)) S
          | none => False)
        rw [bools_map]
        show R (.bl (((x.cps.toList).map letB).all id)) S
        rw [all_id]
        exact h2
    | ref a => simp [gd] at h1
    | ty a => simp [gd] at h1
    | _ =>
      simp only [x_back, x_ifT, fnAt, x_lc, x_lcN, x_var, x_C, x_op, x_un, x_slice, x_noPart, x_part, x_tru, x_B, x_chain, x_and, x_or, x_not, x_andV, x_orV, x_notB, x_if, x_nil, x_cons, x_tup, x_lst, x_call, x_callK, x_gN, x_gT, x_gs0, x_gs1, x_yes, x_iSeq, x_iEn, x_words, x_ml, x_disp, x_d0, x_pnil, x_pcons, csAt, List.getD_cons_zero, List.getD_cons_succ, List.getElem?_cons_zero, List.getElem?_cons_succ, List.set_cons_zero, List.set_cons_succ, x_seq, x_skip, x_ifS, x_ret, x_retN, x_asg, x_par, x_expr, x_brk, x_cnt, fIsi, f2, tyD]
      exact h2
def sp_is_told_name : WF := fun ds S R => match ds with
  | [d] => gd d = true ∧ R (.bl (toldB d)) S
  | _ => False
theorem fn_is_told_name (c1 : FnIn P w K mg base DI k ⟨"is_name", 1, sp_is_name, []⟩) (d : Df K mg "is_told_name" s_is_told_name ["value"] []) (hb : BlIn mg ["isinstance", "str"]) : FnIn P w K mg base DI (k + 1) ⟨"is_told_name", 1, sp_is_told_name, []⟩ := by
  refine fn_mk d sc_is_told_name rfl (fns := [⟨"is_name", 1, sp_is_name, []⟩]) (cs := []) ⟨c1, trivial⟩ trivial hb (fun X o => (s_cons (s_ret (e_or (e_call o 0 (a_cons (e_var o 0) a_nil)) (e_one (e_and (e_isi o (a_cons (e_var o 0) (a_cons (e_ty o "str") a_nil))) (e_one (e_cmp o c_eq (e_var o 0) e_str))))))
  s_nil)) ?_
  intro ds S R hl h
  match ds, hl, h with
  | [d], _, h =>
    obtain ⟨h1, h2⟩ := h
    unfold toldB at h2
    show wSeq _ _ _ [some d] S
    simp only [x_back, x_ifT, fnAt, x_lc, x_lcN, x_var, x_C, x_op, x_un, x_slice, x_noPart, x_part, x_tru, x_B, x_chain, x_and, x_or, x_not, x_andV, x_orV, x_notB, x_if, x_nil, x_cons, x_tup, x_lst, x_call, x_callK, x_gN, x_gT, x_gs0, x_gs1, x_yes, x_iSeq, x_iEn, x_words, x_ml, x_disp, x_d0, x_pnil, x_pcons, csAt, List.getD_cons_zero, List.getD_cons_succ, List.getElem?_cons_zero, List.getElem?_cons_succ, List.set_cons_zero, List.set_cons_succ, x_seq, x_skip, x_ifS, x_ret, x_retN, x_asg, x_par, x_expr, x_brk, x_cnt, sp_is_name]
    refine ⟨h1, ?_⟩
    rcases Bool.eq_false_or_eq_true (nameB d) with c | c
    · rw [c] at h2 ⊢; exact h2
    · rw [c] at h2 ⊢
      dsimp only
      cases d with
      | ref a => simp [gd] at h1
      | ty a => simp [gd] at h1
      | _ => exact h2
def sp_is_value : WF := fun ds S R => match ds with
  | [d] => gd d = true ∧ R (.bl (valB 0 d)) S
  | _ => False
theorem fn_is_value (d : Df K mg "is_value" s_is_value ["value"] []) (hb : BlIn mg ["bool", "int", "isinstance"]) : FnIn P w K mg base DI (k + 1) ⟨"is_value", 1, sp_is_value, []⟩ := by
  refine fn_mk d sc_is_value rfl (fns := []) (cs := []) trivial trivial hb (fun X o => (s_cons (s_ret (e_and (e_isi o (a_cons (e_var o 0) (a_cons (e_ty o "int") a_nil))) (e_and (e_not (e_isi o (a_cons (e_var o 0) (a_cons (e_ty o "bool") a_nil)))) (e_one (e_cmp o c_ge (e_var o 0) e_int)))))
  s_nil)) ?_
  intro ds S R hl h
  match ds, hl, h with
  | [d], _, h =>
    obtain ⟨h1, h2⟩ := h
    show wSeq _ _ _ [some d] S
    simp only [x_back, x_ifT, fnAt, x_lc, x_lcN, x_var, x_C, x_op, x_un, x_slice, x_noPart, x_part, x_tru, x_B, x_chain, x_and, x_or, x_not, x_andV, x_orV, x_notB, x_if, x_nil, x_cons, x_tup, x_lst, x_call, x_callK, x_gN, x_gT, x_gs0, x_gs1, x_yes, x_iSeq, x_iEn, x_words, x_ml, x_disp, x_d0, x_pnil, x_pcons, csAt, List.getD_cons_zero, List.getD_cons_succ, List.getElem?_cons_zero, List.getElem?_cons_succ, List.set_cons_zero, List.set_cons_succ, x_seq, x_skip, x_ifS, x_ret, x_retN, x_asg, x_par, x_expr, x_brk, x_cnt, fIsi, f2]
    cases d with
    | ref a => simp [gd] at h1
    | ty a => simp [gd] at h1
    | _ => exact h2
def sp_order_error : WF := fun ds S R => match ds with
  | [.tup ds] => ds.length < 1000000 ∧ Keys ds ∧ R (ordD ds) S
  | _ => False
theorem order_loop {ds : List D} {S : GS} {R : D → GS → Prop} (hk : Keys ds) (n : Nat) (p : D) (r : List D) (h1 : ds[n - 1]? = some p) (h2 : ds.drop n = r) (hn : 1 ≤ n) : True := trivial
theorem fn_order_error (d : Df K mg "order_error" s_order_error ["value"] []) (hb : BlIn mg ["len", "range"]) : FnIn P w K mg base DI (k + 1) ⟨"order_error", 1, sp_order_error, []⟩ := by
  refine fn_mk d sc_order_error rfl (fns := []) (cs := []) trivial trivial hb (fun X o => (s_cons (s_for o (i_rg2 o e_int (e_len o (a_cons (e_var o 0) a_nil))) (g_name o 1)
  (s_cons (s_if (t_cmp o c_le (e_ix o (e_ix o (e_var o 0) (e_var o 1)) e_int) (e_ix o (e_ix o (e_var o 0) (e_sub (e_var o 1) e_int)) e_int))
  (s_cons (s_ret (e_tup (a_cons e_str (a_cons (e_var o 1) a_nil))))
  s_nil)
  s_nil)
  s_nil))
  (s_cons (s_ret e_non)
  s_nil))) ?_
  intro ds S R hl h
  match ds, hl, h with
  | [.tup ds], _, h =>
    obtain ⟨h1, h2, h3⟩ := h
    show wSeq _ _ _ [some (.tup ds), none] S
    rw [x_seq]
    refine ⟨1, ds.length, rfl, rfl, by decide, by decide, by omega, by omega, fun rest ρ S' => S' = S ∧ ∃ y, ρ = [some (.tup ds), y] ∧ ((ds = [] ∧ rest = [] ∧ R .non S) ∨ ∃ (n : Nat) (p : D) (r : List D), 1 ≤ n ∧ ds[n - 1]? = some p ∧ ds.drop n = r ∧ rest = rgD n r.length ∧ R (ordF n p r) S), ⟨rfl, none, rfl, ?_⟩, ?_, ?_⟩
    · cases ds with
      | nil => exact .inl ⟨rfl, rfl, h3⟩
      | cons x r =>
        refine .inr ⟨1, x, r, Nat.le_refl _, rfl, rfl, ?_, h3⟩
        rw [show (((x :: r).length : Nat) - 1 : Int).toNat = r.length by rw [List.length_cons]; omega]
        rfl
    · rintro c rr ρ S' ⟨rfl, y, rfl, h⟩
      rcases h with ⟨_, h, _⟩ | ⟨n, p, r, hn, hp, hr, he, hR⟩
      · cases h
      · cases r with
        | nil => cases he
        | cons x r =>
          rw [List.length_cons, rgD_cons] at he
          cases he
          refine ⟨trivial, ?_⟩
          have hx : ds[n]? = some x := by
            have := congrArg List.head? hr
            rw [List.head?_drop] at this
            exact this
          have mx : x ∈ ds := List.mem_of_getElem? hx
          have mp : p ∈ ds := List.mem_of_getElem? hp
          show wSeq _ _ _ [some (.tup ds), some (.int n)] S'
          have hq : asQ S' (.tup ds) = some ds := rfl
          have e1 : ((n : Int) - 1) = ((n - 1 : Nat) : Int) := by omega
          have sb : ∀ Q : D → GS → Prop, oSub (.int (n : Nat)) (.int 1) S' Q = Q (.int ((n - 1 : Nat) : Int)) S' := fun Q => by
            show Q (.int ((n : Int) - 1)) S' = _
            rw [e1]
          rw [ordF] at hR
          simp only [x_back, x_ifT, fnAt, x_lc, x_lcN, x_var, x_C, x_op, x_un, x_slice, x_noPart, x_part, x_tru, x_B, x_chain, x_and, x_or, x_not, x_andV, x_orV, x_notB, x_if, x_nil, x_cons, x_tup, x_lst, x_call, x_callK, x_gN, x_gT, x_gs0, x_gs1, x_yes, x_iSeq, x_iEn, x_words, x_ml, x_disp, x_d0, x_pnil, x_pcons, csAt, List.getD_cons_zero, List.getD_cons_succ, List.getElem?_cons_zero, List.getElem?_cons_succ, List.set_cons_zero, List.set_cons_succ, x_seq, x_skip, x_ifS, x_ret, x_retN, x_asg, x_par, x_expr, x_brk, x_cnt, ix_eq hq hx, ix_fst h2 mx, sb, ix_eq hq hp, ix_fst h2 mp, le_keys h2 mx mp]
          rcases Bool.eq_false_or_eq_true (keyLe (fstD x) (fstD p)) with q | q
          · rw [if_pos q] at hR
            rw [q]
            exact ⟨lzn 2, hR⟩
          · rw [if_neg (by rw [q]; decide)] at hR
            rw [q]
            refine ⟨by trivial, _, rfl, .inr ⟨n + 1, x, r, by omega, by rw [Nat.add_sub_cancel]; exact hx, ?_, ?_, hR⟩⟩
            · have := congrArg List.tail hr
              rw [List.tail_drop] at this
              exact this
            · rw [show ((n : Int) + 1) = ((n + 1 : Nat) : Int) by omega]
    · rintro ρ S' ⟨rfl, y, rfl, h⟩
      refine ⟨trivial, ?_⟩
      rcases h with ⟨_, _, hR⟩ | ⟨n, p, r, hn, hp, hr, he, hR⟩
      · exact hR
      · cases r with
        | nil => exact hR
        | cons x r =>
          rw [List.length_cons, rgD_cons] at he
          cases he
end
end K05

namespace K05
open PySem PySem.Spec L2 Dv
open PyProof.Rows hiding St
section
variable {P : Program} {w : World} {K : PySem.W.Frag} {mg : Str → Option Value} {base : Heap} {DI : Addr → GH → Prop} {k : Nat}
def sp_is_store_item : WF := fun ds S R => match ds with
  | [d] => gd d = true ∧ R (.bl (storeB d)) S
  | _ => False
theorem storeB_no {d : D} (h : ∀ a b, d ≠ .tup [a, b]) : storeB d = false := pair_no (st := true) h
theorem heapB_no {d : D} (h : ∀ a b, d ≠ .tup [a, b]) : heapB d = false := pair_no (st := false) h
theorem fn_is_store_item (c1 : FnIn P w K mg base DI k ⟨"is_value", 1, sp_is_value, []⟩) (c2 : FnIn P w K mg base DI k ⟨"is_told_name", 1, sp_is_told_name, []⟩) (d : Df K mg "is_store_item" s_is_store_item ["value"] []) (hb : BlIn mg ["isinstance", "len", "tuple"]) : FnIn P w K mg base DI (k + 1) ⟨"is_store_item", 1, sp_is_store_item, []⟩ := by
  refine fn_mk d sc_is_store_item rfl (fns := [⟨"is_value", 1, sp_is_value, []⟩, ⟨"is_told_name", 1, sp_is_told_name, []⟩]) (cs := []) ⟨c1, c2, trivial⟩ trivial hb (fun X o => (s_cons (s_ret (e_and (e_isi o (a_cons (e_var o 0) (a_cons (e_ty o "tuple") a_nil))) (e_and (e_cmp o c_eq (e_len o (a_cons (e_var o 0) a_nil)) e_int) (e_and (e_call o 1 (a_cons (e_ix o (e_var o 0) e_int) a_nil)) (e_one (e_call o 0 (a_cons (e_ix o (e_var o 0) e_int) a_nil)))))))
  s_nil)) ?_
  intro ds S R hl h
  match ds, hl, h with
  | [d], _, h =>
    obtain ⟨h1, h2⟩ := h
    show wSeq _ _ _ [some d] S
    simp only [x_back, x_ifT, fnAt, x_lc, x_lcN, x_var, x_C, x_op, x_un, x_slice, x_noPart, x_part, x_tru, x_B, x_chain, x_and, x_or, x_not, x_andV, x_orV, x_notB, x_if, x_nil, x_cons, x_tup, x_lst, x_call, x_callK, x_gN, x_gT, x_gs0, x_gs1, x_yes, x_iSeq, x_iEn, x_words, x_ml, x_disp, x_d0, x_pnil, x_pcons, csAt, List.getD_cons_zero, List.getD_cons_succ, List.getElem?_cons_zero, List.getElem?_cons_succ, List.set_cons_zero, List.set_cons_succ, x_seq, x_skip, x_ifS, x_ret, x_retN, x_asg, x_par, x_expr, x_brk, x_cnt, fIsi, f1, f2, fLen, isi_tt, sp_is_value, sp_is_told_name]
    rcases isi_tup d h1 S with ⟨t1, ds, rfl⟩ | ⟨t, t1, t2, t3⟩
    case inr => rw [storeB_no (fun a b => t3 _)] at h2; simp only [t1, t2]; exact h2
    have l1 : ∀ ds, lenD S (.tup ds) = some ds.length := fun _ => rfl
    simp only [t1, isi_tt, l1]
    show (match D.bl (decide ((ds.length : Int) = 2)) with
      | .bl true => _
      | .bl false => _
      | _ => False)
    rcases ds with _ | ⟨a, _ | ⟨b, _ | ⟨c, r⟩⟩⟩
    · exact h2
    · rw [decide_eq_false (show ¬ ((([a] : List D).length : Int) = 2) by simp)]; exact h2
    · rw [gd] at h1
      have ga := gdL_mem h1 a (by simp)
      have gb := gdL_mem h1 b (by simp)
      rw [decide_eq_true (show ((([a, b] : List D).length : Int) = 2) by simp)]
      have e0 : storeB (.tup [a, b]) = (toldB a && valB 0 b) := rfl
      rw [e0] at h2
      refine ⟨ga, ?_⟩
      show (match D.bl (toldB a) with
        | .bl true => _
        | .bl false => _
        | _ => False)
      rcases Bool.eq_false_or_eq_true (toldB a) with q | q
      case inr => rw [q] at h2 ⊢; exact h2
      rw [q] at h2 ⊢
      exact ⟨gb, h2⟩
    · rw [storeB_no (fun x b z => by cases z)] at h2
      rw [decide_eq_false (show ¬ (((a :: b :: c :: r).length : Int) = 2) by simp; omega)]
      exact h2
def sp_is_heap_item : WF := fun ds S R => match ds with
  | [d] => gd d = true ∧ R (.bl (heapB d)) S
  | _ => False
theorem val_pos (i : Int) : (valB 0 (.int i) && decide (0 < i)) = valB 1 (.int i) := by
  show (decide (0 ≤ i) && decide (0 < i)) = decide (1 ≤ i)
  by_cases h : 1 ≤ i
  · rw [decide_eq_true h, decide_eq_true (show 0 ≤ i by omega), decide_eq_true (show 0 < i by omega)]; rfl
  · rw [decide_eq_false h, decide_eq_false (show ¬ 0 < i by omega), Bool.and_false]
theorem fn_is_heap_item (c1 : FnIn P w K mg base DI k ⟨"is_value", 1, sp_is_value, []⟩) (d : Df K mg "is_heap_item" s_is_heap_item ["value"] []) (hb : BlIn mg ["isinstance", "len", "tuple"]) : FnIn P w K mg base DI (k + 1) ⟨"is_heap_item", 1, sp_is_heap_item, []⟩ := by
  refine fn_mk d sc_is_heap_item rfl (fns := [⟨"is_value", 1, sp_is_value, []⟩]) (cs := []) ⟨c1, trivial⟩ trivial hb (fun X o => (s_cons (s_if (t_w (w_or (t_not (t_tru (e_isi o (a_cons (e_var o 0) (a_cons (e_ty o "tuple") a_nil))))) (w_or1 (t_cmp o c_ne (e_len o (a_cons (e_var o 0) a_nil)) e_int))))
  (s_cons (s_ret e_tt)
  s_nil)
  s_nil)
  (s_cons (s_ret (e_and (e_call o 0 (a_cons (e_ix o (e_var o 0) e_int) a_nil)) (e_and (e_cmp o c_gt (e_ix o (e_var o 0) e_int) e_int) (e_one (e_call o 0 (a_cons (e_ix o (e_var o 0) e_int) a_nil))))))
  s_nil))) ?_
  intro ds S R hl h
  match ds, hl, h with
  | [d], _, h =>
    obtain ⟨h1, h2⟩ := h
    show wSeq _ _ _ [some d] S
    simp only [x_back, x_ifT, fnAt, x_lc, x_lcN, x_var, x_C, x_op, x_un, x_slice, x_noPart, x_part, x_tru, x_B, x_chain, x_and, x_or, x_not, x_andV, x_orV, x_notB, x_if, x_nil, x_cons, x_tup, x_lst, x_call, x_callK, x_gN, x_gT, x_gs0, x_gs1, x_yes, x_iSeq, x_iEn, x_words, x_ml, x_disp, x_d0, x_pnil, x_pcons, csAt, List.getD_cons_zero, List.getD_cons_succ, List.getElem?_cons_zero, List.getElem?_cons_succ, List.set_cons_zero, List.set_cons_succ, x_seq, x_skip, x_ifS, x_ret, x_retN, x_asg, x_par, x_expr, x_brk, x_cnt, fIsi, f1, f2, truD, fLen, isi_tt, sp_is_value]
    rcases isi_tup d h1 S with ⟨t1, ds, rfl⟩ | ⟨t, t1, t2, t3⟩
    case inr => rw [heapB_no (fun a b => t3 _)] at h2; simp only [t1, t2, Bool.not_false, if_true]; exact h2
    simp only [t1, isi_tt, Bool.not_true, Bool.false_eq_true, if_false]
    have l1 : ∀ ds, lenD S (.tup ds) = some ds.length := fun _ => rfl
    simp only [l1, oNe]
    rcases ds with _ | ⟨a, _ | ⟨b, _ | ⟨c, r⟩⟩⟩
    · exact h2
    · rw [if_pos (show (!decide ((([a] : List D).length : Int) = 2)) = true by simp)]; exact h2
    · rw [gd] at h1
      have ga := gdL_mem h1 a (by simp)
      have gb := gdL_mem h1 b (by simp)
      rw [if_neg (show ¬ (!decide ((([a, b] : List D).length : Int) = 2)) = true by simp)]
      have e0 : heapB (.tup [a, b]) = (valB 1 a && valB 0 b) := rfl
      rw [e0] at h2
      refine ⟨ga, ?_⟩
      show (match D.bl (valB 0 a) with
        | .bl true => _
        | .bl false => _
        | _ => False)
      have key : ∀ Q : Bool → Prop, Q (valB 1 a && valB 0 b) → (valB 0 a = false ∧ Q false) ∨ ∃ i, a = .int i ∧ valB 0 a = true ∧ Q (decide (0 < i) && valB 0 b) := fun Q q => by
        cases a with
        | int i =>
          rw [← val_pos i] at q
          rcases Bool.eq_false_or_eq_true (valB 0 (.int i)) with c | c
          · rw [c, Bool.true_and] at q
            exact .inr ⟨i, rfl, c, q⟩
          · rw [c, Bool.false_and, Bool.false_and] at q
            exact .inl ⟨c, q⟩
        | _ => exact .inl ⟨rfl, q⟩
      rcases key (fun c => R (.bl c) S) h2 with ⟨q, h⟩ | ⟨i, rfl, q, h⟩
      · rw [q]; exact h
      · rw [q]
        show (match D.bl (decide (0 < i)) with
          | .bl true => _
          | .bl false => _
          | _ => False)
        rcases Bool.eq_false_or_eq_true (decide (0 < i)) with c | c
        · rw [c] at h ⊢; exact ⟨gb, h⟩
        · rw [c] at h ⊢; exact h
    · rw [heapB_no (fun x b z => by cases z)] at h2
      have c3 : decide (((r.length + 1 + 1 + 1 : Nat) : Int) = 2) = false := decide_eq_false (by omega)
      simp only [List.length_cons, c3, Bool.not_false, if_true]
      exact h2
/-- after all items are right: keys of one kind -/
theorem keys_of {st : Bool} {ds : List D} (h : ∀ x ∈ ds, itemB st x = true) : Keys ds := by
  cases st with
  | true =>
    refine .inl fun x m => ?_
    have q : storeB x = true := h x m
    unfold storeB at q
    split at q
    · rename_i a b
      rw [Bool.and_eq_true] at q
      cases a with
      | str s => exact ⟨s, b, rfl⟩
      | _ => exact absurd q.1 Bool.false_ne_true
    · cases q
  | false =>
    refine .inr fun x m => ?_
    have q : heapB x = true := h x m
    unfold heapB at q
    split at q
    · rename_i a b
      rw [Bool.and_eq_true] at q
      cases a with
      | int s => exact ⟨s, b, rfl⟩
      | _ => exact absurd q.1 Bool.false_ne_true
    · cases q
def sp_error (st : Bool) : WF := fun ds S R => match ds with
  | [d] => gd d = true ∧ (∀ l, d = .tup l → l.length < 1000000) ∧ R (errD st d) S
  | _ => False
abbrev sp_store_error : WF := sp_error true
abbrev sp_heap_error : WF := sp_error false
theorem fn_store_error (c0 : FnIn P w K mg base DI k ⟨"order_error", 1, sp_order_error, []⟩) (c1 : FnIn P w K mg base DI k ⟨"is_store_item", 1, sp_is_store_item, []⟩) (d : Df K mg "store_error" s_store_error ["value"] [(0, ["value"], [0])]) (hb : BlIn mg ["enumerate", "isinstance", "tuple"]) : FnIn P w K mg base DI (k + 1) ⟨"store_error", 1, sp_store_error, [(0, ["value"], [0])]⟩ := by
  refine fn_mk d sc_store_error rfl (fns := [⟨"order_error", 1, sp_order_error, []⟩, ⟨"is_store_item", 1, sp_is_store_item, []⟩]) (cs := []) ⟨c0, c1, trivial⟩ trivial hb (fun X o => (s_cons (s_if (t_not (t_tru (e_isi o (a_cons (e_var o 0) (a_cons (e_ty o "tuple") a_nil)))))
  (s_cons (s_ret e_str)
  s_nil)
  s_nil)
  (s_cons (s_for o (i_enum o (e_var o 0)) (g_tup o 2 (g_cons (g_name o 1) (g_cons (g_name o 2) g_nil)))
  (s_cons (s_if (t_not (t_tru (e_call o 1 (a_cons (e_var o 2) a_nil))))
  (s_cons (s_ret (e_tup (a_cons e_str (a_cons (e_var o 1) a_nil))))
  s_nil)
  s_nil)
  s_nil))
  (s_cons (s_ret (e_call o 0 (a_cons (e_var o 0) a_nil)))
  s_nil)))) ?_
  intro ds S R hl h
  match ds, hl, h with
  | [d], _, h =>
    obtain ⟨h1, h3, h2⟩ := h
    show wSeq _ _ _ [some d, none, none] S
    simp only [x_back, x_ifT, fnAt, x_lc, x_lcN, x_var, x_C, x_op, x_un, x_slice, x_noPart, x_part, x_tru, x_B, x_chain, x_and, x_or, x_not, x_andV, x_orV, x_notB, x_if, x_nil, x_cons, x_tup, x_lst, x_call, x_callK, x_gN, x_gT, x_gs0, x_gs1, x_yes, x_iSeq, x_iEn, x_words, x_ml, x_disp, x_d0, x_pnil, x_pcons, csAt, List.getD_cons_zero, List.getD_cons_succ, List.getElem?_cons_zero, List.getElem?_cons_succ, List.set_cons_zero, List.set_cons_succ, x_seq, x_skip, x_ifS, x_ret, x_retN, x_asg, x_par, x_expr, x_brk, x_cnt, fIsi, f1, f2, truD, isi_tt]
    rcases isi_tup d h1 S with ⟨t1, ds, rfl⟩ | ⟨t, t1, t2, t3⟩
    case inr => rw [errD_no t3] at h2; simp only [t1, t2, Bool.not_false, if_true]; exact h2
    simp only [t1, isi_tt, Bool.not_true, Bool.false_eq_true, if_false]
    rw [gd] at h1
    refine ⟨fun rest ρ S' => S' = S ∧ ∃ (n : Nat) (r : List D) (x y : Option D), rest = enD n r ∧ ρ = [some (.tup ds), x, y] ∧ gdL r = true ∧ (∃ pre, ds = pre ++ r ∧ ∀ z ∈ pre, storeB z = true) ∧ R (errF true ds n r) S, ⟨rfl, 0, ds, none, none, rfl, rfl, h1, ⟨[], rfl, fun z m => nomatch m⟩, h2⟩, ?_, ?_⟩
    · rintro c rr ρ S' ⟨rfl, n, r, x, y, e1, rfl, g, ⟨pre, hp, hpre⟩, hR⟩
      cases r with
      | nil => cases e1
      | cons a r =>
        cases e1
        rw [gdL, Bool.and_eq_true] at g
        refine ⟨trivial, rfl, rfl, g.1, ?_⟩
        show (if (!storeB a) = true then _ else _)
        rw [errF] at hR
        rcases Bool.eq_false_or_eq_true (storeB a) with q | q
        · rw [if_pos (show itemB true a = true from q)] at hR
          rw [q]
          exact ⟨rfl, n + 1, r, _, _, rfl, rfl, g.2, ⟨pre ++ [a], by rw [hp, List.append_assoc]; rfl, fun z m => by
            rcases List.mem_append.mp m with m | m
            · exact hpre z m
            · rw [List.mem_singleton.mp m]; exact q⟩, hR⟩
        · rw [if_neg (show ¬ itemB true a = true by show ¬ storeB a = true; rw [q]; decide)] at hR
          rw [q]
          exact ⟨lzn 2, hR⟩
    · rintro ρ S' ⟨rfl, n, r, x, y, e1, rfl, g, ⟨pre, hp, hpre⟩, hR⟩
      cases r with
      | cons a r => cases e1
      | nil =>
        rw [List.append_nil] at hp
        subst hp
        exact ⟨trivial, h3 _ rfl, keys_of (st := true) hpre, hR⟩
theorem fn_heap_error (c0 : FnIn P w K mg base DI k ⟨"order_error", 1, sp_order_error, []⟩) (c1 : FnIn P w K mg base DI k ⟨"is_heap_item", 1, sp_is_heap_item, []⟩) (d : Df K mg "heap_error" s_heap_error ["value"] [(0, ["value"], [0])]) (hb : BlIn mg ["enumerate", "isinstance", "tuple"]) : FnIn P w K mg base DI (k + 1) ⟨"heap_error", 1, sp_heap_error, [(0, ["value"], [0])]⟩ := by
  refine fn_mk d sc_heap_error rfl (fns := [⟨"order_error", 1, sp_order_error, []⟩, ⟨"is_heap_item", 1, sp_is_heap_item, []⟩]) (cs := []) ⟨c0, c1, trivial⟩ trivial hb (fun X o => (s_cons (s_if (t_not (t_tru (e_isi o (a_cons (e_var o 0) (a_cons (e_ty o "tuple") a_nil)))))
  (s_cons (s_ret e_str)
  s_nil)
  s_nil)
  (s_cons (s_for o (i_enum o (e_var o 0)) (g_tup o 2 (g_cons (g_name o 1) (g_cons (g_name o 2) g_nil)))
  (s_cons (s_if (t_not (t_tru (e_call o 1 (a_cons (e_var o 2) a_nil))))
  (s_cons (s_ret (e_tup (a_cons e_str (a_cons (e_var o 1) a_nil))))
  s_nil)
  s_nil)
  s_nil))
  (s_cons (s_ret (e_call o 0 (a_cons (e_var o 0) a_nil)))
  s_nil)))) ?_
  intro ds S R hl h
  match ds, hl, h with
  | [d], _, h =>
    obtain ⟨h1, h3, h2⟩ := h
    show wSeq _ _ _ [some d, none, none] S
    simp only [x_back, x_ifT, fnAt, x_lc, x_lcN, x_var, x_C, x_op, x_un, x_slice, x_noPart, x_part, x_tru, x_B, x_chain, x_and, x_or, x_not, x_andV, x_orV, x_notB, x_if, x_nil, x_cons, x_tup, x_lst, x_call, x_callK, x_gN, x_gT, x_gs0, x_gs1, x_yes, x_iSeq, x_iEn, x_words, x_ml, x_disp, x_d0, x_pnil, x_pcons, csAt, List.getD_cons_zero, List.getD_cons_succ, List.getElem?_cons_zero, List.getElem?_cons_succ, List.set_cons_zero, List.set_cons_succ, x_seq, x_skip, x_ifS, x_ret, x_retN, x_asg, x_par, x_expr, x_brk, x_cnt, fIsi, f1, f2, truD, isi_tt]
    rcases isi_tup d h1 S with ⟨t1, ds, rfl⟩ | ⟨t, t1, t2, t3⟩
    case inr => rw [errD_no t3] at h2; simp only [t1, t2, Bool.not_false, if_true]; exact h2
    simp only [t1, isi_tt, Bool.not_true, Bool.false_eq_true, if_false]
    rw [gd] at h1
    refine ⟨fun rest ρ S' => S' = S ∧ ∃ (n : Nat) (r : List D) (x y : Option D), rest = enD n r ∧ ρ = [some (.tup ds), x, y] ∧ gdL r = true ∧ (∃ pre, ds = pre ++ r ∧ ∀ z ∈ pre, heapB z = true) ∧ R (errF false ds n r) S, ⟨rfl, 0, ds, none, none, rfl, rfl, h1, ⟨[], rfl, fun z m => nomatch m⟩, h2⟩, ?_, ?_⟩
    · rintro c rr ρ S' ⟨rfl, n, r, x, y, e1, rfl, g, ⟨pre, hp, hpre⟩, hR⟩
      cases r with
      | nil => cases e1
      | cons a r =>
        cases e1
        rw [gdL, Bool.and_eq_true] at g
        refine ⟨trivial, rfl, rfl, g.1, ?_⟩
        show (if (!heapB a) = true then _ else _)
        rw [errF] at hR
        rcases Bool.eq_false_or_eq_true (heapB a) with q | q
        · rw [if_pos (show itemB false a = true from q)] at hR
          rw [q]
          exact ⟨rfl, n + 1, r, _, _, rfl, rfl, g.2, ⟨pre ++ [a], by rw [hp, List.append_assoc]; rfl, fun z m => by
            rcases List.mem_append.mp m with m | m
            · exact hpre z m
            · rw [List.mem_singleton.mp m]; exact q⟩, hR⟩
        · rw [if_neg (show ¬ itemB false a = true by show ¬ heapB a = true; rw [q]; decide)] at hR
          rw [q]
          exact ⟨lzn 2, hR⟩
    · rintro ρ S' ⟨rfl, n, r, x, y, e1, rfl, g, ⟨pre, hp, hpre⟩, hR⟩
      cases r with
      | cons a r => cases e1
      | nil =>
        rw [List.append_nil] at hp
        subst hp
        exact ⟨trivial, h3 _ rfl, keys_of (st := false) hpre, hR⟩
end
end K05

namespace K05
open PySem PySem.Spec L2 Dv
open PyProof.Rows hiding St
def wl2 : List D := wl.drop 2
theorem told_law (x : Str) : toldB (.str x) = (lenB x && (!decide (x = "nil") && (!(wl2.any fun z => eqb z (.str x)) && x.cps.toList.all letB))) := by
  have e : toldB (.str x) = ((lenB x && (!wordB x && x.cps.toList.all letB)) || decide (x = "result")) := rfl
  rw [e]
  by_cases h1 : x = "result"
  · subst h1; decide +kernel
  · have e2 : wordB x = (decide (("nil" : Str) = x) || (decide (("result" : Str) = x) || wl2.any fun z => eqb z (.str x))) := by
      show (eqb _ _ || (eqb _ _ || _)) = _
      rw [eqb_str, eqb_str]
      rfl
    rw [e2, decide_eq_false h1, decide_eq_false (show ¬ ("result" : Str) = x from fun z => h1 z.symm)]
    have e3 : decide (("nil" : Str) = x) = decide (x = "nil") := by
      by_cases h : x = "nil"
      · rw [decide_eq_true h, decide_eq_true h.symm]
      · rw [decide_eq_false h, decide_eq_false (fun z => h z.symm)]
    rw [e3]
    cases lenB x <;> cases decide (x = "nil") <;> cases (wl2.any fun z => eqb z (.str x)) <;> cases x.cps.toList.all letB <;> rfl
section
variable {P : Program} {w : World} {K : PySem.W.Frag} {mg : Str → Option Value} {base : Heap} {DI : Addr → GH → Prop} {k : Nat}
def sp__law_words : WF := fun ds S R => R (.lst wl2) S
theorem fn__law_words (d : Df K mg "_law_words" s__law_words [] []) : FnIn P w K mg base DI (k + 1) ⟨"_law_words", 0, sp__law_words, []⟩ := by
  refine fn_mk d sc__law_words rfl (fns := []) (cs := []) (bl := []) trivial trivial (fun x h => by cases h) (fun X o => (s_cons (s_ret (e_words e_str))
  s_nil)) ?_
  intro ds S R hl h
  match ds, hl, h with
  | [], _, h =>
    show wSeq _ _ _ [] S
    simp only [x_back, x_ifT, fnAt, x_lc, x_lcN, x_var, x_C, x_op, x_un, x_slice, x_noPart, x_part, x_tru, x_B, x_chain, x_and, x_or, x_not, x_andV, x_orV, x_notB, x_if, x_nil, x_cons, x_tup, x_lst, x_call, x_callK, x_gN, x_gT, x_gs0, x_gs1, x_yes, x_iSeq, x_iEn, x_words, x_ml, x_disp, x_d0, x_pnil, x_pcons, csAt, List.getD_cons_zero, List.getD_cons_succ, List.getElem?_cons_zero, List.getElem?_cons_succ, List.set_cons_zero, List.set_cons_succ, x_seq, x_skip, x_ifS, x_ret, x_retN, x_asg, x_par, x_expr, x_brk, x_cnt]
    refine ⟨by rw [sizeLine_eq]; decide, ?_⟩
    have e : (Txt.words "fun head foot with var if else while keep new free any cell list empty is isnt").map D.str = wl2 := by kernel_rfl
    rw [e]
    exact h
theorem toldB_no {d : D} (h : ∀ x, d ≠ .str x) : toldB d = false := by
  cases d with
  | str x => exact absurd rfl (h x)
  | _ => rfl
def sp__law_is_name : WF := fun ds S R => match ds with
  | [d] => gd d = true ∧ R (.bl (toldB d)) S
  | _ => False
theorem fn__law_is_name (c1 : FnIn P w K mg base DI k ⟨"_law_words", 0, sp__law_words, []⟩) (d : Df K mg "_law_is_name" s__law_is_name ["value"] []) (hb : BlIn mg ["isinstance", "len", "str"]) : FnIn P w K mg base DI (k + 1) ⟨"_law_is_name", 1, sp__law_is_name, []⟩ := by
  refine fn_mk d sc__law_is_name rfl (fns := [⟨"_law_words", 0, sp__law_words, []⟩]) (cs := []) ⟨c1, trivial⟩ trivial hb (fun X o => (s_cons (s_if (t_w (w_or (t_not (t_tru (e_isi o (a_cons (e_var o 0) (a_cons (e_ty o "str") a_nil))))) (w_or (t_not (t_chain o c_le c_le e_int (e_len o (a_cons (e_var o 0) a_nil)) e_int)) (w_or (t_cmp o c_eq (e_var o 0) e_str) (w_or1 (t_cmp o c_in (e_var o 0) (e_call0 o 0)))))))
  (s_cons (s_ret e_tt)
  s_nil)
  s_nil)
  (s_cons (s_ret (e_cmp o c_eq (e_lc o [("sign", 1)] (i_seq (e_var o 0)) (cg_name 1) (fun Y _ o1 => (l_one (t_cmp o1 c_nin (e_var o1 1) e_str))) (fun Y _ o1 => (e_var o1 1))) (e_lst a_nil)))
  s_nil))) ?_
  intro ds S R hl h
  match ds, hl, h with
  | [d], _, h =>
    obtain ⟨h1, h2⟩ := h
    show wSeq _ _ _ [some d, none] S
    rw [x_seq]
    simp only [x_back, x_ifT, fnAt, x_lc, x_lcN, x_var, x_C, x_op, x_un, x_slice, x_noPart, x_part, x_tru, x_B, x_chain, x_and, x_or, x_not, x_andV, x_orV, x_notB, x_if, x_nil, x_cons, x_tup, x_lst, x_call, x_callK, x_gN, x_gT, x_gs0, x_gs1, x_yes, x_iSeq, x_iEn, x_words, x_ml, x_disp, x_d0, x_pnil, x_pcons, csAt, List.getD_cons_zero, List.getD_cons_succ, List.getElem?_cons_zero, List.getElem?_cons_succ, List.set_cons_zero, List.set_cons_succ, x_ifS, fIsi, f1, f2, truD, fLen, isi_ss, sp__law_words]
    rcases isi_str d h1 S with ⟨t1, x, rfl⟩ | ⟨t, t1, t2, t3⟩
    case inr => rw [toldB_no t3] at h2; simp only [t1, t2, Bool.not_false, if_true]; exact h2
    have hz := gd_str h1
    have l1 : lenD S (.str x) = some x.length := if_pos hz
    rw [told_law] at h2
    simp only [t1, isi_ss, Bool.not_true, Bool.false_eq_true, if_false, l1]
    show (match D.bl (decide ((1 : Int) ≤ (x.length : Nat))) with
      | .bl true => _
      | .bl false => _
      | _ => False)
    unfold lenB at h2
    rcases Bool.eq_false_or_eq_true (decide ((1 : Int) ≤ (x.length : Nat))) with c1 | c1
    case inr => rw [c1] at h2 ⊢; exact h2
    rw [c1] at h2 ⊢
    show (if (!decide (((x.length : Nat) : Int) ≤ 8)) = true then _ else _)
    rcases Bool.eq_false_or_eq_true (decide (((x.length : Nat) : Int) ≤ 8)) with c2 | c2
    case inr => rw [c2] at h2; rw [if_pos (by rw [c2]; rfl)]; exact h2
    rw [if_neg (by rw [c2]; decide)]
    rw [c2] at h2
    show (if decide (x = "nil") = true then _ else _)
    rcases Bool.eq_false_or_eq_true (decide (x = "nil")) with c3 | c3
    case inl => rw [c3] at h2; rw [if_pos c3]; exact h2
    rw [if_neg (by rw [c3]; decide)]
    rw [c3] at h2
    refine ⟨gd_cmpS h1, rfl, by kernel_rfl, ?_⟩
    show (if (wl2.any fun z => eqb z (.str x)) = true then _ else _)
    rcases Bool.eq_false_or_eq_true (wl2.any fun z => eqb z (.str x)) with c4 | c4
    case inl => rw [c4] at h2; rw [if_pos c4]; exact h2
    rw [if_neg (by rw [c4]; decide)]
    rw [c4] at h2
    simp only [x_back, x_ifT, fnAt, x_lc, x_lcN, x_var, x_C, x_op, x_un, x_slice, x_noPart, x_part, x_tru, x_B, x_chain, x_and, x_or, x_not, x_andV, x_orV, x_notB, x_if, x_nil, x_cons, x_tup, x_lst, x_call, x_callK, x_gN, x_gT, x_gs0, x_gs1, x_yes, x_iSeq, x_iEn, x_words, x_ml, x_disp, x_d0, x_pnil, x_pcons, csAt, List.getD_cons_zero, List.getD_cons_succ, List.getElem?_cons_zero, List.getElem?_cons_succ, List.set_cons_zero, List.set_cons_succ, x_seq, x_skip, x_ifS, x_ret, x_retN, x_asg, x_par, x_expr, x_brk, x_cnt]
    have c8 : x.length ≤ 8 := by have := of_decide_eq_true c2; omega
    have z8 : (sgD x).length = x.length := by unfold sgD; simp; rfl
    have hok : PyData.strOk x = true := by
      rw [gd, Bool.and_eq_true, Bool.and_eq_true] at h1
      exact h1.2.1
    refine lc_filter (ds := sgD x) (gd := []) (fun d => match d with
      | .str y => !inStr y letters
      | _ => false) (fun Q q => q) trivial (by rw [z8]; exact hz) (fun d m Q q => ?_) ?_
    · unfold sgD at m
      obtain ⟨c, _, rfl⟩ := List.mem_map.mp m
      show (if (!inStr ⟨#[c]⟩ letters) = true then Q (some (.str ⟨#[c]⟩)) S else Q none S)
      dsimp only at q
      by_cases cc : (!inStr ⟨#[c]⟩ letters) = true
      · rw [if_pos cc] at q ⊢; exact q
      · rw [if_neg cc] at q ⊢; exact q
    · generalize hg : (sgD x).filter _ = l
      have hp : cmp? (.lst l) = true := by
        have : ∀ d ∈ l, ∃ c, d = .str ⟨#[c]⟩ ∧ c < 0x110000 := fun d m => by
          rw [← hg] at m
          have m2 := (List.mem_filter.mp m).1
          unfold sgD at m2
          obtain ⟨c, mc, rfl⟩ := List.mem_map.mp m2
          refine ⟨c, rfl, ?_⟩
          unfold PyData.strOk at hok
          have := Array.all_eq_true_iff_forall_mem.mp hok c (by simpa using mc)
          simpa using this
        clear hg
        have z : pureL l = true ∧ nodL l = true ∧ depL l = 0 := by
          induction l with
          | nil => exact ⟨rfl, rfl, rfl⟩
          | cons y r ih =>
            obtain ⟨i1, i2, i3⟩ := ih fun d m => this d (by simp [m])
            obtain ⟨c, rfl, hc⟩ := this y (by simp)
            have so : PyData.strOk ⟨#[c]⟩ = true := by simp [PyData.strOk, hc]
            simp [pureL, nodL, depL, pure?, nod?, dep, i1, i2, i3, so]
        simp [cmp?, pure?, nod?, dep, z.1, z.2.1, z.2.2]
      refine ⟨Nat.zero_le _, hp, rfl, ?_⟩
      show R (.bl (eqb (.lst l) (.lst []))) S
      rw [eqb_nil]
      have he : l.isEmpty = x.cps.toList.all letB := by
        rw [← hg]
        unfold sgD
        rw [empty_filter, List.all_map]
        congr 1
        funext c
        show (!(!inStr ⟨#[c]⟩ letters)) = _
        rw [Bool.not_not]
        rfl
      rw [he]
      exact h2
def sp__law_is_from : WF := fun ds S R => match ds with
  | [d, .int n] => gd d = true ∧ R (.bl (valB n d)) S
  | _ => False
theorem fn__law_is_from (d : Df K mg "_law_is_from" s__law_is_from ["value", "least"] []) (hb : BlIn mg ["bool", "int", "isinstance"]) : FnIn P w K mg base DI (k + 1) ⟨"_law_is_from", 2, sp__law_is_from, []⟩ := by
  refine fn_mk d sc__law_is_from rfl (fns := []) (cs := []) trivial trivial hb (fun X o => (s_cons (s_ret (e_and (e_isi o (a_cons (e_var o 0) (a_cons (e_ty o "int") a_nil))) (e_and (e_not (e_isi o (a_cons (e_var o 0) (a_cons (e_ty o "bool") a_nil)))) (e_one (e_cmp o c_ge (e_var o 0) (e_var o 1))))))
  s_nil)) ?_
  intro ds S R hl h
  match ds, hl, h with
  | [d, .int n], _, h =>
    obtain ⟨h1, h2⟩ := h
    show wSeq _ _ _ [some d, some (.int n)] S
    simp only [x_back, x_ifT, fnAt, x_lc, x_lcN, x_var, x_C, x_op, x_un, x_slice, x_noPart, x_part, x_tru, x_B, x_chain, x_and, x_or, x_not, x_andV, x_orV, x_notB, x_if, x_nil, x_cons, x_tup, x_lst, x_call, x_callK, x_gN, x_gT, x_gs0, x_gs1, x_yes, x_iSeq, x_iEn, x_words, x_ml, x_disp, x_d0, x_pnil, x_pcons, csAt, List.getD_cons_zero, List.getD_cons_succ, List.getElem?_cons_zero, List.getElem?_cons_succ, List.set_cons_zero, List.set_cons_succ, x_seq, x_skip, x_ifS, x_ret, x_retN, x_asg, x_par, x_expr, x_brk, x_cnt, fIsi, f2]
    cases d with
    | ref a => simp [gd] at h1
    | ty a => simp [gd] at h1
    | _ => exact h2
end
end K05

namespace K05
open PySem PySem.Spec L2 Dv
open PyProof.Rows hiding St
section
variable {P : Program} {w : World} {K : PySem.W.Frag} {mg : Str → Option Value} {base : Heap} {DI : Addr → GH → Prop} {k : Nat}
def sp__law_due : WF := fun ds S R => match ds with
  | [d, .bl st] => gd d = true ∧ (∀ l, d = .tup l → l.length < 1000000) ∧ R (errD st d) S
  | _ => False
theorem item_pair (st : Bool) (u v : D) : itemB st (.tup [u, v]) = ((if st = true then toldB u else valB 1 u) && valB 0 v) := by cases st <;> rfl
theorem fn__law_due (c1 : FnIn P w K mg base DI k ⟨"_law_is_name", 1, sp__law_is_name, []⟩) (c2 : FnIn P w K mg base DI k ⟨"_law_is_from", 2, sp__law_is_from, []⟩) (d : Df K mg "_law_due" s__law_due ["value", "is_store"] []) (hb : BlIn mg ["enumerate", "isinstance", "len", "range", "tuple"]) : FnIn P w K mg base DI (k + 1) ⟨"_law_due", 2, sp__law_due, []⟩ := by
  refine fn_mk d sc__law_due rfl (fns := [⟨"_law_is_name", 1, sp__law_is_name, []⟩, ⟨"_law_is_from", 2, sp__law_is_from, []⟩]) (cs := []) ⟨c1, c2, trivial⟩ trivial hb (fun X o => (s_cons (s_if (t_not (t_tru (e_isi o (a_cons (e_var o 0) (a_cons (e_ty o "tuple") a_nil)))))
  (s_cons (s_ret e_str)
  s_nil)
  s_nil)
  (s_cons (s_for o (i_enum o (e_var o 0)) (g_tup o 2 (g_cons (g_name o 2) (g_cons (g_name o 3) g_nil)))
  (s_cons (s_if (t_w (w_or (t_not (t_tru (e_isi o (a_cons (e_var o 3) (a_cons (e_ty o "tuple") a_nil))))) (w_or (t_cmp o c_ne (e_len o (a_cons (e_var o 3) a_nil)) e_int) (w_or1 (t_not (t_tru (e_call o 1 (a_cons (e_ix o (e_var o 3) e_int) (a_cons e_int a_nil)))))))))
  (s_cons (s_ret (e_tup (a_cons e_str (a_cons (e_var o 2) a_nil))))
  s_nil)
  s_nil)
  (s_cons (s_if (t_not (t_if (t_tru (e_var o 1)) (t_tru (e_call o 0 (a_cons (e_ix o (e_var o 3) e_int) a_nil))) (t_tru (e_call o 1 (a_cons (e_ix o (e_var o 3) e_int) (a_cons e_int a_nil))))))
  (s_cons (s_ret (e_tup (a_cons e_str (a_cons (e_var o 2) a_nil))))
  s_nil)
  s_nil)
  s_nil)))
  (s_cons (s_for o (i_rg2 o e_int (e_len o (a_cons (e_var o 0) a_nil))) (g_name o 2)
  (s_cons (s_if (t_cmp o c_le (e_ix o (e_ix o (e_var o 0) (e_var o 2)) e_int) (e_ix o (e_ix o (e_var o 0) (e_sub (e_var o 2) e_int)) e_int))
  (s_cons (s_ret (e_tup (a_cons e_str (a_cons (e_var o 2) a_nil))))
  s_nil)
  s_nil)
  s_nil))
  (s_cons (s_ret e_non)
  s_nil))))) ?_
  intro ds S R hl h
  match ds, hl, h with
  | [d, .bl st], _, h =>
    obtain ⟨h1, h3, h2⟩ := h
    show wSeq _ _ _ [some d, some (.bl st), none, none] S
    rw [x_seq]
    simp only [x_back, x_ifT, fnAt, x_lc, x_lcN, x_var, x_C, x_op, x_un, x_slice, x_noPart, x_part, x_tru, x_B, x_chain, x_and, x_or, x_not, x_andV, x_orV, x_notB, x_if, x_nil, x_cons, x_tup, x_lst, x_call, x_callK, x_gN, x_gT, x_gs0, x_gs1, x_yes, x_iSeq, x_iEn, x_words, x_ml, x_disp, x_d0, x_pnil, x_pcons, csAt, List.getD_cons_zero, List.getD_cons_succ, List.getElem?_cons_zero, List.getElem?_cons_succ, List.set_cons_zero, List.set_cons_succ, x_ifS, fIsi, f2, truD, isi_tt]
    rcases isi_tup d h1 S with ⟨t1, ds, rfl⟩ | ⟨t, t1, t2, t3⟩
    case inr => rw [errD_no t3] at h2; simp only [t1, t2, Bool.not_false, if_true]; exact h2
    simp only [t1, isi_tt, Bool.not_true, Bool.false_eq_true, if_false, x_skip]
    rw [gd] at h1
    have hlen := h3 _ rfl
    rw [x_seq]
    refine ⟨fun rest ρ S' => S' = S ∧ ∃ (n : Nat) (r : List D) (x y : Option D), rest = enD n r ∧ ρ = [some (.tup ds), some (.bl st), x, y] ∧ gdL r = true ∧ (∃ pre, ds = pre ++ r ∧ ∀ z ∈ pre, itemB st z = true) ∧ R (errF st ds n r) S, ⟨rfl, 0, ds, none, none, rfl, rfl, h1, ⟨[], rfl, fun z m => nomatch m⟩, h2⟩, ?_, ?_⟩
    · rintro c rr ρ S' ⟨rfl, n, r, x, y, e1, rfl, g, ⟨pre, hp, hpre⟩, hR⟩
      cases r with
      | nil => cases e1
      | cons a r =>
        cases e1
        rw [gdL, Bool.and_eq_true] at g
        refine ⟨trivial, rfl, rfl, ?_⟩
        show wSeq _ _ _ [some (.tup ds), some (.bl st), some (.int n), some a] S'
        rw [errF] at hR
        have goes : itemB st a = true → ∃ (n' : Nat) (r' : List D) (x y : Option D), enD (n + 1) r = enD n' r' ∧ [some (D.tup ds), some (D.bl st), some (.int n), some a] = [some (D.tup ds), some (.bl st), x, y] ∧ gdL r' = true ∧ (∃ pre, ds = pre ++ r' ∧ ∀ z ∈ pre, itemB st z = true) ∧ R (errF st ds n' r') S' := fun q => by
          rw [if_pos q] at hR
          exact ⟨n + 1, r, _, _, rfl, rfl, g.2, ⟨pre ++ [a], by rw [hp, List.append_assoc]; rfl, fun z m => by
            rcases List.mem_append.mp m with m | m
            · exact hpre z m
            · rw [List.mem_singleton.mp m]; exact q⟩, hR⟩
        have stops : itemB st a = false → 2 ≤ sizeLine ∧ R (.tup [.str "item", .int (n : Nat)]) S' := fun q => by
          rw [if_neg (by rw [q]; decide)] at hR
          exact ⟨lzn 2, hR⟩
        simp only [x_back, x_ifT, fnAt, x_lc, x_lcN, x_var, x_C, x_op, x_un, x_slice, x_noPart, x_part, x_tru, x_B, x_chain, x_and, x_or, x_not, x_andV, x_orV, x_notB, x_if, x_nil, x_cons, x_tup, x_lst, x_call, x_callK, x_gN, x_gT, x_gs0, x_gs1, x_yes, x_iSeq, x_iEn, x_words, x_ml, x_disp, x_d0, x_pnil, x_pcons, csAt, List.getD_cons_zero, List.getD_cons_succ, List.getElem?_cons_zero, List.getElem?_cons_succ, List.set_cons_zero, List.set_cons_succ, x_seq, x_skip, x_ifS, x_ret, x_retN, x_asg, x_par, x_expr, x_brk, x_cnt, fIsi, f1, f2, truD, fLen, isi_tt, sp__law_is_from, sp__law_is_name]
        rcases isi_tup a g.1 S' with ⟨t1, os, rfl⟩ | ⟨t, t1, t2, t3⟩
        case inr => simp only [t1, t2, Bool.not_false, if_true]; exact stops (pair_no fun u v => t3 _)
        simp only [t1, isi_tt, Bool.not_true, Bool.false_eq_true, if_false]
        have l1 : ∀ ds, lenD S' (.tup ds) = some ds.length := fun _ => rfl
        simp only [l1, oNe]
        rcases os with _ | ⟨u, _ | ⟨v, _ | ⟨c, r'⟩⟩⟩
        · exact stops (pair_no (fun u v z => by cases z))
        · rw [if_pos (show (!decide ((([u] : List D).length : Int) = 2)) = true by simp), if_pos trivial]; exact stops (pair_no (fun u v z => by cases z))
        · have g1 := g.1
          rw [gd] at g1
          have gu := gdL_mem g1 u (by simp)
          have gv := gdL_mem g1 v (by simp)
          rw [if_neg (show ¬ (!decide ((([u, v] : List D).length : Int) = 2)) = true by simp)]
          rw [item_pair] at goes stops
          refine ⟨gv, ?_⟩
          show (if (!valB 0 v) = true then _ else _)
          rcases Bool.eq_false_or_eq_true (valB 0 v) with q | q
          case inr => rw [q, Bool.and_false] at stops; rw [if_pos (by rw [q]; rfl)]; exact stops rfl
          rw [if_neg (by rw [q]; decide)]
          rw [q, Bool.and_true] at goes stops
          cases st with
          | true =>
            refine ⟨gu, ?_⟩
            show (if (!toldB u) = true then _ else _)
            rcases Bool.eq_false_or_eq_true (toldB u) with q | q
            · rw [if_neg (by rw [q]; decide)]; exact ⟨by trivial, goes (by rw [if_pos rfl]; exact q)⟩
            · rw [if_pos (by rw [q]; rfl)]; exact stops (by rw [if_pos rfl]; exact q)
          | false =>
            refine ⟨gu, ?_⟩
            show (if (!valB 1 u) = true then _ else _)
            rcases Bool.eq_false_or_eq_true (valB 1 u) with q | q
            · rw [if_neg (by rw [q]; decide)]; exact ⟨by trivial, goes (by rw [if_neg (by decide)]; exact q)⟩
            · rw [if_pos (by rw [q]; rfl)]; exact stops (by rw [if_neg (by decide)]; exact q)
        · have c3 : decide (((r'.length + 1 + 1 + 1 : Nat) : Int) = 2) = false := decide_eq_false (by omega)
          simp only [List.length_cons, c3, Bool.not_false, if_true]
          exact stops (pair_no (fun u v z => by cases z))
    · rintro ρ S' ⟨rfl, n0, r, x, y, e1, rfl, g, ⟨pre, hp, hpre⟩, hR⟩
      refine ⟨trivial, ?_⟩
      cases r with
      | cons a r => cases e1
      | nil =>
        rw [List.append_nil] at hp
        subst hp
        rw [errF] at hR
        have hk := keys_of (st := st) hpre
        dsimp only
        rw [x_seq]
        refine ⟨1, ds.length, rfl, rfl, by decide, by decide, by omega, by omega, fun rest ρ S2 => S2 = S' ∧ ∃ x y, ρ = [some (.tup ds), some (.bl st), x, y] ∧ ((ds = [] ∧ rest = [] ∧ R .non S') ∨ ∃ (n : Nat) (p : D) (r : List D), 1 ≤ n ∧ ds[n - 1]? = some p ∧ ds.drop n = r ∧ rest = rgD n r.length ∧ R (ordF n p r) S'), ⟨rfl, x, y, rfl, ?_⟩, ?_, ?_⟩
        · cases ds with
          | nil => exact .inl ⟨rfl, rfl, hR⟩
          | cons x r =>
            refine .inr ⟨1, x, r, Nat.le_refl _, rfl, rfl, ?_, hR⟩
            rw [show (((x :: r).length : Nat) - 1 : Int).toNat = r.length by rw [List.length_cons]; omega]
            rfl
        · rintro c rr ρ S2 ⟨rfl, x, y, rfl, h⟩
          rcases h with ⟨_, h, _⟩ | ⟨n, p, r, hn, hp, hr, he, hR⟩
          · cases h
          · cases r with
            | nil => cases he
            | cons z r =>
              rw [List.length_cons, rgD_cons] at he
              cases he
              refine ⟨trivial, ?_⟩
              have hx : ds[n]? = some z := by
                have := congrArg List.head? hr
                rw [List.head?_drop] at this
                exact this
              have mx : z ∈ ds := List.mem_of_getElem? hx
              have mp : p ∈ ds := List.mem_of_getElem? hp
              show wSeq _ _ _ [some (.tup ds), some (.bl st), some (.int n), y] S2
              have hq : asQ S2 (.tup ds) = some ds := rfl
              have e1 : ((n : Int) - 1) = ((n - 1 : Nat) : Int) := by omega
              have sb : ∀ Q : D → GS → Prop, oSub (.int (n : Nat)) (.int 1) S2 Q = Q (.int ((n - 1 : Nat) : Int)) S2 := fun Q => by
                show Q (.int ((n : Int) - 1)) S2 = _
                rw [e1]
              rw [ordF] at hR
              simp only [x_back, x_ifT, fnAt, x_lc, x_lcN, x_var, x_C, x_op, x_un, x_slice, x_noPart, x_part, x_tru, x_B, x_chain, x_and, x_or, x_not, x_andV, x_orV, x_notB, x_if, x_nil, x_cons, x_tup, x_lst, x_call, x_callK, x_gN, x_gT, x_gs0, x_gs1, x_yes, x_iSeq, x_iEn, x_words, x_ml, x_disp, x_d0, x_pnil, x_pcons, csAt, List.getD_cons_zero, List.getD_cons_succ, List.getElem?_cons_zero, List.getElem?_cons_succ, List.set_cons_zero, List.set_cons_succ, x_seq, x_skip, x_ifS, x_ret, x_retN, x_asg, x_par, x_expr, x_brk, x_cnt, ix_eq hq hx, ix_fst hk mx, sb, ix_eq hq hp, ix_fst hk mp, le_keys hk mx mp]
              rcases Bool.eq_false_or_eq_true (keyLe (fstD z) (fstD p)) with q | q
              · rw [if_pos q] at hR
                rw [q]
                exact ⟨lzn 2, hR⟩
              · rw [if_neg (by rw [q]; decide)] at hR
                rw [q]
                refine ⟨by trivial, _, _, rfl, .inr ⟨n + 1, z, r, by omega, by rw [Nat.add_sub_cancel]; exact hx, ?_, ?_, hR⟩⟩
                · have := congrArg List.tail hr
                  rw [List.tail_drop] at this
                  exact this
                · rw [show ((n : Int) + 1) = ((n + 1 : Nat) : Int) by omega]
        · rintro ρ S2 ⟨rfl, x, y, rfl, h⟩
          refine ⟨trivial, ?_⟩
          rcases h with ⟨_, _, hR⟩ | ⟨n, p, r, hn, hp, hr, he, hR⟩
          · exact hR
          · cases r with
            | nil => exact hR
            | cons x r =>
              rw [List.length_cons, rgD_cons] at he
              cases he
/-! ### told rightly -/
def resOk (d : D) : Bool := pure? d && ((dat d).showable && (decide ((dat d).shown.length ≤ 100) && (decide (dep d ≤ 64) && PyData.strOk (shw d))))
theorem res_item (s : Str) (n : Nat) (hs : s = "item" ∨ s = "order") (h : n ≤ 400) : resOk (.tup [.str s, .int (n : Nat)]) = true := by
  have a : ((List.range 401).all fun n => resOk (.tup [.str "item", .int (n : Nat)])) = true := by decide +kernel
  have b : ((List.range 401).all fun n => resOk (.tup [.str "order", .int (n : Nat)])) = true := by decide +kernel
  rcases hs with rfl | rfl
  · exact List.all_eq_true.mp a n (List.mem_range.mpr (by omega))
  · exact List.all_eq_true.mp b n (List.mem_range.mpr (by omega))
theorem res_ord : ∀ (r : List D) (n : Nat) (p : D), n + r.length ≤ 400 → resOk (ordF n p r) = true
  | [], _, _, _ => (by decide +kernel : resOk .non = true)
  | x :: r, n, p, h => by
    rw [List.length_cons] at h
    rw [ordF]
    split
    · exact res_item _ n (.inr rfl) (by omega)
    · exact res_ord r (n + 1) x (by omega)
theorem res_err (st : Bool) (all : List D) (ha : all.length < 400) : ∀ (r : List D) (n : Nat), n + r.length ≤ 400 → resOk (errF st all n r) = true
  | [], _, _ => by
    rw [errF]
    cases all with
    | nil => exact (by decide +kernel : resOk .non = true)
    | cons x r => exact res_ord r 1 x (by rw [List.length_cons] at ha; omega)
  | x :: r, n, h => by
    rw [List.length_cons] at h
    rw [errF]
    split
    · exact res_err st all ha r (n + 1) (by omega)
    · exact res_item _ n (.inl rfl) (by omega)
theorem res_ok (st : Bool) (d : D) (h : ∀ l, d = .tup l → l.length < 400) : resOk (errD st d) = true := by
  cases d with
  | tup ds => exact res_err st ds (h ds rfl) ds 0 (by have := h ds rfl; omega)
  | _ => exact (by decide +kernel : resOk (.str "form") = true)
theorem res_sh {d : D} (h : resOk d = true) : shOk d ∧ PyData.strOk (shw d) = true := by
  unfold resOk at h
  simp only [Bool.and_eq_true, decide_eq_true_eq] at h
  obtain ⟨h1, h2, h3, h4, h5⟩ := h
  exact ⟨⟨h1, h2, Nat.le_trans h3 (by rw [sizeLine_eq]; omega), h4⟩, h5⟩
theorem snap_pure {d : D} (h : pure? d = true) (S : GS) : snap S d = d := by
  cases d <;> first | rfl | (simp [pure?] at h)
theorem eq_two {S : GS} {s : Str} {Q : D → GS → Prop} (h : PyData.strOk s = true) (q : Q (.bl true) S) : oEq (.lst [.str s, .str s]) (.lst [.str s, .str s]) S Q := by
  have c : cmp? (.lst [.str s, .str s]) = true := by simp [cmp?, pure?, pureL, nod?, nodL, dep, depL, h]
  have e : eqb (.lst [.str s, .str s]) (.lst [.str s, .str s]) = true := by
    unfold eqb
    simp [dat, datL, PyData.eqv, PyData.eqvAll]
  refine ⟨c, c, ?_⟩
  show Q (.bl (eqb (.lst [.str s, .str s]) (.lst [.str s, .str s]))) S
  rw [e]
  exact q
def sp__law_is_right : WF := fun ds S R => match ds with
  | [d, .bl _, .bl _] => gd d = true ∧ shOk d ∧ (∀ l, d = .tup l → l.length < 400) ∧ R (.bl true) S
  | _ => False
end
end K05

namespace K05
open PySem PySem.Spec L2 Dv
open PyProof.Rows hiding St
section
variable {P : Program} {w : World} {K : PySem.W.Frag} {mg : Str → Option Value} {base : Heap} {DI : Addr → GH → Prop} {k : Nat}
theorem fn__law_is_right (c0 : FnIn P w K mg base DI k ⟨"store_error", 1, sp_store_error, [(0, ["value"], [0])]⟩) (c1 : FnIn P w K mg base DI k ⟨"heap_error", 1, sp_heap_error, [(0, ["value"], [0])]⟩) (c2 : FnIn P w K mg base DI k ⟨"_law_due", 2, sp__law_due, []⟩) (d : Df K mg "_law_is_right" s__law_is_right ["value", "is_store", "is_named"] []) (hb : BlIn mg ["repr"]) : FnIn P w K mg base DI (k + 1) ⟨"_law_is_right", 3, sp__law_is_right, []⟩ := by
  refine fn_mk d sc__law_is_right rfl (fns := [⟨"store_error", 1, sp_store_error, [(0, ["value"], [0])]⟩, ⟨"heap_error", 1, sp_heap_error, [(0, ["value"], [0])]⟩, ⟨"_law_due", 2, sp__law_due, []⟩]) (cs := []) ⟨c0, c1, c2, trivial⟩ trivial hb (fun X o => (s_cons (s_par o 3 4 (a_cons (e_repr o (a_cons (e_var o 0) a_nil)) (a_cons (e_repr o (a_cons (e_call o 2 (a_cons (e_var o 0) (a_cons (e_var o 1) a_nil))) a_nil)) a_nil)))
  (s_cons (s_if (t_tru (e_var o 1))
  (s_cons (s_set o 5 (e_lst (a_cons (e_if (t_tru (e_var o 2)) (e_callK o 0 ["value"] [0] (k_cons (e_var o 0) k_nil)) (e_call o 0 (a_cons (e_var o 0) a_nil))) (a_cons (e_call o 0 (a_cons (e_var o 0) a_nil)) a_nil))))
  s_nil)
  (s_cons (s_set o 5 (e_lst (a_cons (e_if (t_tru (e_var o 2)) (e_callK o 1 ["value"] [0] (k_cons (e_var o 0) k_nil)) (e_call o 1 (a_cons (e_var o 0) a_nil))) (a_cons (e_call o 1 (a_cons (e_var o 0) a_nil)) a_nil))))
  s_nil))
  (s_cons (s_ret (e_and (e_cmp o c_eq (e_lc o [("own", 6)] (i_seq (e_var o 5)) (cg_name 6) (fun Y _ o1 => l_nil) (fun Y _ o1 => (e_repr o1 (a_cons (e_var o1 6) a_nil)))) (e_lst (a_cons (e_var o 4) (a_cons (e_var o 4) a_nil)))) (e_one (e_cmp o c_eq (e_repr o (a_cons (e_var o 0) a_nil)) (e_var o 3)))))
  s_nil)))) ?_
  intro ds S R hl h
  match ds, hl, h with
  | [d, .bl st, .bl nm], _, h =>
    obtain ⟨h1, h2, h4, h3⟩ := h
    have h5 : ∀ l, d = .tup l → l.length < 1000000 := fun l e => by have := h4 l e; omega
    have e1 := gd_noref h1 S
    obtain ⟨s2, s3⟩ := res_sh (res_ok st d h4)
    have e2 := snap_pure s2.1 S
    have pk : pick [d] [0] = [d] := rfl
    show wSeq _ _ _ [some d, some (.bl st), some (.bl nm), none, none, none, none] S
    rw [x_seq]
    simp only [x_back, x_ifT, fnAt, x_lc, x_lcN, x_var, x_C, x_op, x_un, x_slice, x_noPart, x_part, x_tru, x_B, x_chain, x_and, x_or, x_not, x_andV, x_orV, x_notB, x_if, x_nil, x_cons, x_tup, x_lst, x_call, x_callK, x_gN, x_gT, x_gs0, x_gs1, x_yes, x_iSeq, x_iEn, x_words, x_ml, x_disp, x_d0, x_pnil, x_pcons, csAt, List.getD_cons_zero, List.getD_cons_succ, List.getElem?_cons_zero, List.getElem?_cons_succ, List.set_cons_zero, List.set_cons_succ, x_par, fRepr, f1, sp__law_due]
    refine ⟨by rw [e1]; exact h2, h1, h5, by rw [e2]; exact s2, ?_⟩
    rw [e1, e2]
    show wSeq _ _ _ [some d, some (.bl st), some (.bl nm), some (.str (shw d)), some (.str (shw (errD st d))), none, none] S
    have fin : ∀ (R' : D → GS → Prop), R' (.bl true) S → ∀ (acc : List D), acc = [D.str (shw (errD st d)), .str (shw (errD st d))] → oEq (.lst acc) (.lst [.str (shw (errD st d)), .str (shw (errD st d))]) S R' := fun R' q acc e => by
      rw [e]
      exact eq_two s3 q
    have lc : ∀ (Q : List D → GS → Prop), Q [D.str (shw (errD st d)), .str (shw (errD st d))] S → wLcB (wiSeq (wVar 5)) (gN 6) wYes (wCall (f1 fun d S Q => shOk (snap S d) ∧ Q (.str (shw (snap S d))) S) (wCons (wVar 6) wNil)) [6] [some d, some (.bl st), some (.bl nm), some (.str (shw d)), some (.str (shw (errD st d))), some (.lst [errD st d, errD st d]), none] S Q := fun Q q => by
      refine lc_map (ds := [errD st d, errD st d]) (gd := []) (fun x => .str (shw x)) (fun Q q => q) trivial (lzn 2) (fun x m Q q => ?_) q
      have hx : x = errD st d := by simpa using m
      subst hx
      show shOk (snap S (errD st d)) ∧ Q (some (.str (shw (snap S (errD st d))))) S
      rw [e2]
      exact ⟨s2, q⟩
    rw [x_seq]
    cases st <;> cases nm <;> simp only [x_back, x_ifT, fnAt, x_lc, x_lcN, x_var, x_C, x_op, x_un, x_slice, x_noPart, x_part, x_tru, x_B, x_chain, x_and, x_or, x_not, x_andV, x_orV, x_notB, x_if, x_nil, x_cons, x_tup, x_lst, x_call, x_callK, x_gN, x_gT, x_gs0, x_gs1, x_yes, x_iSeq, x_iEn, x_words, x_ml, x_disp, x_d0, x_pnil, x_pcons, csAt, List.getD_cons_zero, List.getD_cons_succ, List.getElem?_cons_zero, List.getElem?_cons_succ, List.set_cons_zero, List.set_cons_succ, x_seq, x_skip, x_ifS, x_ret, x_retN, x_asg, x_par, x_expr, x_brk, x_cnt, List.length_cons, List.length_nil, Nat.reduceAdd, Nat.zero_add, truD, sp_store_error, sp_heap_error, sp_error, pk, fRepr, f1, Bool.false_eq_true, if_false, if_true]
    all_goals refine ⟨h1, h5, h1, h5, lzn 2, lc _ ⟨lzn 2, fin _ ⟨by rw [e1]; exact h2, ?_⟩ _ rfl⟩⟩
    all_goals rw [e1]
    all_goals show R (.bl (decide (shw d = shw d))) S
    all_goals rw [decide_eq_true rfl]
    all_goals exact h3
end
end K05

namespace K05
open PySem PySem.Spec L2 Dv
open PyProof.Rows hiding St
theorem gd_int {a : Int} (h : a.natAbs < 10 ^ 398) : gd (.int a) = true := by
  have h2 : a.natAbs.log2 < 1920 := by
    by_cases h0 : a.natAbs = 0
    · rw [h0]; decide
    · exact (Nat.log2_lt h0).mpr (Nat.lt_of_lt_of_le h (by decide +kernel))
  have e := int_text_length_le10 (k := 398) (by decide) h
  rw [gd]
  unfold lf
  rw [Bool.and_eq_true, decide_eq_true_eq]
  refine ⟨by simpa [PyData.showable] using h2, ?_⟩
  show (Str.ofString (toString a)).length ≤ 400
  rw [PySem.ofString_length]
  omega
/-- cells, addresses rising from above lo; the numbers below 10 ^ 200 -/
def Asc : Int → List (Int × Int) → Prop
  | _, [] => True
  | lo, (a, v) :: r => lo < a ∧ 0 ≤ v ∧ a < 10 ^ 200 ∧ v < 10 ^ 200 ∧ Asc a r
def cellD (p : Int × Int) : D := .tup [.int p.1, .int p.2]
theorem asc_ok : ∀ (l : List (Int × Int)) (lo : Int), 0 ≤ lo → Asc lo l → (∀ x ∈ l.map cellD, heapB x = true ∧ Bd 900 1 x) ∧ ∀ (n : Nat) (p : D), (∃ v, p = cellD (lo, v)) → ordF n p (l.map cellD) = .non
  | [], _, _, _ => ⟨(fun x m => nomatch m), fun _ _ _ => rfl⟩
  | (a, v) :: r, lo, h0, h => by
    obtain ⟨h1, h2, h3, h4, h5⟩ := h
    obtain ⟨i1, i2⟩ := asc_ok r a (by omega) h5
    have pw : (10 : Int) ^ 200 ≤ 10 ^ 398 := by decide +kernel
    have ga : gd (.int a) = true := gd_int (by
      have : ((a.natAbs : Nat) : Int) < ((10 ^ 398 : Nat) : Int) := by
        rw [Int.natAbs_of_nonneg (by omega)]
        exact Int.lt_of_lt_of_le h3 pw
      exact_mod_cast this)
    have gv : gd (.int v) = true := gd_int (by
      have : ((v.natAbs : Nat) : Int) < ((10 ^ 398 : Nat) : Int) := by
        rw [Int.natAbs_of_nonneg h2]
        exact Int.lt_of_lt_of_le h4 pw
      exact_mod_cast this)
    refine ⟨fun x m => ?_, fun n p hp => ?_⟩
    · rcases List.mem_cons.mp m with rfl | m
      · refine ⟨?_, ?_⟩
        · show (decide (1 ≤ a) && decide (0 ≤ v)) = true
          rw [decide_eq_true (by omega), decide_eq_true h2]; rfl
        · refine (Bd.tup (s := 400) (n := 0) (m := 2) (fun y my => ?_) (by simp)).mono (by omega) (by omega)
          simp only [List.mem_cons, List.mem_nil_iff, or_false] at my
          rcases my with rfl | rfl
          · exact ⟨ga, by rw [sz]; exact Nat.le_refl _, by rw [dep]; exact Nat.le_refl _⟩
          · exact ⟨gv, by rw [sz]; exact Nat.le_refl _, by rw [dep]; exact Nat.le_refl _⟩
      · exact i1 x m
    · obtain ⟨u, rfl⟩ := hp
      show (if keyLe (.int a) (.int lo) = true then _ else _) = _
      rw [if_neg (by show ¬ decide (a ≤ lo) = true; rw [decide_eq_true_eq]; omega)]
      exact i2 (n + 1) _ ⟨v, rfl⟩
/-- a tuple that is a heap -/
structure HeapOk (n : Nat) (d : D) : Prop where
  ex : ∃ l : List (Int × Int), d = .tup (l.map cellD) ∧ l.length = n ∧ Asc 0 l
theorem errF_non (st : Bool) (all : List D) : ∀ (r : List D) (n : Nat), (∀ x ∈ r, itemB st x = true) → errF st all n r = ordD all
  | [], _, _ => rfl
  | x :: r, n, h => by
    rw [errF, if_pos (h x (by simp))]
    exact errF_non st all r (n + 1) fun y m => h y (by simp [m])
theorem HeapOk.err {n : Nat} {d : D} (h : HeapOk n d) : errD false d = .non := by
  obtain ⟨l, rfl, _, h1⟩ := h.ex
  obtain ⟨i1, i2⟩ := asc_ok l 0 (Int.le_refl _) h1
  show errF false (l.map cellD) 0 (l.map cellD) = _
  rw [errF_non false _ _ _ fun x m => (i1 x m).1]
  cases l with
  | nil => rfl
  | cons p r =>
    obtain ⟨a, v⟩ := p
    obtain ⟨_, _, _, _, h5⟩ := h1
    exact (asc_ok r a (by omega) h5).2 1 _ ⟨v, rfl⟩
theorem HeapOk.bd {n : Nat} {d : D} (h : HeapOk n d) (hn : n ≤ 300) : Bd 300000 3 d ∧ ∃ xs, d = .tup xs ∧ xs.length = n ∧ ∀ x ∈ xs, Bd 900 1 x := by
  obtain ⟨l, rfl, hl, h1⟩ := h.ex
  obtain ⟨i1, _⟩ := asc_ok l 0 (Int.le_refl _) h1
  exact ⟨(Bd.tup (m := 300) (fun x m => (i1 x m).2) (by rw [List.length_map]; omega)).mono (by omega) (by omega), _, rfl, by rw [List.length_map]; exact hl, fun x m => (i1 x m).2⟩
theorem asc_snoc : ∀ (l : List (Int × Int)) (lo a v : Int), Asc lo l → lo < a → (∀ p ∈ l, p.1 < a) → 0 ≤ v → a < 10 ^ 200 → v < 10 ^ 200 → Asc lo (l ++ [(a, v)])
  | [], _, _, _, _, h1, _, h2, h3, h4 => ⟨h1, h2, h3, h4, trivial⟩
  | (b, u) :: r, lo, a, v, ⟨i1, i2, i3, i4, i5⟩, h1, h5, h2, h3, h4 => ⟨i1, i2, i3, i4, asc_snoc r b a v i5 (h5 (b, u) (by simp)) (fun p m => h5 p (by simp [m])) h2 h3 h4⟩
section
variable {P : Program} {w : World} {K : PySem.W.Frag} {mg : Str → Option Value} {base : Heap} {k : Nat}
def sp__law_heap : WF := fun ds S R => ∃ (dk : Addr) (n : Nat), ds = [.ref dk, .int n] ∧ S.o = some dk ∧ n ≤ 300 ∧ ∀ d S', HeapOk n d → S'.o = some dk → R d S'
theorem fn__law_heap (c1 : FnIn P w K mg base DI k ⟨"_law_pick", 2, sp__law_pick, []⟩) (d : Df K mg "_law_heap" s__law_heap ["deck", "many"] []) (hb : BlIn mg ["range", "tuple"]) : FnIn P w K mg base DI (k + 1) ⟨"_law_heap", 2, sp__law_heap, []⟩ := by
  refine fn_mk d sc__law_heap rfl (fns := [⟨"_law_pick", 2, sp__law_pick, []⟩]) (cs := []) ⟨c1, trivial⟩ trivial hb (fun X o => (s_cons (s_par o 3 4 (a_cons e_int (a_cons (e_lstN a_nil) a_nil)))
  (s_cons (s_for o (i_rg1 o (e_var o 1)) (g_name o 2)
  (s_cons (s_set o 3 (e_add (e_add (e_var o 3) e_int) (e_call o 0 (a_cons (e_var o 0) (a_cons (e_lst (a_cons e_int (a_cons e_int (a_cons e_int (a_cons e_int (a_cons (e_pow e_int e_int) (a_cons (e_pow e_int e_int) a_nil))))))) a_nil)))))
  (s_cons (s_expr (e_append (e_var o 4) (a_cons (e_tup (a_cons (e_var o 3) (a_cons (e_call o 0 (a_cons (e_var o 0) (a_cons (e_lst (a_cons e_int (a_cons (e_var o 3) (a_cons e_int (a_cons (e_add (e_var o 3) e_int) (a_cons (e_pow e_int e_int) a_nil)))))) a_nil))) a_nil))) a_nil)))
  s_nil)))
  (s_cons (s_ret (e_toTup o (a_cons (e_var o 4) a_nil)))
  s_nil)))) ?_
  intro ds S R hl h
  obtain ⟨dk, n, rfl, ho, hn, hR⟩ := h
  show wSeq _ _ _ [some (.ref dk), some (.int n), none, none, none] S
  rw [x_seq]
  simp only [x_back, x_ifT, fnAt, x_lc, x_lcN, x_var, x_C, x_op, x_un, x_slice, x_noPart, x_part, x_tru, x_B, x_chain, x_and, x_or, x_not, x_andV, x_orV, x_notB, x_if, x_nil, x_cons, x_tup, x_lst, x_call, x_callK, x_gN, x_gT, x_gs0, x_gs1, x_yes, x_iSeq, x_iEn, x_words, x_ml, x_disp, x_d0, x_pnil, x_pcons, csAt, List.getD_cons_zero, List.getD_cons_succ, List.getElem?_cons_zero, List.getElem?_cons_succ, List.set_cons_zero, List.set_cons_succ, x_par, x_lstN]
  refine ⟨Nat.zero_le _, fun p hp => ?_⟩
  generalize hS1 : S.set p (.lst []) = S1
  have ho1 : S1.o = some dk := by rw [← hS1]; exact ho
  have hp1 : S1.g p = some (.lst []) := by rw [← hS1, GS.set_same]
  clear hS1
  show wSeq _ _ _ [some (.ref dk), some (.int n), none, some (.int 0), some (.ref p)] S1
  rw [x_seq]
  have rl : (rgD 0 ((n : Int)).toNat).length = n := by rw [rgD_length]; rfl
  refine ⟨n, rfl, by omega, by omega, fun rest ρ S' => S'.o = some dk ∧ (∀ d ∈ rest, ∃ i, d = D.int i) ∧ ∃ (x : Option D) (at' : Int) (l : List (Int × Int)), ρ = [some (.ref dk), some (.int n), x, some (.int at'), some (.ref p)] ∧ S'.g p = some (.lst (l.map cellD)) ∧ l.length + rest.length = n ∧ Asc 0 l ∧ (∀ q ∈ l, q.1 ≤ at') ∧ 0 ≤ at' ∧ at' ≤ (l.length : Int) * (10 ^ 60 + 1), ⟨ho1, rg_int, none, 0, [], rfl, hp1, by rw [rl]; show 0 + n = n; omega, trivial, (fun q m => nomatch m), Int.le_refl _, by show (0 : Int) ≤ 0 * _; omega⟩, ?_, ?_⟩
  · rintro c rest ρ S' ⟨ho', hi, x, at', l, rfl, hp', hlen, hasc, hle, h0, hb'⟩
    refine ⟨trivial, ?_⟩
    show wSeq _ _ _ [some (.ref dk), some (.int n), some c, some (.int at'), some (.ref p)] S'
    rw [List.length_cons] at hlen
    rw [x_seq]
    simp only [x_back, x_ifT, fnAt, x_lc, x_lcN, x_var, x_C, x_op, x_un, x_slice, x_noPart, x_part, x_tru, x_B, x_chain, x_and, x_or, x_not, x_andV, x_orV, x_notB, x_if, x_nil, x_cons, x_tup, x_lst, x_call, x_callK, x_gN, x_gT, x_gs0, x_gs1, x_yes, x_iSeq, x_iEn, x_words, x_ml, x_disp, x_d0, x_pnil, x_pcons, csAt, List.getD_cons_zero, List.getD_cons_succ, List.getElem?_cons_zero, List.getElem?_cons_succ, List.set_cons_zero, List.set_cons_succ, List.length_cons, List.length_nil, Nat.reduceAdd, Nat.zero_add, x_asg, add_int, oPow, oInt]
    refine ⟨⟨by decide, by decide, by decide⟩, ⟨by decide, by decide, by decide⟩, lzn 6, dk, _, _, rfl, ho', rfl, List.cons_ne_nil _ _, by show (6 : Nat) < _; omega, fun y hy => ?_⟩
    obtain ⟨j, rfl, hj0, hj1⟩ : ∃ j : Int, y = .int j ∧ 0 ≤ j ∧ j ≤ 10 ^ 60 := by
      simp only [List.mem_cons, List.mem_nil_iff, or_false] at hy
      rcases hy with rfl | rfl | rfl | rfl | rfl | rfl <;> exact ⟨_, rfl, by decide +kernel, by decide +kernel⟩
    have hb2 : (l.length : Int) ≤ 300 := by omega
    rw [add_int]
    have k1 : at' + 1 ≤ at' + 1 + j := by omega
    have k2 : at' + 1 + j ≤ ((l.length : Int) + 1) * (10 ^ 60 + 1) := by omega
    generalize at' + 1 + j = at2 at *
    have isl : isLs S' (.ref p) = true := by simp only [isLs, hp']
    rw [x_seq]
    simp only [x_back, x_ifT, fnAt, x_lc, x_lcN, x_var, x_C, x_op, x_un, x_slice, x_noPart, x_part, x_tru, x_B, x_chain, x_and, x_or, x_not, x_andV, x_orV, x_notB, x_if, x_nil, x_cons, x_tup, x_lst, x_call, x_callK, x_gN, x_gT, x_gs0, x_gs1, x_yes, x_iSeq, x_iEn, x_words, x_ml, x_disp, x_d0, x_pnil, x_pcons, csAt, List.getD_cons_zero, List.getD_cons_succ, List.getElem?_cons_zero, List.getElem?_cons_succ, List.set_cons_zero, List.set_cons_succ, List.length_cons, List.length_nil, Nat.reduceAdd, Nat.zero_add, x_expr, add_int, oPow, oInt, x_skip]
    refine ⟨isl, ⟨by decide, by decide, by decide⟩, lzn 5, dk, _, _, rfl, ho', rfl, List.cons_ne_nil _ _, by show (5 : Nat) < _; omega, fun y hy => ?_⟩
    have hlim : at2 ≤ 301 * (10 ^ 60 + 1) := by omega
    obtain ⟨v, rfl, hv0, hv1⟩ : ∃ v : Int, y = .int v ∧ 0 ≤ v ∧ v < 10 ^ 200 := by
      simp only [List.mem_cons, List.mem_nil_iff, or_false] at hy
      rcases hy with rfl | rfl | rfl | rfl | rfl
      · exact ⟨_, rfl, by decide, by decide +kernel⟩
      · exact ⟨_, rfl, by omega, by omega⟩
      · exact ⟨_, rfl, by decide, by decide +kernel⟩
      · exact ⟨_, rfl, by omega, by omega⟩
      · exact ⟨_, rfl, by decide +kernel, by decide +kernel⟩
    refine ⟨lzn 2, ?_⟩
    unfold fAppend
    simp only [hp']
    refine ⟨by rw [List.length_map, sizeLine_eq]; omega, ho', fun d m => hi d (by simp [m]), _, at2, l ++ [(at2, v)], rfl, by rw [GS.set_same, List.map_append]; rfl, by rw [List.length_append]; show l.length + 1 + rest.length = n; omega, asc_snoc l 0 at2 v hasc (by omega) (fun q m => by have := hle q m; omega) hv0 (by omega) hv1, fun q m => ?_, by omega, by rw [List.length_append]; show at2 ≤ ((l.length + 1 : Nat) : Int) * _; omega⟩
    rcases List.mem_append.mp m with m | m
    · have := hle q m; omega
    · rw [List.mem_singleton.mp m]; exact Int.le_refl _
  · rintro ρ S' ⟨ho', _, x, at', l, rfl, hp', hlen, hasc, hle, h0, hb'⟩
    refine ⟨trivial, ?_⟩
    dsimp only
    simp only [x_back, x_ifT, fnAt, x_lc, x_lcN, x_var, x_C, x_op, x_un, x_slice, x_noPart, x_part, x_tru, x_B, x_chain, x_and, x_or, x_not, x_andV, x_orV, x_notB, x_if, x_nil, x_cons, x_tup, x_lst, x_call, x_callK, x_gN, x_gT, x_gs0, x_gs1, x_yes, x_iSeq, x_iEn, x_words, x_ml, x_disp, x_d0, x_pnil, x_pcons, csAt, List.getD_cons_zero, List.getD_cons_succ, List.getElem?_cons_zero, List.getElem?_cons_succ, List.set_cons_zero, List.set_cons_succ, x_seq, x_skip, x_ifS, x_ret, x_retN, x_asg, x_par, x_expr, x_brk, x_cnt, tup_ref hp']
    exact hR _ _ ⟨l, rfl, by simpa using hlen, hasc⟩ ho'
end
end K05

namespace K05
open PySem PySem.Spec L2 Dv
open PyProof.Rows hiding St
theorem erase_map {α β : Type} (f : α → β) : ∀ (l : List α) (n : Nat), (l.map f).eraseIdx n = (l.eraseIdx n).map f
  | [], n => by simp
  | x :: r, 0 => rfl
  | x :: r, n + 1 => by rw [List.map_cons, List.eraseIdx_cons_succ, List.eraseIdx_cons_succ, List.map_cons, erase_map f r n]
theorem erase_perm {α : Type} : ∀ (l : List α) (n : Nat) (h : n < l.length), (l[n] :: l.eraseIdx n).Perm l
  | x :: r, 0, _ => .refl _
  | x :: r, n + 1, h => by
    have i := erase_perm r n (Nat.lt_of_succ_lt_succ h)
    rw [List.eraseIdx_cons_succ]
    exact (List.Perm.swap x _ _).trans (i.cons x)
theorem cmp_strs (zs : List Str) (h : ∀ z ∈ zs, PyData.strOk z = true) : cmp? (.lst (zs.map D.str)) = true := by
  have z : pureL (zs.map D.str) = true ∧ nodL (zs.map D.str) = true ∧ depL (zs.map D.str) = 0 := by
    induction zs with
    | nil => exact ⟨rfl, rfl, rfl⟩
    | cons x r ih =>
      have i := ih fun z m => h z (by simp [m])
      simp [pureL, nodL, depL, pure?, nod?, dep, i.1, i.2.1, i.2.2, h x (by simp)]
  simp [cmp?, pure?, nod?, dep, z.1, z.2.1, z.2.2]
theorem ne_ref {S : GS} {p : Addr} {zs : List Str} {Q : D → GS → Prop} (hp : S.g p = some (.lst (zs.map D.str))) (h : ∀ z ∈ zs, PyData.strOk z = true) : oNe (.ref p) (.lst []) S Q = Q (.bl (!zs.isEmpty)) S := by
  unfold oNe
  have e : eqb (.lst (zs.map D.str)) (.lst []) = zs.isEmpty := by rw [eqb_nil]; cases zs <;> rfl
  have c2 : cmp? (.lst []) = true := by decide
  simp only [snap, hp, cmp_strs zs h, e, c2, true_and]
section
variable {P : Program} {w : World} {K : PySem.W.Frag} {mg : Str → Option Value} {base : Heap} {k : Nat}
def sp__law_shuffled : WF := fun ds S R => ∃ (dk : Addr) (zs : List Str), ds = [.ref dk, .lst (zs.map D.str)] ∧ S.o = some dk ∧ zs.length ≤ 1000 ∧ (∀ z ∈ zs, PyData.strOk z = true) ∧ ∀ (p : Addr) (ys : List Str) (S' : GS), ys.Perm zs → S'.g p = some (.lst (ys.map D.str)) → S'.o = some dk → R (.ref p) S'
theorem fn__law_shuffled (c1 : FnIn P w K mg base DI k ⟨"_law_draw", 2, sp__law_draw, []⟩) (d : Df K mg "_law_shuffled" s__law_shuffled ["deck", "items"] []) (hb : BlIn mg ["len", "list"]) : FnIn P w K mg base DI (k + 1) ⟨"_law_shuffled", 2, sp__law_shuffled, []⟩ := by
  refine fn_mk d sc__law_shuffled rfl (fns := [⟨"_law_draw", 2, sp__law_draw, []⟩]) (cs := []) ⟨c1, trivial⟩ trivial hb (fun X o => (s_cons (s_par o 2 3 (a_cons (e_toListN o (a_cons (e_var o 1) a_nil)) (a_cons (e_lstN a_nil) a_nil)))
  (s_cons (s_while o (t_cmp o c_ne (e_var o 2) (e_lst a_nil))
  (s_cons (s_expr (e_append (e_var o 3) (a_cons (e_popAt (e_var o 2) (a_cons (e_call o 0 (a_cons (e_var o 0) (a_cons (e_len o (a_cons (e_var o 2) a_nil)) a_nil))) a_nil)) a_nil)))
  s_nil))
  (s_cons (s_ret (e_var o 3))
  s_nil)))) ?_
  intro ds S R hl h
  obtain ⟨dk, zs, rfl, ho, hn, hok, hR⟩ := h
  show wSeq _ _ _ [some (.ref dk), some (.lst (zs.map D.str)), none, none] S
  rw [x_seq]
  simp only [x_back, x_ifT, fnAt, x_lc, x_lcN, x_var, x_C, x_op, x_un, x_slice, x_noPart, x_part, x_tru, x_B, x_chain, x_and, x_or, x_not, x_andV, x_orV, x_notB, x_if, x_nil, x_cons, x_tup, x_lst, x_call, x_callK, x_gN, x_gT, x_gs0, x_gs1, x_yes, x_iSeq, x_iEn, x_words, x_ml, x_disp, x_d0, x_pnil, x_pcons, csAt, List.getD_cons_zero, List.getD_cons_succ, List.getElem?_cons_zero, List.getElem?_cons_succ, List.set_cons_zero, List.set_cons_succ, x_par, x_lstN]
  intro pl hpl
  refine ⟨Nat.zero_le _, fun pr hpr => ?_⟩
  have ne : pr ≠ pl := fun z => by
    rw [z, GS.set_same] at hpr
    cases hpr
  generalize hS1 : (S.set pl (.lst (zs.map D.str))).set pr (.lst []) = S1
  have ho1 : S1.o = some dk := by rw [← hS1]; exact ho
  have h1 : S1.g pl = some (.lst (zs.map D.str)) := by rw [← hS1, GS.set_ne ne.symm, GS.set_same]
  have h2 : S1.g pr = some (.lst ([].map D.str)) := by rw [← hS1, GS.set_same]; rfl
  clear hS1
  show wSeq _ _ _ [some (.ref dk), some (.lst (zs.map D.str)), some (.ref pl), some (.ref pr)] S1
  rw [x_seq]
  refine ⟨fun m ρ S' => S'.o = some dk ∧ ∃ ls rs : List Str, m = ls.length ∧ ρ = [some (.ref dk), some (.lst (zs.map D.str)), some (.ref pl), some (.ref pr)] ∧ S'.g pl = some (.lst (ls.map D.str)) ∧ S'.g pr = some (.lst (rs.map D.str)) ∧ (ls ++ rs).Perm zs, ⟨zs.length, ho1, zs, [], rfl, rfl, h1, h2, by rw [List.append_nil]⟩, ?_⟩
  rintro m ρ S' ⟨ho', ls, rs, rfl, rfl, g1, g2, hp⟩
  have hok' : ∀ z ∈ ls, PyData.strOk z = true := fun z m => hok z (hp.subset (List.mem_append_left _ m))
  have hlen : ls.length + rs.length = zs.length := by have := hp.length_eq; rw [List.length_append] at this; exact this
  simp only [x_back, x_ifT, fnAt, x_lc, x_lcN, x_var, x_C, x_op, x_un, x_slice, x_noPart, x_part, x_tru, x_B, x_chain, x_and, x_or, x_not, x_andV, x_orV, x_notB, x_if, x_nil, x_cons, x_tup, x_lst, x_call, x_callK, x_gN, x_gT, x_gs0, x_gs1, x_yes, x_iSeq, x_iEn, x_words, x_ml, x_disp, x_d0, x_pnil, x_pcons, csAt, List.getD_cons_zero, List.getD_cons_succ, List.getElem?_cons_zero, List.getElem?_cons_succ, List.set_cons_zero, List.set_cons_succ, ne_ref g1 hok']
  refine ⟨Nat.zero_le _, ?_⟩
  cases ls with
  | nil =>
    rw [if_neg (show ¬ (!([] : List Str).isEmpty) = true by decide)]
    simp only [x_back, x_ifT, fnAt, x_lc, x_lcN, x_var, x_C, x_op, x_un, x_slice, x_noPart, x_part, x_tru, x_B, x_chain, x_and, x_or, x_not, x_andV, x_orV, x_notB, x_if, x_nil, x_cons, x_tup, x_lst, x_call, x_callK, x_gN, x_gT, x_gs0, x_gs1, x_yes, x_iSeq, x_iEn, x_words, x_ml, x_disp, x_d0, x_pnil, x_pcons, csAt, List.getD_cons_zero, List.getD_cons_succ, List.getElem?_cons_zero, List.getElem?_cons_succ, List.set_cons_zero, List.set_cons_succ, x_seq, x_skip, x_ifS, x_ret, x_retN, x_asg, x_par, x_expr, x_brk, x_cnt]
    exact hR pr rs S' hp g2 ho'
  | cons x0 r0 =>
    rw [if_pos (show (!(x0 :: r0).isEmpty) = true from rfl)]
    generalize hls : x0 :: r0 = ls at *
    have hl0 : 0 < ls.length := by rw [← hls]; simp
    have is1 : isLs S' (.ref pl) = true := by simp only [isLs, g1]
    have is2 : isLs S' (.ref pr) = true := by simp only [isLs, g2]
    have hq : asQ S' (.ref pl) = some (ls.map D.str) := by simp only [asQ, asL, g1]
    simp only [x_back, x_ifT, fnAt, x_lc, x_lcN, x_var, x_C, x_op, x_un, x_slice, x_noPart, x_part, x_tru, x_B, x_chain, x_and, x_or, x_not, x_andV, x_orV, x_notB, x_if, x_nil, x_cons, x_tup, x_lst, x_call, x_callK, x_gN, x_gT, x_gs0, x_gs1, x_yes, x_iSeq, x_iEn, x_words, x_ml, x_disp, x_d0, x_pnil, x_pcons, csAt, List.getD_cons_zero, List.getD_cons_succ, List.getElem?_cons_zero, List.getElem?_cons_succ, List.set_cons_zero, List.set_cons_succ, x_seq, x_skip, x_ifS, x_ret, x_retN, x_asg, x_par, x_expr, x_brk, x_cnt, fLen, f1, len_seq hq]
    refine ⟨is2, is1, dk, _, rfl, ho', by rw [List.length_map]; omega, fun n hn' => ?_⟩
    rw [List.length_map] at hn'
    have hn2 : n < ls.length := by omega
    unfold fPopAt
    simp only [g1]
    refine ⟨by omega, by omega, .str ls[n], by rw [Int.toNat_natCast, List.getElem?_map, List.getElem?_eq_getElem hn2]; rfl, ?_⟩
    unfold fAppend
    simp only [GS.set_ne ne, g2]
    refine ⟨by rw [List.length_map, sizeLine_eq]; omega, (ls.eraseIdx n).length, by rw [List.length_eraseIdx_of_lt hn2]; omega, ho', ls.eraseIdx n, rs ++ [ls[n]], (by first | rfl | trivial), (by first | rfl | trivial), ?_, ?_, ?_⟩
    · rw [GS.set_ne ne.symm, GS.set_same, Int.toNat_natCast, erase_map]
    · rw [GS.set_same, List.map_append]; rfl
    · have p1 : (ls[n] :: ls.eraseIdx n).Perm ls := erase_perm ls n hn2
      refine List.Perm.trans ?_ hp
      have p2 : (ls.eraseIdx n ++ (rs ++ [ls[n]])).Perm ((ls[n] :: ls.eraseIdx n) ++ rs) := by
        rw [← List.append_assoc]
        refine (List.perm_append_singleton _ _).trans ?_
        exact List.Perm.refl _
      exact p2.trans (p1.append_right rs)
/-! ### stores -/
def poolS : List Str := ["x", "y", "z", "result", "abcdefgh", "b", "aa", "nilx", "cellar"]
def pairD (p : Str × Int) : D := .tup [.str p.1, .int p.2]
def RiseS : List (Str × Int) → Prop
  | (a, _) :: (b, v) :: r => ltS a b = true ∧ RiseS ((b, v) :: r)
  | _ => True
structure StoreOk (d : D) : Prop where
  ex : ∃ l : List (Str × Int), d = .tup (l.map pairD) ∧ l.length ≤ 9 ∧ (∀ p ∈ l, p.1 ∈ poolS ∧ 0 ≤ p.2 ∧ p.2 < 10 ^ 200) ∧ RiseS l
theorem pool_ok : ∀ x ∈ poolS, toldB (.str x) = true ∧ gd (.str x) = true ∧ PyData.strOk x = true := fun x m => by
  have h : poolS.all (fun x => toldB (.str x) && (gd (.str x) && PyData.strOk x)) = true := by decide +kernel
  have := List.all_eq_true.mp h x m
  simp only [Bool.and_eq_true] at this
  exact ⟨this.1, this.2.1, this.2.2⟩
theorem pool_lt : ∀ x ∈ poolS, ∀ y ∈ poolS, x ≠ y → (!ltCps y.cps.toList x.cps.toList) = true → ltS x y = true := fun x mx y my ne h => by
  have a : poolS.all (fun x => poolS.all fun y => decide (x = y) || (ltCps y.cps.toList x.cps.toList || ltS x y)) = true := by decide +kernel
  have := List.all_eq_true.mp (List.all_eq_true.mp a x mx) y my
  rw [decide_eq_false ne, Bool.false_or] at this
  cases c : ltCps y.cps.toList x.cps.toList with
  | true => rw [c] at h; cases h
  | false => rw [c, Bool.false_or] at this; exact this
theorem gd_nn {v : Int} (h0 : 0 ≤ v) (h : v < 10 ^ 200) : gd (.int v) = true := gd_int (by
  have pw : (10 : Int) ^ 200 ≤ ((10 ^ 398 : Nat) : Int) := by decide +kernel
  have : ((v.natAbs : Nat) : Int) < ((10 ^ 398 : Nat) : Int) := by
    rw [Int.natAbs_of_nonneg h0]
    exact Int.lt_of_lt_of_le h pw
  exact_mod_cast this)
theorem rise_ord : ∀ (l : List (Str × Int)) (n : Nat) (p : Str × Int), RiseS (p :: l) → ordF n (pairD p) (l.map pairD) = .non
  | [], _, _, _ => rfl
  | q :: r, n, p, h => by
    obtain ⟨h1, h2⟩ := h
    show (if keyLe (.str q.1) (.str p.1) = true then _ else _) = _
    rw [if_neg (by show ¬ (!ltS p.1 q.1) = true; rw [h1]; decide)]
    exact rise_ord r (n + 1) q h2
theorem StoreOk.err {d : D} (h : StoreOk d) : errD true d = .non := by
  obtain ⟨l, rfl, _, h1, h2⟩ := h.ex
  show errF true (l.map pairD) 0 (l.map pairD) = _
  rw [errF_non true _ _ _ fun x m => by
    obtain ⟨p, mp, rfl⟩ := List.mem_map.mp m
    obtain ⟨a, b, c⟩ := h1 p mp
    show (toldB (.str p.1) && decide ((0 : Int) ≤ p.2)) = true
    rw [(pool_ok _ a).1, decide_eq_true b]; rfl]
  cases l with
  | nil => rfl
  | cons p r => exact rise_ord r 1 p h2
theorem StoreOk.bd {d : D} (h : StoreOk d) : Bd 300000 3 d ∧ ∃ xs, d = .tup xs ∧ xs.length ≤ 9 ∧ ∀ x ∈ xs, Bd 900 1 x := by
  obtain ⟨l, rfl, hl, h1, _⟩ := h.ex
  have b : ∀ x ∈ l.map pairD, Bd 900 1 x := fun x m => by
    obtain ⟨p, mp, rfl⟩ := List.mem_map.mp m
    obtain ⟨a, b, c⟩ := h1 p mp
    refine (Bd.tup (s := 400) (n := 0) (m := 2) (fun y my => ?_) (by simp)).mono (by omega) (by omega)
    simp only [List.mem_cons, List.mem_nil_iff, or_false] at my
    rcases my with rfl | rfl
    · exact bd_str (pool_ok _ a).2.1 (by omega)
    · exact ⟨gd_nn b c, by rw [sz]; exact Nat.le_refl _, by rw [dep]; exact Nat.le_refl _⟩
  exact ⟨(Bd.tup (m := 9) b (by rw [List.length_map]; exact hl)).mono (by omega) (by omega), _, rfl, by rw [List.length_map]; exact hl, b⟩
end
end K05

namespace K05
open PySem PySem.Spec L2 Dv
open PyProof.Rows hiding St
theorem strsOf_map : ∀ zs : List Str, strsOf (zs.map D.str) = some zs
  | [] => rfl
  | z :: r => by rw [List.map_cons, strsOf, strsOf_map r]; rfl
theorem cut_map (zs : List Str) (lo hi : Option Int) : ∃ ws : List Str, Dv.cutD (zs.map D.str) lo hi = ws.map D.str ∧ ws.Sublist zs := by
  unfold Dv.cutD
  exact ⟨_, by rw [← List.map_drop, ← List.map_take], (List.take_sublist _ _).trans (List.drop_sublist _ _)⟩
/-- names rising, values: the pairs are a store -/
theorem rise_of : ∀ (us : List Str) (ls : List (Str × Int)), sortedS us = true → us.Nodup → (∀ u ∈ us, u ∈ poolS) → ls.map (·.1) = us → RiseS ls
  | [], ls, _, _, _, e => by
    cases ls with
    | nil => trivial
    | cons p r => cases e
  | [u], ls, _, _, _, e => by
    cases ls with
    | nil => cases e
    | cons p r =>
      cases r with
      | nil => trivial
      | cons q r => cases e
  | u :: v :: us, ls, h, hn, hp, e => by
    match ls, e with
    | (a, x) :: (b, y) :: r, e =>
      rw [List.map_cons, List.map_cons] at e
      injection e with e1 e
      injection e with e2 e3
      subst e1 e2
      have h' : (!ltCps b.cps.toList a.cps.toList && risingS b us) = true := h
      rw [Bool.and_eq_true] at h'
      have hn' := List.nodup_cons.mp hn
      refine ⟨pool_lt a (hp a (by simp)) b (hp b (by simp)) (fun z => hn'.1 (by rw [z]; simp)) h'.1, ?_⟩
      exact rise_of (b :: us) ((b, y) :: r) h'.2 hn'.2 (fun u m => hp u (by simp [m])) (by rw [List.map_cons, e3])
section
variable {P : Program} {w : World} {K : PySem.W.Frag} {mg : Str → Option Value} {base : Heap} {k : Nat}
def sp__law_store : WF := fun ds S R => ∃ dk : Addr, ds = [.ref dk] ∧ S.o = some dk ∧ ∀ (d : D) (S' : GS), StoreOk d → S'.o = some dk → R d S'
theorem fn__law_store (c1 : FnIn P w K mg base DI k ⟨"_law_pick", 2, sp__law_pick, []⟩) (c2 : FnIn P w K mg base DI k ⟨"_law_shuffled", 2, sp__law_shuffled, []⟩) (c3 : FnIn P w K mg base DI k ⟨"_law_draw", 2, sp__law_draw, []⟩) (d : Df K mg "_law_store" s__law_store ["deck"] []) (hb : BlIn mg ["sorted", "tuple"]) : FnIn P w K mg base DI (k + 1) ⟨"_law_store", 1, sp__law_store, []⟩ := by
  refine fn_mk d sc__law_store rfl (fns := [⟨"_law_pick", 2, sp__law_pick, []⟩, ⟨"_law_shuffled", 2, sp__law_shuffled, []⟩, ⟨"_law_draw", 2, sp__law_draw, []⟩]) (cs := []) ⟨c1, c2, c3, trivial⟩ trivial hb (fun X o => (s_cons (s_set o 1 (e_lst (a_cons e_str (a_cons e_str (a_cons e_str (a_cons e_str (a_cons e_str (a_cons e_str (a_cons e_str (a_cons e_str (a_cons e_str a_nil)))))))))))
  (s_cons (s_set o 2 (e_sortS o (a_cons (e_slice (e_call o 1 (a_cons (e_var o 0) (a_cons (e_var o 1) a_nil))) p_none (p_some (e_call o 2 (a_cons (e_var o 0) (a_cons e_int a_nil))))) a_nil)))
  (s_cons (s_ret (e_toTup o (a_cons (e_lc o [("name", 3)] (i_seq (e_var o 2)) (cg_name 3) (fun Y _ o1 => l_nil) (fun Y _ o1 => (e_tup (a_cons (e_var o1 3) (a_cons (e_call o1 0 (a_cons (e_var o1 0) (a_cons (e_lst (a_cons e_int (a_cons e_int (a_cons e_int (a_cons e_int (a_cons (e_pow e_int e_int) (a_cons (e_pow e_int e_int) a_nil))))))) a_nil))) a_nil))))) a_nil)))
  s_nil)))) ?_
  intro ds S R hl h
  obtain ⟨dk, rfl, ho, hR⟩ := h
  show wSeq _ _ _ [some (.ref dk), none, none, none] S
  rw [x_seq]
  simp only [x_back, x_ifT, fnAt, x_lc, x_lcN, x_var, x_C, x_op, x_un, x_slice, x_noPart, x_part, x_tru, x_B, x_chain, x_and, x_or, x_not, x_andV, x_orV, x_notB, x_if, x_nil, x_cons, x_tup, x_lst, x_call, x_callK, x_gN, x_gT, x_gs0, x_gs1, x_yes, x_iSeq, x_iEn, x_words, x_ml, x_disp, x_d0, x_pnil, x_pcons, csAt, List.getD_cons_zero, List.getD_cons_succ, List.getElem?_cons_zero, List.getElem?_cons_succ, List.set_cons_zero, List.set_cons_succ, List.length_cons, List.length_nil, Nat.reduceAdd, Nat.zero_add, x_asg]
  refine ⟨lzn 9, ?_⟩
  show wSeq _ _ _ [some (.ref dk), some (.lst (poolS.map D.str)), none, none] S
  rw [x_seq]
  simp only [x_back, x_ifT, fnAt, x_lc, x_lcN, x_var, x_C, x_op, x_un, x_slice, x_noPart, x_part, x_tru, x_B, x_chain, x_and, x_or, x_not, x_andV, x_orV, x_notB, x_if, x_nil, x_cons, x_tup, x_lst, x_call, x_callK, x_gN, x_gT, x_gs0, x_gs1, x_yes, x_iSeq, x_iEn, x_words, x_ml, x_disp, x_d0, x_pnil, x_pcons, csAt, List.getD_cons_zero, List.getD_cons_succ, List.getElem?_cons_zero, List.getElem?_cons_succ, List.set_cons_zero, List.set_cons_succ, List.length_cons, List.length_nil, Nat.reduceAdd, Nat.zero_add, x_asg]
  refine ⟨dk, poolS, rfl, ho, by decide, fun z m => (pool_ok z m).2.2, fun p ys S' hp g ho' => ?_⟩
  refine ⟨dk, _, rfl, ho', by decide, fun n hn => ?_⟩
  have hsl : asL S' (.ref p) = some (ys.map D.str) := by simp only [asL, g]
  simp only [hsl]
  obtain ⟨ws, e1, e2⟩ := cut_map ys none (some (n : Int))
  have hwl : ws.length ≤ 9 := by
    have := e2.length_le
    rw [hp.length_eq] at this
    exact this
  show (match strsOf (Dv.cutD (ys.map D.str) none (some (n : Int))) with
    | some zs => zs.length < 64 ∧ ∀ ys : List Str, ys.Perm zs → sortedS ys = true → _
    | none => False)
  rw [e1, strsOf_map]
  refine ⟨by omega, fun us hu1 hu2 => ?_⟩
  have nd : us.Nodup := hu1.nodup_iff.mpr (e2.nodup (hp.nodup_iff.mpr (by decide +kernel)))
  have inP : ∀ u ∈ us, u ∈ poolS := fun u m => hp.subset (e2.subset (hu1.subset m))
  have hul : us.length ≤ 9 := by rw [hu1.length_eq]; exact hwl
  show wSeq _ _ _ [some (.ref dk), some (.lst (poolS.map D.str)), some (.lst (us.map D.str)), none] S'
  rw [x_seq]
  simp only [x_back, x_ifT, fnAt, x_lc, x_lcN, x_var, x_C, x_op, x_un, x_slice, x_noPart, x_part, x_tru, x_B, x_chain, x_and, x_or, x_not, x_andV, x_orV, x_notB, x_if, x_nil, x_cons, x_tup, x_lst, x_call, x_callK, x_gN, x_gT, x_gs0, x_gs1, x_yes, x_iSeq, x_iEn, x_words, x_ml, x_disp, x_d0, x_pnil, x_pcons, csAt, List.getD_cons_zero, List.getD_cons_succ, List.getElem?_cons_zero, List.getElem?_cons_succ, List.set_cons_zero, List.set_cons_succ, x_seq, x_skip, x_ifS, x_ret, x_retN, x_asg, x_par, x_expr, x_brk, x_cnt, List.length_cons, List.length_nil, Nat.reduceAdd, Nat.zero_add, f1]
  refine lc_run (ds := us.map D.str) (gd := []) (fun d o => ∃ (x : Str) (v : Int), d = .str x ∧ o = some (pairD (x, v)) ∧ 0 ≤ v ∧ v < 10 ^ 200) (fun Q q => q) trivial (by rw [List.length_map]; exact lzn _ (by omega)) (fun d m Q q => ?_) fun os hos hT => ?_
  · obtain ⟨x, mx, rfl⟩ := List.mem_map.mp m
    refine ⟨⟨by decide, by decide, by decide⟩, ⟨by decide, by decide, by decide⟩, lzn 6, dk, _, _, rfl, ho', rfl, List.cons_ne_nil _ _, by show (6 : Nat) < _; omega, fun y hy => ?_⟩
    obtain ⟨v, rfl, h0, h1⟩ : ∃ v : Int, y = .int v ∧ 0 ≤ v ∧ v < 10 ^ 200 := by
      simp only [List.mem_cons, List.mem_nil_iff, or_false] at hy
      rcases hy with rfl | rfl | rfl | rfl | rfl | rfl <;> exact ⟨_, rfl, by decide +kernel, by decide +kernel⟩
    exact ⟨lzn 2, q _ ⟨x, v, rfl, rfl, h0, h1⟩⟩
  · have : ∀ (us : List Str) (os : List (Option D)), os.length = us.length → (∀ (i : Nat) (d : D) (o : Option D), (us.map D.str)[i]? = some d → os[i]? = some o → ∃ (x : Str) (v : Int), d = .str x ∧ o = some (pairD (x, v)) ∧ 0 ≤ v ∧ v < 10 ^ 200) → ∃ ls : List (Str × Int), os.filterMap id = ls.map pairD ∧ ls.map (·.1) = us ∧ ∀ p ∈ ls, 0 ≤ p.2 ∧ p.2 < 10 ^ 200 := fun us => by
      induction us with
      | nil =>
        intro os h _
        have : os = [] := List.length_eq_zero_iff.mp h
        subst this
        exact ⟨[], rfl, rfl, fun p m => nomatch m⟩
      | cons u r ih =>
        intro os h hT
        cases os with
        | nil => cases h
        | cons o os =>
          obtain ⟨ls, i1, i2, i3⟩ := ih os (by simpa using h) fun i d o' a b => hT (i + 1) d o' (by simpa using a) (by simpa using b)
          obtain ⟨x, v, e, rfl, h0, h1⟩ := hT 0 (.str u) o rfl rfl
          cases e
          refine ⟨(u, v) :: ls, by rw [List.filterMap_cons]; simp [i1], by rw [List.map_cons, i2], fun p m => ?_⟩
          rcases List.mem_cons.mp m with rfl | m
          · exact ⟨h0, h1⟩
          · exact i3 p m
    obtain ⟨ls, i1, i2, i3⟩ := this us os (by simpa using hos) hT
    rw [tup_lst, i1]
    refine hR _ _ ⟨ls, rfl, ?_, fun p m => ⟨?_, i3 p m⟩, rise_of us ls hu2 nd inP i2⟩ ho'
    · have := congrArg List.length i2
      rw [List.length_map] at this
      omega
    · exact inP p.1 (by rw [← i2]; exact List.mem_map_of_mem m)
end
end K05

namespace K05
open PySem PySem.Spec L2 Dv
open PyProof.Rows hiding St
def beginsL : List D := [.str "nil", .str "result", .str "cell", .str "X", .str "", .str "abcdefghi", .int 0, .int 1, .non, .bl true, .str "x ", .tup [.str "x"], .int (10 ^ Int.toNat 60), .int (-1), .bl false] ++ [.str "is", .str "x\n", .str "\nx", .lst [.str "x"], .dct []]
def valuesL : List D := [.int (-1), .bl true, .bl false, .non, .str "0", .tup [.int 0], .int 0, .int (10 ^ Int.toNat 60), .str "nil"]
theorem begins_bd : ∀ y ∈ beginsL, Bd 500 2 y := fun y m => by
  have h : beginsL.all (bdB 500 2) = true := by decide +kernel
  exact bd_of (List.all_eq_true.mp h y m)
theorem values_bd : ∀ y ∈ valuesL, Bd 500 2 y := fun y m => by
  have h : valuesL.all (bdB 500 2) = true := by decide +kernel
  exact bd_of (List.all_eq_true.mp h y m)
theorem bd2 {a b : D} (ha : Bd 500 2 a) (hb : Bd 500 2 b) : Bd 5000 5 (.tup [a, b]) := (Bd.tup (s := 500) (n := 2) (m := 2) (fun y m => by
  simp only [List.mem_cons, List.mem_nil_iff, or_false] at m
  rcases m with rfl | rfl
  · exact ha
  · exact hb) (by simp)).mono (by omega) (by omega)
section
variable {P : Program} {w : World} {K : PySem.W.Frag} {mg : Str → Option Value} {base : Heap} {k : Nat}
def sp__law_odd_item : WF := fun ds S R => ∃ (dk : Addr) (a b : D) (st : Bool), ds = [.ref dk, .tup [a, b], .bl st] ∧ S.o = some dk ∧ Bd 500 2 a ∧ Bd 500 2 b ∧ ∀ y, Bd 5000 5 y → R y S
theorem fn__law_odd_item (c1 : FnIn P w K mg base DI k ⟨"_law_pick", 2, sp__law_pick, []⟩) (d : Df K mg "_law_odd_item" s__law_odd_item ["deck", "own", "is_store"] []) : FnIn P w K mg base DI (k + 1) ⟨"_law_odd_item", 3, sp__law_odd_item, []⟩ := by
  refine fn_mk d sc__law_odd_item rfl (fns := [⟨"_law_pick", 2, sp__law_pick, []⟩]) (cs := []) (bl := []) ⟨c1, trivial⟩ trivial (fun x h => by cases h) (fun X o => (s_cons (s_asg (e_var o 1) (g_tup o 2 (g_cons (g_name o 6) (g_cons (g_name o 7) g_nil))))
  (s_cons (s_set o 3 (e_lst (a_cons e_str (a_cons e_str (a_cons e_str (a_cons e_str (a_cons e_str (a_cons e_str (a_cons e_int (a_cons e_int (a_cons e_non (a_cons e_tt (a_cons e_str (a_cons (e_tup (a_cons e_str a_nil)) (a_cons (e_pow e_int e_int) (a_cons (e_neg e_int) (a_cons e_tt a_nil)))))))))))))))))
  (s_cons (s_set o 3 (e_add (e_var o 3) (e_lst (a_cons e_str (a_cons e_str (a_cons e_str (a_cons (e_lst (a_cons e_str a_nil)) (a_cons e_d0 a_nil))))))))
  (s_cons (s_set o 4 (e_lst (a_cons (e_neg e_int) (a_cons e_tt (a_cons e_tt (a_cons e_non (a_cons e_str (a_cons (e_tup (a_cons e_int a_nil)) (a_cons e_int (a_cons (e_pow e_int e_int) (a_cons e_str a_nil)))))))))))
  (s_cons (s_set o 5 (e_lst (a_cons (e_tup (a_cons (e_call o 0 (a_cons (e_var o 0) (a_cons (e_var o 3) a_nil))) (a_cons (e_var o 7) a_nil))) (a_cons (e_tup (a_cons (e_var o 6) (a_cons (e_call o 0 (a_cons (e_var o 0) (a_cons (e_var o 4) a_nil))) a_nil))) (a_cons (e_lst (a_cons (e_var o 6) (a_cons (e_var o 7) a_nil))) (a_cons (e_tup (a_cons (e_var o 6) a_nil)) (a_cons (e_add (e_var o 1) (e_tup (a_cons e_int a_nil))) a_nil)))))))
  (s_cons (s_ret (e_call o 0 (a_cons (e_var o 0) (a_cons (e_add (e_var o 5) (e_lst (a_cons (e_tup (a_cons (e_var o 7) (a_cons (e_var o 6) a_nil))) (a_cons e_non (a_cons (e_tup a_nil) (a_cons (e_tup (a_cons (e_var o 6) (a_cons (e_var o 6) a_nil))) (a_cons (e_tup (a_cons (e_call o 0 (a_cons (e_var o 0) (a_cons (e_var o 3) a_nil))) (a_cons (e_var o 7) a_nil))) a_nil))))))) a_nil))))
  s_nil))))))) ?_
  intro ds S R hl h
  obtain ⟨dk, a, b, st, rfl, ho, ha, hb, hR⟩ := h
  show wSeq _ _ _ [some (.ref dk), some (.tup [a, b]), some (.bl st), none, none, none, none, none] S
  rw [x_seq]
  simp only [x_back, x_ifT, fnAt, x_lc, x_lcN, x_var, x_C, x_op, x_un, x_slice, x_noPart, x_part, x_tru, x_B, x_chain, x_and, x_or, x_not, x_andV, x_orV, x_notB, x_if, x_nil, x_cons, x_tup, x_lst, x_call, x_callK, x_gN, x_gT, x_gs0, x_gs1, x_yes, x_iSeq, x_iEn, x_words, x_ml, x_disp, x_d0, x_pnil, x_pcons, csAt, List.getD_cons_zero, List.getD_cons_succ, List.getElem?_cons_zero, List.getElem?_cons_succ, List.set_cons_zero, List.set_cons_succ, x_asg]
  refine ⟨by trivial, by trivial, ?_⟩
  rw [x_seq]
  simp only [x_back, x_ifT, fnAt, x_lc, x_lcN, x_var, x_C, x_op, x_un, x_slice, x_noPart, x_part, x_tru, x_B, x_chain, x_and, x_or, x_not, x_andV, x_orV, x_notB, x_if, x_nil, x_cons, x_tup, x_lst, x_call, x_callK, x_gN, x_gT, x_gs0, x_gs1, x_yes, x_iSeq, x_iEn, x_words, x_ml, x_disp, x_d0, x_pnil, x_pcons, csAt, List.getD_cons_zero, List.getD_cons_succ, List.getElem?_cons_zero, List.getElem?_cons_succ, List.set_cons_zero, List.set_cons_succ, List.length_cons, List.length_nil, Nat.reduceAdd, Nat.zero_add, x_asg, oPow, oInt, oNeg]
  refine ⟨lzn 1, ⟨by decide, by decide, by decide⟩, lzn 15, ?_⟩
  rw [x_seq]
  simp only [x_back, x_ifT, fnAt, x_lc, x_lcN, x_var, x_C, x_op, x_un, x_slice, x_noPart, x_part, x_tru, x_B, x_chain, x_and, x_or, x_not, x_andV, x_orV, x_notB, x_if, x_nil, x_cons, x_tup, x_lst, x_call, x_callK, x_gN, x_gT, x_gs0, x_gs1, x_yes, x_iSeq, x_iEn, x_words, x_ml, x_disp, x_d0, x_pnil, x_pcons, csAt, List.getD_cons_zero, List.getD_cons_succ, List.getElem?_cons_zero, List.getElem?_cons_succ, List.set_cons_zero, List.set_cons_succ, List.length_cons, List.length_nil, Nat.reduceAdd, Nat.zero_add, x_asg, add_lst]
  refine ⟨lzn 1, lzn 5, lzn 20, ?_⟩
  show wSeq _ _ _ [some (.ref dk), some (.tup [a, b]), some (.bl st), some (.lst beginsL), none, none, some a, some b] S
  rw [x_seq]
  simp only [x_back, x_ifT, fnAt, x_lc, x_lcN, x_var, x_C, x_op, x_un, x_slice, x_noPart, x_part, x_tru, x_B, x_chain, x_and, x_or, x_not, x_andV, x_orV, x_notB, x_if, x_nil, x_cons, x_tup, x_lst, x_call, x_callK, x_gN, x_gT, x_gs0, x_gs1, x_yes, x_iSeq, x_iEn, x_words, x_ml, x_disp, x_d0, x_pnil, x_pcons, csAt, List.getD_cons_zero, List.getD_cons_succ, List.getElem?_cons_zero, List.getElem?_cons_succ, List.set_cons_zero, List.set_cons_succ, List.length_cons, List.length_nil, Nat.reduceAdd, Nat.zero_add, x_asg, oPow, oInt, oNeg]
  refine ⟨lzn 1, ⟨by decide, by decide, by decide⟩, lzn 9, ?_⟩
  show wSeq _ _ _ [some (.ref dk), some (.tup [a, b]), some (.bl st), some (.lst beginsL), some (.lst valuesL), none, some a, some b] S
  rw [x_seq]
  simp only [x_back, x_ifT, fnAt, x_lc, x_lcN, x_var, x_C, x_op, x_un, x_slice, x_noPart, x_part, x_tru, x_B, x_chain, x_and, x_or, x_not, x_andV, x_orV, x_notB, x_if, x_nil, x_cons, x_tup, x_lst, x_call, x_callK, x_gN, x_gT, x_gs0, x_gs1, x_yes, x_iSeq, x_iEn, x_words, x_ml, x_disp, x_d0, x_pnil, x_pcons, csAt, List.getD_cons_zero, List.getD_cons_succ, List.getElem?_cons_zero, List.getElem?_cons_succ, List.set_cons_zero, List.set_cons_succ, List.length_cons, List.length_nil, Nat.reduceAdd, Nat.zero_add, x_asg, add_tup]
  refine ⟨dk, _, beginsL, rfl, ho, rfl, List.cons_ne_nil _ _, by show (20 : Nat) < _; omega, fun p1 hp1 => ⟨lzn 2, dk, _, valuesL, rfl, ho, rfl, List.cons_ne_nil _ _, by show (9 : Nat) < _; omega, fun p2 hp2 => ⟨lzn 2, lzn 2, lzn 1, lzn 1, lzn 3, lzn 5, ?_⟩⟩⟩
  have b1 := begins_bd p1 hp1
  have b2 := values_bd p2 hp2
  rw [x_seq]
  simp only [x_back, x_ifT, fnAt, x_lc, x_lcN, x_var, x_C, x_op, x_un, x_slice, x_noPart, x_part, x_tru, x_B, x_chain, x_and, x_or, x_not, x_andV, x_orV, x_notB, x_if, x_nil, x_cons, x_tup, x_lst, x_call, x_callK, x_gN, x_gT, x_gs0, x_gs1, x_yes, x_iSeq, x_iEn, x_words, x_ml, x_disp, x_d0, x_pnil, x_pcons, csAt, List.getD_cons_zero, List.getD_cons_succ, List.getElem?_cons_zero, List.getElem?_cons_succ, List.set_cons_zero, List.set_cons_succ, x_seq, x_skip, x_ifS, x_ret, x_retN, x_asg, x_par, x_expr, x_brk, x_cnt, List.length_cons, List.length_nil, Nat.reduceAdd, Nat.zero_add, add_lst]
  refine ⟨lzn 2, lzn 0, lzn 2, dk, _, beginsL, rfl, ho, rfl, List.cons_ne_nil _ _, by show (20 : Nat) < _; omega, fun p3 hp3 => ⟨lzn 2, lzn 5, lzn 10, dk, _, _, rfl, ho, rfl, List.cons_ne_nil _ _, by show (10 : Nat) < _; omega, fun y hy => hR y ?_⟩⟩
  have b3 := begins_bd p3 hp3
  simp only [List.cons_append, List.nil_append, List.mem_cons, List.mem_nil_iff, or_false] at hy
  rcases hy with rfl | rfl | rfl | rfl | rfl | rfl | rfl | rfl | rfl | rfl
  · exact bd2 b1 hb
  · exact bd2 ha b2
  · refine (Bd.lst (s := 500) (n := 2) (m := 2) (fun y m => ?_) (by simp)).mono (by omega) (by omega)
    simp only [List.mem_cons, List.mem_nil_iff, or_false] at m
    rcases m with rfl | rfl
    · exact ha
    · exact hb
  · refine (Bd.tup (s := 500) (n := 2) (m := 1) (fun y m => ?_) (by simp)).mono (by omega) (by omega)
    rw [List.mem_singleton.mp m]; exact ha
  · refine (Bd.tup (s := 500) (n := 2) (m := 3) (fun y m => ?_) (by simp)).mono (by omega) (by omega)
    simp only [List.mem_cons, List.mem_nil_iff, or_false] at m
    rcases m with rfl | rfl | rfl
    · exact ha
    · exact hb
    · exact bd_of (by decide +kernel)
  · exact bd2 hb ha
  · exact bd_of (by decide +kernel)
  · exact bd_of (by decide +kernel)
  · exact bd2 ha ha
  · exact bd2 b3 hb
/-- a value of which something is turned -/
def sp__law_turned : WF := fun ds S R => ∃ (dk : Addr) (xs : List D) (st : Bool), ds = [.ref dk, .tup xs, .bl st] ∧ S.o = some dk ∧ xs.length ≤ 12 ∧ (∀ x ∈ xs, ∃ a b, x = .tup [a, b] ∧ Bd 400 0 a ∧ Bd 400 0 b) ∧ cmp? (.tup xs) = true ∧ ∀ y, Bd 1000000 9 y → (∀ l, y = .tup l → l.length < 100) → R y S
theorem eq_tnil {S : GS} {ls : List D} {Q : D → GS → Prop} (h : cmp? (.tup ls) = true) (q : Q (.bl ls.isEmpty) S) : oEq (.tup ls) (.tup []) S Q := by
  refine ⟨h, rfl, ?_⟩
  show Q (.bl (eqb (.tup ls) (.tup []))) S
  rw [eqb_tnil]
  exact q
theorem fn__law_turned (c1 : FnIn P w K mg base DI k ⟨"_law_pick", 2, sp__law_pick, []⟩) (c2 : FnIn P w K mg base DI k ⟨"_law_odd_item", 3, sp__law_odd_item, []⟩) (c3 : FnIn P w K mg base DI k ⟨"_law_draw", 2, sp__law_draw, []⟩) (d : Df K mg "_law_turned" s__law_turned ["deck", "value", "is_store"] []) (hb : BlIn mg ["len", "list"]) : FnIn P w K mg base DI (k + 1) ⟨"_law_turned", 3, sp__law_turned, []⟩ := by
  refine fn_mk d sc__law_turned rfl (fns := [⟨"_law_pick", 2, sp__law_pick, []⟩, ⟨"_law_odd_item", 3, sp__law_odd_item, []⟩, ⟨"_law_draw", 2, sp__law_draw, []⟩]) (cs := []) ⟨c1, c2, c3, trivial⟩ trivial hb (fun X o => (s_cons (s_if (t_cmp o c_eq (e_var o 1) (e_tup a_nil))
  (s_cons (s_ret (e_call o 0 (a_cons (e_var o 0) (a_cons (e_lst (a_cons (e_lst a_nil) (a_cons e_non (a_cons e_d0 (a_cons (e_tup (a_cons (e_tup a_nil) a_nil)) (a_cons (e_tup (a_cons e_int a_nil)) (a_cons e_str (a_cons (e_tup (a_cons e_str a_nil)) (a_cons (e_tup (a_cons (e_tup (a_cons e_str (a_cons e_int a_nil))) a_nil)) (a_cons (e_tup (a_cons (e_tup (a_cons e_int (a_cons e_int a_nil))) a_nil)) a_nil)))))))))) a_nil))))
  s_nil)
  s_nil)
  (s_cons (s_par o 4 5 (a_cons (e_call o 2 (a_cons (e_var o 0) (a_cons (e_len o (a_cons (e_var o 1) a_nil)) a_nil))) (a_cons (e_call o 2 (a_cons (e_var o 0) (a_cons e_int a_nil))) a_nil)))
  (s_cons (s_if (t_cmp o c_lt (e_var o 5) e_int)
  (s_cons (s_ret (e_add (e_add (e_slice (e_var o 1) p_none (p_some (e_var o 4))) (e_tup (a_cons (e_call o 1 (a_cons (e_var o 0) (a_cons (e_ix o (e_var o 1) (e_var o 4)) (a_cons (e_var o 2) a_nil)))) a_nil))) (e_slice (e_var o 1) (p_some (e_add (e_var o 4) e_int)) p_none)))
  s_nil)
  s_nil)
  (s_cons (s_set o 3 (e_add (e_add (e_slice (e_var o 1) p_none (p_some (e_var o 4))) (e_slice (e_var o 1) (p_some (e_var o 4)) (p_some (e_add (e_var o 4) e_int)))) (e_slice (e_var o 1) (p_some (e_var o 4)) p_none)))
  (s_cons (s_ret (e_call o 0 (a_cons (e_var o 0) (a_cons (e_lst (a_cons (e_toList o (a_cons (e_var o 1) a_nil)) (a_cons (e_back (e_var o 1)) (a_cons (e_add (e_var o 1) (e_slice (e_var o 1) (p_some (e_neg e_int)) p_none)) (a_cons (e_var o 3) (a_cons (e_mul (e_var o 1) e_int) a_nil)))))) a_nil))))
  s_nil)))))) ?_
  intro ds S R hl h
  obtain ⟨dk, xs, st, rfl, ho, hlen, hx, hc, hR⟩ := h
  have bx : ∀ x ∈ xs, Bd 5000 5 x := fun x m => by
    obtain ⟨a, b, rfl, h1, h2⟩ := hx x m
    exact bd2 (h1.mono (by omega) (by omega)) (h2.mono (by omega) (by omega))
  have parts : ∀ l : List D, (∀ x ∈ l, Bd 5000 5 x) → l.length ≤ 40 → R (.tup l) S := fun l h1 h2 => hR _ ((Bd.tup (m := 40) h1 h2).mono (by omega) (by omega)) fun l' e => by cases e; omega
  show wSeq _ _ _ [some (.ref dk), some (.tup xs), some (.bl st), none, none, none] S
  refine seq_if2 (xs = []) (xs ≠ []) (fun Q q0 q1 => ?_) (fun e => ?_) (fun hne => ?_)
  · simp only [x_back, x_ifT, fnAt, x_lc, x_lcN, x_var, x_C, x_op, x_un, x_slice, x_noPart, x_part, x_tru, x_B, x_chain, x_and, x_or, x_not, x_andV, x_orV, x_notB, x_if, x_nil, x_cons, x_tup, x_lst, x_call, x_callK, x_gN, x_gT, x_gs0, x_gs1, x_yes, x_iSeq, x_iEn, x_words, x_ml, x_disp, x_d0, x_pnil, x_pcons, csAt, List.getD_cons_zero, List.getD_cons_succ, List.getElem?_cons_zero, List.getElem?_cons_succ, List.set_cons_zero, List.set_cons_succ]
    refine ⟨Nat.zero_le _, eq_tnil hc ?_⟩
    cases xs with
    | nil => exact q1 rfl
    | cons x r => exact q0 (List.cons_ne_nil _ _)
  · simp only [x_back, x_ifT, fnAt, x_lc, x_lcN, x_var, x_C, x_op, x_un, x_slice, x_noPart, x_part, x_tru, x_B, x_chain, x_and, x_or, x_not, x_andV, x_orV, x_notB, x_if, x_nil, x_cons, x_tup, x_lst, x_call, x_callK, x_gN, x_gT, x_gs0, x_gs1, x_yes, x_iSeq, x_iEn, x_words, x_ml, x_disp, x_d0, x_pnil, x_pcons, csAt, List.getD_cons_zero, List.getD_cons_succ, List.getElem?_cons_zero, List.getElem?_cons_succ, List.set_cons_zero, List.set_cons_succ, x_seq, x_skip, x_ifS, x_ret, x_retN, x_asg, x_par, x_expr, x_brk, x_cnt, List.length_cons, List.length_nil, Nat.reduceAdd, Nat.zero_add]
    refine ⟨lzn 0, lzn 0, lzn 1, lzn 1, lzn 1, lzn 2, lzn 1, lzn 2, lzn 1, lzn 9, dk, _, _, rfl, ho, rfl, List.cons_ne_nil _ _, by show (9 : Nat) < _; omega, fun y hy => ?_⟩
    simp only [List.mem_cons, List.mem_nil_iff, or_false] at hy
    rcases hy with rfl | rfl | rfl | rfl | rfl | rfl | rfl | rfl | rfl <;> exact hR _ (bd_of (by decide +kernel)) (fun l e => by cases e <;> decide)
  · have hl0 : xs.length ≠ 0 := fun z => hne (List.length_eq_zero_iff.mp z)
    have lq : lenD S (.tup xs) = some xs.length := rfl
    rw [x_seq]
    simp only [x_back, x_ifT, fnAt, x_lc, x_lcN, x_var, x_C, x_op, x_un, x_slice, x_noPart, x_part, x_tru, x_B, x_chain, x_and, x_or, x_not, x_andV, x_orV, x_notB, x_if, x_nil, x_cons, x_tup, x_lst, x_call, x_callK, x_gN, x_gT, x_gs0, x_gs1, x_yes, x_iSeq, x_iEn, x_words, x_ml, x_disp, x_d0, x_pnil, x_pcons, csAt, List.getD_cons_zero, List.getD_cons_succ, List.getElem?_cons_zero, List.getElem?_cons_succ, List.set_cons_zero, List.set_cons_succ, x_par, fLen, f1, lq]
    refine ⟨dk, _, rfl, ho, by omega, fun n hn => ⟨dk, _, rfl, ho, by decide, fun m hm => ?_⟩⟩
    have hn2 : n < xs.length := by omega
    have hxn : xs[n]? = some xs[n] := List.getElem?_eq_getElem hn2
    obtain ⟨a, b, e, ba, bb⟩ := hx _ (List.getElem_mem hn2)
    rw [e] at hxn
    have c1 : ∀ lo hi, (Dv.cutD xs lo hi).length ≤ 12 := fun lo hi => Nat.le_trans cut_len hlen
    have c2 : ∀ lo hi, ∀ y ∈ Dv.cutD xs lo hi, Bd 5000 5 y := fun lo hi y m => bx y (cut_mem m)
    have hq : asQ S (.tup xs) = some xs := rfl
    show wSeq _ _ _ [some (.ref dk), some (.tup xs), some (.bl st), none, some (.int n), some (.int m)] S
    refine seq_if True (fun Q q0 q1 => ?_) (fun _ => ?_) ?_
    · simp only [x_back, x_ifT, fnAt, x_lc, x_lcN, x_var, x_C, x_op, x_un, x_slice, x_noPart, x_part, x_tru, x_B, x_chain, x_and, x_or, x_not, x_andV, x_orV, x_notB, x_if, x_nil, x_cons, x_tup, x_lst, x_call, x_callK, x_gN, x_gT, x_gs0, x_gs1, x_yes, x_iSeq, x_iEn, x_words, x_ml, x_disp, x_d0, x_pnil, x_pcons, csAt, List.getD_cons_zero, List.getD_cons_succ, List.getElem?_cons_zero, List.getElem?_cons_succ, List.set_cons_zero, List.set_cons_succ, oLt, oOrd]
      by_cases h : (m : Int) < 3
      · rw [decide_eq_true h]; exact q1 trivial
      · rw [decide_eq_false h]; exact q0
    · simp only [x_back, x_ifT, fnAt, x_lc, x_lcN, x_var, x_C, x_op, x_un, x_slice, x_noPart, x_part, x_tru, x_B, x_chain, x_and, x_or, x_not, x_andV, x_orV, x_notB, x_if, x_nil, x_cons, x_tup, x_lst, x_call, x_callK, x_gN, x_gT, x_gs0, x_gs1, x_yes, x_iSeq, x_iEn, x_words, x_ml, x_disp, x_d0, x_pnil, x_pcons, csAt, List.getD_cons_zero, List.getD_cons_succ, List.getElem?_cons_zero, List.getElem?_cons_succ, List.set_cons_zero, List.set_cons_succ, x_seq, x_skip, x_ifS, x_ret, x_retN, x_asg, x_par, x_expr, x_brk, x_cnt, List.length_cons, List.length_nil, Nat.reduceAdd, Nat.zero_add, ix_eq hq hxn, add_tup]
      refine ⟨dk, a, b, st, rfl, ho, ba.mono (by omega) (by omega), bb.mono (by omega) (by omega), fun y by_ => ⟨lzn 1, ?_⟩⟩
      refine ⟨lzn _ (by have := c1 none (some (n : Int)); omega), ?_⟩
      rw [add_int]
      refine ⟨lzn _ (by have h1 := c1 none (some (n : Int)); have h2 := c1 (some ((n : Int) + 1)) none; rw [List.length_append]; show _ + 1 + _ ≤ 1000; omega), parts _ (fun z mz => ?_) ?_⟩
      · rcases List.mem_append.mp mz with mz | mz
        · rcases List.mem_append.mp mz with mz | mz
          · exact c2 _ _ z mz
          · rw [List.mem_singleton.mp mz]; exact by_
        · exact c2 _ _ z mz
      · have h1 := c1 none (some (n : Int))
        have h2 := c1 (some ((n : Int) + 1)) none
        rw [List.length_append, List.length_append]
        show _ + 1 + _ ≤ 40
        omega
    · rw [x_seq]
      simp only [x_back, x_ifT, fnAt, x_lc, x_lcN, x_var, x_C, x_op, x_un, x_slice, x_noPart, x_part, x_tru, x_B, x_chain, x_and, x_or, x_not, x_andV, x_orV, x_notB, x_if, x_nil, x_cons, x_tup, x_lst, x_call, x_callK, x_gN, x_gT, x_gs0, x_gs1, x_yes, x_iSeq, x_iEn, x_words, x_ml, x_disp, x_d0, x_pnil, x_pcons, csAt, List.getD_cons_zero, List.getD_cons_succ, List.getElem?_cons_zero, List.getElem?_cons_succ, List.set_cons_zero, List.set_cons_succ, List.length_cons, List.length_nil, Nat.reduceAdd, Nat.zero_add, x_asg, add_int, add_tup]
      have h1 := c1 none (some (n : Int))
      have h2 := c1 (some (n : Int)) (some ((n : Int) + 1))
      have h3 := c1 (some (n : Int)) none
      refine ⟨lzn _ (by omega), lzn _ (by rw [List.length_append]; omega), ?_⟩
      have btw : ∀ z ∈ Dv.cutD xs none (some (n : Int)) ++ Dv.cutD xs (some (n : Int)) (some ((n : Int) + 1)) ++ Dv.cutD xs (some (n : Int)) none, Bd 5000 5 z := fun z mz => by
        rcases List.mem_append.mp mz with mz | mz
        · rcases List.mem_append.mp mz with mz | mz
          · exact c2 _ _ z mz
          · exact c2 _ _ z mz
        · exact c2 _ _ z mz
      have ltw : (Dv.cutD xs none (some (n : Int)) ++ Dv.cutD xs (some (n : Int)) (some ((n : Int) + 1)) ++ Dv.cutD xs (some (n : Int)) none).length ≤ 36 := by rw [List.length_append, List.length_append]; omega
      generalize Dv.cutD xs none (some (n : Int)) ++ Dv.cutD xs (some (n : Int)) (some ((n : Int) + 1)) ++ Dv.cutD xs (some (n : Int)) none = tw at *
      rw [x_seq]
      simp only [x_back, x_ifT, fnAt, x_lc, x_lcN, x_var, x_C, x_op, x_un, x_slice, x_noPart, x_part, x_tru, x_B, x_chain, x_and, x_or, x_not, x_andV, x_orV, x_notB, x_if, x_nil, x_cons, x_tup, x_lst, x_call, x_callK, x_gN, x_gT, x_gs0, x_gs1, x_yes, x_iSeq, x_iEn, x_words, x_ml, x_disp, x_d0, x_pnil, x_pcons, csAt, List.getD_cons_zero, List.getD_cons_succ, List.getElem?_cons_zero, List.getElem?_cons_succ, List.set_cons_zero, List.set_cons_succ, x_seq, x_skip, x_ifS, x_ret, x_retN, x_asg, x_par, x_expr, x_brk, x_cnt, List.length_cons, List.length_nil, Nat.reduceAdd, Nat.zero_add, oNeg, add_tup, list_tup, f1]
      have h4 := c1 (some (-1)) none
      refine ⟨lzn _ (by omega), ?_⟩
      refine ⟨hne, by decide, by decide, by omega, lzn 5, dk, _, _, rfl, ho, rfl, List.cons_ne_nil _ _, by show (5 : Nat) < _; omega, fun y hy => ?_⟩
      simp only [List.mem_cons, List.mem_nil_iff, or_false] at hy
      rcases hy with rfl | rfl | rfl | rfl | rfl
      · exact hR _ ((Bd.lst (m := 12) bx hlen).mono (by omega) (by omega)) (fun l e => by cases e)
      · exact parts _ (fun z mz => bx z (List.mem_reverse.mp mz)) (by rw [List.length_reverse]; omega)
      · refine parts _ (fun z mz => ?_) (by rw [List.length_append]; omega)
        rcases List.mem_append.mp mz with mz | mz
        · exact bx z mz
        · exact c2 _ _ z mz
      · exact parts _ btw (by omega)
      · refine parts _ (fun z mz => ?_) ?_
        · obtain ⟨l, ml, mx⟩ := List.mem_flatten.mp mz
          rw [(List.mem_replicate.mp ml).2] at mx
          exact bx z mx
        · show (List.replicate 2 xs).flatten.length ≤ 40
          rw [show (List.replicate 2 xs).flatten = xs ++ (xs ++ []) from rfl, List.length_append, List.length_append]
          show xs.length + (xs.length + 0) ≤ 40
          omega
end
end K05

namespace K05
open PySem PySem.Spec L2 Dv
open PyProof.Rows hiding St
structure VOk (st : Bool) (d : D) : Prop where
  ex : ∃ xs, d = .tup xs ∧ xs.length ≤ 12 ∧ (∀ x ∈ xs, ∃ a b, x = .tup [a, b] ∧ Bd 400 0 a ∧ Bd 400 0 b) ∧ cmp? (.tup xs) = true
  b : Bd 300000 3 d
  e : errD st d = .non
theorem cmp_pairs (xs : List D) (h : ∀ x ∈ xs, ∃ a b, x = .tup [a, b] ∧ pure? a = true ∧ nod? a = true ∧ dep a = 0 ∧ pure? b = true ∧ nod? b = true ∧ dep b = 0) : cmp? (.tup xs) = true := by
  have z : pureL xs = true ∧ nodL xs = true ∧ depL xs ≤ 1 := by
    induction xs with
    | nil => exact ⟨rfl, rfl, Nat.zero_le _⟩
    | cons x r ih =>
      obtain ⟨i1, i2, i3⟩ := ih fun d m => h d (by simp [m])
      obtain ⟨a, b, rfl, a1, a2, a3, b1, b2, b3⟩ := h x (by simp)
      refine ⟨by simp [pureL, pure?, i1, a1, b1], by simp [nodL, nod?, i2, a2, b2], ?_⟩
      simp only [depL, dep, a3, b3]
      omega
  have e1 : pure? (.tup xs) = true := by rw [pure?]; exact z.1
  have e2 : nod? (.tup xs) = true := by rw [nod?]; exact z.2.1
  have e3 : dep (.tup xs) ≤ 64 := by rw [dep]; have := z.2.2; omega
  unfold cmp?
  rw [e1, e2, decide_eq_true e3]
  rfl
theorem StoreOk.v {d : D} (h : StoreOk d) : VOk true d := by
  refine ⟨?_, h.bd.1, h.err⟩
  obtain ⟨l, rfl, hl, h1, _⟩ := h.ex
  refine ⟨_, rfl, by rw [List.length_map]; omega, fun x m => ?_, cmp_pairs _ fun x m => ?_⟩
  · obtain ⟨p, mp, rfl⟩ := List.mem_map.mp m
    obtain ⟨a, b, c⟩ := h1 p mp
    exact ⟨_, _, rfl, bd_str (pool_ok _ a).2.1 (by omega), gd_nn b c, by rw [sz]; exact Nat.le_refl _, by rw [dep]; exact Nat.le_refl _⟩
  · obtain ⟨p, mp, rfl⟩ := List.mem_map.mp m
    obtain ⟨a, b, c⟩ := h1 p mp
    exact ⟨_, _, rfl, rfl, by rw [nod?]; exact (pool_ok _ a).2.2, rfl, rfl, rfl, rfl⟩
theorem asc_mem : ∀ (l : List (Int × Int)) (lo : Int), 0 ≤ lo → Asc lo l → ∀ p ∈ l, 0 ≤ p.1 ∧ p.1 < 10 ^ 200 ∧ 0 ≤ p.2 ∧ p.2 < 10 ^ 200
  | [], _, _, _, p, m => nomatch m
  | (a, v) :: r, lo, h0, ⟨h1, h2, h3, h4, h5⟩, p, m => by
    rcases List.mem_cons.mp m with rfl | m
    · exact ⟨by show 0 ≤ a; omega, h3, h2, h4⟩
    · exact asc_mem r a (by omega) h5 p m
theorem HeapOk.v {n : Nat} {d : D} (h : HeapOk n d) (hn : n ≤ 12) : VOk false d := by
  refine ⟨?_, (h.bd (by omega)).1, h.err⟩
  obtain ⟨l, rfl, hl, h1⟩ := h.ex
  refine ⟨_, rfl, by rw [List.length_map]; omega, fun x m => ?_, cmp_pairs _ fun x m => ?_⟩
  · obtain ⟨p, mp, rfl⟩ := List.mem_map.mp m
    obtain ⟨a, b, c, e⟩ := asc_mem l 0 (Int.le_refl _) h1 p mp
    exact ⟨_, _, rfl, ⟨gd_nn a b, by rw [sz]; exact Nat.le_refl _, by rw [dep]; exact Nat.le_refl _⟩, gd_nn c e, by rw [sz]; exact Nat.le_refl _, by rw [dep]; exact Nat.le_refl _⟩
  · obtain ⟨p, mp, rfl⟩ := List.mem_map.mp m
    exact ⟨_, _, rfl, rfl, rfl, rfl, rfl, rfl, rfl⟩
section
variable {P : Program} {w : World} {K : PySem.W.Frag} {mg : Str → Option Value} {base : Heap} {k : Nat}
theorem right_ok {d : D} {a b : Bool} {s n : Nat} {S : GS} {R : D → GS → Prop} (h : Bd s n d) (hs : s ≤ 10000000) (hn : n ≤ 64) (hl : ∀ l, d = .tup l → l.length < 400) (q : R (.bl true) S) : sp__law_is_right [d, .bl a, .bl b] S R := ⟨h.g, h.sh hs hn, hl, q⟩
theorem VOk.len {st : Bool} {d : D} (h : VOk st d) : ∀ l, d = .tup l → l.length < 400 := fun l e => by
  obtain ⟨xs, rfl, hl, _⟩ := h.ex
  cases e
  omega
def sp_law : WF := fun ds S R => ∃ ns : List Int, ds = [.lst (ns.map D.int)] ∧ ns.length ≤ 63 ∧ S.o = none ∧ ∀ S', R (.bl true) S'
abbrev fnsL : List Fn := [⟨"_law_is_right", 3, sp__law_is_right, []⟩, ⟨"_law_draw", 2, sp__law_draw, []⟩, ⟨"_law_heap", 2, sp__law_heap, []⟩, ⟨"_law_odd_value", 2, sp__law_odd_value 3, []⟩, ⟨"_law_turned", 3, sp__law_turned, []⟩, ⟨"_law_due", 2, sp__law_due, []⟩, ⟨"_law_store", 1, sp__law_store, []⟩, ⟨"_law_pick", 2, sp__law_pick, []⟩, ⟨"_law_deck", 1, sp__law_deck, []⟩]
theorem szL_app : ∀ a b : List D, szL (a ++ b) = szL a + szL b
  | [], b => by simp [szL]
  | x :: a, b => by rw [List.cons_append, szL, szL, szL_app a b]; omega
theorem szL_rev : ∀ a : List D, szL a.reverse = szL a
  | [] => rfl
  | x :: a => by rw [List.reverse_cons, szL_app, szL_rev a, szL, szL, szL]; omega
theorem depL_le {n : Nat} : ∀ l : List D, depL l ≤ n ↔ ∀ x ∈ l, dep x ≤ n
  | [] => ⟨(fun _ x m => nomatch m), fun _ => Nat.zero_le n⟩
  | x :: l => by
    rw [depL, Nat.max_le, depL_le l]
    exact ⟨fun h y m => by rcases List.mem_cons.mp m with rfl | m; exact h.1; exact h.2 y m, fun h => ⟨h x (by simp), fun y m => h y (by simp [m])⟩⟩
theorem bd_rev {s n : Nat} {ys : List D} (h : Bd s n (.tup ys)) : Bd s n (.tup ys.reverse) := by
  obtain ⟨h1, h2, h3⟩ := h
  rw [gd] at h1
  rw [sz] at h2
  rw [dep] at h3
  refine ⟨by rw [gd]; exact gdL_of fun d m => gdL_mem h1 d (List.mem_reverse.mp m), by rw [sz, szL_rev]; exact h2, ?_⟩
  rw [dep]
  have : depL ys.reverse ≤ depL ys := (depL_le _).mpr fun x m => (depL_le ys).mp (Nat.le_refl _) x (List.mem_reverse.mp m)
  omega
theorem fn_law {f : Addr} {fd : FuncData} (hF : FnsIn P w K mg base DI k fnsL) (d : L2.Fun K "law" "law" s_law f fd) (hb : BlIn mg ["isinstance", "range", "tuple"]) : FnG P w K mg base (k + 1) f fd ["script"] (spOf K DI 1 sp_law) := by
  refine law_mk d sc_law rfl (fns := fnsL) (cs := []) hF trivial hb (fun X o => (s_cons (s_set o 1 (e_call o 8 (a_cons (e_var o 0) a_nil)))
  (s_cons (s_for o (i_rg1 o e_int) (g_name o 2)
  (s_cons (s_for o (i_seq (e_tup (a_cons e_tt (a_cons e_tt a_nil)))) (g_name o 6)
  (s_cons (s_set o 7 (e_if (t_tru (e_var o 6)) (e_call o 6 (a_cons (e_var o 1) a_nil)) (e_call o 2 (a_cons (e_var o 1) (a_cons (e_call o 7 (a_cons (e_var o 1) (a_cons (e_lst (a_cons e_int (a_cons e_int (a_cons e_int (a_cons e_int (a_cons e_int (a_cons e_int a_nil))))))) a_nil))) a_nil)))))
  (s_cons (s_if (t_w (w_or (t_cmp o c_isN (e_call o 5 (a_cons (e_var o 7) (a_cons (e_var o 6) a_nil))) e_non) (w_or1 (t_not (t_tru (e_call o 0 (a_cons (e_var o 7) (a_cons (e_var o 6) (a_cons (e_cmp o c_eq (e_var o 2) e_int) a_nil)))))))))
  (s_cons (s_ret e_tt)
  s_nil)
  s_nil)
  (s_cons (s_for o (i_rg1 o e_int) (g_name o 8)
  (s_cons (s_set o 9 (e_call o 4 (a_cons (e_var o 1) (a_cons (e_var o 7) (a_cons (e_var o 6) a_nil)))))
  (s_cons (s_if (t_not (t_tru (e_call o 0 (a_cons (e_var o 9) (a_cons (e_var o 6) (a_cons (e_cmp o c_eq (e_var o 8) e_int) a_nil))))))
  (s_cons (s_ret e_tt)
  s_nil)
  s_nil)
  (s_cons (s_if (t_w (w_and (t_tru (e_isi o (a_cons (e_var o 9) (a_cons (e_ty o "tuple") a_nil)))) (w_and1 (t_not (t_tru (e_call o 0 (a_cons (e_back (e_var o 9)) (a_cons (e_var o 6) (a_cons e_tt a_nil)))))))))
  (s_cons (s_ret e_tt)
  s_nil)
  s_nil)
  s_nil))))
  (s_cons (s_if (t_not (t_tru (e_call o 0 (a_cons (e_call o 3 (a_cons (e_var o 1) (a_cons e_int a_nil))) (a_cons (e_var o 6) (a_cons e_tt a_nil))))))
  (s_cons (s_ret e_tt)
  s_nil)
  s_nil)
  (s_cons (s_if (t_not (t_tru (e_call o 0 (a_cons (e_var o 7) (a_cons (e_not (e_var o 6)) (a_cons e_tt a_nil))))))
  (s_cons (s_ret e_tt)
  s_nil)
  s_nil)
  s_nil))))))
  s_nil))
  (s_cons (s_set o 3 e_int)
  (s_cons (s_for o (i_rg1 o e_int) (g_name o 2)
  (s_cons (s_set o 3 (e_mul (e_var o 3) (e_pow e_int e_int)))
  s_nil))
  (s_cons (s_set o 4 (e_tup (a_cons (e_tup (a_cons (e_var o 3) (a_cons (e_mul (e_var o 3) (e_pow e_int e_int)) a_nil))) (a_cons (e_tup (a_cons (e_add (e_var o 3) e_int) (a_cons e_int a_nil))) a_nil))))
  (s_cons (s_set o 5 (e_if (t_cmp o c_eq (e_call o 1 (a_cons (e_var o 1) (a_cons e_int a_nil))) e_int) (e_call o 2 (a_cons (e_var o 1) (a_cons e_int a_nil))) (e_tup a_nil)))
  (s_cons (s_if (t_w (w_or (t_not (t_tru (e_call o 0 (a_cons (e_var o 4) (a_cons e_tt (a_cons e_tt a_nil)))))) (w_or1 (t_not (t_tru (e_call o 0 (a_cons (e_back (e_var o 4)) (a_cons e_tt (a_cons e_tt a_nil)))))))))
  (s_cons (s_ret e_tt)
  s_nil)
  s_nil)
  (s_cons (s_ret (e_call o 0 (a_cons (e_var o 5) (a_cons e_tt (a_cons e_tt a_nil)))))
  s_nil))))))))) ?_
  intro ds S R hl h
  obtain ⟨ns, rfl, hlen, ho, hR⟩ := h
  generalize hsc : D.lst (ns.map D.int) = scr
  show wSeq _ _ _ [some scr, none, none, none, none, none, none, none, none, none] S
  rw [x_seq]
  simp only [x_back, x_ifT, fnAt, x_lc, x_lcN, x_var, x_C, x_op, x_un, x_slice, x_noPart, x_part, x_tru, x_B, x_chain, x_and, x_or, x_not, x_andV, x_orV, x_notB, x_if, x_nil, x_cons, x_tup, x_lst, x_call, x_callK, x_gN, x_gT, x_gs0, x_gs1, x_yes, x_iSeq, x_iEn, x_words, x_ml, x_disp, x_d0, x_pnil, x_pcons, csAt, List.getD_cons_zero, List.getD_cons_succ, List.getElem?_cons_zero, List.getElem?_cons_succ, List.set_cons_zero, List.set_cons_succ, x_asg]
  refine ⟨ns, by rw [← hsc], hlen, ho, fun dk => ?_⟩
  generalize hS1 : (⟨S.g, some dk⟩ : GS) = S1
  have ho1 : S1.o = some dk := by rw [← hS1]
  clear hS1 ho
  show wSeq _ _ _ [some scr, some (.ref dk), none, none, none, none, none, none, none, none] S1
  rw [x_seq]
  refine ⟨10, rfl, by decide, by decide, fun rest ρ S' => S'.o = some dk ∧ (∀ d ∈ rest, ∃ i, d = D.int i) ∧ ∃ a2 a6 a7 a8 a9, ρ = [some scr, some (.ref dk), a2, none, none, none, a6, a7, a8, a9], ⟨ho1, rg_int, none, none, none, none, none, rfl⟩, ?_, ?_⟩
  · rintro t rest ρ S2 ⟨ho2, hi, a2, a6, a7, a8, a9, rfl⟩
    refine ⟨trivial, ?_⟩
    obtain ⟨ti, rfl⟩ := hi t (by simp)
    have hi' : ∀ d ∈ rest, ∃ i, d = D.int i := fun d m => hi d (by simp [m])
    show wSeq _ _ _ [some scr, some (.ref dk), some (.int ti), none, none, none, a6, a7, a8, a9] S2
    rw [x_seq]
    refine ⟨lzn 2, fun rest ρ S' => S'.o = some dk ∧ (∀ d ∈ rest, ∃ b, d = D.bl b) ∧ ∃ a6 a7 a8 a9, ρ = [some scr, some (.ref dk), some (.int ti), none, none, none, a6, a7, a8, a9], ⟨ho2, fun d m => by
      simp only [List.mem_cons, List.mem_nil_iff, or_false] at m
      rcases m with rfl | rfl <;> exact ⟨_, rfl⟩, _, _, _, _, rfl⟩, ?_, ?_⟩
    · rintro s rest2 ρ S3 ⟨ho3, hi3, b6, b7, b8, b9, rfl⟩
      refine ⟨trivial, ?_⟩
      obtain ⟨st, rfl⟩ := hi3 s (by simp)
      have hi3' : ∀ d ∈ rest2, ∃ b, d = D.bl b := fun d m => hi3 d (by simp [m])
      show wSeq _ _ _ [some scr, some (.ref dk), some (.int ti), none, none, none, some (.bl st), b7, b8, b9] S3
      rw [x_seq]
      simp only [x_back, x_ifT, fnAt, x_lc, x_lcN, x_var, x_C, x_op, x_un, x_slice, x_noPart, x_part, x_tru, x_B, x_chain, x_and, x_or, x_not, x_andV, x_orV, x_notB, x_if, x_nil, x_cons, x_tup, x_lst, x_call, x_callK, x_gN, x_gT, x_gs0, x_gs1, x_yes, x_iSeq, x_iEn, x_words, x_ml, x_disp, x_d0, x_pnil, x_pcons, csAt, List.getD_cons_zero, List.getD_cons_succ, List.getElem?_cons_zero, List.getElem?_cons_succ, List.set_cons_zero, List.set_cons_succ, List.length_cons, List.length_nil, Nat.reduceAdd, Nat.zero_add, x_asg]
      have pickv : ∀ Q : D → GS → Prop, (∀ v S4, VOk st v → S4.o = some dk → Q v S4) → (if st = true then sp__law_store [.ref dk] S3 Q else (6 ≤ sizeLine ∧ sp__law_pick [.ref dk, .lst [.int 0, .int 1, .int 2, .int 3, .int 5, .int 12]] S3 fun y S4 => sp__law_heap [.ref dk, y] S4 Q)) := fun Q hQ => by
        cases st with
        | true => rw [if_pos rfl]; exact ⟨dk, rfl, ho3, fun d S' hd hs => hQ d S' hd.v hs⟩
        | false =>
          rw [if_neg (by decide)]
          refine ⟨lzn 6, dk, _, _, rfl, ho3, rfl, List.cons_ne_nil _ _, by show (6 : Nat) < _; omega, fun y hy => ?_⟩
          obtain ⟨n, rfl, hn⟩ : ∃ n : Nat, y = .int n ∧ n ≤ 12 := by
            simp only [List.mem_cons, List.mem_nil_iff, or_false] at hy
            rcases hy with rfl | rfl | rfl | rfl | rfl | rfl
            · exact ⟨0, rfl, by omega⟩
            · exact ⟨1, rfl, by omega⟩
            · exact ⟨2, rfl, by omega⟩
            · exact ⟨3, rfl, by omega⟩
            · exact ⟨5, rfl, by omega⟩
            · exact ⟨12, rfl, by omega⟩
          exact ⟨dk, n, rfl, ho3, by omega, fun d S' hd hs => hQ d S' (hd.v hn) hs⟩
      refine pickv _ fun v S4 hv ho4 => ?_
      show wSeq _ _ _ [some scr, some (.ref dk), some (.int ti), none, none, none, some (.bl st), some v, b8, b9] S4
      have hvl := hv.len
      obtain ⟨xs, hxs, x1, x2, x3⟩ := hv.ex
      refine seq_if2 False True (fun Q q0 q1 => ?_) (fun z => z.elim) fun _ => ?_
      · simp only [x_back, x_ifT, fnAt, x_lc, x_lcN, x_var, x_C, x_op, x_un, x_slice, x_noPart, x_part, x_tru, x_B, x_chain, x_and, x_or, x_not, x_andV, x_orV, x_notB, x_if, x_nil, x_cons, x_tup, x_lst, x_call, x_callK, x_gN, x_gT, x_gs0, x_gs1, x_yes, x_iSeq, x_iEn, x_words, x_ml, x_disp, x_d0, x_pnil, x_pcons, csAt, List.getD_cons_zero, List.getD_cons_succ, List.getElem?_cons_zero, List.getElem?_cons_succ, List.set_cons_zero, List.set_cons_succ, oEq]
        refine ⟨hv.b.g, fun l e => by have := hvl l e; omega, ?_⟩
        rw [hv.e]
        show (if (false = true) then Q true S4 else sp__law_is_right [v, .bl st, .bl (decide (ti = 1))] S4 fun d S' => match truD S' d with | some b => Q (!b) S' | none => False)
        rw [if_neg (by decide)]
        exact right_ok hv.b (by omega) (by omega) hvl (q0 trivial)
      rw [x_seq]
      refine ⟨4, rfl, by decide, by decide, fun rest ρ S' => S'.o = some dk ∧ (∀ d ∈ rest, ∃ i, d = D.int i) ∧ ∃ a8 a9, ρ = [some scr, some (.ref dk), some (.int ti), none, none, none, some (.bl st), some v, a8, a9], ⟨ho4, rg_int, _, _, rfl⟩, ?_, ?_⟩
      · rintro ag rest3 ρ S5 ⟨ho5, hi5, c8, c9, rfl⟩
        refine ⟨trivial, ?_⟩
        obtain ⟨ai, rfl⟩ := hi5 ag (by simp)
        have hi5' : ∀ d ∈ rest3, ∃ i, d = D.int i := fun d m => hi5 d (by simp [m])
        show wSeq _ _ _ [some scr, some (.ref dk), some (.int ti), none, none, none, some (.bl st), some v, some (.int ai), c9] S5
        rw [x_seq]
        simp only [x_back, x_ifT, fnAt, x_lc, x_lcN, x_var, x_C, x_op, x_un, x_slice, x_noPart, x_part, x_tru, x_B, x_chain, x_and, x_or, x_not, x_andV, x_orV, x_notB, x_if, x_nil, x_cons, x_tup, x_lst, x_call, x_callK, x_gN, x_gT, x_gs0, x_gs1, x_yes, x_iSeq, x_iEn, x_words, x_ml, x_disp, x_d0, x_pnil, x_pcons, csAt, List.getD_cons_zero, List.getD_cons_succ, List.getElem?_cons_zero, List.getElem?_cons_succ, List.set_cons_zero, List.set_cons_succ, x_asg]
        refine ⟨dk, xs, st, by rw [hxs], ho5, x1, x2, x3, fun y by_ hyl => ?_⟩
        have hyl' : ∀ l, y = .tup l → l.length < 400 := fun l e => by have := hyl l e; omega
        show wSeq _ _ _ [some scr, some (.ref dk), some (.int ti), none, none, none, some (.bl st), some v, some (.int ai), some y] S5
        refine seq_if2 False True (fun Q q0 q1 => ?_) (fun z => z.elim) fun _ => ?_
        · simp only [x_back, x_ifT, fnAt, x_lc, x_lcN, x_var, x_C, x_op, x_un, x_slice, x_noPart, x_part, x_tru, x_B, x_chain, x_and, x_or, x_not, x_andV, x_orV, x_notB, x_if, x_nil, x_cons, x_tup, x_lst, x_call, x_callK, x_gN, x_gT, x_gs0, x_gs1, x_yes, x_iSeq, x_iEn, x_words, x_ml, x_disp, x_d0, x_pnil, x_pcons, csAt, List.getD_cons_zero, List.getD_cons_succ, List.getElem?_cons_zero, List.getElem?_cons_succ, List.set_cons_zero, List.set_cons_succ, oEq]
          exact right_ok by_ (by omega) (by omega) hyl' (q0 trivial)
        refine seq_if2 False True (fun Q q0 q1 => ?_) (fun z => z.elim) fun _ => ?_
        · simp only [x_back, x_ifT, fnAt, x_lc, x_lcN, x_var, x_C, x_op, x_un, x_slice, x_noPart, x_part, x_tru, x_B, x_chain, x_and, x_or, x_not, x_andV, x_orV, x_notB, x_if, x_nil, x_cons, x_tup, x_lst, x_call, x_callK, x_gN, x_gT, x_gs0, x_gs1, x_yes, x_iSeq, x_iEn, x_words, x_ml, x_disp, x_d0, x_pnil, x_pcons, csAt, List.getD_cons_zero, List.getD_cons_succ, List.getElem?_cons_zero, List.getElem?_cons_succ, List.set_cons_zero, List.set_cons_succ, fIsi, f2, isi_tt]
          rcases isi_tup y by_.g S5 with ⟨t1, ys, rfl⟩ | ⟨t, t1, t2, t3⟩
          · simp only [t1, isi_tt]
            have hys := hyl ys rfl
            have br : Bd 1000000 9 (.tup ys.reverse) := bd_rev by_
            show sp__law_is_right [.tup ys.reverse, .bl st, .bl false] S5 (fun d S' => match truD S' d with | some b => Q (!b) S' | none => False)
            exact right_ok br (by omega) (by omega) (fun l e => by cases e; rw [List.length_reverse]; omega) (q0 trivial)
          · simp only [t1, t2]
            exact q0 trivial
        · exact ⟨ho5, hi5', _, _, rfl⟩
      · rintro ρ S5 ⟨ho5, _, c8, c9, rfl⟩
        refine ⟨trivial, ?_⟩
        dsimp only
        refine seq_if2 False True (fun Q q0 q1 => ?_) (fun z => z.elim) fun _ => ?_
        · simp only [x_back, x_ifT, fnAt, x_lc, x_lcN, x_var, x_C, x_op, x_un, x_slice, x_noPart, x_part, x_tru, x_B, x_chain, x_and, x_or, x_not, x_andV, x_orV, x_notB, x_if, x_nil, x_cons, x_tup, x_lst, x_call, x_callK, x_gN, x_gT, x_gs0, x_gs1, x_yes, x_iSeq, x_iEn, x_words, x_ml, x_disp, x_d0, x_pnil, x_pcons, csAt, List.getD_cons_zero, List.getD_cons_succ, List.getElem?_cons_zero, List.getElem?_cons_succ, List.set_cons_zero, List.set_cons_succ]
          refine ⟨dk, 3, rfl, ho5, by omega, fun y by_ hy => right_ok by_ (by decide) (by omega) (fun l e => by have := hy l e; omega) (q0 trivial)⟩
        refine seq_if2 False True (fun Q q0 q1 => ?_) (fun z => z.elim) fun _ => ?_
        · simp only [x_back, x_ifT, fnAt, x_lc, x_lcN, x_var, x_C, x_op, x_un, x_slice, x_noPart, x_part, x_tru, x_B, x_chain, x_and, x_or, x_not, x_andV, x_orV, x_notB, x_if, x_nil, x_cons, x_tup, x_lst, x_call, x_callK, x_gN, x_gT, x_gs0, x_gs1, x_yes, x_iSeq, x_iEn, x_words, x_ml, x_disp, x_d0, x_pnil, x_pcons, csAt, List.getD_cons_zero, List.getD_cons_succ, List.getElem?_cons_zero, List.getElem?_cons_succ, List.set_cons_zero, List.set_cons_succ]
          exact right_ok hv.b (by omega) (by omega) hvl (q0 trivial)
        · exact ⟨ho5, hi3', _, _, _, _, rfl⟩
    · rintro ρ S3 ⟨ho3, _, b6, b7, b8, b9, rfl⟩
      exact ⟨trivial, ho3, hi', _, _, _, _, _, rfl⟩
  · rintro ρ S2 ⟨ho2, _, a2, a6, a7, a8, a9, rfl⟩
    refine ⟨trivial, ?_⟩
    dsimp only
    rw [x_seq]
    simp only [x_back, x_ifT, fnAt, x_lc, x_lcN, x_var, x_C, x_op, x_un, x_slice, x_noPart, x_part, x_tru, x_B, x_chain, x_and, x_or, x_not, x_andV, x_orV, x_notB, x_if, x_nil, x_cons, x_tup, x_lst, x_call, x_callK, x_gN, x_gT, x_gs0, x_gs1, x_yes, x_iSeq, x_iEn, x_words, x_ml, x_disp, x_d0, x_pnil, x_pcons, csAt, List.getD_cons_zero, List.getD_cons_succ, List.getElem?_cons_zero, List.getElem?_cons_succ, List.set_cons_zero, List.set_cons_succ, x_asg]
    show wSeq _ _ _ [some scr, some (.ref dk), a2, some (.int 1), none, none, a6, a7, a8, a9] S2
    rw [x_seq]
    refine ⟨6, rfl, by decide, by decide, fun rest ρ S' => S'.o = some dk ∧ ∃ (j : Nat) (a2 : Option D), j + rest.length = 6 ∧ ρ = [some scr, some (.ref dk), a2, some (.int ((10 ^ 60) ^ j)), none, none, a6, a7, a8, a9], ⟨ho2, 0, a2, rfl, rfl⟩, ?_, ?_⟩
    · rintro c rest ρ S3 ⟨ho3, j, b2, hj, rfl⟩
      refine ⟨trivial, ?_⟩
      rw [List.length_cons] at hj
      show wSeq _ _ _ [some scr, some (.ref dk), some c, some (.int ((10 ^ 60) ^ j)), none, none, a6, a7, a8, a9] S3
      rw [x_seq]
      simp only [x_back, x_ifT, fnAt, x_lc, x_lcN, x_var, x_C, x_op, x_un, x_slice, x_noPart, x_part, x_tru, x_B, x_chain, x_and, x_or, x_not, x_andV, x_orV, x_notB, x_if, x_nil, x_cons, x_tup, x_lst, x_call, x_callK, x_gN, x_gT, x_gs0, x_gs1, x_yes, x_iSeq, x_iEn, x_words, x_ml, x_disp, x_d0, x_pnil, x_pcons, csAt, List.getD_cons_zero, List.getD_cons_succ, List.getElem?_cons_zero, List.getElem?_cons_succ, List.set_cons_zero, List.set_cons_succ, x_asg, oMul, oPow, oInt, x_skip]
      refine ⟨⟨by decide, by decide, by decide⟩, ?_, ho3, j + 1, some c, by omega, ?_⟩
      · have hj6 : j = 0 ∨ j = 1 ∨ j = 2 ∨ j = 3 ∨ j = 4 ∨ j = 5 := by omega
        rcases hj6 with rfl | rfl | rfl | rfl | rfl | rfl <;> exact .inr (by unfold L2.CMulW; decide +kernel)
      · rw [Int.pow_succ]
        rfl
    · rintro ρ S3 ⟨ho3, j, b2, hj, rfl⟩
      refine ⟨trivial, ?_⟩
      have hj6 : j = 6 := by simpa using hj
      subst hj6
      dsimp only
      rw [x_seq]
      simp only [x_back, x_ifT, fnAt, x_lc, x_lcN, x_var, x_C, x_op, x_un, x_slice, x_noPart, x_part, x_tru, x_B, x_chain, x_and, x_or, x_not, x_andV, x_orV, x_notB, x_if, x_nil, x_cons, x_tup, x_lst, x_call, x_callK, x_gN, x_gT, x_gs0, x_gs1, x_yes, x_iSeq, x_iEn, x_words, x_ml, x_disp, x_d0, x_pnil, x_pcons, csAt, List.getD_cons_zero, List.getD_cons_succ, List.getElem?_cons_zero, List.getElem?_cons_succ, List.set_cons_zero, List.set_cons_succ, List.length_cons, List.length_nil, Nat.reduceAdd, Nat.zero_add, x_asg, oMul, oPow, oInt, add_int]
      refine ⟨⟨by decide, by decide, by decide⟩, .inr (by unfold L2.CMulW; decide +kernel), lzn 2, lzn 2, lzn 2, ?_⟩
      have bf : Bd 5000 5 (.tup [.tup [.int ((10 ^ 60) ^ 6), .int ((10 ^ 60) ^ 6 * 10 ^ Int.toNat 30)], .tup [.int ((10 ^ 60) ^ 6 + 1), .int 0]]) := bd_of (by decide +kernel)
      have bg : ∀ l, D.tup [.tup [.int ((10 ^ 60) ^ 6), .int ((10 ^ 60) ^ 6 * 10 ^ Int.toNat 30)], .tup [.int ((10 ^ 60) ^ 6 + 1), .int 0]] = .tup l → l.length < 400 := fun l e => by cases e; decide
      have br := bd_rev bf
      have bh : ∀ l, D.tup [D.tup [.int ((10 ^ 60) ^ 6), .int ((10 ^ 60) ^ 6 * 10 ^ Int.toNat 30)], .tup [.int ((10 ^ 60) ^ 6 + 1), .int 0]].reverse = .tup l → l.length < 400 := fun l e => by cases e; decide
      generalize D.tup [.int ((10 ^ 60) ^ 6), .int ((10 ^ 60) ^ 6 * 10 ^ Int.toNat 30)] = f1' at *
      generalize D.tup [.int ((10 ^ 60) ^ 6 + 1), .int 0] = f2' at *
      have longv : ∀ (c : Bool) (Q : D → GS → Prop), (∀ v S4, (∃ s n, Bd s n v ∧ s ≤ 10000000 ∧ n ≤ 64) → (∀ l, v = .tup l → l.length < 400) → Q v S4) → (if c = true then sp__law_heap [.ref dk, .int 300] S3 Q else (0 ≤ sizeLine ∧ Q (.tup []) S3)) := fun c Q hQ => by
        cases c with
        | true =>
          rw [if_pos rfl]
          exact ⟨dk, 300, rfl, ho3, by omega, fun d S' hd hs => hQ d S' ⟨_, _, (hd.bd (by omega)).1, by omega, by omega⟩ (fun l e => by
            obtain ⟨xs, h1, h2, _⟩ := (hd.bd (by omega)).2
            rw [h1] at e
            cases e
            omega)⟩
        | false =>
          rw [if_neg (by decide)]
          exact ⟨lzn 0, hQ _ _ ⟨5000, 5, bd_of (by decide +kernel), by omega, by omega⟩ (fun l e => by cases e; decide)⟩
      rw [x_seq]
      simp only [x_back, x_ifT, fnAt, x_lc, x_lcN, x_var, x_C, x_op, x_un, x_slice, x_noPart, x_part, x_tru, x_B, x_chain, x_and, x_or, x_not, x_andV, x_orV, x_notB, x_if, x_nil, x_cons, x_tup, x_lst, x_call, x_callK, x_gN, x_gT, x_gs0, x_gs1, x_yes, x_iSeq, x_iEn, x_words, x_ml, x_disp, x_d0, x_pnil, x_pcons, csAt, List.getD_cons_zero, List.getD_cons_succ, List.getElem?_cons_zero, List.getElem?_cons_succ, List.set_cons_zero, List.set_cons_succ, List.length_cons, List.length_nil, Nat.reduceAdd, Nat.zero_add, x_asg, oEq]
      refine ⟨dk, _, rfl, ho3, by decide, fun n hn => ?_⟩
      refine longv _ _ fun v S4 hv hvl => ?_
      obtain ⟨s, n', hv, hs, hn'⟩ := hv
      refine seq_if2 False True (fun Q q0 q1 => ?_) (fun z => z.elim) fun _ => ?_
      · simp only [x_back, x_ifT, fnAt, x_lc, x_lcN, x_var, x_C, x_op, x_un, x_slice, x_noPart, x_part, x_tru, x_B, x_chain, x_and, x_or, x_not, x_andV, x_orV, x_notB, x_if, x_nil, x_cons, x_tup, x_lst, x_call, x_callK, x_gN, x_gT, x_gs0, x_gs1, x_yes, x_iSeq, x_iEn, x_words, x_ml, x_disp, x_d0, x_pnil, x_pcons, csAt, List.getD_cons_zero, List.getD_cons_succ, List.getElem?_cons_zero, List.getElem?_cons_succ, List.set_cons_zero, List.set_cons_succ]
        refine right_ok bf (by omega) (by omega) bg ?_
        show sp__law_is_right [.tup [f1', f2'].reverse, .bl false, .bl true] S4 (fun d S' => match truD S' d with | some b => Q (!b) S' | none => False)
        exact right_ok br (by omega) (by omega) bh (q0 trivial)
      · simp only [x_back, x_ifT, fnAt, x_lc, x_lcN, x_var, x_C, x_op, x_un, x_slice, x_noPart, x_part, x_tru, x_B, x_chain, x_and, x_or, x_not, x_andV, x_orV, x_notB, x_if, x_nil, x_cons, x_tup, x_lst, x_call, x_callK, x_gN, x_gT, x_gs0, x_gs1, x_yes, x_iSeq, x_iEn, x_words, x_ml, x_disp, x_d0, x_pnil, x_pcons, csAt, List.getD_cons_zero, List.getD_cons_succ, List.getElem?_cons_zero, List.getElem?_cons_succ, List.set_cons_zero, List.set_cons_succ, x_seq, x_skip, x_ifS, x_ret, x_retN, x_asg, x_par, x_expr, x_brk, x_cnt]
        exact right_ok hv hs hn' hvl (hR S4)
end
end K05

namespace K05
open PySem PySem.Spec L2 Dv
open PyProof.Rows hiding St
/-- the values are these texts -/
def valsB : List Value → List D → Bool
  | [], [] => true
  | .str z _ :: r, .str y :: ds => decide (z = y) && valsB r ds
  | _, _ => false
theorem vals_of {K : PySem.W.Frag} {H : Hp} : ∀ {us : List Value} {ds : List D}, valsB us ds = true → ∃ vs, Vals vs us ∧ DenL K H ds vs
  | [], [], _ => ⟨[], .nil, .nil⟩
  | .str z t :: r, .str y :: ds, h => by
    rw [valsB, Bool.and_eq_true, decide_eq_true_eq] at h
    obtain ⟨rfl, h2⟩ := h
    obtain ⟨vs, h3, h4⟩ := vals_of (K := K) (H := H) h2
    exact ⟨.str z :: vs, .cons ⟨t, rfl⟩ h3, .cons (.str z) h4⟩
theorem con_tup {K : PySem.W.Frag} {mg : Str → Option Value} {x : Str} {q : Addr} {o : Obj} {its : Array Value} {n : Nat} {ds : List D} (g : mg x = some (.ref q)) (h : K.lookup q = some o) (j : o.cls = .type "tuple" ∧ o.data = .seq its n ∧ its.size ≤ sizeLine) (z : valsB its.toList ds = true) :
    ∃ v u, mg x = some u ∧ RelV v u ∧ ∀ H, Den K H (.tup ds) v := by
  refine ⟨.ref q, _, g, rfl, fun H => ?_⟩
  obtain ⟨vs, h1, h2⟩ := vals_of (K := K) (H := H) z
  exact .tup (.inr ⟨o, its, n, h, j.1, j.2.1, j.2.2, h1⟩) h2
section
variable {K : PySem.W.Frag} {mg : Str → Option Value} {h : Heap}
theorem top {l : PySem.W.OpenLaw} {w : World} {fa : Addr} (X : K.In h) (G : h.Ns mainGlobals mg) (hfa : mg "law" = some (.ref fa))
    {f__law_deck : Addr} {oc__law_deck kV__law_deck dc__law_deck pm__law_deck cd__law_deck ct__law_deck : Value} {od__law_deck an__law_deck : Option Addr} {sl__law_deck : Array (Option Value)}
    {f__law_is_from : Addr} {oc__law_is_from kV__law_is_from dc__law_is_from pm__law_is_from cd__law_is_from ct__law_is_from : Value} {od__law_is_from an__law_is_from : Option Addr} {sl__law_is_from : Array (Option Value)}
    {f__law_words : Addr} {oc__law_words kV__law_words dc__law_words pm__law_words cd__law_words ct__law_words : Value} {od__law_words an__law_words : Option Addr} {sl__law_words : Array (Option Value)}
    {f__law_is_name : Addr} {oc__law_is_name kV__law_is_name dc__law_is_name pm__law_is_name cd__law_is_name ct__law_is_name : Value} {od__law_is_name an__law_is_name : Option Addr} {sl__law_is_name : Array (Option Value)}
    {f__law_due : Addr} {oc__law_due kV__law_due dc__law_due pm__law_due cd__law_due ct__law_due : Value} {od__law_due an__law_due : Option Addr} {sl__law_due : Array (Option Value)}
    {f_order_error : Addr} {oc_order_error kV_order_error dc_order_error pm_order_error cd_order_error ct_order_error : Value} {od_order_error an_order_error : Option Addr} {sl_order_error : Array (Option Value)}
    {f_is_name : Addr} {oc_is_name kV_is_name dc_is_name pm_is_name cd_is_name ct_is_name : Value} {od_is_name an_is_name : Option Addr} {sl_is_name : Array (Option Value)}
    {f_is_told_name : Addr} {oc_is_told_name kV_is_told_name dc_is_told_name pm_is_told_name cd_is_told_name ct_is_told_name : Value} {od_is_told_name an_is_told_name : Option Addr} {sl_is_told_name : Array (Option Value)}
    {f_is_value : Addr} {oc_is_value kV_is_value dc_is_value pm_is_value cd_is_value ct_is_value : Value} {od_is_value an_is_value : Option Addr} {sl_is_value : Array (Option Value)}
    {f_is_store_item : Addr} {oc_is_store_item kV_is_store_item dc_is_store_item pm_is_store_item cd_is_store_item ct_is_store_item : Value} {od_is_store_item an_is_store_item : Option Addr} {sl_is_store_item : Array (Option Value)}
    {f_store_error : Addr} {oc_store_error kV_store_error dc_store_error pm_store_error cd_store_error ct_store_error : Value} {od_store_error an_store_error : Option Addr} {sl_store_error : Array (Option Value)}
    {f_is_heap_item : Addr} {oc_is_heap_item kV_is_heap_item dc_is_heap_item pm_is_heap_item cd_is_heap_item ct_is_heap_item : Value} {od_is_heap_item an_is_heap_item : Option Addr} {sl_is_heap_item : Array (Option Value)}
    {f_heap_error : Addr} {oc_heap_error kV_heap_error dc_heap_error pm_heap_error cd_heap_error ct_heap_error : Value} {od_heap_error an_heap_error : Option Addr} {sl_heap_error : Array (Option Value)}
    {f__law_is_right : Addr} {oc__law_is_right kV__law_is_right dc__law_is_right pm__law_is_right cd__law_is_right ct__law_is_right : Value} {od__law_is_right an__law_is_right : Option Addr} {sl__law_is_right : Array (Option Value)}
    {f__law_draw : Addr} {oc__law_draw kV__law_draw dc__law_draw pm__law_draw cd__law_draw ct__law_draw : Value} {od__law_draw an__law_draw : Option Addr} {sl__law_draw : Array (Option Value)}
    {f__law_pick : Addr} {oc__law_pick kV__law_pick dc__law_pick pm__law_pick cd__law_pick ct__law_pick : Value} {od__law_pick an__law_pick : Option Addr} {sl__law_pick : Array (Option Value)}
    {f__law_heap : Addr} {oc__law_heap kV__law_heap dc__law_heap pm__law_heap cd__law_heap ct__law_heap : Value} {od__law_heap an__law_heap : Option Addr} {sl__law_heap : Array (Option Value)}
    {f__law_shuffled : Addr} {oc__law_shuffled kV__law_shuffled dc__law_shuffled pm__law_shuffled cd__law_shuffled ct__law_shuffled : Value} {od__law_shuffled an__law_shuffled : Option Addr} {sl__law_shuffled : Array (Option Value)}
    {f__law_store : Addr} {oc__law_store kV__law_store dc__law_store pm__law_store cd__law_store ct__law_store : Value} {od__law_store an__law_store : Option Addr} {sl__law_store : Array (Option Value)}
    {f__law_odd_item : Addr} {oc__law_odd_item kV__law_odd_item dc__law_odd_item pm__law_odd_item cd__law_odd_item ct__law_odd_item : Value} {od__law_odd_item an__law_odd_item : Option Addr} {sl__law_odd_item : Array (Option Value)}
    {f__law_turned : Addr} {oc__law_turned kV__law_turned dc__law_turned pm__law_turned cd__law_turned ct__law_turned : Value} {od__law_turned an__law_turned : Option Addr} {sl__law_turned : Array (Option Value)}
    {f__law_odd_value : Addr} {oc__law_odd_value kV__law_odd_value dc__law_odd_value pm__law_odd_value cd__law_odd_value ct__law_odd_value : Value} {od__law_odd_value an__law_odd_value : Option Addr} {sl__law_odd_value : Array (Option Value)}
    {f_law : Addr} {oc_law kV_law dc_law pm_law cd_law ct_law : Value} {od_law an_law : Option Addr} {sl_law : Array (Option Value)}
    {t_SMALL_LETTERS : Tok}
    {q_WORDS : Addr} {o_WORDS : Obj} {i_WORDS : Array Value} {n_WORDS : Nat}
    (a__law_deck : PySem.W.nsIn K mainGlobals "_law_deck" = some (some (.ref f__law_deck))) (l__law_deck : K.lookup f__law_deck = some ⟨oc__law_deck, od__law_deck, .func (PySem.W.fnOf "_law_deck" "_law_deck" (defArgs s__law_deck) (defBody s__law_deck) (defScope s__law_deck) .none kV__law_deck dc__law_deck pm__law_deck an__law_deck cd__law_deck ct__law_deck), sl__law_deck⟩) (c__law_deck : PySem.W.codeIn K cd__law_deck "_law_deck" = true) (k__law_deck : PySem.W.keepIn K (.ref f__law_deck) = true)
    (a__law_is_from : PySem.W.nsIn K mainGlobals "_law_is_from" = some (some (.ref f__law_is_from))) (l__law_is_from : K.lookup f__law_is_from = some ⟨oc__law_is_from, od__law_is_from, .func (PySem.W.fnOf "_law_is_from" "_law_is_from" (defArgs s__law_is_from) (defBody s__law_is_from) (defScope s__law_is_from) .none kV__law_is_from dc__law_is_from pm__law_is_from an__law_is_from cd__law_is_from ct__law_is_from), sl__law_is_from⟩) (c__law_is_from : PySem.W.codeIn K cd__law_is_from "_law_is_from" = true) (k__law_is_from : PySem.W.keepIn K (.ref f__law_is_from) = true)
    (a__law_words : PySem.W.nsIn K mainGlobals "_law_words" = some (some (.ref f__law_words))) (l__law_words : K.lookup f__law_words = some ⟨oc__law_words, od__law_words, .func (PySem.W.fnOf "_law_words" "_law_words" (defArgs s__law_words) (defBody s__law_words) (defScope s__law_words) .none kV__law_words dc__law_words pm__law_words an__law_words cd__law_words ct__law_words), sl__law_words⟩) (c__law_words : PySem.W.codeIn K cd__law_words "_law_words" = true) (k__law_words : PySem.W.keepIn K (.ref f__law_words) = true)
    (a__law_is_name : PySem.W.nsIn K mainGlobals "_law_is_name" = some (some (.ref f__law_is_name))) (l__law_is_name : K.lookup f__law_is_name = some ⟨oc__law_is_name, od__law_is_name, .func (PySem.W.fnOf "_law_is_name" "_law_is_name" (defArgs s__law_is_name) (defBody s__law_is_name) (defScope s__law_is_name) .none kV__law_is_name dc__law_is_name pm__law_is_name an__law_is_name cd__law_is_name ct__law_is_name), sl__law_is_name⟩) (c__law_is_name : PySem.W.codeIn K cd__law_is_name "_law_is_name" = true) (k__law_is_name : PySem.W.keepIn K (.ref f__law_is_name) = true)
    (a__law_due : PySem.W.nsIn K mainGlobals "_law_due" = some (some (.ref f__law_due))) (l__law_due : K.lookup f__law_due = some ⟨oc__law_due, od__law_due, .func (PySem.W.fnOf "_law_due" "_law_due" (defArgs s__law_due) (defBody s__law_due) (defScope s__law_due) .none kV__law_due dc__law_due pm__law_due an__law_due cd__law_due ct__law_due), sl__law_due⟩) (c__law_due : PySem.W.codeIn K cd__law_due "_law_due" = true) (k__law_due : PySem.W.keepIn K (.ref f__law_due) = true)
    (a_order_error : PySem.W.nsIn K mainGlobals "order_error" = some (some (.ref f_order_error))) (l_order_error : K.lookup f_order_error = some ⟨oc_order_error, od_order_error, .func (PySem.W.fnOf "order_error" "order_error" (defArgs s_order_error) (defBody s_order_error) (defScope s_order_error) .none kV_order_error dc_order_error pm_order_error an_order_error cd_order_error ct_order_error), sl_order_error⟩) (c_order_error : PySem.W.codeIn K cd_order_error "order_error" = true) (k_order_error : PySem.W.keepIn K (.ref f_order_error) = true)
    (a_is_name : PySem.W.nsIn K mainGlobals "is_name" = some (some (.ref f_is_name))) (l_is_name : K.lookup f_is_name = some ⟨oc_is_name, od_is_name, .func (PySem.W.fnOf "is_name" "is_name" (defArgs s_is_name) (defBody s_is_name) (defScope s_is_name) .none kV_is_name dc_is_name pm_is_name an_is_name cd_is_name ct_is_name), sl_is_name⟩) (c_is_name : PySem.W.codeIn K cd_is_name "is_name" = true) (k_is_name : PySem.W.keepIn K (.ref f_is_name) = true)
    (a_is_told_name : PySem.W.nsIn K mainGlobals "is_told_name" = some (some (.ref f_is_told_name))) (l_is_told_name : K.lookup f_is_told_name = some ⟨oc_is_told_name, od_is_told_name, .func (PySem.W.fnOf "is_told_name" "is_told_name" (defArgs s_is_told_name) (defBody s_is_told_name) (defScope s_is_told_name) .none kV_is_told_name dc_is_told_name pm_is_told_name an_is_told_name cd_is_told_name ct_is_told_name), sl_is_told_name⟩) (c_is_told_name : PySem.W.codeIn K cd_is_told_name "is_told_name" = true) (k_is_told_name : PySem.W.keepIn K (.ref f_is_told_name) = true)
    (a_is_value : PySem.W.nsIn K mainGlobals "is_value" = some (some (.ref f_is_value))) (l_is_value : K.lookup f_is_value = some ⟨oc_is_value, od_is_value, .func (PySem.W.fnOf "is_value" "is_value" (defArgs s_is_value) (defBody s_is_value) (defScope s_is_value) .none kV_is_value dc_is_value pm_is_value an_is_value cd_is_value ct_is_value), sl_is_value⟩) (c_is_value : PySem.W.codeIn K cd_is_value "is_value" = true) (k_is_value : PySem.W.keepIn K (.ref f_is_value) = true)
    (a_is_store_item : PySem.W.nsIn K mainGlobals "is_store_item" = some (some (.ref f_is_store_item))) (l_is_store_item : K.lookup f_is_store_item = some ⟨oc_is_store_item, od_is_store_item, .func (PySem.W.fnOf "is_store_item" "is_store_item" (defArgs s_is_store_item) (defBody s_is_store_item) (defScope s_is_store_item) .none kV_is_store_item dc_is_store_item pm_is_store_item an_is_store_item cd_is_store_item ct_is_store_item), sl_is_store_item⟩) (c_is_store_item : PySem.W.codeIn K cd_is_store_item "is_store_item" = true) (k_is_store_item : PySem.W.keepIn K (.ref f_is_store_item) = true)
    (a_store_error : PySem.W.nsIn K mainGlobals "store_error" = some (some (.ref f_store_error))) (l_store_error : K.lookup f_store_error = some ⟨oc_store_error, od_store_error, .func (PySem.W.fnOf "store_error" "store_error" (defArgs s_store_error) (defBody s_store_error) (defScope s_store_error) .none kV_store_error dc_store_error pm_store_error an_store_error cd_store_error ct_store_error), sl_store_error⟩) (c_store_error : PySem.W.codeIn K cd_store_error "store_error" = true) (k_store_error : PySem.W.keepIn K (.ref f_store_error) = true)
    (a_is_heap_item : PySem.W.nsIn K mainGlobals "is_heap_item" = some (some (.ref f_is_heap_item))) (l_is_heap_item : K.lookup f_is_heap_item = some ⟨oc_is_heap_item, od_is_heap_item, .func (PySem.W.fnOf "is_heap_item" "is_heap_item" (defArgs s_is_heap_item) (defBody s_is_heap_item) (defScope s_is_heap_item) .none kV_is_heap_item dc_is_heap_item pm_is_heap_item an_is_heap_item cd_is_heap_item ct_is_heap_item), sl_is_heap_item⟩) (c_is_heap_item : PySem.W.codeIn K cd_is_heap_item "is_heap_item" = true) (k_is_heap_item : PySem.W.keepIn K (.ref f_is_heap_item) = true)
    (a_heap_error : PySem.W.nsIn K mainGlobals "heap_error" = some (some (.ref f_heap_error))) (l_heap_error : K.lookup f_heap_error = some ⟨oc_heap_error, od_heap_error, .func (PySem.W.fnOf "heap_error" "heap_error" (defArgs s_heap_error) (defBody s_heap_error) (defScope s_heap_error) .none kV_heap_error dc_heap_error pm_heap_error an_heap_error cd_heap_error ct_heap_error), sl_heap_error⟩) (c_heap_error : PySem.W.codeIn K cd_heap_error "heap_error" = true) (k_heap_error : PySem.W.keepIn K (.ref f_heap_error) = true)
    (a__law_is_right : PySem.W.nsIn K mainGlobals "_law_is_right" = some (some (.ref f__law_is_right))) (l__law_is_right : K.lookup f__law_is_right = some ⟨oc__law_is_right, od__law_is_right, .func (PySem.W.fnOf "_law_is_right" "_law_is_right" (defArgs s__law_is_right) (defBody s__law_is_right) (defScope s__law_is_right) .none kV__law_is_right dc__law_is_right pm__law_is_right an__law_is_right cd__law_is_right ct__law_is_right), sl__law_is_right⟩) (c__law_is_right : PySem.W.codeIn K cd__law_is_right "_law_is_right" = true) (k__law_is_right : PySem.W.keepIn K (.ref f__law_is_right) = true)
    (a__law_draw : PySem.W.nsIn K mainGlobals "_law_draw" = some (some (.ref f__law_draw))) (l__law_draw : K.lookup f__law_draw = some ⟨oc__law_draw, od__law_draw, .func (PySem.W.fnOf "_law_draw" "_law_draw" (defArgs s__law_draw) (defBody s__law_draw) (defScope s__law_draw) .none kV__law_draw dc__law_draw pm__law_draw an__law_draw cd__law_draw ct__law_draw), sl__law_draw⟩) (c__law_draw : PySem.W.codeIn K cd__law_draw "_law_draw" = true) (k__law_draw : PySem.W.keepIn K (.ref f__law_draw) = true)
    (a__law_pick : PySem.W.nsIn K mainGlobals "_law_pick" = some (some (.ref f__law_pick))) (l__law_pick : K.lookup f__law_pick = some ⟨oc__law_pick, od__law_pick, .func (PySem.W.fnOf "_law_pick" "_law_pick" (defArgs s__law_pick) (defBody s__law_pick) (defScope s__law_pick) .none kV__law_pick dc__law_pick pm__law_pick an__law_pick cd__law_pick ct__law_pick), sl__law_pick⟩) (c__law_pick : PySem.W.codeIn K cd__law_pick "_law_pick" = true) (k__law_pick : PySem.W.keepIn K (.ref f__law_pick) = true)
    (a__law_heap : PySem.W.nsIn K mainGlobals "_law_heap" = some (some (.ref f__law_heap))) (l__law_heap : K.lookup f__law_heap = some ⟨oc__law_heap, od__law_heap, .func (PySem.W.fnOf "_law_heap" "_law_heap" (defArgs s__law_heap) (defBody s__law_heap) (defScope s__law_heap) .none kV__law_heap dc__law_heap pm__law_heap an__law_heap cd__law_heap ct__law_heap), sl__law_heap⟩) (c__law_heap : PySem.W.codeIn K cd__law_heap "_law_heap" = true) (k__law_heap : PySem.W.keepIn K (.ref f__law_heap) = true)
    (a__law_shuffled : PySem.W.nsIn K mainGlobals "_law_shuffled" = some (some (.ref f__law_shuffled))) (l__law_shuffled : K.lookup f__law_shuffled = some ⟨oc__law_shuffled, od__law_shuffled, .func (PySem.W.fnOf "_law_shuffled" "_law_shuffled" (defArgs s__law_shuffled) (defBody s__law_shuffled) (defScope s__law_shuffled) .none kV__law_shuffled dc__law_shuffled pm__law_shuffled an__law_shuffled cd__law_shuffled ct__law_shuffled), sl__law_shuffled⟩) (c__law_shuffled : PySem.W.codeIn K cd__law_shuffled "_law_shuffled" = true) (k__law_shuffled : PySem.W.keepIn K (.ref f__law_shuffled) = true)
    (a__law_store : PySem.W.nsIn K mainGlobals "_law_store" = some (some (.ref f__law_store))) (l__law_store : K.lookup f__law_store = some ⟨oc__law_store, od__law_store, .func (PySem.W.fnOf "_law_store" "_law_store" (defArgs s__law_store) (defBody s__law_store) (defScope s__law_store) .none kV__law_store dc__law_store pm__law_store an__law_store cd__law_store ct__law_store), sl__law_store⟩) (c__law_store : PySem.W.codeIn K cd__law_store "_law_store" = true) (k__law_store : PySem.W.keepIn K (.ref f__law_store) = true)
    (a__law_odd_item : PySem.W.nsIn K mainGlobals "_law_odd_item" = some (some (.ref f__law_odd_item))) (l__law_odd_item : K.lookup f__law_odd_item = some ⟨oc__law_odd_item, od__law_odd_item, .func (PySem.W.fnOf "_law_odd_item" "_law_odd_item" (defArgs s__law_odd_item) (defBody s__law_odd_item) (defScope s__law_odd_item) .none kV__law_odd_item dc__law_odd_item pm__law_odd_item an__law_odd_item cd__law_odd_item ct__law_odd_item), sl__law_odd_item⟩) (c__law_odd_item : PySem.W.codeIn K cd__law_odd_item "_law_odd_item" = true) (k__law_odd_item : PySem.W.keepIn K (.ref f__law_odd_item) = true)
    (a__law_turned : PySem.W.nsIn K mainGlobals "_law_turned" = some (some (.ref f__law_turned))) (l__law_turned : K.lookup f__law_turned = some ⟨oc__law_turned, od__law_turned, .func (PySem.W.fnOf "_law_turned" "_law_turned" (defArgs s__law_turned) (defBody s__law_turned) (defScope s__law_turned) .none kV__law_turned dc__law_turned pm__law_turned an__law_turned cd__law_turned ct__law_turned), sl__law_turned⟩) (c__law_turned : PySem.W.codeIn K cd__law_turned "_law_turned" = true) (k__law_turned : PySem.W.keepIn K (.ref f__law_turned) = true)
    (a__law_odd_value : PySem.W.nsIn K mainGlobals "_law_odd_value" = some (some (.ref f__law_odd_value))) (l__law_odd_value : K.lookup f__law_odd_value = some ⟨oc__law_odd_value, od__law_odd_value, .func (PySem.W.fnOf "_law_odd_value" "_law_odd_value" (defArgs s__law_odd_value) (defBody s__law_odd_value) (defScope s__law_odd_value) .none kV__law_odd_value dc__law_odd_value pm__law_odd_value an__law_odd_value cd__law_odd_value ct__law_odd_value), sl__law_odd_value⟩) (c__law_odd_value : PySem.W.codeIn K cd__law_odd_value "_law_odd_value" = true) (k__law_odd_value : PySem.W.keepIn K (.ref f__law_odd_value) = true)
    (a_law : PySem.W.nsIn K mainGlobals "law" = some (some (.ref f_law))) (l_law : K.lookup f_law = some ⟨oc_law, od_law, .func (PySem.W.fnOf "law" "law" (defArgs s_law) (defBody s_law) (defScope s_law) .none kV_law dc_law pm_law an_law cd_law ct_law), sl_law⟩) (c_law : PySem.W.codeIn K cd_law "law" = true) (k_law : PySem.W.keepIn K (.ref f_law) = true)
    (g_SMALL_LETTERS : PySem.W.nsIn K mainGlobals "SMALL_LETTERS" = some (some (.str "abcdefghijklmnopqrstuvwxyz" t_SMALL_LETTERS)))
    (g_WORDS : PySem.W.nsIn K mainGlobals "WORDS" = some (some (.ref q_WORDS))) (h_WORDS : K.lookup q_WORDS = some o_WORDS) (j_WORDS : o_WORDS.cls = .type "tuple" ∧ o_WORDS.data = .seq i_WORDS n_WORDS ∧ i_WORDS.size ≤ sizeLine) (z_WORDS : valsB i_WORDS.toList (match c_WORDS with | .tup l => l | _ => []) = true)
    (y_abs : PySem.W.nsIn K mainGlobals "abs" = some none)
    (y_all : PySem.W.nsIn K mainGlobals "all" = some none)
    (y_bool : PySem.W.nsIn K mainGlobals "bool" = some none)
    (y_enumerate : PySem.W.nsIn K mainGlobals "enumerate" = some none)
    (y_int : PySem.W.nsIn K mainGlobals "int" = some none)
    (y_isinstance : PySem.W.nsIn K mainGlobals "isinstance" = some none)
    (y_len : PySem.W.nsIn K mainGlobals "len" = some none)
    (y_list : PySem.W.nsIn K mainGlobals "list" = some none)
    (y_range : PySem.W.nsIn K mainGlobals "range" = some none)
    (y_repr : PySem.W.nsIn K mainGlobals "repr" = some none)
    (y_sorted : PySem.W.nsIn K mainGlobals "sorted" = some none)
    (y_str : PySem.W.nsIn K mainGlobals "str" = some none)
    (y_tuple : PySem.W.nsIn K mainGlobals "tuple" = some none) :
    ∃ fd : FuncData, (∀ (s : Shared) (v : Value), BindsTo s fd ⟨[v], []⟩ [("script", v)]) ∧ ∀ b0 : Heap, K.In b0 → b0.Ns mainGlobals mg → FnG l.prog w K mg b0 7 fa fd ["script"] (spOf K DI 1 sp_law) := by
  have e := hfa.symm.trans (PySem.W.mg_of X G a_law)
  cases e
  have F_law := fun_mk (st := s_law) l_law c_law k_law
  have d__law_deck : Df K mg "_law_deck" s__law_deck ["script"] [] := ⟨_, _, PySem.W.mg_of X G a__law_deck, fun_mk (st := s__law_deck) l__law_deck c__law_deck k__law_deck, (fun_mk (st := s__law_deck) l__law_deck c__law_deck k__law_deck).binds (ps := ["script"]) (fun _ _ _ _ _ _ us hl => match us, hl with | [_], _ => rfl), (fun sh m => nomatch m)⟩
  have d__law_is_from : Df K mg "_law_is_from" s__law_is_from ["value", "least"] [] := ⟨_, _, PySem.W.mg_of X G a__law_is_from, fun_mk (st := s__law_is_from) l__law_is_from c__law_is_from k__law_is_from, (fun_mk (st := s__law_is_from) l__law_is_from c__law_is_from k__law_is_from).binds (ps := ["value", "least"]) (fun _ _ _ _ _ _ us hl => match us, hl with | [_, _], _ => rfl), (fun sh m => nomatch m)⟩
  have d__law_words : Df K mg "_law_words" s__law_words [] [] := ⟨_, _, PySem.W.mg_of X G a__law_words, fun_mk (st := s__law_words) l__law_words c__law_words k__law_words, (fun_mk (st := s__law_words) l__law_words c__law_words k__law_words).binds (ps := []) (fun _ _ _ _ _ _ us hl => match us, hl with | [], _ => rfl), (fun sh m => nomatch m)⟩
  have d__law_is_name : Df K mg "_law_is_name" s__law_is_name ["value"] [] := ⟨_, _, PySem.W.mg_of X G a__law_is_name, fun_mk (st := s__law_is_name) l__law_is_name c__law_is_name k__law_is_name, (fun_mk (st := s__law_is_name) l__law_is_name c__law_is_name k__law_is_name).binds (ps := ["value"]) (fun _ _ _ _ _ _ us hl => match us, hl with | [_], _ => rfl), (fun sh m => nomatch m)⟩
  have d__law_due : Df K mg "_law_due" s__law_due ["value", "is_store"] [] := ⟨_, _, PySem.W.mg_of X G a__law_due, fun_mk (st := s__law_due) l__law_due c__law_due k__law_due, (fun_mk (st := s__law_due) l__law_due c__law_due k__law_due).binds (ps := ["value", "is_store"]) (fun _ _ _ _ _ _ us hl => match us, hl with | [_, _], _ => rfl), (fun sh m => nomatch m)⟩
  have d_order_error : Df K mg "order_error" s_order_error ["value"] [] := ⟨_, _, PySem.W.mg_of X G a_order_error, fun_mk (st := s_order_error) l_order_error c_order_error k_order_error, (fun_mk (st := s_order_error) l_order_error c_order_error k_order_error).binds (ps := ["value"]) (fun _ _ _ _ _ _ us hl => match us, hl with | [_], _ => rfl), (fun sh m => nomatch m)⟩
  have d_is_name : Df K mg "is_name" s_is_name ["value"] [] := ⟨_, _, PySem.W.mg_of X G a_is_name, fun_mk (st := s_is_name) l_is_name c_is_name k_is_name, (fun_mk (st := s_is_name) l_is_name c_is_name k_is_name).binds (ps := ["value"]) (fun _ _ _ _ _ _ us hl => match us, hl with | [_], _ => rfl), (fun sh m => nomatch m)⟩
  have d_is_told_name : Df K mg "is_told_name" s_is_told_name ["value"] [] := ⟨_, _, PySem.W.mg_of X G a_is_told_name, fun_mk (st := s_is_told_name) l_is_told_name c_is_told_name k_is_told_name, (fun_mk (st := s_is_told_name) l_is_told_name c_is_told_name k_is_told_name).binds (ps := ["value"]) (fun _ _ _ _ _ _ us hl => match us, hl with | [_], _ => rfl), (fun sh m => nomatch m)⟩
  have d_is_value : Df K mg "is_value" s_is_value ["value"] [] := ⟨_, _, PySem.W.mg_of X G a_is_value, fun_mk (st := s_is_value) l_is_value c_is_value k_is_value, (fun_mk (st := s_is_value) l_is_value c_is_value k_is_value).binds (ps := ["value"]) (fun _ _ _ _ _ _ us hl => match us, hl with | [_], _ => rfl), (fun sh m => nomatch m)⟩
  have d_is_store_item : Df K mg "is_store_item" s_is_store_item ["value"] [] := ⟨_, _, PySem.W.mg_of X G a_is_store_item, fun_mk (st := s_is_store_item) l_is_store_item c_is_store_item k_is_store_item, (fun_mk (st := s_is_store_item) l_is_store_item c_is_store_item k_is_store_item).binds (ps := ["value"]) (fun _ _ _ _ _ _ us hl => match us, hl with | [_], _ => rfl), (fun sh m => nomatch m)⟩
  have d_store_error : Df K mg "store_error" s_store_error ["value"] [(0, ["value"], [0])] := ⟨_, _, PySem.W.mg_of X G a_store_error, fun_mk (st := s_store_error) l_store_error c_store_error k_store_error, (fun_mk (st := s_store_error) l_store_error c_store_error k_store_error).binds (ps := ["value"]) (fun _ _ _ _ _ _ us hl => match us, hl with | [_], _ => rfl), (fun sh m => by rw [List.mem_singleton.mp m]; exact fun s us ws _ h1 h2 => match us, ws, h1, h2 with | [], [_], _, _ => .of_eq rfl)⟩
  have d_is_heap_item : Df K mg "is_heap_item" s_is_heap_item ["value"] [] := ⟨_, _, PySem.W.mg_of X G a_is_heap_item, fun_mk (st := s_is_heap_item) l_is_heap_item c_is_heap_item k_is_heap_item, (fun_mk (st := s_is_heap_item) l_is_heap_item c_is_heap_item k_is_heap_item).binds (ps := ["value"]) (fun _ _ _ _ _ _ us hl => match us, hl with | [_], _ => rfl), (fun sh m => nomatch m)⟩
  have d_heap_error : Df K mg "heap_error" s_heap_error ["value"] [(0, ["value"], [0])] := ⟨_, _, PySem.W.mg_of X G a_heap_error, fun_mk (st := s_heap_error) l_heap_error c_heap_error k_heap_error, (fun_mk (st := s_heap_error) l_heap_error c_heap_error k_heap_error).binds (ps := ["value"]) (fun _ _ _ _ _ _ us hl => match us, hl with | [_], _ => rfl), (fun sh m => by rw [List.mem_singleton.mp m]; exact fun s us ws _ h1 h2 => match us, ws, h1, h2 with | [], [_], _, _ => .of_eq rfl)⟩
  have d__law_is_right : Df K mg "_law_is_right" s__law_is_right ["value", "is_store", "is_named"] [] := ⟨_, _, PySem.W.mg_of X G a__law_is_right, fun_mk (st := s__law_is_right) l__law_is_right c__law_is_right k__law_is_right, (fun_mk (st := s__law_is_right) l__law_is_right c__law_is_right k__law_is_right).binds (ps := ["value", "is_store", "is_named"]) (fun _ _ _ _ _ _ us hl => match us, hl with | [_, _, _], _ => rfl), (fun sh m => nomatch m)⟩
  have d__law_draw : Df K mg "_law_draw" s__law_draw ["deck", "many"] [] := ⟨_, _, PySem.W.mg_of X G a__law_draw, fun_mk (st := s__law_draw) l__law_draw c__law_draw k__law_draw, (fun_mk (st := s__law_draw) l__law_draw c__law_draw k__law_draw).binds (ps := ["deck", "many"]) (fun _ _ _ _ _ _ us hl => match us, hl with | [_, _], _ => rfl), (fun sh m => nomatch m)⟩
  have d__law_pick : Df K mg "_law_pick" s__law_pick ["deck", "items"] [] := ⟨_, _, PySem.W.mg_of X G a__law_pick, fun_mk (st := s__law_pick) l__law_pick c__law_pick k__law_pick, (fun_mk (st := s__law_pick) l__law_pick c__law_pick k__law_pick).binds (ps := ["deck", "items"]) (fun _ _ _ _ _ _ us hl => match us, hl with | [_, _], _ => rfl), (fun sh m => nomatch m)⟩
  have d__law_heap : Df K mg "_law_heap" s__law_heap ["deck", "many"] [] := ⟨_, _, PySem.W.mg_of X G a__law_heap, fun_mk (st := s__law_heap) l__law_heap c__law_heap k__law_heap, (fun_mk (st := s__law_heap) l__law_heap c__law_heap k__law_heap).binds (ps := ["deck", "many"]) (fun _ _ _ _ _ _ us hl => match us, hl with | [_, _], _ => rfl), (fun sh m => nomatch m)⟩
  have d__law_shuffled : Df K mg "_law_shuffled" s__law_shuffled ["deck", "items"] [] := ⟨_, _, PySem.W.mg_of X G a__law_shuffled, fun_mk (st := s__law_shuffled) l__law_shuffled c__law_shuffled k__law_shuffled, (fun_mk (st := s__law_shuffled) l__law_shuffled c__law_shuffled k__law_shuffled).binds (ps := ["deck", "items"]) (fun _ _ _ _ _ _ us hl => match us, hl with | [_, _], _ => rfl), (fun sh m => nomatch m)⟩
  have d__law_store : Df K mg "_law_store" s__law_store ["deck"] [] := ⟨_, _, PySem.W.mg_of X G a__law_store, fun_mk (st := s__law_store) l__law_store c__law_store k__law_store, (fun_mk (st := s__law_store) l__law_store c__law_store k__law_store).binds (ps := ["deck"]) (fun _ _ _ _ _ _ us hl => match us, hl with | [_], _ => rfl), (fun sh m => nomatch m)⟩
  have d__law_odd_item : Df K mg "_law_odd_item" s__law_odd_item ["deck", "own", "is_store"] [] := ⟨_, _, PySem.W.mg_of X G a__law_odd_item, fun_mk (st := s__law_odd_item) l__law_odd_item c__law_odd_item k__law_odd_item, (fun_mk (st := s__law_odd_item) l__law_odd_item c__law_odd_item k__law_odd_item).binds (ps := ["deck", "own", "is_store"]) (fun _ _ _ _ _ _ us hl => match us, hl with | [_, _, _], _ => rfl), (fun sh m => nomatch m)⟩
  have d__law_turned : Df K mg "_law_turned" s__law_turned ["deck", "value", "is_store"] [] := ⟨_, _, PySem.W.mg_of X G a__law_turned, fun_mk (st := s__law_turned) l__law_turned c__law_turned k__law_turned, (fun_mk (st := s__law_turned) l__law_turned c__law_turned k__law_turned).binds (ps := ["deck", "value", "is_store"]) (fun _ _ _ _ _ _ us hl => match us, hl with | [_, _, _], _ => rfl), (fun sh m => nomatch m)⟩
  have d__law_odd_value : Df K mg "_law_odd_value" s__law_odd_value ["deck", "deep"] [] := ⟨_, _, PySem.W.mg_of X G a__law_odd_value, fun_mk (st := s__law_odd_value) l__law_odd_value c__law_odd_value k__law_odd_value, (fun_mk (st := s__law_odd_value) l__law_odd_value c__law_odd_value k__law_odd_value).binds (ps := ["deck", "deep"]) (fun _ _ _ _ _ _ us hl => match us, hl with | [_, _], _ => rfl), (fun sh m => nomatch m)⟩
  have C_SMALL_LETTERS : ∃ v u, mg "SMALL_LETTERS" = some u ∧ RelV v u ∧ ∀ H, Den K H c_SMALL_LETTERS v := ⟨.str "abcdefghijklmnopqrstuvwxyz", _, PySem.W.mg_of X G g_SMALL_LETTERS, ⟨_, rfl⟩, fun _ => .str _⟩
  have C_WORDS : ∃ v u, mg "WORDS" = some u ∧ RelV v u ∧ ∀ H, Den K H c_WORDS v := con_tup (PySem.W.mg_of X G g_WORDS) h_WORDS j_WORDS z_WORDS
  have B : ∀ x, (["abs", "all", "bool", "enumerate", "int", "isinstance", "len", "list", "range", "repr", "sorted", "str", "tuple"] : List Str).contains x = true → mg x = none := fun x hx => by
    have hx' : x ∈ (["abs", "all", "bool", "enumerate", "int", "isinstance", "len", "list", "range", "repr", "sorted", "str", "tuple"] : List Str) := by simpa using hx
    simp only [List.mem_cons, List.mem_nil_iff, or_false] at hx'
    rcases hx' with rfl | rfl | rfl | rfl | rfl | rfl | rfl | rfl | rfl | rfl | rfl | rfl | rfl
    · exact PySem.W.mg_none_of X G y_abs
    · exact PySem.W.mg_none_of X G y_all
    · exact PySem.W.mg_none_of X G y_bool
    · exact PySem.W.mg_none_of X G y_enumerate
    · exact PySem.W.mg_none_of X G y_int
    · exact PySem.W.mg_none_of X G y_isinstance
    · exact PySem.W.mg_none_of X G y_len
    · exact PySem.W.mg_none_of X G y_list
    · exact PySem.W.mg_none_of X G y_range
    · exact PySem.W.mg_none_of X G y_repr
    · exact PySem.W.mg_none_of X G y_sorted
    · exact PySem.W.mg_none_of X G y_str
    · exact PySem.W.mg_none_of X G y_tuple
  have sub : ∀ l : List Str, (l.all fun x => (["abs", "all", "bool", "enumerate", "int", "isinstance", "len", "list", "range", "repr", "sorted", "str", "tuple"] : List Str).contains x) = true → BlIn mg l := fun l hl x hx => B x (List.all_eq_true.mp hl x (by simpa using hx))
  have b__law_deck : BlIn mg ["abs", "int", "len"] := sub _ (by decide +kernel)
  have b__law_is_from : BlIn mg ["bool", "int", "isinstance"] := sub _ (by decide +kernel)
  have b__law_is_name : BlIn mg ["isinstance", "len", "str"] := sub _ (by decide +kernel)
  have b__law_due : BlIn mg ["enumerate", "isinstance", "len", "range", "tuple"] := sub _ (by decide +kernel)
  have b_order_error : BlIn mg ["len", "range"] := sub _ (by decide +kernel)
  have b_is_name : BlIn mg ["all", "isinstance", "len", "str"] := sub _ (by decide +kernel)
  have k_is_name : CsIn K mg [("SMALL_LETTERS", c_SMALL_LETTERS), ("WORDS", c_WORDS)] := ⟨C_SMALL_LETTERS, C_WORDS, trivial⟩
  have b_is_told_name : BlIn mg ["isinstance", "str"] := sub _ (by decide +kernel)
  have b_is_value : BlIn mg ["bool", "int", "isinstance"] := sub _ (by decide +kernel)
  have b_is_store_item : BlIn mg ["isinstance", "len", "tuple"] := sub _ (by decide +kernel)
  have b_store_error : BlIn mg ["enumerate", "isinstance", "tuple"] := sub _ (by decide +kernel)
  have b_is_heap_item : BlIn mg ["isinstance", "len", "tuple"] := sub _ (by decide +kernel)
  have b_heap_error : BlIn mg ["enumerate", "isinstance", "tuple"] := sub _ (by decide +kernel)
  have b__law_is_right : BlIn mg ["repr"] := sub _ (by decide +kernel)
  have b__law_draw : BlIn mg ["int"] := sub _ (by decide +kernel)
  have b__law_pick : BlIn mg ["len"] := sub _ (by decide +kernel)
  have b__law_heap : BlIn mg ["range", "tuple"] := sub _ (by decide +kernel)
  have b__law_shuffled : BlIn mg ["len", "list"] := sub _ (by decide +kernel)
  have b__law_store : BlIn mg ["sorted", "tuple"] := sub _ (by decide +kernel)
  have b__law_turned : BlIn mg ["len", "list"] := sub _ (by decide +kernel)
  have b__law_odd_value : BlIn mg ["range", "tuple"] := sub _ (by decide +kernel)
  have b_law : BlIn mg ["isinstance", "range", "tuple"] := sub _ (by decide +kernel)
  refine ⟨PySem.W.fnOf "law" "law" (defArgs s_law) (defBody s_law) (defScope s_law) .none kV_law dc_law pm_law an_law cd_law ct_law, fun s v => .of_eq rfl, fun b0 _ _ => ?_⟩
  have n_name := fn_is_name (P := l.prog) (w := w) (base := b0) (DI := DI) (k := 0) d_is_name k_is_name b_is_name
  have n_told := fn_is_told_name n_name d_is_told_name b_is_told_name
  have n_val := fn_is_value (P := l.prog) (w := w) (base := b0) (DI := DI) (k := 0) d_is_value b_is_value
  have n_si := fn_is_store_item (n_val.mono (by omega)) n_told d_is_store_item b_is_store_item
  have n_hi := fn_is_heap_item n_val d_is_heap_item b_is_heap_item
  have n_ord := fn_order_error (P := l.prog) (w := w) (base := b0) (DI := DI) (k := 0) d_order_error b_order_error
  have n_se := fn_store_error (n_ord.mono (by omega)) n_si d_store_error b_store_error
  have n_he := fn_heap_error (n_ord.mono (by omega)) n_hi d_heap_error b_heap_error
  have m_words := fn__law_words (P := l.prog) (w := w) (base := b0) (DI := DI) (k := 0) d__law_words
  have m_name := fn__law_is_name m_words d__law_is_name b__law_is_name
  have m_from := fn__law_is_from (P := l.prog) (w := w) (base := b0) (DI := DI) (k := 0) d__law_is_from b__law_is_from
  have m_due := fn__law_due m_name (m_from.mono (by omega)) d__law_due b__law_due
  have m_right := fn__law_is_right n_se (n_he.mono (by omega)) (m_due.mono (by omega)) d__law_is_right b__law_is_right
  have m_draw := fn__law_draw (P := l.prog) (w := w) (base := b0) (k := 0) d__law_draw b__law_draw
  have m_deck := fn__law_deck (P := l.prog) (w := w) (base := b0) (k := 0) d__law_deck b__law_deck
  have m_pick := fn__law_pick m_draw d__law_pick b__law_pick
  have m_heap := fn__law_heap m_pick d__law_heap b__law_heap
  have m_sh := fn__law_shuffled m_draw d__law_shuffled b__law_shuffled
  have m_store := fn__law_store m_pick m_sh (m_draw.mono (by omega)) d__law_store b__law_store
  have m_oi := fn__law_odd_item m_pick d__law_odd_item
  have m_turn := fn__law_turned (m_pick.mono (by omega)) m_oi (m_draw.mono (by omega)) d__law_turned b__law_turned
  have m_ov := fn__law_odd_value (m_draw.mono (by omega)) m_pick d__law_odd_value b__law_odd_value 3
  exact fn_law ⟨m_right.mono (by omega), m_draw.mono (by omega), m_heap.mono (by omega), m_ov, m_turn.mono (by omega), m_due.mono (by omega), m_store.mono (by omega), m_pick.mono (by omega), m_deck.mono (by omega), trivial⟩ F_law b_law
end
end K05
open PySem PySem.W PyProof.Rows
set_option maxHeartbeats 0 in
theorem PySem.Challenge.cw_heldapart_k05_what_are_stores_and_heaps_holds : PySem.Challenge.rw_heldapart_k05_what_are_stores_and_heaps.Holds := by
  w_on; o_law; k_head; (case hw => w_witness2)
  k_fill
  refine Dv.walk_G (l := PySem.Challenge.rw_heldapart_k05_what_are_stores_and_heaps) (n := 63) (k := 7) (x := "script") (DI := K05.DI) (sp := K05.sp_law) rfl (by decide) rfl ⟨rfl, by decide, by decide⟩ (fun w h Y => PySem.W.kIn_of Y) ?F (fun ns hl d R q e => ⟨ns, by rw [e], hl, rfl, q⟩) ?noL
  case noL =>
    intro P
    kernel_rfl
  case F =>
    intro w mg fa h KX G hmg
    refine' K05.top KX G hmg ?a__law_deck ?l__law_deck ?c__law_deck ?k__law_deck ?a__law_is_from ?l__law_is_from ?c__law_is_from ?k__law_is_from ?a__law_words ?l__law_words ?c__law_words ?k__law_words ?a__law_is_name ?l__law_is_name ?c__law_is_name ?k__law_is_name ?a__law_due ?l__law_due ?c__law_due ?k__law_due ?a_order_error ?l_order_error ?c_order_error ?k_order_error ?a_is_name ?l_is_name ?c_is_name ?k_is_name ?a_is_told_name ?l_is_told_name ?c_is_told_name ?k_is_told_name ?a_is_value ?l_is_value ?c_is_value ?k_is_value ?a_is_store_item ?l_is_store_item ?c_is_store_item ?k_is_store_item ?a_store_error ?l_store_error ?c_store_error ?k_store_error ?a_is_heap_item ?l_is_heap_item ?c_is_heap_item ?k_is_heap_item ?a_heap_error ?l_heap_error ?c_heap_error ?k_heap_error ?a__law_is_right ?l__law_is_right ?c__law_is_right ?k__law_is_right ?a__law_draw ?l__law_draw ?c__law_draw ?k__law_draw ?a__law_pick ?l__law_pick ?c__law_pick ?k__law_pick ?a__law_heap ?l__law_heap ?c__law_heap ?k__law_heap ?a__law_shuffled ?l__law_shuffled ?c__law_shuffled ?k__law_shuffled ?a__law_store ?l__law_store ?c__law_store ?k__law_store ?a__law_odd_item ?l__law_odd_item ?c__law_odd_item ?k__law_odd_item ?a__law_turned ?l__law_turned ?c__law_turned ?k__law_turned ?a__law_odd_value ?l__law_odd_value ?c__law_odd_value ?k__law_odd_value ?a_law ?l_law ?c_law ?k_law ?g_SMALL_LETTERS ?g_WORDS ?h_WORDS ?j_WORDS ?z_WORDS ?y_abs ?y_all ?y_bool ?y_enumerate ?y_int ?y_isinstance ?y_len ?y_list ?y_range ?y_repr ?y_sorted ?y_str ?y_tuple
    (case a__law_deck => k_is)
    (case l__law_deck => k_is)
    (case c__law_deck => k_is)
    (case k__law_deck => k_is)
    (case a__law_is_from => k_is)
    (case l__law_is_from => k_is)
    (case c__law_is_from => k_is)
    (case k__law_is_from => k_is)
    (case a__law_words => k_is)
    (case l__law_words => k_is)
    (case c__law_words => k_is)
    (case k__law_words => k_is)
    (case a__law_is_name => k_is)
    (case l__law_is_name => k_is)
    (case c__law_is_name => k_is)
    (case k__law_is_name => k_is)
    (case a__law_due => k_is)
    (case l__law_due => k_is)
    (case c__law_due => k_is)
    (case k__law_due => k_is)
    (case a_order_error => k_is)
    (case l_order_error => k_is)
    (case c_order_error => k_is)
    (case k_order_error => k_is)
    (case a_is_name => k_is)
    (case l_is_name => k_is)
    (case c_is_name => k_is)
    (case k_is_name => k_is)
    (case a_is_told_name => k_is)
    (case l_is_told_name => k_is)
    (case c_is_told_name => k_is)
    (case k_is_told_name => k_is)
    (case a_is_value => k_is)
    (case l_is_value => k_is)
    (case c_is_value => k_is)
    (case k_is_value => k_is)
    (case a_is_store_item => k_is)
    (case l_is_store_item => k_is)
    (case c_is_store_item => k_is)
    (case k_is_store_item => k_is)
    (case a_store_error => k_is)
    (case l_store_error => k_is)
    (case c_store_error => k_is)
    (case k_store_error => k_is)
    (case a_is_heap_item => k_is)
    (case l_is_heap_item => k_is)
    (case c_is_heap_item => k_is)
    (case k_is_heap_item => k_is)
    (case a_heap_error => k_is)
    (case l_heap_error => k_is)
    (case c_heap_error => k_is)
    (case k_heap_error => k_is)
    (case a__law_is_right => k_is)
    (case l__law_is_right => k_is)
    (case c__law_is_right => k_is)
    (case k__law_is_right => k_is)
    (case a__law_draw => k_is)
    (case l__law_draw => k_is)
    (case c__law_draw => k_is)
    (case k__law_draw => k_is)
    (case a__law_pick => k_is)
    (case l__law_pick => k_is)
    (case c__law_pick => k_is)
    (case k__law_pick => k_is)
    (case a__law_heap => k_is)
    (case l__law_heap => k_is)
    (case c__law_heap => k_is)
    (case k__law_heap => k_is)
    (case a__law_shuffled => k_is)
    (case l__law_shuffled => k_is)
    (case c__law_shuffled => k_is)
    (case k__law_shuffled => k_is)
    (case a__law_store => k_is)
    (case l__law_store => k_is)
    (case c__law_store => k_is)
    (case k__law_store => k_is)
    (case a__law_odd_item => k_is)
    (case l__law_odd_item => k_is)
    (case c__law_odd_item => k_is)
    (case k__law_odd_item => k_is)
    (case a__law_turned => k_is)
    (case l__law_turned => k_is)
    (case c__law_turned => k_is)
    (case k__law_turned => k_is)
    (case a__law_odd_value => k_is)
    (case l__law_odd_value => k_is)
    (case c__law_odd_value => k_is)
    (case k__law_odd_value => k_is)
    (case a_law => k_is)
    (case l_law => k_is)
    (case c_law => k_is)
    (case k_law => k_is)
    (case g_SMALL_LETTERS => k_is)
    (case g_WORDS => k_is)
    (case h_WORDS => k_is)
    (case y_abs => k_is)
    (case y_all => k_is)
    (case y_bool => k_is)
    (case y_enumerate => k_is)
    (case y_int => k_is)
    (case y_isinstance => k_is)
    (case y_len => k_is)
    (case y_list => k_is)
    (case y_range => k_is)
    (case y_repr => k_is)
    (case y_sorted => k_is)
    (case y_str => k_is)
    (case y_tuple => k_is)
    (case j_WORDS => exact ⟨rfl, rfl, by decide⟩)
    (case z_WORDS => kernel_rfl)

