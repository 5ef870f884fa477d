import PyProof.Rows.All
import Wide.All
import OpenK.AllK
import Wide.FinOn
import KE.KStateDown
import KE.SortKeyHeap
import HandS.ForMost
import HandS.Star
import HandS.Zip
import HandS.Wide
import HandS.Style
import HandS.IsInst
import HandS.SetFor
import HandS.TupMul
import HandS.TupLe
import HandS.SortKw
import HandS.Lambda
import HandS.Nested
import HandS.NestedK
import HandS.EndTab
import HandS.Head0
import HandS.Head1
import HandS.Head2
import HandS.HeadHook4
import HandS.HeadWalk
import PySem.Challenge.RW_copylots_k37_whole_ties_losses
import HandS.TupAny
import HandS.TupLen
import HandS.DictTup
import KE.GoesMore
import KE.KSortKey
import HandS.DictComp
set_option Elab.async false
set_option linter.all false
set_option maxRecDepth 100000
set_option maxHeartbeats 0
namespace K37
/-! The layer of this proof: stable predicates of values, what an expression evaluates to, promises. -/
section
open PySem PySem.Spec PyProof.Rows L2 LamX

/-! ### growth of the heap -/
structure Cxt where
  K : PySem.W.Frag
  T : List (Addr × Str)
  cL : Addr
  cD : Addr
/-- what stood stands (tables aside), nothing is gone, the tables are well -/
structure Gr (c : Cxt) (H H' : Hp) : Prop where
  ext : ∀ b o, H b = some o → (∀ ps, o ≠ .tbl ps) → H' b = some o
  fr : ∀ b, H' b = none → H b = none
  t0 : Tabs c.T H
  t1 : Tabs c.T H'
section
variable {c : Cxt} {H H0 H1 H2 H' : Hp} {p b : Addr} {o u : HO}
theorem Gr.refl (h : Tabs c.T H) : Gr c H H := ⟨fun _ _ e _ => e, fun _ e => e, h, h⟩
theorem Gr.self (g : Gr c H0 H) : Gr c H H := Gr.refl g.t1
theorem Gr.trans (a : Gr c H0 H1) (b : Gr c H1 H2) : Gr c H0 H2 := ⟨fun x o e n => b.ext x o (a.ext x o e n) n, fun x e => a.fr x (b.fr x e), a.t0, b.t1⟩
theorem Gr.new (g : Gr c H0 H) (hp : H p = none) : Gr c H (upd H p o) :=
  ⟨fun b u e _ => by rw [upd_ne (ne_of_none e hp)]; exact e, fun b e => by
    by_cases q : b = p
    · rw [q, upd_same] at e; cases e
    · rw [upd_ne q] at e; exact e, g.t1, g.t1.ext fun b u e => by rw [upd_ne (ne_of_none e hp)]; exact e⟩
/-- what a def may change in place -/
def Mu : HO → Prop
  | .lst _ => True
  | .dK _ => True
  | .dT _ => True
  | .ins _ _ _ => True
  | _ => False
theorem TabS.mut {P : Addr} {q : Str} (t : TabS H P q) (h : H p = some u) (hu : Mu u) : TabS (upd H p o) P q := by
  obtain ⟨ps, h1, h2, h3⟩ := t
  have nP : P ≠ p := fun z => by rw [z, h] at h1; cases h1; exact hu
  refine ⟨ps, by rw [upd_ne nP]; exact h1, h2, fun pos cv hc => ?_⟩
  obtain ⟨k, e1, e2⟩ := h3 pos cv hc
  have nk : k ≠ p := fun z => by rw [z, h] at e2; cases e2; exact hu
  exact ⟨k, e1, by rw [upd_ne nk]; exact e2⟩
theorem Gr.mut (g : Gr c H0 H) (h0 : H0 p = none) (h : H p = some u) (hu : Mu u) : Gr c H0 (upd H p o) :=
  ⟨fun b v e n => by rw [upd_ne (ne_of_none e h0)]; exact g.ext b v e n, fun b e => by
    by_cases q : b = p
    · rw [q]; exact h0
    · rw [upd_ne q] at e; exact g.fr b e, g.t0, fun q hq => TabS.mut (g.t1 q hq) h hu⟩
theorem Gr.free (g : Gr c H H1) (h : H1 p = none) : H p = none := g.fr p h
theorem Gr.sqT {a : Addr} {xs : List V} (g : Gr c H H') (h : SqT c.K H a xs) : SqT c.K H' a xs := by
  rcases h with (h | ⟨o, h⟩) | h
  · exact .inl (.inl (g.ext _ _ h fun ps z => by cases z))
  · exact .inl (.inr ⟨o, g.ext _ _ h fun ps z => by cases z⟩)
  · exact .inr h
theorem Gr.sqL {a : Addr} {xs : List V} (g : Gr c H H') (h : SqL c.K H a xs) : SqL c.K H' a xs := by
  rcases h with (h | ⟨o, h⟩) | h
  · exact .inl (.inl (g.ext _ _ h fun ps z => by cases z))
  · exact .inl (.inr ⟨o, g.ext _ _ h fun ps z => by cases z⟩)
  · exact .inr h
theorem Gr.lst {a : Addr} {xs : List V} (g : Gr c H H') (h : H a = some (.lst xs)) : H' a = some (.lst xs) := g.ext _ _ h fun ps z => by cases z
theorem Gr.tup {a : Addr} {xs : List V} (g : Gr c H H') (h : H a = some (.tup xs)) : H' a = some (.tup xs) := g.ext _ _ h fun ps z => by cases z
theorem Gr.ins {a C d : Addr} {fs : List (Str × V)} (g : Gr c H H') (h : H a = some (.ins C d fs)) : H' a = some (.ins C d fs) := g.ext _ _ h fun ps z => by cases z
end

/-! ### predicates of values, kept while the heap grows -/
structure SV (c : Cxt) where
  p : V → Hp → Prop
  st : ∀ {v H H'}, Gr c H H' → p v H → p v H'
/-- kept whatever happens to lists, dicts: tuples stand -/
def Gt (H H' : Hp) : Prop := (∀ b xs, H b = some (.tup xs) → H' b = some (.tup xs)) ∧ ∀ b o u, H b = some (.frz o u) → H' b = some (.frz o u)
theorem Gr.gt {c : Cxt} {H H' : Hp} (g : Gr c H H') : Gt H H' := ⟨fun b xs e => g.ext b _ e fun ps z => (by cases z), fun b o u e => g.ext b _ e fun ps z => (by cases z)⟩
theorem Gt.sqT {K : PySem.W.Frag} {H H' : Hp} {a : Addr} {xs : List V} (g : Gt H H') (h : SqT K H a xs) : SqT K H' a xs := by
  rcases h with (h | ⟨o, h⟩) | h
  · exact .inl (.inl (g.1 _ _ h))
  · exact .inl (.inr ⟨o, g.2 _ _ _ h⟩)
  · exact .inr h
theorem Gt.mut {H : Hp} {p : Addr} {o u : HO} (h : H p = some u) (hu : Mu u) : Gt H (upd H p o) :=
  ⟨fun b xs e => by rw [upd_ne (fun z => by rw [z, h] at e; cases e; exact hu)]; exact e, fun b v w e => by rw [upd_ne (fun z => by rw [z, h] at e; cases e; exact hu)]; exact e⟩
class Tst {c : Cxt} (P : SV c) : Prop where
  st : ∀ {v H H'}, Gt H H' → P.p v H → P.p v H'

variable {c : Cxt}
/-- the values are as the predicates say, one by one -/
def AllP : List (SV c) → List V → Hp → Prop
  | [], [], _ => True
  | P :: Ps, v :: vs, H => P.p v H ∧ AllP Ps vs H
  | _, _, _ => False
theorem AllP.len : ∀ {Ps : List (SV c)} {vs : List V} {H : Hp}, AllP Ps vs H → vs.length = Ps.length
  | [], [], _, _ => rfl
  | _ :: _, _ :: _, _, h => congrArg Nat.succ (AllP.len h.2)
  | [], _ :: _, _, h => h.elim
  | _ :: _, [], _, h => h.elim
theorem AllP.gr : ∀ {Ps : List (SV c)} {vs : List V} {H H' : Hp}, Gr c H H' → AllP Ps vs H → AllP Ps vs H'
  | [], [], _, _, _, _ => True.intro
  | P :: _, _ :: _, _, _, g, h => ⟨P.st g h.1, AllP.gr g h.2⟩
  | [], _ :: _, _, _, _, h => h.elim
  | _ :: _, [], _, _, _, h => h.elim
class TstL (Ps : List (SV c)) : Prop where
  st : ∀ P ∈ Ps, Tst P
instance : TstL (c := c) [] := ⟨fun _ h => by cases h⟩
instance {P : SV c} {Ps : List (SV c)} [h : Tst P] [hs : TstL Ps] : TstL (P :: Ps) := ⟨fun Q hQ => by
  rcases List.mem_cons.mp hQ with e | e
  · rw [e]; exact h
  · exact hs.st Q e⟩
instance {α : Type} {f : α → SV c} {xs : List α} [h : ∀ x, Tst (f x)] : TstL (xs.map f) := ⟨fun Q hQ => by
  obtain ⟨x, _, e⟩ := List.mem_map.mp hQ
  rw [← e]; exact h x⟩
theorem AllP.gt : ∀ {Ps : List (SV c)} {vs : List V} {H H' : Hp}, (∀ P ∈ Ps, Tst P) → Gt H H' → AllP Ps vs H → AllP Ps vs H'
  | [], [], _, _, _, _, _ => True.intro
  | P :: _, _ :: _, _, _, t, g, h => ⟨(t P (List.mem_cons_self ..)).st g h.1, AllP.gt (fun Q hQ => t Q (List.mem_cons_of_mem _ hQ)) g h.2⟩
  | [], _ :: _, _, _, _, _, h => h.elim
  | _ :: _, [], _, _, _, _, h => h.elim
theorem AllP.get : ∀ {Ps : List (SV c)} {vs : List V} {H : Hp} {i : Nat} {P : SV c}, AllP Ps vs H → Ps[i]? = some P → ∃ v, vs[i]? = some v ∧ P.p v H
  | P :: _, v :: _, _, 0, _, h, e => by cases e; exact ⟨v, rfl, h.1⟩
  | _ :: Ps, _ :: vs, _, i + 1, Q, h, e => by
    obtain ⟨v, h1, h2⟩ := AllP.get (i := i) h.2 (by simpa using e)
    exact ⟨v, by simpa using h1, h2⟩
  | [], [], _, _, _, _, e => by simp at e
  | [], _ :: _, _, _, _, h, _ => h.elim
  | _ :: _, [], _, _, _, h, _ => h.elim
theorem AllP.getV : ∀ {Ps : List (SV c)} {vs : List V} {H : Hp} {i : Nat} {v : V}, AllP Ps vs H → vs[i]? = some v → ∃ P, Ps[i]? = some P ∧ P.p v H
  | P :: _, v :: _, _, 0, _, h, e => by cases e; exact ⟨P, rfl, h.1⟩
  | _ :: Ps, _ :: vs, _, i + 1, Q, h, e => by
    obtain ⟨v, h1, h2⟩ := AllP.getV (i := i) h.2 (by simpa using e)
    exact ⟨v, by simpa using h1, h2⟩
  | [], [], _, _, _, _, e => by simp at e
  | [], _ :: _, _, _, _, h, _ => h.elim
  | _ :: _, [], _, _, _, h, _ => h.elim
theorem AllP.append : ∀ {Ps Qs : List (SV c)} {vs ws : List V} {H : Hp}, AllP Ps vs H → AllP Qs ws H → AllP (Ps ++ Qs) (vs ++ ws) H
  | [], _, [], _, _, _, k => k
  | _ :: _, _, _ :: _, _, _, h, k => ⟨h.1, AllP.append h.2 k⟩
  | [], _, _ :: _, _, _, h, _ => h.elim
  | _ :: _, _, [], _, _, h, _ => h.elim
theorem AllP.take : ∀ {Ps : List (SV c)} {vs : List V} {H : Hp} (n : Nat), AllP Ps vs H → AllP (Ps.take n) (vs.take n) H
  | _, _, _, 0, _ => by rw [List.take_zero, List.take_zero]; exact True.intro
  | [], [], _, _ + 1, _ => True.intro
  | _ :: _, _ :: _, _, n + 1, h => ⟨h.1, AllP.take n h.2⟩
  | [], _ :: _, _, _ + 1, h => h.elim
  | _ :: _, [], _, _ + 1, h => h.elim
theorem AllP.drop : ∀ {Ps : List (SV c)} {vs : List V} {H : Hp} (n : Nat), AllP Ps vs H → AllP (Ps.drop n) (vs.drop n) H
  | _, _, _, 0, h => h
  | [], [], _, _ + 1, _ => True.intro
  | _ :: _, _ :: _, _, n + 1, h => AllP.drop n h.2
  | [], _ :: _, _, _ + 1, h => h.elim
  | _ :: _, [], _, _ + 1, h => h.elim
theorem AllP.set {P : SV c} {v : V} {H : Hp} (hp : P.p v H) : ∀ {Ps : List (SV c)} {vs : List V} (i : Nat), AllP Ps vs H → AllP (Ps.set i P) (vs.set i v) H
  | [], [], _, _ => True.intro
  | _ :: _, _ :: _, 0, h => ⟨hp, h.2⟩
  | _ :: _, _ :: _, i + 1, h => ⟨h.1, AllP.set hp i h.2⟩
  | [], _ :: _, _, h => h.elim
  | _ :: _, [], _, h => h.elim
theorem AllP.nil_inv {vs : List V} {H : Hp} (h : AllP (c := c) [] vs H) : vs = [] := by
  cases vs with
  | nil => rfl
  | cons => exact h.elim
theorem AllP.cons_inv {P : SV c} {Ps : List (SV c)} {vs : List V} {H : Hp} (h : AllP (P :: Ps) vs H) : ∃ v ws, vs = v :: ws ∧ P.p v H ∧ AllP Ps ws H := by
  cases vs with
  | nil => exact h.elim
  | cons v ws => exact ⟨v, ws, rfl, h.1, h.2⟩
theorem AllP.inv1 {P : SV c} {vs : List V} {H : Hp} (h : AllP [P] vs H) : ∃ v, vs = [v] ∧ P.p v H := by
  obtain ⟨v, ws, e, h1, h2⟩ := h.cons_inv
  exact ⟨v, by rw [e, h2.nil_inv], h1⟩
theorem AllP.inv2 {P Q : SV c} {vs : List V} {H : Hp} (h : AllP [P, Q] vs H) : ∃ v w, vs = [v, w] ∧ P.p v H ∧ Q.p w H := by
  obtain ⟨v, ws, e, h1, h2⟩ := h.cons_inv
  obtain ⟨w, e2, h3⟩ := h2.inv1
  exact ⟨v, w, by rw [e, e2], h1, h3⟩
theorem AllP.inv3 {P Q R : SV c} {vs : List V} {H : Hp} (h : AllP [P, Q, R] vs H) : ∃ v w x, vs = [v, w, x] ∧ P.p v H ∧ Q.p w H ∧ R.p x H := by
  obtain ⟨v, ws, e, h1, h2⟩ := h.cons_inv
  obtain ⟨w, x, e2, h3, h4⟩ := h2.inv2
  exact ⟨v, w, x, by rw [e, e2], h1, h3, h4⟩
theorem AllP.inv4 {P Q R S : SV c} {vs : List V} {H : Hp} (h : AllP [P, Q, R, S] vs H) : ∃ v w x y, vs = [v, w, x, y] ∧ P.p v H ∧ Q.p w H ∧ R.p x H ∧ S.p y H := by
  obtain ⟨v, ws, e, h1, h2⟩ := h.cons_inv
  obtain ⟨w, x, y, e2, h3, h4, h5⟩ := h2.inv3
  exact ⟨v, w, x, y, by rw [e, e2], h1, h3, h4, h5⟩

/-! ### the kinds of values -/
def Eqv (u : V) : SV c := ⟨fun v _ => v = u, fun _ h => h⟩
instance {u : V} : Tst (Eqv (c := c) u) := ⟨fun _ h => h⟩
abbrev I (i : Int) : SV c := Eqv (.int i)
abbrev B (b : Bool) : SV c := Eqv (.bl b)
abbrev Nn : SV c := Eqv .non
/-- some int -/
def AnyI : SV c := ⟨fun v _ => ∃ i, v = .int i, fun _ h => h⟩
instance : Tst (AnyI (c := c)) := ⟨fun _ h => h⟩
def TupOf (Ps : List (SV c)) : SV c := ⟨fun v H => ∃ a vs, v = .ref a ∧ SqT c.K H a vs ∧ AllP Ps vs H, fun g ⟨a, vs, e, h1, h2⟩ => ⟨a, vs, e, g.sqT h1, h2.gr g⟩⟩
instance {Ps : List (SV c)} [t : TstL Ps] : Tst (TupOf Ps) := ⟨fun g ⟨a, vs, e, h1, h2⟩ => ⟨a, vs, e, g.sqT h1, AllP.gt t.st g h2⟩⟩
/-- a list, read -/
def LstOf (Ps : List (SV c)) : SV c := ⟨fun v H => ∃ a vs, v = .ref a ∧ SqL c.K H a vs ∧ AllP Ps vs H, fun g ⟨a, vs, e, h1, h2⟩ => ⟨a, vs, e, g.sqL h1, h2.gr g⟩⟩
/-- a list of the program's -/
def L (Ps : List (SV c)) : SV c := ⟨fun v H => ∃ a vs, v = .ref a ∧ H a = some (.lst vs) ∧ AllP Ps vs H, fun g ⟨a, vs, e, h1, h2⟩ => ⟨a, vs, e, g.lst h1, h2.gr g⟩⟩
theorem L.lstOf {Ps : List (SV c)} {v : V} {H : Hp} (h : (L Ps).p v H) : (LstOf Ps).p v H := by
  obtain ⟨a, vs, e, h1, h2⟩ := h
  exact ⟨a, vs, e, SqL.of h1, h2⟩
/-- a tuple of ints -/
abbrev S (s : List Nat) : SV c := TupOf (s.map fun k : Nat => I (k : Int))
abbrev TI' (s : List Int) : SV c := TupOf (s.map I)
abbrev LI (s : List Int) : SV c := L (s.map I)
abbrev LN (s : List Nat) : SV c := L (s.map fun k : Nat => I (k : Int))
abbrev LS (l : List (List Nat)) : SV c := L (l.map S)
abbrev LB (l : List Bool) : SV c := L (l.map B)
abbrev Itm : Type := List Nat × Nat
abbrev It1 (it : Itm) : SV c := TupOf [S it.1, I (it.2 : Int)]
abbrev Its' (l : List Itm) : SV c := TupOf (l.map It1)
abbrev LIt (l : List Itm) : SV c := L (l.map It1)
/-- a pair of ints -/
abbrev Fr2 (a b : Int) : SV c := TupOf [I a, I b]
/-- the fields of a Layout, of a Dual -/
def pfL (n : Nat) (e : Addr) : List (Str × V) := putF "entries" (.ref e) (putF "servers" (.int (n : Int)) [])
def Lay (n : Nat) (its : List Itm) : SV c := ⟨fun v H => ∃ a d e, v = .ref a ∧ H a = some (.ins c.cL d (pfL n e)) ∧ (Its' its).p (.ref e) H,
  fun g ⟨a, d, e, h0, h1, h2⟩ => ⟨a, d, e, h0, g.ins h1, (Its' its).st g h2⟩⟩
def pfD (l k : Addr) : List (Str × V) := putF "keepers" (.ref k) (putF "losses" (.ref l) [])
def Du (ls ks : List (List Nat)) : SV c := ⟨fun v H => ∃ a d l k, v = .ref a ∧ H a = some (.ins c.cD d (pfD l k)) ∧ (LS ls).p (.ref l) H ∧ (LS ks).p (.ref k) H,
  fun g ⟨a, d, l, k, h0, h1, h2, h3⟩ => ⟨a, d, l, k, h0, g.ins h1, (LS ls).st g h2, (LS ks).st g h3⟩⟩
theorem AllP.ints : ∀ {s : List Int} {vs : List V} {H : Hp}, AllP (c := c) (s.map I) vs H → vs = s.map V.int
  | [], _, _, h => h.nil_inv
  | _ :: _, _, _, h => by
    obtain ⟨v, ws, e, h1, h2⟩ := h.cons_inv
    obtain rfl : v = _ := h1
    rw [e, AllP.ints h2] <;> rfl
theorem AllP.of_ints : ∀ {s : List Int} {H : Hp}, AllP (c := c) (s.map I) (s.map V.int) H
  | [], _ => True.intro
  | _ :: _, _ => ⟨rfl, AllP.of_ints⟩
theorem AllP.nats {s : List Nat} {vs : List V} {H : Hp} (h : AllP (c := c) (s.map fun k : Nat => I (k : Int)) vs H) : vs = (s.map fun k : Nat => (k : Int)).map V.int := by
  refine AllP.ints (c := c) (H := H) ?_
  rw [List.map_map]
  exact h
theorem AllP.of_nats {s : List Nat} {H : Hp} : AllP (c := c) (s.map fun k : Nat => I (k : Int)) ((s.map fun k : Nat => (k : Int)).map V.int) H := by
  have h := AllP.of_ints (c := c) (s := s.map fun k : Nat => (k : Int)) (H := H)
  rw [List.map_map] at h
  exact h
theorem AllP.bools : ∀ {s : List Bool} {vs : List V} {H : Hp}, AllP (c := c) (s.map B) vs H → vs = s.map V.bl
  | [], _, _, h => h.nil_inv
  | _ :: _, _, _, h => by
    obtain ⟨v, ws, e, h1, h2⟩ := h.cons_inv
    obtain rfl : v = _ := h1
    rw [e, AllP.bools h2] <;> rfl

/-! ### what evaluates to what -/
/-- kept promises: from H on, whatever was added, the expression gives a value of P -/
def Ev (c : Cxt) (te : TE) (σ : L2.St) (H : Hp) (P : SV c) : Prop := ∀ H1, Gr c H H1 → ∀ Q : VK, (∀ v H2, Gr c H1 H2 → P.p v H2 → Q v H2) → te σ H1 Q
/-- .. an object that is new -/
def EvF (c : Cxt) (te : TE) (σ : L2.St) (H : Hp) (P : SV c) : Prop := ∀ H1, Gr c H H1 → ∀ Q : VK, (∀ a H2, H1 a = none → Gr c H1 H2 → P.p (.ref a) H2 → Q (.ref a) H2) → te σ H1 Q
def EvT (c : Cxt) (tt : TT) (σ : L2.St) (H : Hp) (b : Bool) : Prop := ∀ H1, Gr c H H1 → ∀ Q : Bool → Hp → Prop, (∀ H2, Gr c H1 H2 → Q b H2) → tt σ H1 Q
def EvA (c : Cxt) (ta : TA) (σ : L2.St) (H : Hp) (Ps : List (SV c)) : Prop := ∀ H1, Gr c H H1 → ∀ Q : List V → Hp → Prop, (∀ vs H2, Gr c H1 H2 → AllP Ps vs H2 → Q vs H2) → ta σ H1 Q
/-- a two-place operation | one-place | a call, on values of P, R -/
def RV (c : Cxt) (r : R2) (P R : SV c) (Z : SV c) : Prop := ∀ x y H, Gr c H H → P.p x H → R.p y H → ∀ Q : VK, (∀ v H2, Gr c H H2 → Z.p v H2 → Q v H2) → r x y H Q
def RVF (c : Cxt) (r : R2) (P R : SV c) (Z : SV c) : Prop := ∀ x y H, Gr c H H → P.p x H → R.p y H → ∀ Q : VK, (∀ a H2, H a = none → Gr c H H2 → Z.p (.ref a) H2 → Q (.ref a) H2) → r x y H Q
def RC (c : Cxt) (r : List V → Hp → VK → Prop) (Ps : List (SV c)) (Z : SV c) : Prop := ∀ vs H, Gr c H H → AllP Ps vs H → ∀ Q : VK, (∀ v H2, Gr c H H2 → Z.p v H2 → Q v H2) → r vs H Q
def RCF (c : Cxt) (r : List V → Hp → VK → Prop) (Ps : List (SV c)) (Z : SV c) : Prop := ∀ vs H, Gr c H H → AllP Ps vs H → ∀ Q : VK, (∀ a H2, H a = none → Gr c H H2 → Z.p (.ref a) H2 → Q (.ref a) H2) → r vs H Q

section
variable {σ : L2.St} {H H' H0 : Hp} {ta tb te tx : TE} {t u : TT} {r : R2} {P R Z : SV c}
theorem Ev.mono (e : Gr c H H') (h : Ev c te σ H P) : Ev c te σ H' P := fun H1 a Q q => h H1 (e.trans a) Q q
theorem EvF.mono (e : Gr c H H') (h : EvF c te σ H P) : EvF c te σ H' P := fun H1 a Q q => h H1 (e.trans a) Q q
theorem EvT.mono {b : Bool} (e : Gr c H H') (h : EvT c t σ H b) : EvT c t σ H' b := fun H1 a Q q => h H1 (e.trans a) Q q
theorem EvA.mono {ta : TA} {Ps : List (SV c)} (e : Gr c H H') (h : EvA c ta σ H Ps) : EvA c ta σ H' Ps := fun H1 a Q q => h H1 (e.trans a) Q q
theorem EvF.ev (h : EvF c te σ H P) : Ev c te σ H P := fun H1 g Q q => h H1 g Q fun a H2 _ g2 hp => q (.ref a) H2 g2 hp
theorem Ev.imp (h : Ev c te σ H P) (f : ∀ v H', P.p v H' → R.p v H') : Ev c te σ H R := fun H1 g Q q => h H1 g Q fun v H2 g2 hp => q v H2 g2 (f v H2 hp)
theorem EvF.imp (h : EvF c te σ H P) (f : ∀ v H', P.p v H' → R.p v H') : EvF c te σ H R := fun H1 g Q q => h H1 g Q fun a H2 n g2 hp => q a H2 n g2 (f _ H2 hp)
theorem Ev.to (h : Ev c te σ H P) (e : P = R) : Ev c te σ H R := e ▸ h
theorem EvT.to {a b : Bool} (h : EvT c t σ H a) (e : a = b) : EvT c t σ H b := e ▸ h
theorem ev_var {i : Nat} {v : V} (h : σ[i]? = some (some v)) (hp : P.p v H) : Ev c (tVar i) σ H P := fun H1 g _ q => ⟨v, h, q v H1 g.self (P.st g hp)⟩
theorem ev_c {v : V} : Ev c (tC v) σ H (Eqv v) := fun H1 g _ q => q v H1 g.self rfl
theorem ev_op (hr : RV c r P R Z) (ha : Ev c ta σ H P) (hb : Ev c tb σ H R) : Ev c (tOp r ta tb) σ H Z := fun H1 g Q q =>
  ha H1 g _ fun x H2 g2 h2 => hb H2 (g.trans g2) _ fun y H3 g3 h3 => hr x y H3 g3.self.self (P.st g3 h2) h3 Q fun v H4 g4 h4 => q v H4 ((g2.trans g3).trans g4) h4
theorem ef_op (hr : RVF c r P R Z) (ha : Ev c ta σ H P) (hb : Ev c tb σ H R) : EvF c (tOp r ta tb) σ H Z := fun H1 g Q q =>
  ha H1 g _ fun x H2 g2 h2 => hb H2 (g.trans g2) _ fun y H3 g3 h3 => hr x y H3 g3.self.self (P.st g3 h2) h3 Q fun a H4 n4 g4 h4 => q a H4 ((g2.trans g3).free n4) ((g2.trans g3).trans g4) h4
theorem et_test {b : Bool} (h : Ev c te σ H (B b)) : EvT c (tTest te) σ H b := fun H1 g _ q => h H1 g _ fun v H2 g2 e => ⟨b, e, q H2 g2⟩
theorem et_B {b : Bool} (h : Ev c te σ H (B b)) : EvT c (tB te) σ H b := fun H1 g _ q => h H1 g _ fun v H2 g2 e => ⟨b, e, q H2 g2⟩
theorem et_not {a : Bool} (h : EvT c t σ H a) : EvT c (tNot t) σ H (!a) := fun H1 g _ q => h H1 g _ fun H2 g2 => q H2 g2
theorem et_and {a b : Bool} (h1 : EvT c t σ H a) (h2 : a = true → EvT c u σ H b) : EvT c (tAnd t u) σ H (a && b) := fun H1 g Q q => h1 H1 g _ fun H2 g2 => by
  cases a with
  | true => exact h2 rfl H2 (g.trans g2) Q fun H3 g3 => q H3 (g2.trans g3)
  | false => exact q H2 g2
theorem et_or {a b : Bool} (h1 : EvT c t σ H a) (h2 : a = false → EvT c u σ H b) : EvT c (tOr t u) σ H (a || b) := fun H1 g Q q => h1 H1 g _ fun H2 g2 => by
  cases a with
  | true => exact q H2 g2
  | false => exact h2 rfl H2 (g.trans g2) Q fun H3 g3 => q H3 (g2.trans g3)
theorem ev_and {a b : Bool} (h1 : Ev c ta σ H (B a)) (h2 : a = true → Ev c tb σ H (B b)) : Ev c (tAndV ta tb) σ H (B (a && b)) := fun H1 g Q q => h1 H1 g _ fun v H2 g2 e => ⟨a, e, by
  cases a with
  | true => exact h2 rfl H2 (g.trans g2) Q fun v H3 g3 e3 => q v H3 (g2.trans g3) e3
  | false => exact q _ H2 g2 rfl⟩
theorem ev_or {a b : Bool} (h1 : Ev c ta σ H (B a)) (h2 : a = false → Ev c tb σ H (B b)) : Ev c (tOrV ta tb) σ H (B (a || b)) := fun H1 g Q q => h1 H1 g _ fun v H2 g2 e => ⟨a, e, by
  cases a with
  | true => exact q _ H2 g2 rfl
  | false => exact h2 rfl H2 (g.trans g2) Q fun v H3 g3 e3 => q v H3 (g2.trans g3) e3⟩
theorem ev_not {a : Bool} (h1 : Ev c ta σ H (B a)) : Ev c (tNotV ta) σ H (B (!a)) := fun H1 g Q q => h1 H1 g _ fun v H2 g2 e => ⟨a, e, q _ H2 g2 rfl⟩
theorem ev_if {b : Bool} (h : EvT c t σ H b) (h1 : b = true → Ev c ta σ H P) (h2 : b = false → Ev c tb σ H P) : Ev c (tIf t ta tb) σ H P := fun H1 g Q q => h H1 g _ fun H2 g2 => by
  cases b with
  | true => exact h1 rfl H2 (g.trans g2) Q fun v H3 g3 e3 => q v H3 (g2.trans g3) e3
  | false => exact h2 rfl H2 (g.trans g2) Q fun v H3 g3 e3 => q v H3 (g2.trans g3) e3
theorem ea_nil : EvA c tNil σ H [] := fun H1 g _ q => q [] H1 g.self True.intro
theorem ea_cons {tr : TA} {Ps : List (SV c)} (h : Ev c ta σ H P) (hr : EvA c tr σ H Ps) : EvA c (tCons ta tr) σ H (P :: Ps) := fun H1 g Q q =>
  h H1 g _ fun v H2 g2 e2 => hr H2 (g.trans g2) _ fun vs H3 g3 e3 => q (v :: vs) H3 (g2.trans g3) ⟨P.st g3 e2, e3⟩
/-- a star ahead of the rest -/
theorem ea_star {tr : TA} {Ps Qs : List (SV c)} (h : Ev c ta σ H (L Ps)) (hr : EvA c tr σ H Qs) : EvA c (StX.tStar c.K ta tr) σ H (Ps ++ Qs) := fun H1 g Q q =>
  h H1 g _ fun v H2 g2 ⟨a, vs, e, e1, e2⟩ => ⟨a, vs, e, .inr (SqL.of e1), hr H2 (g.trans g2) _ fun ws H3 g3 e3 => q (vs ++ ws) H3 (g2.trans g3) ((e2.gr g3).append e3)⟩
theorem ea_starT {tr : TA} {Ps Qs : List (SV c)} (h : Ev c ta σ H (TupOf Ps)) (hr : EvA c tr σ H Qs) : EvA c (StX.tStar c.K ta tr) σ H (Ps ++ Qs) := fun H1 g Q q =>
  h H1 g _ fun v H2 g2 ⟨a, vs, e, e1, e2⟩ => ⟨a, vs, e, .inl e1, hr H2 (g.trans g2) _ fun ws H3 g3 e3 => q (vs ++ ws) H3 (g2.trans g3) ((e2.gr g3).append e3)⟩
theorem sz_of {n : Nat} (h : n ≤ 100000) : n ≤ sizeLine := Nat.le_trans h (by decide)
theorem sz_lt {n : Nat} (h : n < 100000) : n < sizeLine := Nat.lt_of_lt_of_le h (by decide)
theorem ef_tup {ta : TA} {Ps : List (SV c)} (h : EvA c ta σ H Ps) (hl : Ps.length ≤ 100000) : EvF c (tTup ta) σ H (TupOf Ps) := fun H1 g Q q =>
  h H1 g _ fun vs H2 g2 e2 => ⟨sz_of (by rw [e2.len]; exact hl), fun p hp => q p _ (g2.free hp) (g2.trans (g2.new hp)) ⟨p, vs, rfl, SqT.of upd_same, e2.gr (g2.new hp)⟩⟩
theorem ef_lst {ta : TA} {Ps : List (SV c)} (h : EvA c ta σ H Ps) (hl : Ps.length ≤ 100000) : EvF c (tLst ta) σ H (L Ps) := fun H1 g Q q =>
  h H1 g _ fun vs H2 g2 e2 => ⟨sz_of (by rw [e2.len]; exact hl), fun p hp => q p _ (g2.free hp) (g2.trans (g2.new hp)) ⟨p, vs, rfl, upd_same, e2.gr (g2.new hp)⟩⟩
theorem ev_tup {ta : TA} {Ps : List (SV c)} (h : EvA c ta σ H Ps) (hl : Ps.length ≤ 100000) : Ev c (tTup ta) σ H (TupOf Ps) := (ef_tup h hl).ev
theorem ev_lst {ta : TA} {Ps : List (SV c)} (h : EvA c ta σ H Ps) (hl : Ps.length ≤ 100000) : Ev c (tLst ta) σ H (L Ps) := (ef_lst h hl).ev
theorem ev_cb {r : List V → Hp → VK → Prop} {ta : TA} {Ps : List (SV c)} (hr : RC c r Ps Z) (h : EvA c ta σ H Ps) : Ev c (tCB r ta) σ H Z := fun H1 g Q q =>
  h H1 g _ fun vs H2 g2 e2 => hr vs H2 g2.self.self e2 Q fun v H3 g3 e3 => q v H3 (g2.trans g3) e3
theorem ef_cb {r : List V → Hp → VK → Prop} {ta : TA} {Ps : List (SV c)} (hr : RCF c r Ps Z) (h : EvA c ta σ H Ps) : EvF c (tCB r ta) σ H Z := fun H1 g Q q =>
  h H1 g _ fun vs H2 g2 e2 => hr vs H2 g2.self.self e2 Q fun a H3 n g3 e3 => q a H3 (g2.free n) (g2.trans g3) e3
theorem RCF.rc {r : List V → Hp → VK → Prop} {Ps : List (SV c)} (h : RCF c r Ps Z) : RC c r Ps Z := fun vs H g a Q q => h vs H g a Q fun b H2 _ g2 e2 => q _ H2 g2 e2
theorem RVF.rv {r : R2} (h : RVF c r P R Z) : RV c r P R Z := fun x y H g a b Q q => h x y H g a b Q fun b H2 _ g2 e2 => q _ H2 g2 e2

/-! ### promises -/
/-- the promise of a def: from arguments As (told by R) a value of P; Pmf: a new object -/
def Pm (c : Cxt) (R : List (SV c) → SV c → Prop) : Sp := fun vs H Q _ => ∃ As P, AllP As vs H ∧ R As P ∧ Tabs c.T H ∧ ∀ v H', Gr c H H' → P.p v H' → Q v H'
def Pmf (c : Cxt) (R : List (SV c) → SV c → Prop) : Sp := fun vs H Q _ => ∃ As P, AllP As vs H ∧ R As P ∧ Tabs c.T H ∧ ∀ a H', H a = none → Gr c H H' → P.p (.ref a) H' → Q (.ref a) H'
theorem ev_call {Rl : List (SV c) → SV c → Prop} {E : XK} {ta : TA} {As : List (SV c)} (h : EvA c ta σ H As) (hr : Rl As P) : Ev c (tCall (Pm c Rl) [] E ta) σ H P := fun H1 g Q q =>
  h H1 g _ fun vs H2 g2 e2 => ⟨As, P, by rw [List.append_nil]; exact e2, hr, g2.t1, fun v H' g' hp => q v H' (g2.trans g') hp⟩
theorem ef_call {Rl : List (SV c) → SV c → Prop} {E : XK} {ta : TA} {As : List (SV c)} (h : EvA c ta σ H As) (hr : Rl As P) : EvF c (tCall (Pmf c Rl) [] E ta) σ H P := fun H1 g Q q =>
  h H1 g _ fun vs H2 g2 e2 => ⟨As, P, by rw [List.append_nil]; exact e2, hr, g2.t1, fun a H' n g' hp => q a H' (g2.free n) (g2.trans g') hp⟩
/-- a method's promise -/
theorem ev_meth {Rl : List (SV c) → SV c → Prop} {E : XK} {ta : TA} {As : List (SV c)} {C : Addr} {m : Str} (ho : Ev c te σ H Z) (hf : ∀ v H', Z.p v H' → ∃ a d fs, v = .ref a ∧ H' a = some (.ins C d fs) ∧ fs.lookup m = none)
    (h : EvA c ta σ H As) (hr : Rl (Z :: As) P) : Ev c (tMeth C m (Pm c Rl) [] E te ta) σ H P := fun H1 g Q q =>
  ho H1 g _ fun v H2 g2 e2 => by
    obtain ⟨a, d, fs, e, h1, h2⟩ := hf v H2 e2
    exact ⟨a, d, fs, e, h1, h2, h H2 (g.trans g2) _ fun vs H3 g3 e3 => ⟨Z :: As, P, by rw [List.append_nil]; exact ⟨Z.st g3 e2, e3⟩, hr, g3.t1, fun v H' g' hp => q v H' ((g2.trans g3).trans g') hp⟩⟩

/-! ### statements -/
variable {D : Ends} {ts tu tw tz : TS} {g0 : TG}
theorem seq (h : ts { D with nx := tz D } σ H) : tSeq ts tz D σ H := h
theorem s_asg {i : Nat} (g : Gr c H0 H) (h : Ev c te σ H0 P) (k : ∀ v H1, Gr c H H1 → P.p v H1 → D.nx (σ.set i (some v)) H1) : tAsg te (gName i) D σ H := h H g _ fun v H1 g1 e => k v H1 g1 e
theorem s_asgF {i : Nat} (g : Gr c H0 H) (h : EvF c te σ H0 P) (k : ∀ a H1, H a = none → Gr c H H1 → P.p (.ref a) H1 → D.nx (σ.set i (some (.ref a))) H1) : tAsg te (gName i) D σ H := h H g _ fun v H1 n g1 e => k v H1 n g1 e
theorem s_ret (g : Gr c H0 H) (h : Ev c te σ H0 P) (k : ∀ v H1, Gr c H H1 → P.p v H1 → D.rt v H1) : tRet te D σ H := h H g _ k
theorem s_retF (g : Gr c H0 H) (h : EvF c te σ H0 P) (k : ∀ a H1, H a = none → Gr c H H1 → P.p (.ref a) H1 → D.rt (.ref a) H1) : tRet te D σ H := h H g _ k
theorem s_drop (g : Gr c H0 H) (h : Ev c te σ H0 P) (k : ∀ H1, Gr c H H1 → D.nx σ H1) : tDrop te D σ H := h H g _ fun _ H1 g1 _ => k H1 g1
theorem s_if {b : Bool} (g : Gr c H0 H) (h : EvT c t σ H0 b) (h1 : b = true → ∀ H1, Gr c H H1 → tu D σ H1) (h2 : b = false → ∀ H1, Gr c H H1 → tw D σ H1) : tIfS t tu tw D σ H := h H g _ fun H1 g1 => by
  cases b with
  | true => exact h1 rfl H1 g1
  | false => exact h2 rfl H1 g1
/-- an if whose test is false -/
theorem s_no (g : Gr c H0 H) (h : EvT c t σ H0 false) (k : ∀ H1, Gr c H H1 → tw D σ H1) : tIfS t tu tw D σ H := s_if g h (fun z => by cases z) fun _ => k
theorem s_aug {i : Nat} {r : V → V → Hp → VK → Prop} {x : V} (g : Gr c H0 H) (hx : σ[i]? = some (some x)) (hP : P.p x H0) (h : Ev c te σ H0 R) (hr : RV c r P R Z) (k : ∀ v H1, Gr c H H1 → Z.p v H1 → D.nx (σ.set i (some v)) H1) : tAug i te r D σ H :=
  ⟨x, hx, h H g _ fun y H1 g1 e1 => hr x y H1 g1.self (P.st (g.trans g1) hP) e1 _ fun v H2 g2 e2 => k v H2 (g1.trans g2) e2⟩
/-- xs.append(e) -/
theorem s_app {l : Addr} {xs : List V} (g : Gr c H0 H) (hl : H l = some (.lst xs)) (ha : Ev c ta σ H (Eqv (.ref l))) (h : Ev c te σ H0 P) (hz : xs.length < 100000) (k : ∀ v H1, Gr c H H1 → P.p v H1 → D.nx σ (upd H1 l (.lst (xs ++ [v])))) :
    tDrop (tBM c.K "list" rAppend ta (tCons te tNil)) D σ H := ha H g.self _ fun v H1 g1 e1 => by
  obtain rfl : v = _ := e1
  exact ⟨Or.inl ⟨rfl, xs, SqL.of (g1.lst hl)⟩, h H1 (g.trans g1) _ fun w H2 g2 e2 => ⟨l, xs, w, rfl, rfl, g2.lst (g1.lst hl), sz_lt hz, k w H2 (g1.trans g2) e2⟩⟩
theorem s_while (W : Nat → L2.St → Hp → Prop) (m0 : Nat) (h0 : W m0 σ H)
    (hs : ∀ m σ' H', W m σ' H' → ∃ b, EvT c t σ' H' b ∧ Gr c H' H' ∧ (b = true → ∀ H1, Gr c H' H1 → ∃ N : L2.St → Hp → Prop, (∀ σ2 H2, N σ2 H2 → ∃ m', m' < m ∧ W m' σ2 H2) ∧ tu { D with nx := N, ct := N, bk := D.nx } σ' H1) ∧ (b = false → ∀ H1, Gr c H' H1 → D.nx σ' H1)) : tWhile t tu D σ H :=
  ⟨W, ⟨m0, h0⟩, fun m σ' H' hw => by
    obtain ⟨b, hb, g, h1, h2⟩ := hs m σ' H' hw
    refine hb H' g _ fun H1 e => ?_
    cases b with
    | true => exact h1 rfl H1 e
    | false => exact h2 rfl H1 e⟩
end
end


section
open PySem PySem.Spec PyProof.Rows L2 LamX
variable {c : Cxt}
section
variable {σ : L2.St} {H H' H0 : Hp} {ta tb te tx : TE} {t u : TT} {r : R2} {P R Z : SV c}

/-! ### operations -/
theorem rv_I0 {g : Int → Int → V} {i j : Int} : RV c (rI0 g) (I i) (I j) (Eqv (g i j)) := fun x y H g0 e1 e2 Q q => ⟨i, j, e1, e2, q _ H g0 rfl⟩
theorem rv_I {C : Int → Int → Prop} {g : Int → Int → V} {i j : Int} (hc : C i j) : RV c (rI C g) (I i) (I j) (Eqv (g i j)) := fun x y H g0 e1 e2 Q q => ⟨i, j, e1, e2, hc, q _ H g0 rfl⟩
theorem rv_eq {x y : V} (h : scal x y = true) : RV c rEq (Eqv x) (Eqv y) (B (decide (x = y))) := fun a b H g0 e1 e2 Q q => by
  obtain rfl : a = x := e1
  obtain rfl : b = y := e2
  exact ⟨h, q _ H g0 rfl⟩
theorem rv_ne {x y : V} (h : scal x y = true) : RV c rNe (Eqv x) (Eqv y) (B (!decide (x = y))) := fun a b H g0 e1 e2 Q q => by
  obtain rfl : a = x := e1
  obtain rfl : b = y := e2
  exact ⟨h, q _ H g0 rfl⟩
theorem dI {i j : Int} : decide (V.int i = V.int j) = decide (i = j) := by
  by_cases h : i = j
  · rw [h]; simp
  · rw [decide_eq_false h]; exact decide_eq_false fun z => h (V.int.inj z)
theorem dB {i j : Bool} : decide (V.bl i = V.bl j) = decide (i = j) := by
  by_cases h : i = j
  · rw [h]; simp
  · rw [decide_eq_false h]; exact decide_eq_false fun z => h (V.bl.inj z)
theorem rv_eqI {i j : Int} : RV c rEq (I i) (I j) (B (decide (i = j))) := by
  have h := rv_eq (c := c) (x := .int i) (y := .int j) rfl
  rw [dI] at h
  exact h
theorem rv_neI {i j : Int} : RV c rNe (I i) (I j) (B (!decide (i = j))) := by
  have h := rv_ne (c := c) (x := .int i) (y := .int j) rfl
  rw [dI] at h
  exact h
theorem rv_eqB {i j : Bool} : RV c rEq (B i) (B j) (B (decide (i = j))) := by
  have h := rv_eq (c := c) (x := .bl i) (y := .bl j) rfl
  rw [dB] at h
  exact h
theorem rv_neB {i j : Bool} : RV c rNe (B i) (B j) (B (!decide (i = j))) := by
  have h := rv_ne (c := c) (x := .bl i) (y := .bl j) rfl
  rw [dB] at h
  exact h
theorem inV_ints (k : Int) : ∀ s : List Int, inV (.int k) (s.map V.int) = decide (k ∈ s)
  | [] => by simp [inV]
  | a :: s => by
    have ih := inV_ints k s
    unfold inV at ih ⊢
    rw [List.map_cons, List.any_cons, ih]
    show ((a == k) || decide (k ∈ s)) = decide (k ∈ a :: s)
    by_cases h : a = k
    · subst h; simp
    · have h2 : ¬ k = a := fun e => h e.symm
      simp [h, h2]
theorem flat_ints : ∀ s : List Int, (s.map V.int).all flatV = true
  | [] => rfl
  | _ :: s => by rw [List.map_cons, List.all_cons, flat_ints s]; rfl
theorem mem_nats (k : Nat) (s : List Nat) : decide ((k : Int) ∈ s.map fun k : Nat => (k : Int)) = decide (k ∈ s) := by
  by_cases h : k ∈ s
  · rw [decide_eq_true h]; exact decide_eq_true (List.mem_map.mpr ⟨k, h, rfl⟩)
  · rw [decide_eq_false h]
    refine decide_eq_false fun z => h ?_
    obtain ⟨a, ha, e⟩ := List.mem_map.mp z
    have : a = k := by omega
    rw [← this]; exact ha
/-- k in s | not in, s a tuple of ints, a list of ints -/
theorem rv_inS {k : Nat} {s : List Nat} : RV c (rIn c.K false) (I (k : Int)) (S s) (B (decide (k ∈ s))) := fun x y H g0 e1 e2 Q q => by
  obtain ⟨a, vs, e, h1, h2⟩ := e2
  obtain rfl : x = _ := e1
  refine ⟨a, vs, e, .inr h1, rfl, by rw [h2.nats]; exact flat_ints _, ?_⟩
  have e3 : (if false then !inV (.int (k : Int)) vs else inV (.int (k : Int)) vs) = decide (k ∈ s) := by
    rw [h2.nats]
    show inV _ _ = _
    rw [inV_ints, mem_nats]
  rw [e3]
  exact q _ H g0 rfl
theorem rv_niS {k : Nat} {s : List Nat} : RV c (rIn c.K true) (I (k : Int)) (S s) (B (!decide (k ∈ s))) := fun x y H g0 e1 e2 Q q => by
  obtain ⟨a, vs, e, h1, h2⟩ := e2
  obtain rfl : x = _ := e1
  refine ⟨a, vs, e, .inr h1, rfl, by rw [h2.nats]; exact flat_ints _, ?_⟩
  have e3 : (if true then !inV (.int (k : Int)) vs else inV (.int (k : Int)) vs) = !decide (k ∈ s) := by
    rw [h2.nats]
    show (!inV _ _) = _
    rw [inV_ints, mem_nats]
  rw [e3]
  exact q _ H g0 rfl
theorem rv_inLN {k : Nat} {s : List Nat} : RV c (rIn c.K false) (I (k : Int)) (LN s) (B (decide (k ∈ s))) := fun x y H g0 e1 e2 Q q => by
  obtain ⟨a, vs, e, h1, h2⟩ := e2
  obtain rfl : x = _ := e1
  refine ⟨a, vs, e, .inl (SqL.of h1), rfl, by rw [h2.nats]; exact flat_ints _, ?_⟩
  have e3 : (if false then !inV (.int (k : Int)) vs else inV (.int (k : Int)) vs) = decide (k ∈ s) := by
    rw [h2.nats]
    show inV _ _ = _
    rw [inV_ints, mem_nats]
  rw [e3]
  exact q _ H g0 rfl
theorem rv_niLN {k : Nat} {s : List Nat} : RV c (rIn c.K true) (I (k : Int)) (LN s) (B (!decide (k ∈ s))) := fun x y H g0 e1 e2 Q q => by
  obtain ⟨a, vs, e, h1, h2⟩ := e2
  obtain rfl : x = _ := e1
  refine ⟨a, vs, e, .inl (SqL.of h1), rfl, by rw [h2.nats]; exact flat_ints _, ?_⟩
  have e3 : (if true then !inV (.int (k : Int)) vs else inV (.int (k : Int)) vs) = !decide (k ∈ s) := by
    rw [h2.nats]
    show (!inV _ _) = _
    rw [inV_ints, mem_nats]
  rw [e3]
  exact q _ H g0 rfl
/-- t[i], xs[i] -/
theorem rv_ixT {Ps : List (SV c)} {i : Nat} (h : Ps[i]? = some P) : RV c (rIxT c.K) (TupOf Ps) (I (i : Int)) P := fun x y H g0 e1 e2 Q q => by
  obtain ⟨a, vs, e, h1, h2⟩ := e1
  obtain ⟨v, hv, hp⟩ := h2.get h
  exact ⟨a, vs, _, v, e, e2, h1, atI_nat hv, q v H g0 hp⟩
theorem rv_ixL {Ps : List (SV c)} {i : Nat} (h : Ps[i]? = some P) : RV c (rIxL c.K) (L Ps) (I (i : Int)) P := fun x y H g0 e1 e2 Q q => by
  obtain ⟨a, vs, e, h1, h2⟩ := e1
  obtain ⟨v, hv, hp⟩ := h2.get h
  exact ⟨a, vs, _, v, e, e2, SqL.of h1, atI_nat hv, q v H g0 hp⟩
theorem rv_ixLO {Ps : List (SV c)} {i : Nat} (h : Ps[i]? = some P) : RV c (rIxL c.K) (LstOf Ps) (I (i : Int)) P := fun x y H g0 e1 e2 Q q => by
  obtain ⟨a, vs, e, h1, h2⟩ := e1
  obtain ⟨v, hv, hp⟩ := h2.get h
  exact ⟨a, vs, _, v, e, e2, h1, atI_nat hv, q v H g0 hp⟩
/-- xs[-1] -/
theorem rv_lastL {Ps : List (SV c)} (h : Ps[Ps.length - 1]? = some P) : RV c (rIxL c.K) (L Ps) (I (-1)) P := fun x y H g0 e1 e2 Q q => by
  obtain ⟨a, vs, e, h1, h2⟩ := e1
  obtain ⟨v, hv, hp⟩ := h2.get h
  have hl := h2.len
  have h0 : 0 < vs.length := by
    have := (List.getElem?_eq_some_iff.mp hv).1
    omega
  refine ⟨a, vs, _, v, e, e2, SqL.of h1, ?_, q v H g0 hp⟩
  have e3 : ixN vs.length (-1) = some (vs.length - 1) := by
    unfold ixN
    rw [if_neg (by decide), if_pos (by omega)]
    congr 1
    omega
  unfold atI
  rw [e3]
  show vs[vs.length - 1]? = some v
  rw [hl]
  exact hv
/-- xs + ys -/
theorem rf_cat {Ps Qs : List (SV c)} (h : Ps.length + Qs.length ≤ 100000) : RVF c rCat (L Ps) (L Qs) (L (Ps ++ Qs)) := fun x y H g0 e1 e2 Q q => by
  obtain ⟨a, vs, e, h1, h2⟩ := e1
  obtain ⟨b, ws, e', h3, h4⟩ := e2
  refine ⟨a, b, vs, ws, e, e', h1, h3, sz_of (by rw [h2.len, h4.len]; exact h), fun p hp => ?_⟩
  exact q p _ hp (g0.new hp) ⟨p, vs ++ ws, rfl, upd_same, (h2.append h4).gr (g0.new hp)⟩
/-- t + u -/
theorem rv_catT {Ps Qs : List (SV c)} (h : Ps.length + Qs.length ≤ 100000) : RV c (rCatA c.K) (TupOf Ps) (TupOf Qs) (TupOf (Ps ++ Qs)) := fun x y H g0 e1 e2 Q q => by
  obtain ⟨a, vs, e, h1, h2⟩ := e1
  obtain ⟨b, ws, e', h3, h4⟩ := e2
  have hA := h2.append h4
  refine ⟨a, b, vs, ws, e, e', h1, h3, sz_of (by rw [h2.len, h4.len]; exact h), fun z => ?_, fun _ z => ?_, fun _ _ p hp => ?_⟩
  · rw [z, List.nil_append] at hA
    exact q _ H g0 ⟨b, ws, rfl, h3, hA⟩
  · rw [z, List.append_nil] at hA
    exact q _ H g0 ⟨a, vs, rfl, h1, hA⟩
  · exact q _ _ (g0.new hp) ⟨p, vs ++ ws, rfl, SqT.of upd_same, hA.gr (g0.new hp)⟩
theorem allP_rep {v : V} (h : P.p v H) : ∀ n : Nat, AllP (List.replicate n P) (List.replicate n v) H
  | 0 => True.intro
  | n + 1 => ⟨h, allP_rep h n⟩
theorem rep_one {α : Type} (x : α) : ∀ n : Nat, (List.replicate n [x]).flatten = List.replicate n x
  | 0 => rfl
  | n + 1 => by rw [List.replicate_succ, List.flatten_cons, rep_one x n]; rfl
/-- [x] * k -/
theorem rf_rep {k : Nat} (h : k ≤ 100000) : RVF c rRep (L [P]) (I (k : Int)) (L (List.replicate k P)) := fun x y H g0 e1 e2 Q q => by
  obtain ⟨a, vs, e, h1, h2⟩ := e1
  obtain ⟨v, rfl, hv⟩ := h2.inv1
  refine ⟨a, _, [v], e, e2, h1, by omega, by omega, sz_of (by simpa using h), fun p hp => ?_⟩
  have e3 : (List.replicate ((k : Int).toNat) [v]).flatten = List.replicate k v := by
    rw [Int.toNat_natCast, rep_one]
  rw [e3]
  exact q p _ hp (g0.new hp) ⟨p, _, rfl, upd_same, (allP_rep hv k).gr (g0.new hp)⟩

/-! ### slices -/
def EvO (c : Cxt) (to : TO) (σ : L2.St) (H : Hp) (o : Option Int) : Prop := ∀ H1, Gr c H H1 → ∀ Q : Option Int → Hp → Prop, (∀ H2, Gr c H1 H2 → Q o H2) → to σ H1 Q
theorem eo_none : EvO c tNoPart σ H none := fun H1 g _ q => q H1 g.self
theorem eo_some {i : Int} (h : Ev c te σ H (I i)) : EvO c (tPart te) σ H (some i) := fun H1 g _ q => h H1 g _ fun v H2 g2 e => ⟨i, e, q H2 g2⟩

theorem cut_from (n : Nat) (vs : List V) : cutV vs (some (n : Int)) none = vs.drop n := by
  unfold cutV
  rw [HT.sIx_nat, HT.sIx_none]
  by_cases h : n ≤ vs.length
  · rw [Nat.min_eq_left h, List.take_of_length_le (by rw [List.length_drop]; exact Nat.le_refl _)]
  · rw [Nat.min_eq_right (by omega), List.drop_of_length_le (Nat.le_refl _), List.drop_of_length_le (by omega), List.take_nil]
theorem cut_to (n : Nat) (vs : List V) : cutV vs none (some (n : Int)) = vs.take n := by
  unfold cutV
  rw [HT.sIx_nat, HT.sIx_none, List.drop_zero, Nat.sub_zero]
  by_cases h : n ≤ vs.length
  · rw [Nat.min_eq_left h]
  · rw [Nat.min_eq_right (by omega), List.take_of_length_le (Nat.le_refl _), List.take_of_length_le (by omega)]
/-- xs[n:], t[n:] -/
theorem ef_slFrom {Ps : List (SV c)} {n : Nat} {tl th : TO} (h : Ev c te σ H (L Ps)) (h1 : EvO c tl σ H (some (n : Int))) (h2 : EvO c th σ H none) : EvF c (tSl (rSlL c.K) te tl th) σ H (L (Ps.drop n)) := fun H1 g Q q =>
  h H1 g _ fun v H2 g2 ⟨a, vs, e, e1, e2⟩ => h1 H2 (g.trans g2) _ fun H3 g3 => h2 H3 ((g.trans g2).trans g3) _ fun H4 g4 =>
    ⟨a, vs, e, SqL.of (g4.lst (g3.lst e1)), fun p hp => q p _ (((g2.trans g3).trans g4).free hp) (((g2.trans g3).trans g4).trans (g4.new hp)) ⟨p, _, rfl, by rw [← cut_from]; exact upd_same, (((e2.gr g3).gr g4).gr (g4.new hp)).drop n⟩⟩
theorem ef_slTo {Ps : List (SV c)} {n : Nat} {tl th : TO} (h : Ev c te σ H (LstOf Ps)) (h1 : EvO c tl σ H none) (h2 : EvO c th σ H (some (n : Int))) : EvF c (tSl (rSlL c.K) te tl th) σ H (L (Ps.take n)) := fun H1 g Q q =>
  h H1 g _ fun v H2 g2 ⟨a, vs, e, e1, e2⟩ => h1 H2 (g.trans g2) _ fun H3 g3 => h2 H3 ((g.trans g2).trans g3) _ fun H4 g4 =>
    ⟨a, vs, e, g4.sqL (g3.sqL e1), fun p hp => q p _ (((g2.trans g3).trans g4).free hp) (((g2.trans g3).trans g4).trans (g4.new hp)) ⟨p, _, rfl, by rw [← cut_to]; exact upd_same, (((e2.gr g3).gr g4).gr (g4.new hp)).take n⟩⟩
theorem ev_slT {Ps : List (SV c)} {n : Nat} {tl th : TO} (h : Ev c te σ H (TupOf Ps)) (h1 : EvO c tl σ H (some (n : Int))) (h2 : EvO c th σ H none) : Ev c (tSl (rSlA c.K) te tl th) σ H (TupOf (Ps.drop n)) := fun H1 g Q q =>
  h H1 g _ fun v H2 g2 ⟨a, vs, e, e1, e2⟩ => h1 H2 (g.trans g2) _ fun H3 g3 => h2 H3 ((g.trans g2).trans g3) _ fun H4 g4 =>
    ⟨a, vs, e, g4.sqT (g3.sqT e1), fun z => by
      have hn : vs.drop n = vs := by
        rw [HT.sIx_nat] at z
        rcases Nat.le_total n vs.length with hl | hl
        · rw [Nat.min_eq_left hl] at z
          rw [z.1, List.drop_zero]
        · rw [Nat.min_eq_right hl] at z
          have : vs = [] := List.eq_nil_of_length_eq_zero z.1
          rw [this, List.drop_nil]
      have hA := ((e2.gr g3).gr g4).drop n
      rw [hn] at hA
      exact q _ H4 ((g2.trans g3).trans g4) ⟨a, vs, rfl, g4.sqT (g3.sqT e1), hA⟩, fun _ p hp => q _ _ (((g2.trans g3).trans g4).trans (g4.new hp)) ⟨p, _, rfl, by rw [← cut_from]; exact SqT.of upd_same, (((e2.gr g3).gr g4).gr (g4.new hp)).drop n⟩⟩

/-! ### built-in calls -/
theorem rc_lenT {Ps : List (SV c)} : RC c (fun xs H Q => ∃ p ys, xs = [.ref p] ∧ (SqL c.K H p ys ∨ SqT c.K H p ys) ∧ Q (.int ys.length) H) [TupOf Ps] (I (Ps.length : Int)) := fun vs H g h Q q => by
  obtain ⟨v, rfl, a, ws, rfl, h1, h2⟩ := h.inv1
  refine ⟨a, ws, rfl, .inr h1, q _ H g (by rw [h2.len] <;> rfl)⟩
theorem rc_lenL {Ps : List (SV c)} : RC c (fun xs H Q => ∃ p ys, xs = [.ref p] ∧ (SqL c.K H p ys ∨ SqT c.K H p ys) ∧ Q (.int ys.length) H) [L Ps] (I (Ps.length : Int)) := fun vs H g h Q q => by
  obtain ⟨v, rfl, a, ws, rfl, h1, h2⟩ := h.inv1
  refine ⟨a, ws, rfl, .inl (SqL.of h1), q _ H g (by rw [h2.len] <;> rfl)⟩
/-- tuple(xs), tuple(t), list(t) -/
theorem rf_tuple {Ps : List (SV c)} : RCF c (fun xs H Q => ∃ p ys, xs = [.ref p] ∧ ((SqL c.K H p ys ∧ ∀ l, H l = none → Q (.ref l) (upd H l (.tup ys))) ∨ (SqT c.K H p ys ∧ Q (.ref p) H))) [L Ps] (TupOf Ps) := fun vs H g h Q q => by
  obtain ⟨v, rfl, a, ws, rfl, h1, h2⟩ := h.inv1
  exact ⟨a, ws, rfl, .inl ⟨SqL.of h1, fun l hl => q l _ hl (g.new hl) ⟨l, ws, rfl, SqT.of upd_same, h2.gr (g.new hl)⟩⟩⟩
theorem rc_tupT {Ps : List (SV c)} : RC c (fun xs H Q => ∃ p ys, xs = [.ref p] ∧ ((SqL c.K H p ys ∧ ∀ l, H l = none → Q (.ref l) (upd H l (.tup ys))) ∨ (SqT c.K H p ys ∧ Q (.ref p) H))) [TupOf Ps] (TupOf Ps) := fun vs H g h Q q => by
  obtain ⟨v, rfl, a, ws, rfl, h1, h2⟩ := h.inv1
  exact ⟨a, ws, rfl, .inr ⟨h1, q _ H g ⟨a, ws, rfl, h1, h2⟩⟩⟩
theorem rf_list {Ps : List (SV c)} : RCF c (fun xs H Q => ∃ p ys, xs = [.ref p] ∧ (SqL c.K H p ys ∨ SqT c.K H p ys) ∧ ∀ l, H l = none → Q (.ref l) (upd H l (.lst ys))) [TupOf Ps] (L Ps) := fun vs H g h Q q => by
  obtain ⟨v, rfl, a, ws, rfl, h1, h2⟩ := h.inv1
  exact ⟨a, ws, rfl, .inr h1, fun l hl => q l _ hl (g.new hl) ⟨l, ws, rfl, upd_same, h2.gr (g.new hl)⟩⟩
theorem rc_all {bs : List Bool} : RC c (rAll c.K) [LB bs] (B (bs.all id)) := fun vs H g h Q q => by
  obtain ⟨v, rfl, a, ws, rfl, h1, h2⟩ := h.inv1
  exact ⟨a, bs, rfl, by rw [← h2.bools]; exact SqL.of h1, q _ H g rfl⟩
theorem rc_any {bs : List Bool} : RC c (rAny c.K) [LB bs] (B (bs.any id)) := fun vs H g h Q q => by
  obtain ⟨v, rfl, a, ws, rfl, h1, h2⟩ := h.inv1
  exact ⟨a, bs, rfl, by rw [← h2.bools]; exact SqL.of h1, q _ H g rfl⟩
theorem rc_sum {ns : List Int} : RC c (rSum c.K) [LI ns] (I ns.sum) := fun vs H g h Q q => by
  obtain ⟨v, rfl, a, ws, rfl, h1, h2⟩ := h.inv1
  exact ⟨a, ns, rfl, by rw [← h2.ints]; exact SqL.of h1, q _ H g rfl⟩
theorem rc_max {ns : List Int} (h0 : 0 < ns.length) : RC c (rMax c.K) [LI ns] AnyI := fun vs H g h Q q => by
  obtain ⟨v, rfl, a, ws, rfl, h1, h2⟩ := h.inv1
  exact ⟨a, ns, rfl, by rw [← h2.ints]; exact SqL.of h1, h0, fun m _ _ => q _ H g ⟨m, rfl⟩⟩
theorem rc_min {ns : List Int} {m : Int} (h1 : m ∈ ns) (h2 : ∀ y, y ∈ ns → m ≤ y) : RC c (rMin c.K) [LI ns] (I m) := fun vs H g h Q q => by
  obtain ⟨v, rfl, a, ws, rfl, h3, h4⟩ := h.inv1
  refine ⟨a, ns, rfl, by rw [← h4.ints]; exact SqL.of h3, List.length_pos_of_mem h1, fun k hk hl => q _ H g ?_⟩
  have e : k = m := Int.le_antisymm (hl m h1) (h2 k hk)
  show V.int k = V.int m
  rw [e]
theorem rc_abs {i : Int} : RC c (fun xs H Q => ∃ i, xs = [.int i] ∧ Q (.int (if i < 0 then -i else i)) H) [I i] (I (if i < 0 then -i else i)) := fun vs H g h Q q => by
  obtain ⟨v, rfl, h1⟩ := h.inv1
  obtain rfl : v = _ := h1
  exact ⟨i, rfl, q _ H g rfl⟩
theorem rc_int {i : Int} : RC c (fun xs H Q => (∃ i, xs = [.int i] ∧ Q (.int i) H) ∨ ∃ k, xs = [.bl k] ∧ Q (.int (if k then 1 else 0)) H) [I i] (I i) := fun vs H g h Q q => by
  obtain ⟨v, rfl, h1⟩ := h.inv1
  obtain rfl : v = _ := h1
  exact .inl ⟨i, rfl, q _ H g rfl⟩
/-- sorted(xs): some arrangement in order -/
theorem rf_sorted {ns : List Int} (h0 : ns.length < 64) {Z : SV c} (hz : ∀ ms : List Int, ms.Perm ns → ms.Pairwise (· ≤ ·) → ∀ a H, (LI (c := c) ms).p (.ref a) H → Z.p (.ref a) H) : RCF c (rSorted c.K) [LI ns] Z := fun vs H g h Q q => by
  obtain ⟨v, rfl, a, ws, rfl, h1, h2⟩ := h.inv1
  exact ⟨a, ns, rfl, by rw [← h2.ints]; exact SqL.of h1, h0, fun ms p hp ho hn => q p _ hn (g.new hn) (hz ms hp ho p _ ⟨p, _, rfl, upd_same, AllP.of_ints⟩)⟩
theorem rc_lenD {c : Cxt} {n : Nat} {Z : SV c} (hz : ∀ v H, Z.p v H → ∃ (a : Addr) (kvs : List (List Key × V)), v = .ref a ∧ H a = some (.dT kvs) ∧ kvs.length = n) : RC c rLenT [Z] (I (n : Int)) := fun vs H g h Q q => by
  obtain ⟨v, rfl, h1⟩ := h.inv1
  obtain ⟨a, kvs, rfl, h2, h3⟩ := hz v H h1
  exact ⟨a, kvs, rfl, h2, q _ H g (by rw [h3] <;> rfl)⟩

/-! ### fields -/
theorem es_ : ¬ (("entries" : Str) = "servers") := by decide +kernel
theorem se_ : ¬ (("servers" : Str) = "entries") := by decide +kernel
theorem kl_ : ¬ (("keepers" : Str) = "losses") := by decide +kernel
theorem lk_ : ¬ (("losses" : Str) = "keepers") := by decide +kernel
theorem pfL_servers (n : Nat) (e : Addr) : (pfL n e).lookup ("servers" : Str) = some (.int (n : Int)) := by
  unfold pfL
  rw [lookup_putF, if_neg se_, lookup_putF, if_pos rfl]
theorem pfL_entries (n : Nat) (e : Addr) : (pfL n e).lookup ("entries" : Str) = some (.ref e) := by
  unfold pfL
  rw [lookup_putF, if_pos rfl]
theorem pfL_no (n : Nat) (e : Addr) {m : Str} (h1 : ¬ m = "servers") (h2 : ¬ m = "entries") : (pfL n e).lookup m = none := by
  unfold pfL
  rw [lookup_putF, if_neg h2, lookup_putF, if_neg h1]
  rfl
theorem pfD_losses (l k : Addr) : (pfD l k).lookup ("losses" : Str) = some (.ref l) := by
  unfold pfD
  rw [lookup_putF, if_neg lk_, lookup_putF, if_pos rfl]
theorem pfD_keepers (l k : Addr) : (pfD l k).lookup ("keepers" : Str) = some (.ref k) := by
  unfold pfD
  rw [lookup_putF, if_pos rfl]
theorem pfD_no (l k : Addr) {m : Str} (h1 : ¬ m = "losses") (h2 : ¬ m = "keepers") : (pfD l k).lookup m = none := by
  unfold pfD
  rw [lookup_putF, if_neg h2, lookup_putF, if_neg h1]
  rfl
/-- what is known of the two classes -/
structure Cl (c : Cxt) : Prop where
  cl : Cls c.K c.cL
  nS : NoAttr c.K c.cL "servers"
  nE : NoAttr c.K c.cL "entries"
  cd : Cls c.K c.cD
  nL : NoAttr c.K c.cD "losses"
  nK : NoAttr c.K c.cD "keepers"
theorem ev_servers {n : Nat} {its : List Itm} (C : Cl c) (h : Ev c te σ H (Lay n its)) : Ev c (tFld c.K te "servers") σ H (I (n : Int)) := fun H1 g Q q =>
  h H1 g _ fun v H2 g2 ⟨a, d, e, e0, e1, e2⟩ => ⟨a, c.cL, d, _, _, e0, e1, C.cl, C.nS, pfL_servers _ _, q _ H2 g2 rfl⟩
theorem ev_entries {n : Nat} {its : List Itm} (C : Cl c) (h : Ev c te σ H (Lay n its)) : Ev c (tFld c.K te "entries") σ H (Its' its) := fun H1 g Q q =>
  h H1 g _ fun v H2 g2 ⟨a, d, e, e0, e1, e2⟩ => ⟨a, c.cL, d, _, _, e0, e1, C.cl, C.nE, pfL_entries _ _, q _ H2 g2 e2⟩
theorem ev_losses {ls ks : List (List Nat)} (C : Cl c) (h : Ev c te σ H (Du ls ks)) : Ev c (tFld c.K te "losses") σ H (LS ls) := fun H1 g Q q =>
  h H1 g _ fun v H2 g2 ⟨a, d, l, k, e0, e1, e2, e3⟩ => ⟨a, c.cD, d, _, _, e0, e1, C.cd, C.nL, pfD_losses _ _, q _ H2 g2 e2⟩
theorem ev_keepers {ls ks : List (List Nat)} (C : Cl c) (h : Ev c te σ H (Du ls ks)) : Ev c (tFld c.K te "keepers") σ H (LS ks) := fun H1 g Q q =>
  h H1 g _ fun v H2 g2 ⟨a, d, l, k, e0, e1, e2, e3⟩ => ⟨a, c.cD, d, _, _, e0, e1, C.cd, C.nK, pfD_keepers _ _, q _ H2 g2 e3⟩
end

/-! ### what is walked -/
structure Src (c : Cxt) (J : It) (Ps : List (SV c)) (G : Hp → Prop) : Prop where
  goes : ∀ i H, i < Ps.length → G H → J.go i H
  stops : ∀ H, G H → J.stop Ps.length H
  yields : ∀ i H x H' P, Ps[i]? = some P → G H → Gr c H H → J.yld i H x H' → Gr c H H' ∧ P.p x H'
/-- a walk over values of Ps, that stands while the heap grows from where it began -/
def EvI (c : Cxt) (wi : TI) (σ : L2.St) (H : Hp) (Ps : List (SV c)) : Prop := ∀ H1, Gr c H H1 → ∀ R : It → Hp → Prop, (∀ J G H2, Gr c H1 H2 → Src c J Ps G → (∀ H', Gr c H2 H' → G H') → R J H2) → wi σ H1 R
/-- .. that stands whatever is added to H -/
def EvIs (c : Cxt) (wi : TI) (σ : L2.St) (H : Hp) (Ps : List (SV c)) : Prop := ∀ H1, Gr c H H1 → ∀ R : It → Hp → Prop, (∀ J G H2, Gr c H1 H2 → Src c J Ps G → (∀ H', Gr c H H' → G H') → R J H2) → wi σ H1 R
section
variable {σ : L2.St} {H H' H0 : Hp} {ta tb te tx : TE} {t u : TT} {P R Z : SV c} {Ps Qs : List (SV c)} {K : PySem.W.Frag} {a b : Addr} {vs ws : List V}
theorem EvIs.i {wi : TI} (h : EvIs c wi σ H Ps) : EvI c wi σ H Ps := fun H1 g R r => h H1 g R fun J G H2 g2 s k => r J G H2 g2 s fun H' g' => k H' ((g.trans g2).trans g')
theorem EvI.mono {wi : TI} (e : Gr c H H') (h : EvI c wi σ H Ps) : EvI c wi σ H' Ps := fun H1 g R r => h H1 (e.trans g) R r
theorem src_list : Src c (Itl c.K a) Ps (fun H => SqL c.K H a vs ∧ AllP Ps vs H) where
  goes := fun i H hi ⟨h1, h2⟩ => ⟨vs, vs[i]'(by rw [h2.len]; exact hi), h1, by simp⟩
  stops := fun H ⟨h1, h2⟩ => ⟨vs, h1, by rw [h2.len]; exact Nat.le_refl _⟩
  yields := fun i H x H' P hP ⟨h1, h2⟩ g y => by
    obtain ⟨e, y2⟩ := y
    obtain ⟨v, hv, hp⟩ := h2.get hP
    have := y2 vs h1
    rw [hv] at this
    cases this
    rw [e]
    exact ⟨g, hp⟩
theorem src_tup : Src c (Itt c.K a) Ps (fun H => SqT c.K H a vs ∧ AllP Ps vs H) where
  goes := fun i H hi ⟨h1, h2⟩ => ⟨vs, vs[i]'(by rw [h2.len]; exact hi), h1, by simp⟩
  stops := fun H ⟨h1, h2⟩ => ⟨vs, h1, by rw [h2.len]; exact Nat.le_refl _⟩
  yields := fun i H x H' P hP ⟨h1, h2⟩ g y => by
    obtain ⟨e, y2⟩ := y
    obtain ⟨v, hv, hp⟩ := h2.get hP
    have := y2 vs h1
    rw [hv] at this
    cases this
    rw [e]
    exact ⟨g, hp⟩
theorem src_range {lo : Int} {n : Nat} : Src c (Itr lo n) ((List.range n).map fun k : Nat => I (lo + (k : Int))) (fun _ => True) where
  goes := fun i H hi _ => by rw [List.length_map, List.length_range] at hi; exact hi
  stops := fun H _ => by rw [List.length_map, List.length_range]; exact Nat.le_refl _
  yields := fun i H x H' P hP _ g y => by
    obtain ⟨e, e2⟩ := y
    rw [e]
    refine ⟨g, ?_⟩
    rw [List.getElem?_map] at hP
    cases q : (List.range n)[i]? with
    | none => rw [q] at hP; cases hP
    | some k =>
      rw [q] at hP
      cases hP
      have hk : k = i := by
        obtain ⟨h1, h2⟩ := List.getElem?_eq_some_iff.mp q
        rw [List.getElem_range] at h2
        exact h2.symm
      rw [hk]
      exact e2
theorem ei_list {tl : TE} (h : Ev c tl σ H (L Ps)) : EvI c (iList c.K tl) σ H Ps := fun H1 g R r => h H1 g _ fun v H2 g2 ⟨a, vs, e, e1, e2⟩ =>
  ⟨a, e, ⟨vs, SqL.of e1⟩, r _ _ H2 g2 (src_list (vs := vs)) fun H' g' => ⟨SqL.of (g'.lst e1), e2.gr g'⟩⟩
theorem ei_tup {tl : TE} (h : Ev c tl σ H (TupOf Ps)) : EvI c (iTup c.K tl) σ H Ps := fun H1 g R r => h H1 g _ fun v H2 g2 ⟨a, vs, e, e1, e2⟩ =>
  ⟨a, e, ⟨vs, e1⟩, r _ _ H2 g2 (src_tup (vs := vs)) fun H' g' => ⟨g'.sqT e1, e2.gr g'⟩⟩
/-- .. a name's, whose value is known at H -/
theorem es_list {i : Nat} {v : V} (h : σ[i]? = some (some v)) (hp : (L Ps).p v H) : EvIs c (iList c.K (tVar i)) σ H Ps := fun H1 g R r => by
  obtain ⟨a, vs, e, e1, e2⟩ := hp
  exact ⟨v, h, a, e, ⟨vs, SqL.of (g.lst e1)⟩, r _ _ H1 g.self (src_list (vs := vs)) fun H' g' => ⟨SqL.of (g'.lst e1), e2.gr g'⟩⟩
theorem es_tupV {tl : TE} {v : V} (h : Ev c tl σ H (Eqv v)) (hp : (TupOf Ps).p v H) : EvIs c (iTup c.K tl) σ H Ps := fun H1 g R r => by
  obtain ⟨a, vs, e, e1, e2⟩ := hp
  exact h H1 g _ fun w H2 g2 ew => ⟨a, by obtain rfl : w = v := ew; exact e, ⟨vs, (g.trans g2).sqT e1⟩, r _ _ H2 g2 (src_tup (vs := vs)) fun H' g' => ⟨g'.sqT e1, e2.gr g'⟩⟩
theorem es_listV {tl : TE} {v : V} (h : Ev c tl σ H (Eqv v)) (hp : (L Ps).p v H) : EvIs c (iList c.K tl) σ H Ps := fun H1 g R r => by
  obtain ⟨a, vs, e, e1, e2⟩ := hp
  exact h H1 g _ fun w H2 g2 ew => ⟨a, by obtain rfl : w = v := ew; exact e, ⟨vs, SqL.of ((g.trans g2).lst e1)⟩, r _ _ H2 g2 (src_list (vs := vs)) fun H' g' => ⟨SqL.of (g'.lst e1), e2.gr g'⟩⟩
theorem es_range1 {ta : TA} {n : Nat} (h : EvA c ta σ H [I (n : Int)]) (hn : n ≤ 100000) : EvIs c (iRng1 ta) σ H ((List.range n).map fun k : Nat => I (k : Int)) := fun H1 g R r => h H1 g _ fun vs H2 g2 e => by
  obtain ⟨v, rfl, e1⟩ := e.inv1
  obtain rfl : v = _ := e1
  have s := src_range (c := c) (lo := 0) (n := n)
  have e0 : ((List.range n).map fun k : Nat => I (c := c) ((0 : Int) + (k : Int))) = (List.range n).map fun k : Nat => I (k : Int) := List.map_congr_left fun k _ => by rw [Int.zero_add]
  rw [e0] at s
  refine ⟨(n : Int), rfl, by omega, by omega, ?_⟩
  rw [Int.toNat_natCast]
  exact r _ _ H2 g2 s fun _ _ => True.intro
theorem es_range2 {ta : TA} {lo n : Nat} (h : EvA c ta σ H [I (lo : Int), I (n : Int)]) (hn : n ≤ 100000) (hl : lo ≤ 100000) : EvIs c (iRng2 ta) σ H ((List.range (n - lo)).map fun k : Nat => I ((lo : Int) + (k : Int))) := fun H1 g R r => h H1 g _ fun vs H2 g2 e => by
  obtain ⟨v, w, rfl, e1, e2⟩ := e.inv2
  obtain rfl : v = _ := e1
  obtain rfl : w = _ := e2
  refine ⟨(lo : Int), (n : Int), rfl, ⟨by omega, by omega, by omega, by omega⟩, ?_⟩
  have e3 : ((n : Int) - (lo : Int)).toNat = n - lo := by omega
  rw [e3]
  exact r _ _ H2 g2 (src_range (c := c) (lo := (lo : Int)) (n := n - lo)) fun _ _ => True.intro
end
end


section
open PySem PySem.Spec PyProof.Rows L2 LamX
variable {c : Cxt}
section
variable {σ σ2 : L2.St} {H H' H0 : Hp} {ta tb te tx : TE} {t u tt : TT} {P R Z : SV c} {Ps Qs : List (SV c)} {K : PySem.W.Frag} {a b : Addr} {vs : List Nat} {wi : TI} {g0 : TG} {D : Ends} {tw : TS}

/-! ### targets -/
/-- the target stores x, leaving the slots σ2 -/
def Tg (g0 : TG) (x : V) (σ : L2.St) (H : Hp) (σ2 : L2.St) : Prop := ∀ Q : L2.St → Hp → Prop, Q σ2 H → g0 x σ H Q
theorem tg_name {i : Nat} {x : V} : Tg (gName i) x σ H (σ.set i (some x)) := fun _ q => q
/-- (a, b) = x -/
theorem tg_pair {x : V} (hx : (TupOf [P, R]).p x H) : ∃ v w, P.p v H ∧ R.p w H ∧ ∀ {g1 g2 : TG} {σ σ1 σ2 : L2.St}, Tg g1 v σ H σ1 → Tg g2 w σ1 H σ2 → Tg (gTup c.K 2 (gCons g1 (gCons g2 gNil))) x σ H σ2 := by
  obtain ⟨a, vs, e, h1, h2⟩ := hx
  obtain ⟨v, w, rfl, hv, hw⟩ := h2.inv2
  exact ⟨v, w, hv, hw, fun t1 t2 Q q => ⟨a, [v, w], e, h1, rfl, v, [w], rfl, t1 _ ⟨w, [], rfl, t2 _ ⟨rfl, q⟩⟩⟩⟩
theorem tg_triple {x : V} (hx : (TupOf [P, R, Z]).p x H) : ∃ u v w, P.p u H ∧ R.p v H ∧ Z.p w H ∧ ∀ {g1 g2 g3 : TG} {σ σ1 σ2 σ3 : L2.St}, Tg g1 u σ H σ1 → Tg g2 v σ1 H σ2 → Tg g3 w σ2 H σ3 → Tg (gTup c.K 3 (gCons g1 (gCons g2 (gCons g3 gNil)))) x σ H σ3 := by
  obtain ⟨a, vs, e, h1, h2⟩ := hx
  obtain ⟨u, v, w, rfl, hu, hv, hw⟩ := h2.inv3
  exact ⟨u, v, w, hu, hv, hw, fun t1 t2 t3 Q q => ⟨a, [u, v, w], e, h1, rfl, u, [v, w], rfl, t1 _ ⟨v, [w], rfl, t2 _ ⟨w, [], rfl, t3 _ ⟨rfl, q⟩⟩⟩⟩⟩

/-! ### comprehensions -/
/-- what a comprehension has made of the items before i -/
def CW (c : Cxt) (Hs : Hp) (Dl : Addr) (Zs : List (SV c)) (H' : Hp) : Prop := Gr c Hs H' ∧ ∃ acc, H' Dl = some (.lst acc) ∧ AllP Zs acc H'
theorem ef_lcm {α : Type} (xs : List α) (F : α → SV c) (f : α → Bool) (Zf : α → SV c) [hT : ∀ x, Tst (Zf x)] (h : EvI c wi σ H (xs.map F)) (hn : xs.length ≤ 50000)
    (hb : ∀ a x Hc, a ∈ xs → Gr c H Hc → (F a).p x Hc → ∃ σ2, Tg g0 x (wipe σ vs) Hc σ2 ∧ wipe σ2 vs = wipe σ vs ∧ EvT c tt σ2 Hc (f a) ∧ (f a = true → Ev c te σ2 Hc (Zf a))) :
    EvF c (tLc wi g0 tt te vs) σ H (L ((xs.filter f).map Zf)) := fun H1 g Q q => h H1 g _ fun J G H2 g2 s kG => by
  intro Dl hD
  have hGr : Gr c H H2 := g.trans g2
  have nil : CW c H2 Dl [] (upd H2 Dl (.lst [])) := ⟨g2.new hD, [], upd_same, True.intro⟩
  refine ⟨fun i m H' => m = xs.length - i ∧ i ≤ xs.length ∧ CW c H2 Dl (((xs.take i).filter f).map Zf) H', ⟨xs.length, by simp, Nat.zero_le _, by rw [List.take_zero]; exact nil⟩, ?_⟩
  rintro i m H' ⟨rfl, hi, gr, acc, hacc, hall⟩
  have hG : G H' := kG H' gr
  by_cases hlt : i < xs.length
  · refine .inr ⟨s.goes i H' (by rw [List.length_map]; exact hlt) hG, fun H'' => CW c H2 Dl (((xs.take (i + 1)).filter f).map Zf) H'', fun H'' p => ⟨xs.length - (i + 1), by omega, rfl, hlt, p⟩, fun x H3 y => ?_⟩
    have hPi : (xs.map F)[i]? = some (F xs[i]) := by rw [List.getElem?_map, List.getElem?_eq_getElem hlt]; rfl
    obtain ⟨g3, hx⟩ := s.yields i H' x H3 _ hPi hG gr.self y
    have g03 : Gr c H2 H3 := gr.trans g3
    obtain ⟨σ2, ht, hw, htt, hte⟩ := hb xs[i] x H3 (List.getElem_mem hlt) (hGr.trans g03) hx
    refine ht _ ⟨hw, ?_⟩
    have eT : (xs.take (i + 1)).filter f = (xs.take i).filter f ++ (if f xs[i] = true then [xs[i]] else []) := by
      rw [List.take_add_one, List.getElem?_eq_getElem hlt, List.filter_append]
      congr 1
      show List.filter f [xs[i]] = _
      by_cases q : f xs[i] = true
      · rw [if_pos q, List.filter_cons_of_pos q]; rfl
      · rw [if_neg q, List.filter_cons_of_neg q]; rfl
    refine htt H3 g3.self.self _ fun H4 g4 => ?_
    have hacc4 : H4 Dl = some (.lst acc) := g4.lst (g3.lst hacc)
    have g04 : Gr c H2 H4 := g03.trans g4
    cases hf : f xs[i] with
    | true =>
      rw [hf, if_pos rfl] at eT
      show te σ2 H4 _
      refine hte hf H4 g4 _ fun z H5 g5 hz => ?_
      have hacc5 : H5 Dl = some (.lst acc) := g5.lst hacc4
      have lacc : acc.length ≤ xs.length := by
        rw [hall.len, List.length_map]
        have l1 := List.length_filter_le f (xs.take i)
        rw [List.length_take] at l1
        omega
      refine ⟨acc, hacc5, sz_lt (by omega), (g04.trans g5).mut hD hacc5 True.intro, acc ++ [z], upd_same, ?_⟩
      have gt := Gt.mut (o := .lst (acc ++ [z])) hacc5 True.intro
      rw [eT, List.map_append]
      exact AllP.append (AllP.gt (fun P hP => by obtain ⟨y, _, e⟩ := List.mem_map.mp hP; rw [← e]; exact hT y) gt (((hall.gr g3).gr g4).gr g5)) ⟨(hT _).st gt hz, True.intro⟩
    | false =>
      rw [hf, if_neg Bool.false_ne_true, List.append_nil] at eT
      show CW c H2 Dl _ H4
      rw [eT]
      exact ⟨g04, acc, hacc4, (hall.gr g3).gr g4⟩
  · have e : i = xs.length := by omega
    subst e
    rw [List.take_of_length_le (Nat.le_refl _)] at hall
    exact .inl ⟨by have := s.stops H' hG; rw [List.length_map] at this; exact this, q Dl H' (g2.free hD) (g2.trans gr) ⟨Dl, acc, rfl, hacc, hall⟩⟩
theorem et_yes : EvT c tYes σ H true := fun H1 g _ q => q H1 g.self
/-- no test -/
theorem ef_lcA {α : Type} (xs : List α) (F : α → SV c) (Zf : α → SV c) [hT : ∀ x, Tst (Zf x)] (h : EvI c wi σ H (xs.map F)) (hn : xs.length ≤ 50000)
    (hb : ∀ a x Hc, a ∈ xs → Gr c H Hc → (F a).p x Hc → ∃ σ2, Tg g0 x (wipe σ vs) Hc σ2 ∧ wipe σ2 vs = wipe σ vs ∧ Ev c te σ2 Hc (Zf a)) :
    EvF c (tLc wi g0 tYes te vs) σ H (L (xs.map Zf)) := by
  have h1 := ef_lcm (tt := tYes) (te := te) (g0 := g0) (vs := vs) xs F (fun _ => true) Zf h hn fun a x Hc ha g hx => by
    obtain ⟨σ2, h1, h2, h3⟩ := hb a x Hc ha g hx
    exact ⟨σ2, h1, h2, et_yes, fun _ => h3⟩
  have e : xs.filter (fun _ => true) = xs := List.filter_eq_self.mpr fun _ _ => rfl
  rw [e] at h1
  exact h1

/-! ### for -/
theorem s_for {α : Type} (xs : List α) (F : α → SV c) (g : Gr c H0 H) (h : EvIs c wi σ H0 (xs.map F)) (Pv : Nat → L2.St → Hp → Prop) (h0 : ∀ H1, Gr c H H1 → Pv 0 σ H1) (hG : ∀ i σ' H', Pv i σ' H' → Gr c H0 H')
    (hs : ∀ i a x σ' H', xs[i]? = some a → Pv i σ' H' → ∀ H2, Gr c H' H2 → (F a).p x H2 → g0 x σ' H2 fun σ2 H3 => tw { D with nx := Pv (i + 1), ct := Pv (i + 1), bk := D.nx } σ2 H3)
    (hd : ∀ σ' H', Pv xs.length σ' H' → D.nx σ' H') : tFor wi g0 tw D σ H := h H g _ fun J G H2 g2 s kG => by
  refine ⟨fun i m σ' H' => m = xs.length - i ∧ i ≤ xs.length ∧ Pv i σ' H', ⟨xs.length, by simp, Nat.zero_le _, h0 H2 g2⟩, ?_⟩
  rintro i m σ' H' ⟨rfl, hi, p⟩
  have gr := hG i σ' H' p
  have hGG : G H' := kG H' gr
  by_cases hlt : i < xs.length
  · refine .inr ⟨s.goes i H' (by rw [List.length_map]; exact hlt) hGG, Pv (i + 1), fun σ'' H'' p' => ⟨xs.length - (i + 1), by omega, rfl, hlt, p'⟩, fun x H3 y => ?_⟩
    have hPi : (xs.map F)[i]? = some (F xs[i]) := by rw [List.getElem?_map, List.getElem?_eq_getElem hlt]; rfl
    obtain ⟨g3, hx⟩ := s.yields i H' x H3 _ hPi hGG gr.self y
    exact hs i xs[i] x σ' H' (List.getElem?_eq_getElem hlt) p H3 g3 hx
  · have e : i = xs.length := by omega
    subst e
    exact .inl ⟨by have := s.stops H' hGG; rw [List.length_map] at this; exact this, hd σ' H' p⟩
/-- a loop that stores no object: the invariant is of the turn and the slots -/
theorem s_forP {α : Type} (xs : List α) (F : α → SV c) (g : Gr c H0 H) (h : EvIs c wi σ H0 (xs.map F)) (W : Nat → L2.St → Hp → Prop) (h0 : ∀ H1, Gr c H H1 → W 0 σ H1)
    (hs : ∀ i a x σ' H', xs[i]? = some a → Gr c H0 H' → W i σ' H' → ∀ H2, Gr c H' H2 → (F a).p x H2 → g0 x σ' H2 fun σ2 H3 => tw { D with nx := fun σ' H' => Gr c H0 H' ∧ W (i + 1) σ' H', ct := fun σ' H' => Gr c H0 H' ∧ W (i + 1) σ' H', bk := D.nx } σ2 H3)
    (hd : ∀ σ' H', Gr c H0 H' → W xs.length σ' H' → D.nx σ' H') : tFor wi g0 tw D σ H :=
  s_for xs F g h (fun i σ' H' => Gr c H0 H' ∧ W i σ' H') (fun H1 g1 => ⟨g.trans g1, h0 H1 g1⟩) (fun _ _ _ p => p.1) (fun i a x σ' H' hx p H2 g2 hF => hs i a x σ' H' hx p.1 p.2 H2 g2 hF) fun σ' H' p => hd σ' H' p.1 p.2
end

/-! ### a def's entry; what callers have -/
abbrev FnP (K : PySem.W.Frag) (n q : Str) (st : Stmt) (f : Addr) (fd : FuncData) : Prop := FunD K n q (defArgs st) (defBody st) (defScope st) [] [] f fd
section
variable {P : Program} {w : World} {mg : Str → Option Value} {base : Heap} {n q : Str} {st : Stmt} {f : Addr} {fd : FuncData} {N ps : List Str} {k : Nat} {R : List (SV c) → SV c → Prop}
theorem okP (F : FnP c.K n q st f fd) (Sc : FnScope N ps (defScope st)) (hlen : ∀ As Z, R As Z → As.length = ps.length)
    (hb : ∀ (cdv : Value) (A : Around) (outer : List Env) (s : Shared) (H : Hp) (vs : List V) (Q : VK) (E : XK) (As : List (SV c)) (Z : SV c), Room k (A.deeper (envOfC q (defScope st) s.heap.objs.size f cdv)) → AllP As vs H → R As Z → Gr c H H →
      (∀ v H', Gr c H H' → Z.p v H' → Q v H') → ∃ t, PSs (cxOf CX0 P w c.K mg base N q (defScope st) f cdv A outer s H E).nox (defBody st) t ∧ t { nx := fun _ H' => Q .non H', rt := Q } (start N vs) H) :
    FnOk P w c.K mg base CX0 (k + 1) f fd ps (Pm c R) := by
  refine F.ok Sc (fun vs H Q E h => ?_) (fun cdv A outer s H vs Q E hr h => ?_)
  · obtain ⟨As, Z, hA, hR, _⟩ := h
    rw [hA.len, hlen As Z hR]
  · obtain ⟨As, Z, hA, hR, hT, kQ⟩ := h
    obtain ⟨t, h1, h2⟩ := hb cdv A outer s H vs Q E As Z hr hA hR (Gr.refl hT) kQ
    exact ⟨t, h1.nox, h2⟩
theorem okPf (F : FnP c.K n q st f fd) (Sc : FnScope N ps (defScope st)) (hlen : ∀ As Z, R As Z → As.length = ps.length)
    (hb : ∀ (cdv : Value) (A : Around) (outer : List Env) (s : Shared) (H : Hp) (vs : List V) (Q : VK) (E : XK) (As : List (SV c)) (Z : SV c), Room k (A.deeper (envOfC q (defScope st) s.heap.objs.size f cdv)) → AllP As vs H → R As Z → Gr c H H →
      (∀ a H', H a = none → Gr c H H' → Z.p (.ref a) H' → Q (.ref a) H') → ∃ t, PSs (cxOf CX0 P w c.K mg base N q (defScope st) f cdv A outer s H E).nox (defBody st) t ∧ t { nx := fun _ H' => Q .non H', rt := Q } (start N vs) H) :
    FnOk P w c.K mg base CX0 (k + 1) f fd ps (Pmf c R) := by
  refine F.ok Sc (fun vs H Q E h => ?_) (fun cdv A outer s H vs Q E hr h => ?_)
  · obtain ⟨As, Z, hA, hR, _⟩ := h
    rw [hA.len, hlen As Z hR]
  · obtain ⟨As, Z, hA, hR, hT, kQ⟩ := h
    obtain ⟨t, h1, h2⟩ := hb cdv A outer s H vs Q E As Z hr hA hR (Gr.refl hT) kQ
    exact ⟨t, h1.nox, h2⟩
/-- a def that callers may call: k its level -/
structure Has (P : Program) (w : World) (K : PySem.W.Frag) (mg : Str → Option Value) (base : Heap) (x : Str) (ps : List Str) (k : Nat) (sp : Sp) : Prop where
  ex : ∃ f fd, mg x = some (.ref f) ∧ PySem.W.keepIn K (.ref f) = true ∧ Binds K fd ps [] ∧ FnOk P w K mg base CX0 k f fd ps sp
theorem pe_callH {X : Cx} {x : Str} {ps : List Str} {k : Nat} {sp : Sp} {p pos : Pos} {e : Expr} {es : List Expr} {t : TA} (h : Has X.prog X.w X.K X.mg X.base x ps k sp) (hr : Room k X.A) (hg : Gl X x) (ha : PA X (e :: es) t) (hdb : (x == ("__debug__" : Str)) = false := by decide)
    (he : starEach (e :: es) X.env = (false, eval e X.env) :: starEach es X.env := by rfl) (hpl : (backTo pos (starEach es X.env)).any (·.1) = false := by rfl) : PE X (.Call (.Name x p) (e :: es) [] pos) (tCall sp [] E0 t) := by
  obtain ⟨f, fd, h1, h2, h3, h4⟩ := h.ex
  exact pe_call h4 hr hg h1 h2 h3 .nil pass0 ha hdb he hpl
/-- a method that callers may call -/
structure HasM (P : Program) (w : World) (K : PySem.W.Frag) (mg : Str → Option Value) (base : Heap) (C : Addr) (m : Str) (ps : List Str) (k : Nat) (sp : Sp) : Prop where
  cl : Cls K C
  ex : ∃ f fd, Meth K C m f ∧ Binds K fd ps [] ∧ FnOk P w K mg base CX0 k f fd ps sp
theorem pe_methH {X : Cx} {C : Addr} {m : Str} {ps : List Str} {k : Nat} {sp : Sp} {o e : Expr} {es : List Expr} {to : TE} {t : TA} {apos pos : Pos} {pl : Sem Bool} (h : HasM X.prog X.w X.K X.mg X.base C m ps k sp) (hr : Room k X.A) (ho : PE X o to) (ha : PA X (e :: es) t)
    (hst : starEach (e :: es) X.env = (false, eval e X.env) :: starEach es X.env := by rfl) (hpl : (backTo pos (starEach es X.env)).any (·.1) = false := by rfl)
    (ht : eval (.Call (.Attribute o m apos) (e :: es) [] pos) X.env = (do
      let ov ← eval o X.env
      standAt apos.atName
      let (f, first) ← holding [ov] (getMethod ov m pl)
      callWith pos f first (backTo pos (starEach (e :: es) X.env)) (backToKw pos (keywordEach [] X.env))) := by rfl) :
    PE X (.Call (.Attribute o m apos) (e :: es) [] pos) (tMeth C m sp [] E0 to t) := by
  obtain ⟨f, fd, h1, h2, h3⟩ := h.ex
  exact pe_meth ho h.cl h1 h3 hr h2 .nil pass0 ha hst hpl ht
end
end


section
open PySem PySem.Spec PyProof.Rows L2 LamX
/-! ### the defs by their places -/
def top (i : Nat) : Stmt := PySem.Challenge.pw_copylots_k37_whole_ties_losses.main.body.getD i (.Pass ⟨0, 0, 0, 0⟩)
abbrev s_is_number : Stmt := top 13
abbrev s_is_set : Stmt := top 14
abbrev s_is_item : Stmt := top 15
abbrev s_Layout_init : Stmt := inClass (top 16) 0
abbrev s_Layout_len : Stmt := inClass (top 16) 2
abbrev s_Layout_readable : Stmt := inClass (top 16) 8
abbrev s_check_layout : Stmt := top 17
abbrev s_check_set : Stmt := top 19
abbrev s_check_index : Stmt := top 20
abbrev s_common : Stmt := top 21
abbrev s_others_of : Stmt := top 22
abbrev s_sets_of : Stmt := top 23
abbrev s_lowest : Stmt := top 24
abbrev s_Dual_init : Stmt := inClass (top 26) 0
abbrev s_Dual_shows : Stmt := inClass (top 26) 2
abbrev s_Dual_settles : Stmt := inClass (top 26) 3
abbrev s_is_within : Stmt := top 27
abbrev s_is_keeping : Stmt := top 28
abbrev s_is_losing : Stmt := top 29
abbrev s_minimal : Stmt := top 30
abbrev s_minimal_losses : Stmt := top 31
abbrev s_minimal_keepers : Stmt := top 32
abbrev s_find_dual : Stmt := top 33
abbrev s_tolerance : Stmt := top 34
abbrev s_count_losses : Stmt := top 35
abbrev s_essential : Stmt := top 36
abbrev s_useless : Stmt := top 37
abbrev s_factorial : Stmt := top 39
abbrev s_comb : Stmt := top 40
abbrev s_check_chances : Stmt := top 43
abbrev s_weight_of : Stmt := top 44
abbrev s_power : Stmt := top 45
abbrev s_chance_of : Stmt := top 46
abbrev s_loss_chance : Stmt := top 47
abbrev s_item_chance : Stmt := top 48
abbrev s_with_chance : Stmt := top 49
abbrev s_importances : Stmt := top 50
abbrev s_random_loss : Stmt := top 51
abbrev s_check_pair : Stmt := top 52
abbrev s_level_differences : Stmt := top 53
abbrev s_equally_safe : Stmt := top 54
abbrev s_loads_of : Stmt := top 56
abbrev s_steps_to : Stmt := top 57
abbrev s_path_from : Stmt := top 58
abbrev s_moved : Stmt := top 59
abbrev s_with_one_more : Stmt := top 60
abbrev s_fill : Stmt := top 61
abbrev s_count_readings : Stmt := top 62
abbrev s_least_choices : Stmt := top 64
abbrev s_load_of : Stmt := top 66
abbrev s_after : Stmt := top 67
abbrev s_load_after : Stmt := top 68
abbrev s_loads_after : Stmt := top 69
abbrev s_law_number : Stmt := top 71
abbrev s_law_items : Stmt := top 72
abbrev s_law_over : Stmt := top 73
abbrev s_law_plain : Stmt := top 74
abbrev s_law_sizes_right : Stmt := top 75
abbrev s_law_servers_right : Stmt := top 76
abbrev s_law : Stmt := top 77
def d_is_number : He.DefD := ⟨("is_number", none), "is_number", "is_number", defArgs s_is_number, defBody s_is_number, defScope s_is_number, [], []⟩
def d_is_set : He.DefD := ⟨("is_set", none), "is_set", "is_set", defArgs s_is_set, defBody s_is_set, defScope s_is_set, [], []⟩
def d_is_item : He.DefD := ⟨("is_item", none), "is_item", "is_item", defArgs s_is_item, defBody s_is_item, defScope s_is_item, [], []⟩
def d_Layout_init : He.DefD := ⟨("Layout", some "__init__"), "__init__", "Layout.__init__", defArgs s_Layout_init, defBody s_Layout_init, defScope s_Layout_init, [], []⟩
def d_Layout_len : He.DefD := ⟨("Layout", some "__len__"), "__len__", "Layout.__len__", defArgs s_Layout_len, defBody s_Layout_len, defScope s_Layout_len, [], []⟩
def d_Layout_readable : He.DefD := ⟨("Layout", some "readable"), "readable", "Layout.readable", defArgs s_Layout_readable, defBody s_Layout_readable, defScope s_Layout_readable, [], []⟩
def d_check_layout : He.DefD := ⟨("check_layout", none), "check_layout", "check_layout", defArgs s_check_layout, defBody s_check_layout, defScope s_check_layout, [], []⟩
def d_check_set : He.DefD := ⟨("check_set", none), "check_set", "check_set", defArgs s_check_set, defBody s_check_set, defScope s_check_set, [], []⟩
def d_check_index : He.DefD := ⟨("check_index", none), "check_index", "check_index", defArgs s_check_index, defBody s_check_index, defScope s_check_index, [], []⟩
def d_common : He.DefD := ⟨("common", none), "common", "common", defArgs s_common, defBody s_common, defScope s_common, [], []⟩
def d_others_of : He.DefD := ⟨("others_of", none), "others_of", "others_of", defArgs s_others_of, defBody s_others_of, defScope s_others_of, [], []⟩
def d_sets_of : He.DefD := ⟨("sets_of", none), "sets_of", "sets_of", defArgs s_sets_of, defBody s_sets_of, defScope s_sets_of, [], []⟩
def d_lowest : He.DefD := ⟨("lowest", none), "lowest", "lowest", defArgs s_lowest, defBody s_lowest, defScope s_lowest, [], []⟩
def d_Dual_init : He.DefD := ⟨("Dual", some "__init__"), "__init__", "Dual.__init__", defArgs s_Dual_init, defBody s_Dual_init, defScope s_Dual_init, [], []⟩
def d_Dual_shows : He.DefD := ⟨("Dual", some "shows"), "shows", "Dual.shows", defArgs s_Dual_shows, defBody s_Dual_shows, defScope s_Dual_shows, [], []⟩
def d_Dual_settles : He.DefD := ⟨("Dual", some "settles"), "settles", "Dual.settles", defArgs s_Dual_settles, defBody s_Dual_settles, defScope s_Dual_settles, [], []⟩
def d_is_within : He.DefD := ⟨("is_within", none), "is_within", "is_within", defArgs s_is_within, defBody s_is_within, defScope s_is_within, [], []⟩
def d_is_keeping : He.DefD := ⟨("is_keeping", none), "is_keeping", "is_keeping", defArgs s_is_keeping, defBody s_is_keeping, defScope s_is_keeping, [], []⟩
def d_is_losing : He.DefD := ⟨("is_losing", none), "is_losing", "is_losing", defArgs s_is_losing, defBody s_is_losing, defScope s_is_losing, [], []⟩
def d_minimal : He.DefD := ⟨("minimal", none), "minimal", "minimal", defArgs s_minimal, defBody s_minimal, defScope s_minimal, [], []⟩
def d_minimal_losses : He.DefD := ⟨("minimal_losses", none), "minimal_losses", "minimal_losses", defArgs s_minimal_losses, defBody s_minimal_losses, defScope s_minimal_losses, [], []⟩
def d_minimal_keepers : He.DefD := ⟨("minimal_keepers", none), "minimal_keepers", "minimal_keepers", defArgs s_minimal_keepers, defBody s_minimal_keepers, defScope s_minimal_keepers, [], []⟩
def d_find_dual : He.DefD := ⟨("find_dual", none), "find_dual", "find_dual", defArgs s_find_dual, defBody s_find_dual, defScope s_find_dual, [], []⟩
def d_tolerance : He.DefD := ⟨("tolerance", none), "tolerance", "tolerance", defArgs s_tolerance, defBody s_tolerance, defScope s_tolerance, [], []⟩
def d_count_losses : He.DefD := ⟨("count_losses", none), "count_losses", "count_losses", defArgs s_count_losses, defBody s_count_losses, defScope s_count_losses, [], []⟩
def d_essential : He.DefD := ⟨("essential", none), "essential", "essential", defArgs s_essential, defBody s_essential, defScope s_essential, [], []⟩
def d_useless : He.DefD := ⟨("useless", none), "useless", "useless", defArgs s_useless, defBody s_useless, defScope s_useless, [], []⟩
def d_factorial : He.DefD := ⟨("factorial", none), "factorial", "factorial", defArgs s_factorial, defBody s_factorial, defScope s_factorial, [], []⟩
def d_comb : He.DefD := ⟨("comb", none), "comb", "comb", defArgs s_comb, defBody s_comb, defScope s_comb, [], []⟩
def d_check_chances : He.DefD := ⟨("check_chances", none), "check_chances", "check_chances", defArgs s_check_chances, defBody s_check_chances, defScope s_check_chances, [], []⟩
def d_weight_of : He.DefD := ⟨("weight_of", none), "weight_of", "weight_of", defArgs s_weight_of, defBody s_weight_of, defScope s_weight_of, [], []⟩
def d_power : He.DefD := ⟨("power", none), "power", "power", defArgs s_power, defBody s_power, defScope s_power, [], []⟩
def d_chance_of : He.DefD := ⟨("chance_of", none), "chance_of", "chance_of", defArgs s_chance_of, defBody s_chance_of, defScope s_chance_of, [], []⟩
def d_loss_chance : He.DefD := ⟨("loss_chance", none), "loss_chance", "loss_chance", defArgs s_loss_chance, defBody s_loss_chance, defScope s_loss_chance, [], []⟩
def d_item_chance : He.DefD := ⟨("item_chance", none), "item_chance", "item_chance", defArgs s_item_chance, defBody s_item_chance, defScope s_item_chance, [], []⟩
def d_with_chance : He.DefD := ⟨("with_chance", none), "with_chance", "with_chance", defArgs s_with_chance, defBody s_with_chance, defScope s_with_chance, [], []⟩
def d_importances : He.DefD := ⟨("importances", none), "importances", "importances", defArgs s_importances, defBody s_importances, defScope s_importances, [], []⟩
def d_random_loss : He.DefD := ⟨("random_loss", none), "random_loss", "random_loss", defArgs s_random_loss, defBody s_random_loss, defScope s_random_loss, [], []⟩
def d_check_pair : He.DefD := ⟨("check_pair", none), "check_pair", "check_pair", defArgs s_check_pair, defBody s_check_pair, defScope s_check_pair, [], []⟩
def d_level_differences : He.DefD := ⟨("level_differences", none), "level_differences", "level_differences", defArgs s_level_differences, defBody s_level_differences, defScope s_level_differences, [], []⟩
def d_equally_safe : He.DefD := ⟨("equally_safe", none), "equally_safe", "equally_safe", defArgs s_equally_safe, defBody s_equally_safe, defScope s_equally_safe, [], []⟩
def d_loads_of : He.DefD := ⟨("loads_of", none), "loads_of", "loads_of", defArgs s_loads_of, defBody s_loads_of, defScope s_loads_of, [], []⟩
def d_steps_to : He.DefD := ⟨("steps_to", none), "steps_to", "steps_to", defArgs s_steps_to, defBody s_steps_to, defScope s_steps_to, [], []⟩
def d_path_from : He.DefD := ⟨("path_from", none), "path_from", "path_from", defArgs s_path_from, defBody s_path_from, defScope s_path_from, [], []⟩
def d_moved : He.DefD := ⟨("moved", none), "moved", "moved", defArgs s_moved, defBody s_moved, defScope s_moved, [], []⟩
def d_with_one_more : He.DefD := ⟨("with_one_more", none), "with_one_more", "with_one_more", defArgs s_with_one_more, defBody s_with_one_more, defScope s_with_one_more, [], []⟩
def d_fill : He.DefD := ⟨("fill", none), "fill", "fill", defArgs s_fill, defBody s_fill, defScope s_fill, [], []⟩
def d_count_readings : He.DefD := ⟨("count_readings", none), "count_readings", "count_readings", defArgs s_count_readings, defBody s_count_readings, defScope s_count_readings, [], []⟩
def d_least_choices : He.DefD := ⟨("least_choices", none), "least_choices", "least_choices", defArgs s_least_choices, defBody s_least_choices, defScope s_least_choices, [], []⟩
def d_load_of : He.DefD := ⟨("load_of", none), "load_of", "load_of", defArgs s_load_of, defBody s_load_of, defScope s_load_of, [], []⟩
def d_after : He.DefD := ⟨("after", none), "after", "after", defArgs s_after, defBody s_after, defScope s_after, [], []⟩
def d_load_after : He.DefD := ⟨("load_after", none), "load_after", "load_after", defArgs s_load_after, defBody s_load_after, defScope s_load_after, [], []⟩
def d_loads_after : He.DefD := ⟨("loads_after", none), "loads_after", "loads_after", defArgs s_loads_after, defBody s_loads_after, defScope s_loads_after, [], []⟩
def d_law_number : He.DefD := ⟨("_law_number", none), "_law_number", "_law_number", defArgs s_law_number, defBody s_law_number, defScope s_law_number, [], []⟩
def d_law_items : He.DefD := ⟨("_law_items", none), "_law_items", "_law_items", defArgs s_law_items, defBody s_law_items, defScope s_law_items, [], []⟩
def d_law_over : He.DefD := ⟨("_law_over", none), "_law_over", "_law_over", defArgs s_law_over, defBody s_law_over, defScope s_law_over, [], []⟩
def d_law_plain : He.DefD := ⟨("_law_plain", none), "_law_plain", "_law_plain", defArgs s_law_plain, defBody s_law_plain, defScope s_law_plain, [], []⟩
def d_law_sizes_right : He.DefD := ⟨("_law_sizes_right", none), "_law_sizes_right", "_law_sizes_right", defArgs s_law_sizes_right, defBody s_law_sizes_right, defScope s_law_sizes_right, [], []⟩
def d_law_servers_right : He.DefD := ⟨("_law_servers_right", none), "_law_servers_right", "_law_servers_right", defArgs s_law_servers_right, defBody s_law_servers_right, defScope s_law_servers_right, [], []⟩
def d_law : He.DefD := ⟨("law", none), "law", "law", defArgs s_law, defBody s_law, defScope s_law, [], []⟩
end


section
open PySem PySem.Spec PyProof.Rows L2 LamX
/-- the names that are still built-ins, the constants, the classes -/
structure Bts (c : Cxt) (mg : Str → Option Value) : Prop where
  bisinstance : mg "isinstance" = none
  bint : mg "int" = none
  bbool : mg "bool" = none
  btuple : mg "tuple" = none
  blist : mg "list" = none
  ball : mg "all" = none
  bany : mg "any" = none
  bzip : mg "zip" = none
  blen : mg "len" = none
  benumerate : mg "enumerate" = none
  brange : mg "range" = none
  bsorted : mg "sorted" = none
  babs : mg "abs" = none
  bsum : mg "sum" = none
  bmin : mg "min" = none
  bmax : mg "max" = none
  MOST_SERVERS : ∃ t, mg "MOST_SERVERS" = some (.int 8 t)
  MOST_ITEMS : ∃ t, mg "MOST_ITEMS" = some (.int 10 t)
  WHOLE : ∃ t, mg "WHOLE" = some (.int 12 t)
  gLayout : mg "Layout" = some (.ref c.cL)
  gDual : mg "Dual" = some (.ref c.cD)
variable {c : Cxt}
section
variable {σ σ2 : L2.St} {H H' H0 : Hp} {ta tb te tx tc : TE} {P R Z : SV c} {Ps Qs : List (SV c)}
/-! ### isinstance -/
theorem tyx_tup {a : Addr} {vs : List V} (h : SqT c.K H a vs) : TyX c.K H (.ref a) (.type "tuple") := by
  rcases h with (h | ⟨o, h⟩) | ⟨o, its, n, hk, hc, _⟩
  · exact .base (.tup h)
  · exact .fTuple h
  · exact .kTuple hk hc
theorem rc_isInt {i : Int} : RC c (rIsi c.K) [I i, Eqv (.ty "int")] (B true) := fun vs H g h Q q => by
  obtain ⟨v, w, rfl, h1, h2⟩ := h.inv2
  obtain rfl : v = _ := h1
  obtain rfl : w = _ := h2
  exact ⟨.int i, .ty "int", .type "int", .type "int", true, rfl, .ty "int", .base (.int i), kit_ty (by decide +kernel), q _ H g rfl⟩
theorem rc_isBool {i : Int} : RC c (rIsi c.K) [I i, Eqv (.ty "bool")] (B false) := fun vs H g h Q q => by
  obtain ⟨v, w, rfl, h1, h2⟩ := h.inv2
  obtain rfl : v = _ := h1
  obtain rfl : w = _ := h2
  exact ⟨.int i, .ty "bool", .type "int", .type "bool", false, rfl, .ty "bool", .base (.int i), kit_ty (by decide +kernel), q _ H g rfl⟩
theorem rc_isTup : RC c (rIsi c.K) [TupOf Ps, Eqv (.ty "tuple")] (B true) := fun vs H g h Q q => by
  obtain ⟨v, w, rfl, ⟨a, us, rfl, h1, h3⟩, h2⟩ := h.inv2
  obtain rfl : w = _ := h2
  exact ⟨.ref a, .ty "tuple", .type "tuple", .type "tuple", true, rfl, .ty "tuple", tyx_tup h1, kit_ty (by decide +kernel), q _ H g rfl⟩
/-- what isinstance asks of the class Layout -/
structure IsL (c : Cxt) : Prop where
  cl : Cls c.K c.cL
  ha : PySem.W.findIn c.K (.ref c.cL) "__class__" = some (some (.builtin "object.__class__"))
  hn : PySem.W.specialIn c.K (.builtin "object.__class__") "__get__" = some (some (.builtin "getset_descriptor.__get__"))
  ht : PySem.W.takesIn c.K (.builtin "object.__class__") = some true
  hm : PySem.W.mroIn c.K c.cL (.type "object") = some true
theorem rc_isLay {n : Nat} {its : List Itm} (Il : IsL c) : RC c (rIsi c.K) [Lay n its, Eqv (.ref c.cL)] (B true) := fun vs H g h Q q => by
  obtain ⟨v, w, rfl, ⟨a, d, e, rfl, h1, h3⟩, h2⟩ := h.inv2
  obtain rfl : w = _ := h2
  refine ⟨.ref a, .ref c.cL, .ref c.cL, .ref c.cL, true, rfl, .own c.cL, .base (.ins h1 Il.cl Il.ha Il.hn Il.ht Il.hm), ?_, q _ H g rfl⟩
  unfold PySem.W.kitOne
  rw [if_pos (beq_self_eq_true _)]
/-- a tuple that is tracked -/
def TupT (Ps : List (SV c)) : SV c := ⟨fun v H => ∃ a vs, v = .ref a ∧ H a = some (.tup vs) ∧ AllP Ps vs H, fun g ⟨a, vs, e, h1, h2⟩ => ⟨a, vs, e, g.tup h1, h2.gr g⟩⟩
theorem ev_tupT {ta : TA} (h : EvA c ta σ H Ps) (hl : Ps.length ≤ 100000) : Ev c (tTup ta) σ H (TupT Ps) := fun H1 g Q q =>
  h H1 g _ fun vs H2 g2 e2 => ⟨sz_of (by rw [e2.len]; exact hl), fun p hp => q _ _ (g2.trans (g2.new hp)) ⟨p, vs, rfl, upd_same, e2.gr (g2.new hp)⟩⟩
theorem rc_isLT : RC c (rIsiT c.K) [L Ps, TupT [Eqv (.ty "list"), Eqv (.ty "tuple")]] (B true) := fun vs H g h Q q => by
  obtain ⟨v, w, rfl, ⟨a, us, rfl, h1, h3⟩, ⟨b, ws, rfl, h4, h5⟩⟩ := h.inv2
  obtain ⟨x, y, rfl, ex, ey⟩ := h5.inv2
  obtain rfl : x = _ := ex
  obtain rfl : y = _ := ey
  exact ⟨.ref a, b, _, .type "list", [.type "list", .type "tuple"], true, rfl, h4, .cons (.ty "list") (.cons (.ty "tuple") .nil), .base (.lst h1), kitAny_cons (b := true) (r := true) (kit_ty (by decide +kernel)) (fun z => nomatch z) (fun _ => rfl), q _ H g rfl⟩
/-- a < b <= c -/
theorem ev_chain {r r' : R2} {a b : Bool} (hr : RV c r P R (B a)) (hr' : RV c r' R Z (B b)) (ha : Ev c ta σ H P) (hb : Ev c tb σ H R) (hc : Ev c tc σ H Z) : Ev c (tChain r r' ta tb tc) σ H (B (a && b)) := fun H1 g Q q =>
  ha H1 g _ fun x H2 g2 h2 => hb H2 (g.trans g2) _ fun y H3 g3 h3 => hr x y H3 g3.self.self (P.st g3 h2) h3 _ fun z H4 g4 h4 => ⟨a, h4, by
    have g14 := (g2.trans g3).trans g4
    cases a with
    | true =>
      show tc σ H4 _
      exact hc H4 (g.trans g14) _ fun w H5 g5 h5 => hr' y w H5 g5.self (R.st g5 (R.st g4 h3)) h5 Q fun u H6 g6 h6 => q u H6 ((g14.trans g5).trans g6) h6
    | false => exact q _ H4 g14 rfl⟩
theorem ev_pt {b : Bool} {t : TT} (h : EvT c t σ H b) : EvT c t σ H b := h
end
/-! ### what is well -/
def WfS (n : Nat) (s : List Nat) : Prop := s.Pairwise (· < ·) ∧ ∀ k ∈ s, k < n
def WfI (n : Nat) (it : Itm) : Prop := WfS n it.1 ∧ 1 ≤ it.2 ∧ it.2 ≤ it.1.length
structure WfL (n : Nat) (its : List Itm) : Prop where
  lo : 1 ≤ n
  hi : n ≤ 6
  ne : 1 ≤ its.length
  le : its.length ≤ 10
  it : ∀ it ∈ its, WfI n it
end


/-! the rules again, the written part's name K told from outside (within a comprehension it would speak of the block) -/
section
open PySem PySem.Spec PyProof.Rows L2 LamX
section
variable {X : Cx} {K : PySem.W.Frag}
theorem op_inQ (e : X.K = K) : OpR X (compareOp .In) (rIn K false) := by subst e; exact op_in_seq
theorem op_niQ (e : X.K = K) : OpR X (compareOp .NotIn) (rIn K true) := by subst e; exact op_notIn_seq
theorem ix_listQ (e : X.K = K) : IxR X (rIxL K) := by subst e; exact ix_list
theorem ix_tupQ (e : X.K = K) : IxR X (rIxT K) := by subst e; exact ix_tup
theorem sl_listQ (e : X.K = K) : SlR X (rSlL K) := by subst e; exact sl_list
theorem sl_tupQ (e : X.K = K) : SlR X (rSlA K) := by subst e; exact sl_tupA
theorem cl_lenQ (e : X.K = K) : CallR X (.builtin "len") (fun xs H Q => ∃ p ys, xs = [.ref p] ∧ (SqL K H p ys ∨ SqT K H p ys) ∧ Q (.int ys.length) H) := by subst e; exact call_len_seq
theorem cl_tupleQ (e : X.K = K) : CallR X (.type "tuple") (fun xs H Q => ∃ p ys, xs = [.ref p] ∧ ((SqL K H p ys ∧ ∀ l, H l = none → Q (.ref l) (upd H l (.tup ys))) ∨ (SqT K H p ys ∧ Q (.ref p) H))) := by subst e; exact call_tuple_of
theorem cl_listQ (e : X.K = K) : CallR X (.type "list") (fun xs H Q => ∃ p ys, xs = [.ref p] ∧ (SqL K H p ys ∨ SqT K H p ys) ∧ ∀ l, H l = none → Q (.ref l) (upd H l (.lst ys))) := by subst e; exact call_list_of
theorem cr_allQ (e : X.K = K) (hc : X.calm = true) : CallR X (.builtin "all") (rAll K) := by subst e; exact cr_all hc
theorem cr_anyQ (e : X.K = K) (hc : X.calm = true) : CallR X (.builtin "any") (rAny K) := by subst e; exact cr_any hc
theorem cr_sumQ (e : X.K = K) (hc : X.calm = true) : CallR X (.builtin "sum") (rSum K) := by subst e; exact cr_sum hc
theorem cr_minQ (e : X.K = K) (hc : X.calm = true) : CallR X (.builtin "min") (rMin K) := by subst e; exact cr_min hc
theorem cr_maxQ (e : X.K = K) (hc : X.calm = true) : CallR X (.builtin "max") (rMax K) := by subst e; exact cr_max hc
theorem cr_sortedQ (e : X.K = K) : CallR X (.builtin "sorted") (rSorted K) := by subst e; exact cr_sorted
theorem cl_isiQ (e : X.K = K) : CallR X (.builtin "isinstance") (rIsi K) := by subst e; exact call_isi
theorem cl_isiTQ (e : X.K = K) : CallR X (.builtin "isinstance") (rIsiT K) := by subst e; exact call_isiT
theorem op_catTQ (e : X.K = K) : OpR X (binaryOp .Add) (rCatA K) := by subst e; exact op_catA
theorem op_eqDQ (e : X.K = K) (hu : X.A.units + 64 < cLine) : OpR X (compareOp .Eq) (rEqD K) := by subst e; exact op_eqD hu
theorem op_neDQ (e : X.K = K) (hu : X.A.units + 64 < cLine) : OpR X (compareOp .NotEq) (rNeD K) := by subst e; exact op_neD hu
theorem mt_countQ (e : X.K = K) : MtR X "list.count" (rCntI K) := by subst e; exact mt_lcount
theorem pe_fldQ {e : Expr} {ta : TE} {f : Str} {pos : Pos} (eK : X.K = K) (he : PE X e ta) (hb : attributeBase e f X.env (eval e X.env) = eval e X.env) : PE X (.Attribute e f pos) (tFld K ta f) := by subst eK; exact pe_fld he hb
theorem pi_listQ {l tg : Expr} {tl : TE} (eK : X.K = K) (hl : PE X l tl) : PI X tg l (iList K tl) := by subst eK; exact pi_list hl
theorem pi_tupQ {l tg : Expr} {tl : TE} (eK : X.K = K) (hl : PE X l tl) : PI X tg l (iTup K tl) := by subst eK; exact pi_tup hl
theorem pi_enumQ {e : Expr} {ta : TA} {p pos tpos : Pos} {elts : List Expr} {kk : Nat} (eK : X.K = K) (hg : Gl X "enumerate") (hm : X.mg "enumerate" = none) (ha : PA X [e] ta) (hs : starEach [e] X.env = [(false, eval e X.env)] := by rfl) :
    PI X (.Tuple elts kk tpos) (.Call (.Name "enumerate" p) [e] [] pos) (iEnum K ta) := by subst eK; exact pi_enum hg hm ha hs
theorem pi_zipQ {e e2 : Expr} {ta : TA} {p pos tpos : Pos} {elts : List Expr} {kk : Nat} (eK : X.K = K) (hg : Gl X "zip") (hm : X.mg "zip" = none) (ha : PA X [e, e2] ta)
    (hs : starEach [e, e2] X.env = (false, eval e X.env) :: starEach [e2] X.env := by rfl) (hpl : (backTo pos (starEach [e2] X.env)).any (·.1) = false := by rfl) :
    PI X (.Tuple elts kk tpos) (.Call (.Name "zip" p) [e, e2] [] pos) (RZ.iZipA K ta) := by subst eK; exact RZ.pi_zipA hg hm ha hs hpl
theorem pg_tupQ {es : List Expr} {k : Nat} {t : TGs} {n : Nat} {pos : Pos} (eK : X.K = K) (hc : X.calm = true) (h : PGs X es t)
    (hn : (assignEach es X.env).length = n := by rfl) (hst : (assignEach es X.env).findIdx? (·.1) = none := by rfl) : PG X (.Tuple es k pos) (gTup K n t) := by subst eK; exact pg_tup hc h hn hst
theorem pa_starQ {e : Expr} {p : Pos} {es : List Expr} {te : TE} {t : TA} (eK : X.K = K) (he : PE X e te) (hr : PA X es t) (hs : starEach (.Starred e p :: es) X.env = (true, eval e X.env) :: starEach es X.env := by rfl) : PA X (.Starred e p :: es) (StX.tStar K te t) := by
  subst eK; exact StX.pa_star he hr hs
theorem pe_appendQ {o e : Expr} {es : List Expr} {apos cpos : Pos} {to : TE} {t : TA} (eK : X.K = K) (ho : PE X o to) (ha : PA X (e :: es) t)
    (hbase : attributeBase o "append" X.env (eval o X.env) = eval o X.env := by rfl)
    (hfew : ((backTo cpos (starEach (e :: es) X.env)).all (fun x => !x.1) && (backToKw cpos (keywordEach [] X.env)).all (fun x => x.1.isSome)
      && decide ((e :: es).length + ([] : List Keyword).length + (if ([] : List Keyword).isEmpty then 0 else 1) < 30)) = true := by rfl)
    (hline : (apos.endLine == cpos.line) = true := by rfl) (hs : starEach (e :: es) X.env = (false, eval e X.env) :: starEach es X.env := by rfl) (hplain : (backTo cpos (starEach es X.env)).any (·.1) = false := by rfl) :
    PE X (.Call (.Attribute o "append" apos) (e :: es) [] cpos) (tBM K "list" rAppend to t) := by
  subst eK; exact pe_bm PySem.F.plainAttrs_list PySem.F.slot_list_append PySem.F.type_list_append mt_append ho ha hbase hfew hline hs hplain
theorem pe_countQ {o e : Expr} {es : List Expr} {apos cpos : Pos} {to : TE} {t : TA} (eK : X.K = K) (ho : PE X o to) (ha : PA X (e :: es) t)
    (hbase : attributeBase o "count" X.env (eval o X.env) = eval o X.env := by rfl)
    (hfew : ((backTo cpos (starEach (e :: es) X.env)).all (fun x => !x.1) && (backToKw cpos (keywordEach [] X.env)).all (fun x => x.1.isSome)
      && decide ((e :: es).length + ([] : List Keyword).length + (if ([] : List Keyword).isEmpty then 0 else 1) < 30)) = true := by rfl)
    (hline : (apos.endLine == cpos.line) = true := by rfl) (hs : starEach (e :: es) X.env = (false, eval e X.env) :: starEach es X.env := by rfl) (hplain : (backTo cpos (starEach es X.env)).any (·.1) = false := by rfl) :
    PE X (.Call (.Attribute o "count" apos) (e :: es) [] cpos) (tBM K "list" (rCntI K) to t) := by
  subst eK; exact pe_bm PySem.F.plainAttrs_list PySem.F.slot_list_count PySem.F.type_list_count mt_lcount ho ha hbase hfew hline hs hplain
end
end


section
open PySem PySem.Spec PyProof.Rows L2 LamX
open AutoSeq1 (wpAny_loadPart')
/-! ### enumerate(tuple) -/
theorem meets_enumT (l : Addr) (items : Array Value) (n : Nat) (dct : Option Addr) (sl : Array (Option Value)) :
    Meets (Builtin.«enumerate.__new__» ⟨[.type "enumerate", .ref l], []⟩) (fun _ R s => s.heap.get? l = some { cls := .type "tuple", dict := dct, data := .seq items n, slots := sl } ∧
      R (.ok (.ret (.ref (s.heap.push { cls := .type "tuple_iterator", data := .fields #[.ref l, .int 0 0] }).objs.size)))
        { s with heap := (s.heap.push { cls := .type "tuple_iterator", data := .fields #[.ref l, .int 0 0] }).push { cls := .type "enumerate", data := .fields #[.none, .bool false, .ref s.heap.objs.size, rawInt 0, .none, .none] } }) :=
  .of_wp fun prog w A R s h => by
    obtain ⟨hp, g, d, tk, os⟩ := s; obtain ⟨hl, h⟩ := h
    have hsub := sub_enumerate
    have hL : Heap.IsTuple (Shared.heap ⟨hp, g, d, tk, os⟩) l items := ⟨_, hl, rfl, n, rfl⟩
    wp_walk using wpAny_loadPart' hl
    refine wpAny_stack_any fun st => wpAny_pure ?_
    split
    · rename_i c _ _ _ _ _
      cases (c == Value.type "enumerate")
      · wp_walk using wpAny_loadPart' hl, wpAny_pyIter_tuple hL
        exact ⟨_, rfl, h⟩
      · wp_walk using wpAny_loadPart' hl, wpAny_pyIter_tuple hL
        exact ⟨_, rfl, h⟩
    · wp_walk using wpAny_loadPart' hl, wpAny_pyIter_tuple hL
      exact ⟨_, rfl, h⟩
section
variable {prog : Program} {w : World} {A : Around} {E : Value → Shared → Prop} {s : Shared}
theorem call_enumT {l : Addr} {items : Array Value} {Q : Value → Shared → Prop} (hL : s.heap.IsTuple l items)
    (h : ∀ h', IsEnum h' (s.heap.objs.size + 1) s.heap.objs.size 0 .none → h'.IsTupleIter s.heap.objs.size l 0 → h'.objs.size = s.heap.objs.size + 2 →
      (∀ b o, s.heap.get? b = some o → h'.get? b = some o) → Q (.ref (s.heap.objs.size + 1)) { s with heap := h' }) :
    wpAny (model prog w) A (call (.type "enumerate") [.ref l]) Q E s := by
  obtain ⟨⟨c, dct, dt, sl⟩, hl, hc, n, hd⟩ := hL
  replace hc : c = .type "tuple" := hc
  replace hd : dt = .seq items n := hd
  subst hc hd
  refine callType_new F.called_enumerate (by decide) (F.typeCall_enumerate_1 _) (F.newCall_enumerate_1 _) (fun obj => F.args_object_init_2 obj _) F.entry_enumerate_new
    (meets_enumT l items n dct sl) ⟨hl, ?_⟩
  have hz : (s.heap.push { cls := .type "tuple_iterator", data := .fields #[.ref l, .int 0 0] }).objs.size = s.heap.objs.size + 1 := Heap.size_push ..
  show _ ∧ _
  rw [hz]
  have he : IsEnum ((s.heap.push { cls := .type "tuple_iterator", data := .fields #[.ref l, .int 0 0] }).push
      { cls := .type "enumerate", data := .fields #[.none, .bool false, .ref s.heap.objs.size, rawInt 0, .none, .none] }) (s.heap.objs.size + 1) s.heap.objs.size 0 .none := by
    have := Heap.get?_push_size (s.heap.push { cls := .type "tuple_iterator", data := .fields #[.ref l, .int 0 0] })
      (o := { cls := .type "enumerate", data := .fields #[.none, .bool false, .ref s.heap.objs.size, rawInt 0, .none, .none] }) rfl
    rw [hz] at this; exact this
  exact ⟨⟨_, he, rfl⟩, h _ he ⟨_, Heap.get?_push_of_some _ (Heap.get?_push_size _ rfl), rfl, rfl⟩ (by rw [Heap.size_push, hz]) fun b o x => Heap.get?_push_of_some _ (Heap.get?_push_of_some _ x)⟩
end
/-- the tuple at a, each item in a new pair -/
def IteT (K : PySem.W.Frag) (a : Addr) : It :=
  ⟨fun i H => ∃ (xs : List V) (x : V), SqT K H a xs ∧ xs[i]? = some x, fun i H v H' => ∃ T x, v = .ref T ∧ H T = none ∧ H' = upd H T (.tup [.int (i : Nat), x]) ∧ ∀ xs, SqT K H a xs → xs[i]? = some x, fun i H => ∃ xs : List V, SqT K H a xs ∧ xs.length ≤ i⟩
theorem turn_enumT {P : Program} {w : World} {K : PySem.W.Frag} {elts : List Expr} {kk : Nat} {tpos : Pos} (a e it : Addr) :
    Turn P w K (.Tuple elts kk tpos) (IteT K a) [e, it] e (fun i h => (∃ old, IsEnum h e it ((i : Nat) : Int) old) ∧ h.IsTupleIter it a i ∧ e ≠ it ∧ a ≠ it ∧ a ≠ e) where
  mem := by simp
  obj := fun i h st b hb => by
    obtain ⟨⟨old, he⟩, ⟨o, ho, hc, hd⟩, _⟩ := st
    have e' : b = e ∨ b = it := by simpa using hb
    rcases e' with z | z
    · rw [z]; exact ⟨_, he, fun v q => nomatch q⟩
    · rw [z]; exact ⟨o, ho, fun v q => by rw [hd] at q; cases q⟩
  keep := fun i h h' st k => let ⟨⟨old, he⟩, hi, hne⟩ := st; ⟨⟨old, k e (by simp) _ he⟩, hi.at fun o q => k it (by simp) o q, hne⟩
  item := by
    intro X hP hw hK hc i pins s σ H E I hf st hg
    subst hP hw hK
    obtain ⟨⟨old, he⟩, hit, hne, hai, hae⟩ := st
    obtain ⟨xs, x, hq, hx⟩ := hg
    obtain ⟨its, rv, p, hz⟩ := I.tuple hq
    obtain ⟨u, hu, ru⟩ := rv.get hx
    have hel : e < s.heap.objs.size := Heap.lt_size he
    have hil : it < s.heap.objs.size := by obtain ⟨_, q, _⟩ := hit; exact Heap.lt_size q
    have hlt : i < its.toArray.size := by
      rw [List.size_toArray]
      exact (List.getElem?_eq_some_iff.mp hu).1
    have D := Draws.tuple (prog := X.prog) (w := X.w) (A := X.A.in1) (I.ok.hd hc) it a hai its.toArray
    refine wpAny_pyNext_enum_itemD D he ⟨hit, (show s.heap.IsTuple a its.toArray from p)⟩ hlt hne (by simp [hne, Ne.symm hae]) fun y h' tk hy ho hst' hT hsz hk => ?_
    have hyu : y = u := by
      have e1 : its.toArray[i]? = some u := by simpa using hu
      rw [e1] at hy
      exact (Option.some.inj hy).symm
    subst hyu
    refine ⟨_, rfl, wpAny_letOwnedTupleGo_enum (s := { s with heap := h', toks := tk + 1 }) ho fun h'' he' sb => ?_⟩
    have hT2 : h''.get? s.heap.objs.size = some { cls := .type "tuple", data := .seq #[.int i tk, y] } := (sb.2 _ (Nat.ne_of_gt hel)).trans hT
    have new : ObjOk X.prog X.w (upd H s.heap.objs.size (.tup [.int (i : Nat), x])) h'' s.heap.objs.size (.tup [.int (i : Nat), x]) :=
      ⟨by show 2 ≤ sizeLine; decide, [.int i tk, y], .cons ⟨_, rfl⟩ (.cons ru .nil), ⟨_, hT2, rfl, _, rfl⟩⟩
    have I1 : Inv X pins σ (upd H s.heap.objs.size (.tup [.int (i : Nat), x])) { s with heap := h'', toks := tk + 1 } :=
      I.turnedNew (ch := [e, it]) (fun b ob hb q => (sb.2 b (fun z => hb (by simp [z]))).trans (hk b ob (fun z => hb (by simp [z])) (fun z => hb (by simp [z])) q)) hf (Nat.le_refl _) new
    refine ⟨.ref s.heap.objs.size, _, I1, rfl, ⟨_, x, rfl, I.hok.fresh (Nat.le_refl _), rfl, fun ys hy => by rw [I.tuple_inj hy hq]; exact hx⟩, ⟨⟨y, ?_⟩, hst'.1.at fun o q => (sb.2 it (Ne.symm hne)).trans q, hne, hai, hae⟩, fun b hb => ?_⟩
    · have e1 : ((i + 1 : Nat) : Int) = (i : Int) + 1 := by omega
      rw [e1]; exact he'
    · have hb' : b < s.heap.objs.size := by
        have e' : b = e ∨ b = it := by simpa using hb
        rcases e' with z | z
        · rw [z]; exact hel
        · rw [z]; exact hil
      rw [upd_ne (Nat.ne_of_lt hb')]
      exact (hf b hb).1
  done := by
    intro X hP hw hK hc i pins s σ H E I hf st hg
    subst hP hw hK
    obtain ⟨⟨old, he⟩, hit, hne, hai, hae⟩ := st
    obtain ⟨xs, hq, hx⟩ := hg
    obtain ⟨its, rv, p, hz⟩ := I.tuple hq
    obtain ⟨f0, f1, f2, f3, f4, f5⟩ := hf it (by simp)
    have hl := rv.length
    have hT : s.TypeIs (.ref e) "enumerate" := ⟨_, he, rfl⟩
    unfold pyNext
    refine wpAny_bind (wpAny_attempt (wpAny_callSpecial?_slot (name := Str.ofString "__next__") hT F.slot_enumerate_next
      (wpAny_call_entry F.slot_enumerate_next hT F.entry_enumerate_next ?_ (F.args_enumerate_next_1 _))))
    show wpAny _ _ (field (.ref e) 2 >>= _) _ _ _
    refine wpAny_bind (wpAny_field he rfl (x := .ref it) rfl ?_)
    refine wpAny_bind (wpAny_nextOf_tuple_end (I.ok.hd hc) hit (show s.heap.IsTuple a its.toArray from p) (by simp; omega) fun h' x he' hx' => ?_)
    obtain ⟨o, ho, hc'⟩ := hx'
    refine wpAny_bind (wpAny_isInstance (T := "StopIteration") (b := true) ⟨o, ho, hc'⟩ isSubtype_stop ?_)
    exact wpAny_pure ⟨rfl, I.turned (t' := s.toks) (fun b o hb q => he' b o hb q) f0 f1 f3 f4 f5⟩
  self := fun A i s Q E st h => let ⟨⟨_, he⟩, _⟩ := st; wpAny_pyIter_enum he h
def iEnumT (K : PySem.W.Frag) (ta : TA) : L2.TI := fun σ H R => ta σ H fun vs H1 => ∃ a xs, vs = [.ref a] ∧ SqT K H1 a xs ∧ R (IteT K a) H1
theorem pi_enumTQ {X : Cx} {K : PySem.W.Frag} {e : Expr} {ta : TA} {p pos tpos : Pos} {elts : List Expr} {kk : Nat} (eK : X.K = K) (hg : Gl X "enumerate") (hm : X.mg "enumerate" = none) (ha : PA X [e] ta) (hs : starEach [e] X.env = [(false, eval e X.env)] := by rfl) :
    PI X (.Tuple elts kk tpos) (.Call (.Name "enumerate" p) [e] [] pos) (iEnumT K ta) := by
  subst eK
  refine ⟨fun pins s σ H R I h => ?_⟩
  refine Call_ (ld_blt I hg hm boot_enumerate (PyProof.Rows.callWith_type1 (thn (ha.run pos pins s σ H _ I h) fun us s1 ⟨vs, H1, I1, r1, q1⟩ => ?_) hs rfl))
  obtain ⟨a, xs, ex, hq, q⟩ := q1
  subst ex
  cases r1 with
  | cons r rr =>
    cases rr
    cases r
    obtain ⟨its, rv, p', hz⟩ := I1.tuple hq
    have hal : a < s1.heap.objs.size := p'.lt
    refine call_enumT (show s1.heap.IsTuple a its.toArray from p') fun h' he hit hsz hk => wpAny_pyIter_enum he ?_
    have I2 : Inv X pins σ H1 { s1 with heap := h' } := I1.kept (t' := s1.toks) hk
    refine ⟨s1.heap.objs.size + 1, [s1.heap.objs.size + 1, s1.heap.objs.size], _, _, H1, rfl, I2, turn_enumT a (s1.heap.objs.size + 1) s1.heap.objs.size, ⟨⟨.none, he⟩, hit, Nat.succ_ne_self _, Nat.ne_of_lt hal, Nat.ne_of_lt (Nat.lt_succ_of_lt hal)⟩, fun b hb => ?_, q⟩
    have e' : b = s1.heap.objs.size + 1 ∨ b = s1.heap.objs.size := by simpa using hb
    have hle : s1.heap.objs.size ≤ b := by
      rcases e' with z | z
      · rw [z]; exact Nat.le_add_right _ _
      · rw [z]; exact Nat.le_refl _
    exact I1.fpOk hle (I1.hok.fresh hle)
end


section
open PySem PySem.Spec PyProof.Rows L2 LamX
open AutoSeq1 (wpAny_loadPart')
variable {c : Cxt}
theorem LB_map {α : Type} (f : α → Bool) (xs : List α) : L (c := c) (xs.map fun x => B (f x)) = LB (xs.map f) := by
  show _ = L ((xs.map f).map B)
  rw [List.map_map]; rfl
theorem LI_map {α : Type} (f : α → Int) (xs : List α) : L (c := c) (xs.map fun x => I (f x)) = LI (xs.map f) := by
  show _ = L ((xs.map f).map I)
  rw [List.map_map]; rfl
theorem LN_map {α : Type} (f : α → Nat) (xs : List α) : L (c := c) (xs.map fun x => I (f x : Int)) = LN (xs.map f) := by
  show _ = L ((xs.map f).map fun k : Nat => I (k : Int))
  rw [List.map_map]; rfl
theorem LS_map {α : Type} (f : α → List Nat) (xs : List α) : L (c := c) (xs.map fun x => S (f x)) = LS (xs.map f) := by
  show _ = L ((xs.map f).map S)
  rw [List.map_map]; rfl
section
variable {σ σ2 : L2.St} {H H' H0 : Hp} {ta tb te tx tc : TE} {P R Z : SV c} {Ps Qs : List (SV c)} {K : PySem.W.Frag} {a b : Addr} {vs ws : List V}
/-! ### enumerate, zip as sources -/
theorem enum_get {α : Type} {xs : List α} {F : α → SV c} {i : Nat} {Z : SV c} (h : (xs.zipIdx.map fun p => TupOf [I (p.2 : Int), F p.1])[i]? = some Z) : ∃ x, xs[i]? = some x ∧ Z = TupOf [I (i : Int), F x] := by
  rw [List.getElem?_map, List.getElem?_zipIdx] at h
  cases q : xs[i]? with
  | none => rw [q] at h; cases h
  | some x =>
    rw [q] at h
    refine ⟨x, rfl, ?_⟩
    have e := (Option.some.inj h).symm
    rw [e]
    simp
theorem src_enum {α : Type} {xs : List α} {F : α → SV c} : Src c (Ite c.K a) (xs.zipIdx.map fun p => TupOf [I (p.2 : Int), F p.1]) (fun H => SqL c.K H a vs ∧ AllP (xs.map F) vs H) where
  goes := fun i H hi ⟨h1, h2⟩ => by
    rw [List.length_map, List.length_zipIdx] at hi
    exact ⟨vs, vs[i]'(by rw [h2.len, List.length_map]; exact hi), h1, by simp⟩
  stops := fun H ⟨h1, h2⟩ => ⟨vs, h1, by rw [h2.len, List.length_map, List.length_map, List.length_zipIdx]; exact Nat.le_refl _⟩
  yields := fun i H x H' P hP ⟨h1, h2⟩ g y => by
    obtain ⟨x0, hx0, rfl⟩ := enum_get hP
    obtain ⟨T, u, rfl, hT, rfl, hu⟩ := y
    obtain ⟨v, hv, hp⟩ := h2.get (i := i) (P := F x0) (by rw [List.getElem?_map, hx0]; rfl)
    have := hu vs h1
    rw [hv] at this
    cases this
    exact ⟨g.new hT, T, _, rfl, SqT.of upd_same, rfl, (F x0).st (g.new hT) hp, True.intro⟩
theorem src_enumT {α : Type} {xs : List α} {F : α → SV c} : Src c (IteT c.K a) (xs.zipIdx.map fun p => TupOf [I (p.2 : Int), F p.1]) (fun H => SqT c.K H a vs ∧ AllP (xs.map F) vs H) where
  goes := fun i H hi ⟨h1, h2⟩ => by
    rw [List.length_map, List.length_zipIdx] at hi
    exact ⟨vs, vs[i]'(by rw [h2.len, List.length_map]; exact hi), h1, by simp⟩
  stops := fun H ⟨h1, h2⟩ => ⟨vs, h1, by rw [h2.len, List.length_map, List.length_map, List.length_zipIdx]; exact Nat.le_refl _⟩
  yields := fun i H x H' P hP ⟨h1, h2⟩ g y => by
    obtain ⟨x0, hx0, rfl⟩ := enum_get hP
    obtain ⟨T, u, rfl, hT, rfl, hu⟩ := y
    obtain ⟨v, hv, hp⟩ := h2.get (i := i) (P := F x0) (by rw [List.getElem?_map, hx0]; rfl)
    have := hu vs h1
    rw [hv] at this
    cases this
    exact ⟨g.new hT, T, _, rfl, SqT.of upd_same, rfl, (F x0).st (g.new hT) hp, True.intro⟩
theorem ei_enum {α : Type} {xs : List α} {F : α → SV c} {ta : TA} (h : EvA c ta σ H [L (xs.map F)]) : EvI c (iEnum c.K ta) σ H (xs.zipIdx.map fun p => TupOf [I (p.2 : Int), F p.1]) := fun H1 g R r => h H1 g _ fun vs H2 g2 e => by
  obtain ⟨v, rfl, a, us, rfl, e1, e2⟩ := e.inv1
  exact ⟨a, us, rfl, SqL.of e1, r _ _ H2 g2 (src_enum (vs := us)) fun H' g' => ⟨SqL.of (g'.lst e1), e2.gr g'⟩⟩
theorem ei_enumT {α : Type} {xs : List α} {F : α → SV c} {ta : TA} (h : EvA c ta σ H [TupOf (xs.map F)]) : EvI c (iEnumT c.K ta) σ H (xs.zipIdx.map fun p => TupOf [I (p.2 : Int), F p.1]) := fun H1 g R r => h H1 g _ fun vs H2 g2 e => by
  obtain ⟨v, rfl, a, us, rfl, e1, e2⟩ := e.inv1
  exact ⟨a, us, rfl, e1, r _ _ H2 g2 (src_enumT (vs := us)) fun H' g' => ⟨g'.sqT e1, e2.gr g'⟩⟩
/-- .. of a value known at H -/
theorem es_enum {α : Type} {xs : List α} {F : α → SV c} {te : TE} {v : V} (h : Ev c te σ H (Eqv v)) (hp : (L (xs.map F)).p v H) : EvIs c (iEnum c.K (tCons te tNil)) σ H (xs.zipIdx.map fun p => TupOf [I (p.2 : Int), F p.1]) := fun H1 g R r => h H1 g _ fun w H2 g2 e => by
  obtain rfl : w = v := e
  obtain ⟨a, us, rfl, e1, e2⟩ := hp
  exact ⟨a, us, rfl, SqL.of ((g.trans g2).lst e1), r _ _ H2 g2 (src_enum (vs := us)) fun H' g' => ⟨SqL.of (g'.lst e1), e2.gr g'⟩⟩
theorem es_enumT {α : Type} {xs : List α} {F : α → SV c} {te : TE} {v : V} (h : Ev c te σ H (Eqv v)) (hp : (TupOf (xs.map F)).p v H) : EvIs c (iEnumT c.K (tCons te tNil)) σ H (xs.zipIdx.map fun p => TupOf [I (p.2 : Int), F p.1]) := fun H1 g R r => h H1 g _ fun w H2 g2 e => by
  obtain rfl : w = v := e
  obtain ⟨a, us, rfl, e1, e2⟩ := hp
  exact ⟨a, us, rfl, (g.trans g2).sqT e1, r _ _ H2 g2 (src_enumT (vs := us)) fun H' g' => ⟨g'.sqT e1, e2.gr g'⟩⟩
theorem zip_get {α β : Type} {xs : List α} {ys : List β} {F : α → SV c} {G : β → SV c} {i : Nat} {Z : SV c} (h : ((xs.zip ys).map fun p => TupOf [F p.1, G p.2])[i]? = some Z) : ∃ x y, xs[i]? = some x ∧ ys[i]? = some y ∧ Z = TupOf [F x, G y] := by
  rw [List.getElem?_map] at h
  cases q : (xs.zip ys)[i]? with
  | none => rw [q] at h; cases h
  | some p =>
    rw [q] at h
    obtain ⟨h1, h2⟩ := List.getElem?_zip_eq_some.mp q
    exact ⟨p.1, p.2, h1, h2, (Option.some.inj h).symm⟩
theorem src_zip {α β : Type} {xs : List α} {ys : List β} {F : α → SV c} {G : β → SV c} : Src c (Itz c.K a b) ((xs.zip ys).map fun p => TupOf [F p.1, G p.2]) (fun H => (SqL c.K H a vs ∧ AllP (xs.map F) vs H) ∧ SqL c.K H b ws ∧ AllP (ys.map G) ws H) where
  goes := fun i H hi ⟨⟨h1, h2⟩, h3, h4⟩ => by
    rw [List.length_map, List.length_zip] at hi
    have l1 := h2.len
    have l2 := h4.len
    rw [List.length_map] at l1 l2
    exact ⟨vs, ws, vs[i]'(by omega), ws[i]'(by omega), h1, h3, by simp, by simp⟩
  stops := fun H ⟨⟨h1, h2⟩, h3, h4⟩ => by
    have l1 := h2.len
    have l2 := h4.len
    rw [List.length_map] at l1 l2
    refine ⟨vs, ws, h1, h3, ?_⟩
    rw [List.length_map, List.length_zip]
    omega
  yields := fun i H x H' P hP ⟨⟨h1, h2⟩, h3, h4⟩ g y => by
    obtain ⟨x0, y0, hx0, hy0, rfl⟩ := zip_get hP
    obtain ⟨T, u, u2, rfl, hT, rfl, hu, hu2⟩ := y
    obtain ⟨v, hv, hp⟩ := h2.get (i := i) (P := F x0) (by rw [List.getElem?_map, hx0]; rfl)
    obtain ⟨w, hw, hp2⟩ := h4.get (i := i) (P := G y0) (by rw [List.getElem?_map, hy0]; rfl)
    have t1 := hu vs h1
    rw [hv] at t1
    cases t1
    have t2 := hu2 ws h3
    rw [hw] at t2
    cases t2
    exact ⟨g.new hT, T, _, rfl, SqT.of upd_same, (F x0).st (g.new hT) hp, (G y0).st (g.new hT) hp2, True.intro⟩
theorem src_zipT {α β : Type} {xs : List α} {ys : List β} {F : α → SV c} {G : β → SV c} : Src c (RZ.ItzT c.K a b) ((xs.zip ys).map fun p => TupOf [F p.1, G p.2]) (fun H => (SqT c.K H a vs ∧ AllP (xs.map F) vs H) ∧ SqT c.K H b ws ∧ AllP (ys.map G) ws H) where
  goes := fun i H hi ⟨⟨h1, h2⟩, h3, h4⟩ => by
    rw [List.length_map, List.length_zip] at hi
    have l1 := h2.len
    have l2 := h4.len
    rw [List.length_map] at l1 l2
    exact ⟨vs, ws, vs[i]'(by omega), ws[i]'(by omega), h1, h3, by simp, by simp⟩
  stops := fun H ⟨⟨h1, h2⟩, h3, h4⟩ => by
    have l1 := h2.len
    have l2 := h4.len
    rw [List.length_map] at l1 l2
    refine ⟨vs, ws, h1, h3, ?_⟩
    rw [List.length_map, List.length_zip]
    omega
  yields := fun i H x H' P hP ⟨⟨h1, h2⟩, h3, h4⟩ g y => by
    obtain ⟨x0, y0, hx0, hy0, rfl⟩ := zip_get hP
    obtain ⟨T, u, u2, rfl, hT, rfl, hu, hu2⟩ := y
    obtain ⟨v, hv, hp⟩ := h2.get (i := i) (P := F x0) (by rw [List.getElem?_map, hx0]; rfl)
    obtain ⟨w, hw, hp2⟩ := h4.get (i := i) (P := G y0) (by rw [List.getElem?_map, hy0]; rfl)
    have t1 := hu vs h1
    rw [hv] at t1
    cases t1
    have t2 := hu2 ws h3
    rw [hw] at t2
    cases t2
    exact ⟨g.new hT, T, _, rfl, SqT.of upd_same, (F x0).st (g.new hT) hp, (G y0).st (g.new hT) hp2, True.intro⟩
theorem ei_zip {α β : Type} {xs : List α} {ys : List β} {F : α → SV c} {G : β → SV c} {ta : TA} (h : EvA c ta σ H [L (xs.map F), L (ys.map G)]) : EvI c (RZ.iZipA c.K ta) σ H ((xs.zip ys).map fun p => TupOf [F p.1, G p.2]) := fun H1 g R r => h H1 g _ fun vs H2 g2 e => by
  obtain ⟨v, w, rfl, ⟨a, us, rfl, e1, e2⟩, ⟨b, ts, rfl, e3, e4⟩⟩ := e.inv2
  exact ⟨a, b, us, ts, rfl, .inl ⟨SqL.of e1, SqL.of e3, r _ _ H2 g2 (src_zip (vs := us) (ws := ts)) fun H' g' => ⟨⟨SqL.of (g'.lst e1), e2.gr g'⟩, SqL.of (g'.lst e3), e4.gr g'⟩⟩⟩
theorem ei_zipT {α β : Type} {xs : List α} {ys : List β} {F : α → SV c} {G : β → SV c} {ta : TA} (h : EvA c ta σ H [TupOf (xs.map F), TupOf (ys.map G)]) : EvI c (RZ.iZipA c.K ta) σ H ((xs.zip ys).map fun p => TupOf [F p.1, G p.2]) := fun H1 g R r => h H1 g _ fun vs H2 g2 e => by
  obtain ⟨v, w, rfl, ⟨a, us, rfl, e1, e2⟩, ⟨b, ts, rfl, e3, e4⟩⟩ := e.inv2
  exact ⟨a, b, us, ts, rfl, .inr ⟨e1, e3, r _ _ H2 g2 (src_zipT (vs := us) (ws := ts)) fun H' g' => ⟨⟨g'.sqT e1, e2.gr g'⟩, g'.sqT e3, e4.gr g'⟩⟩⟩

/-! ### xs.count(k) -/
theorem ev_count {ns : List Nat} {k : Nat} {to : TE} (ho : Ev c to σ H (LN ns)) (ha : Ev c te σ H (I (k : Int))) : Ev c (tBM c.K "list" (rCntI c.K) to (tCons te tNil)) σ H (I ((ns.count k : Nat) : Int)) := fun H1 g Q q =>
  ho H1 g _ fun v H2 g2 ⟨a, us, e, e1, e2⟩ => by
    subst e
    refine ⟨Or.inl ⟨rfl, us, SqL.of e1⟩, ha H2 (g.trans g2) _ fun w H3 g3 ew => ?_⟩
    obtain rfl : w = _ := ew
    have eu := e2.nats
    refine ⟨a, ns.map fun k : Nat => (k : Int), (k : Int), rfl, rfl, by rw [← eu]; exact SqL.of (g3.lst e1), q _ H3 (g2.trans g3) ?_⟩
    have e3 : (ns.map fun k : Nat => (k : Int)).count (k : Int) = ns.count k := by
      rw [List.count_eq_countP, List.count_eq_countP, List.countP_map]
      refine List.countP_congr fun x _ => ?_
      simp only [Function.comp, beq_iff_eq]
      omega
    rw [e3]
    rfl
end

/-! ### == of data -/
def pdI (s : List Nat) : PyData := .tuple (s.map fun k : Nat => .int (k : Int))
theorem dp_ints {H : Hp} : ∀ (s : List Int), DpAll c.K H (s.map V.int) (s.map PyData.int)
  | [] => .nil
  | _ :: s => .cons (.int _) (dp_ints s)
theorem dp_S {H : Hp} {s : List Nat} {v : V} (h : (S (c := c) s).p v H) : Dp c.K H v (pdI s) := by
  obtain ⟨a, vs, rfl, h1, h2⟩ := h
  refine .tup h1 ?_
  rw [h2.nats]
  have := dp_ints (c := c) (H := H) (s.map fun k : Nat => (k : Int))
  rw [List.map_map (f := fun k : Nat => (k : Int)) (g := PyData.int)] at this
  exact this
theorem dp_all {α : Type} {F : α → SV c} {d : α → PyData} {H : Hp} (hF : ∀ x v, (F x).p v H → Dp c.K H v (d x)) : ∀ {xs : List α} {vs : List V}, AllP (xs.map F) vs H → DpAll c.K H vs (xs.map d)
  | [], _, h => by rw [h.nil_inv]; exact .nil
  | x :: xs, _, h => by
    obtain ⟨v, ws, rfl, h1, h2⟩ := h.cons_inv
    exact .cons (hF x v h1) (dp_all hF h2)
theorem dp_LS {H : Hp} {l : List (List Nat)} {v : V} (h : (LS (c := c) l).p v H) : Dp c.K H v (.list (l.map pdI)) := by
  obtain ⟨a, vs, rfl, h1, h2⟩ := h
  exact .lst (SqL.of h1) (dp_all (fun _ _ h => dp_S h) h2)
theorem dp_TI {H : Hp} {s : List Int} {v : V} (h : (TI' (c := c) s).p v H) : Dp c.K H v (.tuple (s.map PyData.int)) := by
  obtain ⟨a, vs, rfl, h1, h2⟩ := h
  refine .tup h1 ?_
  rw [h2.ints]
  exact dp_ints _
theorem eqvAll_map {α : Type} [DecidableEq α] {d : α → PyData} (hd : ∀ x y, PyData.eqv (d x) (d y) = decide (x = y)) : ∀ xs ys : List α, PyData.eqvAll (xs.map d) (ys.map d) = decide (xs = ys)
  | [], [] => by rw [decide_eq_true rfl]; rfl
  | [], _ :: _ => by rw [decide_eq_false (by simp)]; rfl
  | _ :: _, [] => by rw [decide_eq_false (by simp)]; rfl
  | x :: xs, y :: ys => by
    show (PyData.eqv (d x) (d y) && PyData.eqvAll (xs.map d) (ys.map d)) = _
    rw [hd, eqvAll_map hd xs ys]
    by_cases h : x = y
    · by_cases h2 : xs = ys
      · simp [h, h2]
      · simp [h, h2]
    · simp [h]
theorem eqv_int (x y : Int) : PyData.eqv (.int x) (.int y) = decide (x = y) := by
  show (x == y) = decide (x = y)
  rw [Bool.beq_eq_decide_eq]
theorem eqv_nat (x y : Nat) : PyData.eqv (.int (x : Int)) (.int (y : Int)) = decide (x = y) := by
  rw [eqv_int]
  by_cases h : x = y
  · rw [h]; simp
  · rw [decide_eq_false h]; exact decide_eq_false (by omega)
theorem eqv_pdI (s t : List Nat) : PyData.eqv (pdI s) (pdI t) = decide (s = t) := by
  show PyData.eqvAll (s.map _) (t.map _) = _
  exact eqvAll_map (d := fun k : Nat => PyData.int (k : Int)) eqv_nat s t
theorem canAll_map {α : Type} {d : α → PyData} (hd : ∀ x, (d x).canLay0 = true) : ∀ xs : List α, PyData.canLayAll0 (xs.map d) = true
  | [] => by simp [PyData.canLayAll0]
  | x :: xs => by rw [List.map_cons]; unfold PyData.canLayAll0; rw [hd x, canAll_map hd xs]; rfl
end


section
open PySem PySem.Spec PyProof.Rows L2 LamX
open AutoSeq1 (wpAny_loadPart')
variable {c : Cxt}
theorem depthAll_map {α : Type} {d : α → PyData} {n : Nat} (hd : ∀ x, (d x).depth ≤ n) : ∀ xs : List α, PyData.depthAll (xs.map d) ≤ n
  | [] => by simp [PyData.depthAll]
  | x :: xs => by
    rw [List.map_cons]
    unfold PyData.depthAll
    exact Nat.max_le.mpr ⟨hd x, depthAll_map hd xs⟩
theorem depth_pdI (s : List Nat) : (pdI s).depth ≤ 1 := by
  show PyData.depth (.tuple (s.map _)) ≤ 1
  unfold PyData.depth
  have h := depthAll_map (d := fun k : Nat => PyData.int (k : Int)) (n := 0) (fun x => by unfold PyData.depth; exact Nat.le_refl _) s
  omega
theorem can_pdI (s : List Nat) : (pdI s).canLay0 = true := by
  show PyData.canLay0 (.tuple (s.map _)) = true
  unfold PyData.canLay0
  exact canAll_map (d := fun k : Nat => PyData.int (k : Int)) (fun x => by unfold PyData.canLay0; rfl) s
theorem shaped_LS (l : List (List Nat)) : SeqAt.shaped (.list (l.map pdI)) = true := by
  unfold SeqAt.shaped
  rw [Bool.and_eq_true]
  refine ⟨?_, decide_eq_true ?_⟩
  · unfold PyData.canLay0
    exact canAll_map can_pdI l
  · unfold PyData.depth
    have h := depthAll_map (d := pdI) depth_pdI l
    omega
theorem shaped_TI (s : List Int) : SeqAt.shaped (.tuple (s.map PyData.int)) = true := by
  unfold SeqAt.shaped
  rw [Bool.and_eq_true]
  refine ⟨?_, decide_eq_true ?_⟩
  · unfold PyData.canLay0
    exact canAll_map (fun x => by unfold PyData.canLay0; rfl) s
  · unfold PyData.depth
    have h := depthAll_map (d := PyData.int) (n := 0) (fun x => by unfold PyData.depth; exact Nat.le_refl _) s
    omega
theorem eqv_LS (l m : List (List Nat)) : PyData.eqv (.list (l.map pdI)) (.list (m.map pdI)) = decide (l = m) := by
  show PyData.eqvAll _ _ = _
  exact eqvAll_map eqv_pdI l m
theorem eqv_TI (l m : List Int) : PyData.eqv (.tuple (l.map PyData.int)) (.tuple (m.map PyData.int)) = decide (l = m) := by
  show PyData.eqvAll _ _ = _
  exact eqvAll_map eqv_int l m
theorem rv_eqLS {l m : List (List Nat)} : RV c (rEqD c.K) (LS l) (LS m) (B (decide (l = m))) := fun x y H g h1 h2 Q q =>
  ⟨_, _, dp_LS h1, dp_LS h2, shaped_LS l, shaped_LS m, by rw [eqv_LS]; exact q _ H g rfl⟩
theorem rv_neLS {l m : List (List Nat)} : RV c (rNeD c.K) (LS l) (LS m) (B (!decide (l = m))) := fun x y H g h1 h2 Q q =>
  ⟨_, _, dp_LS h1, dp_LS h2, shaped_LS l, shaped_LS m, by rw [eqv_LS]; exact q _ H g rfl⟩
theorem rv_eqTI {l m : List Int} : RV c (rEqD c.K) (TI' l) (TI' m) (B (decide (l = m))) := fun x y H g h1 h2 Q q =>
  ⟨_, _, dp_TI h1, dp_TI h2, shaped_TI l, shaped_TI m, by rw [eqv_TI]; exact q _ H g rfl⟩
theorem rv_neTI {l m : List Int} : RV c (rNeD c.K) (TI' l) (TI' m) (B (!decide (l = m))) := fun x y H g h1 h2 Q q =>
  ⟨_, _, dp_TI h1, dp_TI h2, shaped_TI l, shaped_TI m, by rw [eqv_TI]; exact q _ H g rfl⟩
/-- a list of ints, [] -/
theorem dp_LO {H : Hp} {s : List Int} {v : V} (h : (LstOf (c := c) (s.map I)).p v H) : Dp c.K H v (.list (s.map PyData.int)) := by
  obtain ⟨a, vs, rfl, h1, h2⟩ := h
  refine .lst h1 ?_
  rw [h2.ints]
  exact dp_ints _
theorem shaped_LI (s : List Int) : SeqAt.shaped (.list (s.map PyData.int)) = true := by
  unfold SeqAt.shaped
  rw [Bool.and_eq_true]
  refine ⟨?_, decide_eq_true ?_⟩
  · unfold PyData.canLay0
    exact canAll_map (fun x => by unfold PyData.canLay0; rfl) s
  · unfold PyData.depth
    have h := depthAll_map (d := PyData.int) (n := 0) (fun x => by unfold PyData.depth; exact Nat.le_refl _) s
    omega
theorem rv_neLI {l m : List Int} : RV c (rNeD c.K) (LstOf (l.map I)) (LI m) (B (!decide (l = m))) := fun x y H g h1 h2 Q q =>
  ⟨_, _, dp_LO h1, dp_LO (L.lstOf h2), shaped_LI l, shaped_LI m, by
    have e : PyData.eqv (.list (l.map PyData.int)) (.list (m.map PyData.int)) = decide (l = m) := by
      show PyData.eqvAll _ _ = _
      exact eqvAll_map eqv_int l m
    rw [e]; exact q _ H g rfl⟩

/-! ### x *= e -/
def ipM : V → V → Hp → VK → Prop := fun x y H Q => ∃ i j, x = .int i ∧ y = .int j ∧ CMulW i j ∧ Q (.int (i * j)) H
theorem ip_mul {X : Cx} : PIp X .Mult ipM := by
  intro pins s σ H x y v u Q I r1 r2 h
  obtain ⟨i, j, rfl, rfl, hc, q⟩ := h
  obtain ⟨t, rfl⟩ := r1
  obtain ⟨t', rfl⟩ := r2
  exact PyProof.Rows.imul_int ⟨.int _, H, I.tok _, ⟨_, rfl⟩, q⟩ hc.ok
theorem rv_ipM {i j : Int} (h : CMulW i j) : RV c ipM (I i) (I j) (I (i * j)) := fun x y H g e1 e2 Q q => ⟨i, j, e1, e2, h, q _ H g rfl⟩
theorem rv_ipI {f : Int → Int → Int} {i j : Int} : RV c (ipI f) (I i) (I j) (I (f i j)) := fun x y H g e1 e2 Q q => ⟨i, j, e1, e2, q _ H g rfl⟩

/-! ### t * k -/
theorem tuple_mul1 (l : Addr) (items : Array Value) (n : Nat) (dd : Option Addr) (sl : Array (Option Value)) (u : Tok) :
    Meets (Builtin.«tuple.__mul__» ⟨[.ref l, .int 1 u], []⟩) (fun _ R s => s.heap.get? l = some { cls := .type "tuple", dict := dd, data := .seq items n, slots := sl } ∧ R (.ok (.ret (.ref l))) s) :=
  .of_wp fun prog w A R s h => by
    obtain ⟨hp, g, d, tk, os⟩ := s
    obtain ⟨hl, h⟩ := h
    have f1 := AutoSeq1.idx_int
    have hT : Shared.TypeIs ⟨hp, g, d, tk, os⟩ (.ref l) "tuple" := ⟨_, hl, rfl⟩
    wp_walk using wpAny_loadPart' hl
    repeat (first
      | (refine wpAny_ite_true (decide_eq_true (by simp)) ?_; wp_walk using wpAny_loadPart' hl)
      | (refine wpAny_ite_false (decide_eq_false (by simp)) ?_; wp_walk using wpAny_loadPart' hl))
    all_goals first
      | exact ⟨_, rfl, h⟩
      | (cases (items.isEmpty) <;> exact ⟨_, rfl, h⟩)

def rRepTT (K : PySem.W.Frag) : R2 := fun x y H Q => ∃ l k xs, x = .ref l ∧ y = .int k ∧ SqT K H l xs ∧ xs ≠ [] ∧ 1 ≤ k ∧ k ≤ 1000 ∧ xs.length ≤ 1000 ∧ (k = 1 → Q (.ref l) H) ∧ ∀ p, H p = none → Q (.ref p) (upd H p (.tup (List.replicate k.toNat xs).flatten))
theorem op_repTQ {X : Cx} {K : PySem.W.Frag} (eK : X.K = K) : OpR X (binaryOp .Mult) (rRepTT K) := by
  subst eK
  intro pins s σ H x y v u Q I rx ry h
  obtain ⟨l, k, xs, rfl, rfl, hT, hne, h1, h2, hz, q1, q⟩ := h
  by_cases hk : k = 1
  · subst hk
    cases rx
    obtain ⟨t, rfl⟩ := ry
    obtain ⟨its, r, ⟨⟨cls, dd, data, sl⟩, ho, hc, n, hd⟩, hs⟩ := I.tuple hT
    simp only at hc hd
    subst hc hd
    refine wpAny_binaryOp_repeat_ref (T := "tuple") (U := "int") (by decide) ⟨_, ho, rfl⟩ (fun s' => typeIs_int s' 1 t) noFill_tuple_mul F.fills_int_mul F.slot_int_rmul repeat_tuple F.slot_int_index.lookup
      (call_meets F.slot_int_rmul (typeIs_int s 1 t) F.entry_int_rmul (F.args_int_rmul_2 _ _) (int_rmul_tuple 1 t l its.toArray n dd sl)
        ⟨ho, rfl, ⟨_, ho, rfl⟩, call_meets F.slot_tuple_mul ⟨_, ho, rfl⟩ F.entry_tuple_mul (F.args_tuple_mul_2 _ _) (tuple_mul1 l its.toArray n dd sl t) ⟨ho, ?_⟩⟩)
    exact ⟨.ref l, H, I, rfl, q1 rfl⟩
  · exact op_repT pins s σ H _ _ v u Q I rx ry ⟨l, k, xs, rfl, rfl, hT, hne, by omega, h2, hz, q⟩
theorem rv_repT {P : SV c} {k : Nat} (h1 : 1 ≤ k) (h2 : k ≤ 1000) : RV c (rRepTT c.K) (TupOf [P]) (I (k : Int)) (TupOf (List.replicate k P)) := fun x y H g e1 e2 Q q => by
  obtain ⟨a, vs, e, h3, h4⟩ := e1
  obtain ⟨v, rfl, hv⟩ := h4.inv1
  refine ⟨a, _, [v], e, e2, h3, by simp, by omega, by omega, by simp, fun hk => ?_, fun p hp => ?_⟩
  · have hk' : k = 1 := by omega
    subst hk'
    exact q _ H g ⟨a, [v], rfl, h3, hv, True.intro⟩
  · have e3 : (List.replicate ((k : Int).toNat) [v]).flatten = List.replicate k v := by rw [Int.toNat_natCast, rep_one]
    rw [e3]
    exact q _ _ (g.new hp) ⟨p, _, rfl, SqT.of upd_same, (allP_rep hv k).gr (g.new hp)⟩

/-! ### len of an own instance -/
def rLenO (C : Addr) (sp : Sp) : List V → Hp → VK → Prop := fun xs H Q => ∃ a dx fs, xs = [.ref a] ∧ H a = some (.ins C dx fs) ∧ sp [.ref a] H (fun v H2 => ∃ n : Int, v = .int n ∧ (0 ≤ n ∧ n < 2 ^ 63) ∧ Q (.int n) H2) E0
theorem cl_lenO {X : Cx} {k : Nat} {C : Addr} {sp : Sp} (h : HasM X.prog X.w X.K X.mg X.base C "__len__" ["self"] k sp) (hr : Room (k + 1) X.A) : CallR X (.builtin "len") (rLenO C sp) := by
  intro pins s σ H xs us Q I r hq
  obtain ⟨a, dx, fs, rfl, ha, q⟩ := hq
  obtain ⟨f, fd, M, hb, F⟩ := h.ex
  obtain ⟨u, rfl, ru⟩ := vals1 r
  obtain rfl : u = .ref a := ru
  obtain ⟨mA, O, _⟩ := ins_get I.hok ha
  obtain ⟨od, J, _⟩ := O.look
  obtain ⟨m, fr⟩ := I.fr
  have hl : ([Value.ref a] : List Value).length = (["self"] : List Str).length := rfl
  refine PySem.W.len_K fr I.ok.mod.kin J M.at_ M.fn (wpAny_call (codeAny_mono (F.run X.A.in1 X.stack s H ⟨[.ref a], []⟩ [.ref a] [.ref a] _ E0 hr.in1 I.env0.in1 (hb s [.ref a] I.kIn hl) (.cons rfl .nil) q) fun r s' hq => ?_))
  cases r with
  | error e => exact False.elim hq
  | ok fl =>
    cases fl with
    | ret u =>
      obtain ⟨v, H', I', rv, n, rfl, hn, q'⟩ := I.after hq
      obtain ⟨t, rfl⟩ := rv
      exact ⟨hn, .int n, H', I'.tok _, ⟨_, rfl⟩, q'⟩
    | next => exact False.elim hq
    | brk => exact False.elim hq
    | cont => exact False.elim hq
def R_Layout_len (As : List (SV c)) (Z : SV c) : Prop := ∃ n its, As = [Lay n its] ∧ its.length ≤ 1000 ∧ Z = I (its.length : Int)
theorem rc_lenLay {n : Nat} {its : List Itm} (hl : its.length ≤ 1000) : RC c (rLenO c.cL (Pm c R_Layout_len)) [Lay n its] (I (its.length : Int)) := fun vs H g h Q q => by
  obtain ⟨v, rfl, hL⟩ := h.inv1
  obtain ⟨a, d, e, rfl, h1, h2⟩ := id hL
  exact ⟨a, d, _, rfl, h1, [Lay n its], _, ⟨hL, True.intro⟩, ⟨n, its, rfl, hl, rfl⟩, g.t1, fun v H' g' hv => ⟨_, hv, by omega, q _ H' g' rfl⟩⟩

/-! ### a new instance by its __init__ -/
/-- the promise of an __init__: the instance x is new behind H0, where the arguments stand -/
def PmI (c : Cxt) (C : Addr) (R : List (SV c) → SV c → Prop) : Sp := fun vs H Q _ => ∃ (H0 : Hp) (x d : Addr) (ws : List V) (As : List (SV c)) (P : SV c), vs = .ref x :: ws ∧ H0 x = none ∧ Gr c H0 H ∧ H x = some (.ins C d []) ∧ AllP As ws H0 ∧ R As P ∧ ∀ H', Gr c H0 H' → P.p (.ref x) H' → Q .non H'
structure HasC (P : Program) (w : World) (K : PySem.W.Frag) (mg : Str → Option Value) (base : Heap) (x : Str) (C : Addr) (ps : List Str) (k : Nat) (sp : Sp) : Prop where
  at_ : mg x = some (.ref C)
  ex : ∃ f fd, Mk K C f ∧ Binds K fd ps [] ∧ FnOk P w K mg base CX0 k f fd ps sp
theorem pe_makeH {X : Cx} {x : Str} {C : Addr} {ps : List Str} {k : Nat} {sp : Sp} {p pos : Pos} {e : Expr} {es : List Expr} {t : TA} (h : HasC X.prog X.w X.K X.mg X.base x C ps k sp) (hr : Room (k + 1) X.A) (hg : Gl X x) (ha : PA X (e :: es) t) (hdb : (x == ("__debug__" : Str)) = false := by decide)
    (he : starEach (e :: es) X.env = (false, eval e X.env) :: starEach es X.env := by rfl) (hpl : (backTo pos (starEach es X.env)).any (·.1) = false := by rfl) : PE X (.Call (.Name x p) (e :: es) [] pos) (tMake C sp [] E0 t) := by
  obtain ⟨f, fd, M, hb, F⟩ := h.ex
  exact pe_make M F hr hg h.at_ hb .nil pass0 ha hdb he hpl
theorem ev_make {σ : L2.St} {H : Hp} {C : Addr} {Rl : List (SV c) → SV c → Prop} {E : XK} {ta : TA} {As : List (SV c)} {P : SV c} (h : EvA c ta σ H As) (hr : Rl As P) : EvF c (tMake C (PmI c C Rl) [] E ta) σ H P := fun H1 g Q q =>
  h H1 g _ fun vs H2 g2 e2 => by
    intro x dx hx hdx hne
    have ga : Gr c H2 (upd H2 dx (.own x)) := g2.new hdx
    have hx2 : upd H2 dx (.own x) x = none := by rw [upd_ne hne.symm]; exact hx
    have gb : Gr c H2 (upd (upd H2 dx (.own x)) x (.ins C dx [])) := ga.trans (ga.new hx2)
    exact ⟨H2, x, dx, vs, As, P, by rw [List.append_nil], hx, gb, upd_same, e2, hr, fun H' g' hp => ⟨rfl, q x H' (g2.free hx) (g2.trans g') hp⟩⟩
end


section
open PySem PySem.Spec PyProof.Rows L2 LamX
variable {c : Cxt}
section
variable {σ : L2.St} {H H' H0 H1 : Hp} {ta tb te tx : TE} {t u : TT} {P R Z : SV c} {D : Ends} {ts tu tw tz : TS} {g0 : TG} {wi : L2.TI}
/-- return e, told from the entry's heap H -/
theorem s_retG (g : Gr c H H1) (h : Ev c te σ H P) (k : ∀ v H', Gr c H H' → P.p v H' → D.rt v H') : tRet te D σ H1 := h H1 g _ fun v H2 g2 e => k v H2 (g.trans g2) e
theorem s_retFG (g : Gr c H H1) (h : EvF c te σ H P) (k : ∀ a H', H a = none → Gr c H H' → P.p (.ref a) H' → D.rt (.ref a) H') : tRet te D σ H1 := h H1 g _ fun a H2 n g2 e => k a H2 (g.free n) (g.trans g2) e
theorem q_no (g : Gr c H0 H) (h : EvT c t σ H0 false) (k : ∀ H1, Gr c H H1 → tz D σ H1) : tSeq (tIfS t tu tNext) tz D σ H := s_no g h k
theorem s_noN (g : Gr c H0 H) (h : EvT c t σ H0 false) (k : ∀ H1, Gr c H H1 → D.nx σ H1) : tIfS t tu tNext D σ H := s_no g h k
theorem q_drop (g : Gr c H0 H) (h : Ev c te σ H0 P) (k : ∀ H1, Gr c H H1 → tz D σ H1) : tSeq (tDrop te) tz D σ H := s_drop (D := { D with nx := tz D }) g h k
theorem q_asg {i : Nat} (g : Gr c H0 H) (h : Ev c te σ H0 P) (k : ∀ v H1, Gr c H H1 → P.p v H1 → tz D (σ.set i (some v)) H1) : tSeq (tAsg te (gName i)) tz D σ H := s_asg (D := { D with nx := tz D }) g h k
theorem q_asgF {i : Nat} (g : Gr c H0 H) (h : EvF c te σ H0 P) (k : ∀ a H1, H a = none → Gr c H H1 → P.p (.ref a) H1 → tz D (σ.set i (some (.ref a))) H1) : tSeq (tAsg te (gName i)) tz D σ H := s_asgF (D := { D with nx := tz D }) g h k
/-- a target of several names -/
theorem q_asgT (g : Gr c H0 H) (h : Ev c te σ H0 P) (ht : ∀ v H1, Gr c H H1 → P.p v H1 → ∃ σ2, Tg g0 v σ H1 σ2 ∧ tz D σ2 H1) : tSeq (tAsg te g0) tz D σ H := h H g _ fun v H1 g1 e => by
  obtain ⟨σ2, h1, h2⟩ := ht v H1 g1 e
  exact h1 _ h2
/-- a, b = e1, e2 -/
theorem q_par {i j : Nat} (g : Gr c H0 H) (ha : Ev c ta σ H0 P) (hb : Ev c tb σ H0 R) (k : ∀ v w H1, Gr c H H1 → P.p v H1 → R.p w H1 → tz D ((σ.set i (some v)).set j (some w)) H1) : tSeq (tPar i j (tCons ta (tCons tb tNil))) tz D σ H :=
  ha H g _ fun v H1 g1 e1 => hb H1 (g.trans g1) _ fun w H2 g2 e2 => ⟨v, w, rfl, k v w H2 (g1.trans g2) (P.st g2 e1) e2⟩
theorem s_par {i j : Nat} (g : Gr c H0 H) (ha : Ev c ta σ H0 P) (hb : Ev c tb σ H0 R) (k : ∀ v w H1, Gr c H H1 → P.p v H1 → R.p w H1 → D.nx ((σ.set i (some v)).set j (some w)) H1) : tPar i j (tCons ta (tCons tb tNil)) D σ H :=
  ha H g _ fun v H1 g1 e1 => hb H1 (g.trans g1) _ fun w H2 g2 e2 => ⟨v, w, rfl, k v w H2 (g1.trans g2) (P.st g2 e1) e2⟩
theorem q_if {b : Bool} (g : Gr c H0 H) (h : EvT c t σ H0 b) (h1 : b = true → ∀ H1, Gr c H H1 → tu { D with nx := tz D } σ H1) (h2 : b = false → ∀ H1, Gr c H H1 → tw { D with nx := tz D } σ H1) : tSeq (tIfS t tu tw) tz D σ H := s_if (D := { D with nx := tz D }) g h h1 h2
/-- an if without else -/
theorem q_when {b : Bool} (g : Gr c H0 H) (h : EvT c t σ H0 b) (h1 : b = true → ∀ H1, Gr c H H1 → tu { D with nx := tz D } σ H1) (h2 : b = false → ∀ H1, Gr c H H1 → tz D σ H1) : tSeq (tIfS t tu tNext) tz D σ H := s_if (D := { D with nx := tz D }) g h h1 h2
theorem s_when {b : Bool} (g : Gr c H0 H) (h : EvT c t σ H0 b) (h1 : b = true → ∀ H1, Gr c H H1 → tu D σ H1) (h2 : b = false → ∀ H1, Gr c H H1 → D.nx σ H1) : tIfS t tu tNext D σ H := s_if g h h1 h2
theorem q_for {α : Type} (xs : List α) (F : α → SV c) (g : Gr c H0 H) (h : EvIs c wi σ H0 (xs.map F)) (Pv : Nat → L2.St → Hp → Prop) (h0 : ∀ H1, Gr c H H1 → Pv 0 σ H1) (hG : ∀ i σ' H', Pv i σ' H' → Gr c H0 H')
    (hs : ∀ i a x σ' H', xs[i]? = some a → Pv i σ' H' → ∀ H2, Gr c H' H2 → (F a).p x H2 → g0 x σ' H2 fun σ2 H3 => tw { D with nx := Pv (i + 1), ct := Pv (i + 1), bk := tz D } σ2 H3)
    (hd : ∀ σ' H', Pv xs.length σ' H' → tz D σ' H') : tSeq (tFor wi g0 tw) tz D σ H := s_for (D := { D with nx := tz D }) xs F g h Pv h0 hG hs hd
theorem q_forP {α : Type} (xs : List α) (F : α → SV c) (g : Gr c H0 H) (h : EvIs c wi σ H0 (xs.map F)) (W : Nat → L2.St → Hp → Prop) (h0 : ∀ H1, Gr c H H1 → W 0 σ H1)
    (hs : ∀ i a x σ' H', xs[i]? = some a → Gr c H0 H' → W i σ' H' → ∀ H2, Gr c H' H2 → (F a).p x H2 → g0 x σ' H2 fun σ2 H3 => tw { D with nx := fun σ' H' => Gr c H0 H' ∧ W (i + 1) σ' H', ct := fun σ' H' => Gr c H0 H' ∧ W (i + 1) σ' H', bk := tz D } σ2 H3)
    (hd : ∀ σ' H', Gr c H0 H' → W xs.length σ' H' → tz D σ' H') : tSeq (tFor wi g0 tw) tz D σ H := s_forP (D := { D with nx := tz D }) xs F g h W h0 hs hd
theorem q_aug {i : Nat} {r : V → V → Hp → VK → Prop} {x : V} (g : Gr c H0 H) (hx : σ[i]? = some (some x)) (hP : P.p x H0) (h : Ev c te σ H0 R) (hr : RV c r P R Z) (k : ∀ v H1, Gr c H H1 → Z.p v H1 → tz D (σ.set i (some v)) H1) : tSeq (tAug i te r) tz D σ H := s_aug (D := { D with nx := tz D }) g hx hP h hr k
theorem q_app {l : Addr} {xs : List V} (g : Gr c H0 H) (hl : H l = some (.lst xs)) (ha : Ev c ta σ H (Eqv (.ref l))) (h : Ev c te σ H0 P) (hz : xs.length < 100000) (k : ∀ v H1, Gr c H H1 → P.p v H1 → tz D σ (upd H1 l (.lst (xs ++ [v])))) :
    tSeq (tDrop (tBM c.K "list" rAppend ta (tCons te tNil))) tz D σ H := s_app (D := { D with nx := tz D }) g hl ha h hz k
theorem q_while (W : Nat → L2.St → Hp → Prop) (m0 : Nat) (h0 : W m0 σ H)
    (hs : ∀ m σ' H', W m σ' H' → ∃ b, EvT c t σ' H' b ∧ Gr c H' H' ∧ (b = true → ∀ H1, Gr c H' H1 → ∃ N : L2.St → Hp → Prop, (∀ σ2 H2, N σ2 H2 → ∃ m', m' < m ∧ W m' σ2 H2) ∧ tu { D with nx := N, ct := N, bk := tz D } σ' H1) ∧ (b = false → ∀ H1, Gr c H' H1 → tz D σ' H1)) : tSeq (tWhile t tu) tz D σ H := s_while (D := { D with nx := tz D }) W m0 h0 hs
/-- self.f = e -/
theorem q_fld {i : Nat} {tv : TE} {f : Str} {x d C : Addr} {fs : List (Str × V)} (g : Gr c H0 H) (hx : H x = some (.ins C d fs)) (hs : σ[i]? = some (some (.ref x))) (hc : Cls c.K C) (hn : NoAttr c.K C f) (hl : fs.length < 1000) (h : Ev c tv σ H0 P)
    (k : ∀ v H1, Gr c H H1 → P.p v H1 → H1 x = some (.ins C d fs) → tz D σ (upd H1 x (.ins C d (putF f v fs)))) : tSeq (sFld c.K (tVar i) tv f) tz D σ H := h H g _ fun v H1 g1 e =>
  ⟨.ref x, hs, x, C, d, fs, rfl, g1.ins hx, hc, hn, hl, k v H1 g1 e (g1.ins hx)⟩
theorem s_fld {i : Nat} {tv : TE} {f : Str} {x d C : Addr} {fs : List (Str × V)} (g : Gr c H0 H) (hx : H x = some (.ins C d fs)) (hs : σ[i]? = some (some (.ref x))) (hc : Cls c.K C) (hn : NoAttr c.K C f) (hl : fs.length < 1000) (h : Ev c tv σ H0 P)
    (k : ∀ v H1, Gr c H H1 → P.p v H1 → H1 x = some (.ins C d fs) → D.nx σ (upd H1 x (.ins C d (putF f v fs)))) : sFld c.K (tVar i) tv f D σ H := h H g _ fun v H1 g1 e =>
  ⟨.ref x, hs, x, C, d, fs, rfl, g1.ins hx, hc, hn, hl, k v H1 g1 e (g1.ins hx)⟩
end
section
variable {P : Program} {w : World} {mg : Str → Option Value} {base : Heap} {n q : Str} {st : Stmt} {f C : Addr} {fd : FuncData} {N ps : List Str} {k : Nat} {R : List (SV c) → SV c → Prop}
/-- an __init__ -/
theorem okI (F : FnP c.K n q st f fd) (Sc : FnScope N ps (defScope st)) (hlen : ∀ As Z, R As Z → As.length + 1 = ps.length)
    (hb : ∀ (cdv : Value) (A : Around) (outer : List Env) (s : Shared) (H H0 : Hp) (x d : Addr) (ws : List V) (Q : VK) (E : XK) (As : List (SV c)) (Z : SV c), Room k (A.deeper (envOfC q (defScope st) s.heap.objs.size f cdv)) → H0 x = none → Gr c H0 H → H x = some (.ins C d []) → AllP As ws H0 → R As Z →
      (∀ H', Gr c H0 H' → Z.p (.ref x) H' → Q .non H') → ∃ t, PSs (cxOf CX0 P w c.K mg base N q (defScope st) f cdv A outer s H E).nox (defBody st) t ∧ t { nx := fun _ H' => Q .non H', rt := Q } (start N (.ref x :: ws)) H) :
    FnOk P w c.K mg base CX0 (k + 1) f fd ps (PmI c C R) := by
  refine F.ok Sc (fun vs H Q E h => ?_) (fun cdv A outer s H vs Q E hr h => ?_)
  · obtain ⟨H0, x, d, ws, As, Z, rfl, _, _, _, hA, hR, _⟩ := h
    rw [List.length_cons, hA.len, hlen As Z hR]
  · obtain ⟨H0, x, d, ws, As, Z, rfl, h0, g, hx, hA, hR, kQ⟩ := h
    obtain ⟨t, h1, h2⟩ := hb cdv A outer s H H0 x d ws Q E As Z hr h0 g hx hA hR kQ
    exact ⟨t, h1.nox, h2⟩
theorem dLe {a b : Nat} : decide ((a : Int) ≤ (b : Int)) = decide (a ≤ b) := by
  by_cases h : a ≤ b
  · rw [decide_eq_true h]; exact decide_eq_true (by omega)
  · rw [decide_eq_false h]; exact decide_eq_false (by omega)
theorem dLt {a b : Nat} : decide ((a : Int) < (b : Int)) = decide (a < b) := by
  by_cases h : a < b
  · rw [decide_eq_true h]; exact decide_eq_true (by omega)
  · rw [decide_eq_false h]; exact decide_eq_false (by omega)
theorem dEq {a b : Nat} : decide ((a : Int) = (b : Int)) = decide (a = b) := by
  by_cases h : a = b
  · rw [decide_eq_true h]; exact decide_eq_true (by omega)
  · rw [decide_eq_false h]; exact decide_eq_false (by omega)
theorem WfS.len {n : Nat} {s : List Nat} (h : WfS n s) : s.length ≤ n := by
  have aux : ∀ (s : List Nat) (a : Nat), s.Pairwise (· < ·) → (∀ k ∈ s, a ≤ k ∧ k < n) → s.length ≤ n - a := by
    intro s
    induction s with
    | nil => intro a _ _; exact Nat.zero_le _
    | cons x s ih =>
      intro a hp hb
      have hx := hb x (List.mem_cons_self ..)
      have h1 := ih (x + 1) (List.pairwise_cons.mp hp).2 fun k hk => ⟨(List.pairwise_cons.mp hp).1 k hk, (hb k (List.mem_cons_of_mem _ hk)).2⟩
      rw [List.length_cons]
      omega
  have := aux s 0 h.1 fun k hk => ⟨Nat.zero_le _, h.2 k hk⟩
  omega
end
end


section
open PySem PySem.Spec PyProof.Rows L2 LamX
variable {c : Cxt} {P : Program} {w : World} {mg : Str → Option Value} {base : Heap} {f : Addr} {fd : FuncData}
/-! is_number -/
def R_is_number (As : List (SV c)) (Z : SV c) : Prop := ∃ i lo hi : Int, As = [I i, I lo, I hi] ∧ lo ≤ i ∧ i ≤ hi ∧ Z = B true
abbrev N_is_number : List Str := ["thing", "least", "most"]
theorem sc_is_number : FnScope N_is_number ["thing", "least", "most"] (defScope s_is_number) := ⟨rfl, rfl, rfl, by decide +kernel, rfl, by decide +kernel, by decide +kernel⟩
theorem ok_is_number (F : FnP c.K "is_number" "is_number" s_is_number f fd) (Bt : Bts c mg) (C : Cl c) (Il : IsL c)  : FnOk P w c.K mg base CX0 1 f fd ["thing", "least", "most"] (Pm c R_is_number) := by
  refine okP F sc_is_number (fun As Z h => by obtain ⟨_, _, _, rfl, _⟩ := h; rfl) fun cdv A outer s H vs Q E As Z hr hA hR g k => ?_
  have nd := sc_is_number.nd
  obtain ⟨i, lo, hi, rfl, hlo, hhi, rfl⟩ := hR
  obtain ⟨v0, v1, v2, rfl, h0, h1, h2⟩ := hA.inv3
  refine ⟨_, (pss_one (ps_ret (pe_and (pe_callB (cl_isiQ (K := c.K) rfl) (by rfl) Bt.bisinstance (by decide +kernel) (pa_cons (pv 0) (pa_cons (pe_bltn (v := .ty "int") (by rfl) Bt.bint (by decide +kernel) rfl) pa_nil))) (pe_and (pe_not (pe_callB (cl_isiQ (K := c.K) rfl) (by rfl) Bt.bisinstance (by decide +kernel) (pa_cons (pv 0) (pa_cons (pe_bltn (v := .ty "bool") (by rfl) Bt.bbool (by decide +kernel) rfl) pa_nil)))) (pe_one (pe_chain op_le op_le (pv 1) (pv 0) (pv 2))))))), ?_⟩
  refine s_ret g (P := B true) ?_ k
  refine Ev.to (ev_and (ev_cb rc_isInt (ea_cons (ev_var rfl h0) (ea_cons ev_c ea_nil))) fun _ => ev_and (ev_not (ev_cb rc_isBool (ea_cons (ev_var rfl h0) (ea_cons ev_c ea_nil)))) fun _ =>
    ev_chain rv_I0 rv_I0 (ev_var rfl h1) (ev_var rfl h0) (ev_var rfl h2)) ?_
  rw [decide_eq_true hlo, decide_eq_true hhi]
  rfl
/-! common, others_of, is_within -/
def common (one other : List Nat) : List Nat := one.filter fun k => decide (k ∈ other)
def R_common (As : List (SV c)) (Z : SV c) : Prop := ∃ s t : List Nat, As = [S s, S t] ∧ s.length ≤ 1000 ∧ Z = S (common s t)
abbrev N_common : List Str := ["one", "other", "server"]
theorem sc_common : FnScope N_common ["one", "other"] (defScope s_common) := ⟨rfl, rfl, rfl, by decide +kernel, rfl, by decide +kernel, by decide +kernel⟩
theorem ok_common (F : FnP c.K "common" "common" s_common f fd) (Bt : Bts c mg) (C : Cl c) (Il : IsL c)  : FnOk P w c.K mg base CX0 1 f fd ["one", "other"] (Pm c R_common) := by
  refine okP F sc_common (fun As Z h => by obtain ⟨_, _, rfl, _⟩ := h; rfl) fun cdv A outer s H vs Q E As Z hr hA hR g k => ?_
  have nd := sc_common.nd
  obtain ⟨s, t, rfl, hl, rfl⟩ := hR
  obtain ⟨v0, v1, rfl, h0, h1⟩ := hA.inv2
  refine ⟨_, (pss_one (ps_ret (pe_callTy (cl_tupleQ (K := c.K) rfl) (by rfl) Bt.btuple (by decide +kernel) (pa_cons (pe_lc (own := [("server", 2)]) rfl nd (pi_tupQ (K := c.K) rfl (pv 0)) (blkOk_by (own := [("server", 2)]) (N := N_common) (sc := defScope s_common) (by decide +kernel)) (fun _ _ _ _ _ => (pg_name (i := 2) nd rfl (Or.inl rfl))) (fun _ _ _ _ _ => (pts_one (pt_cmpR (op_inQ (K := c.K) rfl) (pv 2) (pv 1) rfl))) (fun _ _ _ _ _ => (pv 2))) pa_nil)))), ?_⟩
  refine s_ret g (P := S (common s t)) ?_ k
  refine (ef_cb rf_tuple (ea_cons (ef_lcm s (fun k : Nat => I (k : Int)) (fun k => decide (k ∈ t)) (fun k : Nat => I (k : Int)) (ei_tup (ev_var rfl h0)) (by omega) fun a x Hc ha gc hx => ?_).ev ea_nil)).ev
  exact ⟨_, tg_name, rfl, et_test (ev_op rv_inS (ev_var rfl hx) (ev_var rfl ((S t).st gc h1))), fun _ => ev_var rfl hx⟩
def othersOf (n : Nat) (s : List Nat) : List Nat := (List.range n).filter fun k => !decide (k ∈ s)
def R_others_of (As : List (SV c)) (Z : SV c) : Prop := ∃ (n : Nat) (s : List Nat), As = [I (n : Int), S s] ∧ n ≤ 1000 ∧ Z = S (othersOf n s)
abbrev N_others_of : List Str := ["servers", "some", "server"]
theorem sc_others_of : FnScope N_others_of ["servers", "some"] (defScope s_others_of) := ⟨rfl, rfl, rfl, by decide +kernel, rfl, by decide +kernel, by decide +kernel⟩
theorem ok_others_of (F : FnP c.K "others_of" "others_of" s_others_of f fd) (Bt : Bts c mg) (C : Cl c) (Il : IsL c)  : FnOk P w c.K mg base CX0 1 f fd ["servers", "some"] (Pm c R_others_of) := by
  refine okP F sc_others_of (fun As Z h => by obtain ⟨_, _, rfl, _⟩ := h; rfl) fun cdv A outer s H vs Q E As Z hr hA hR g k => ?_
  have nd := sc_others_of.nd
  obtain ⟨n, t, rfl, hl, rfl⟩ := hR
  obtain ⟨v0, v1, rfl, h0, h1⟩ := hA.inv2
  refine ⟨_, (pss_one (ps_ret (pe_callTy (cl_tupleQ (K := c.K) rfl) (by rfl) Bt.btuple (by decide +kernel) (pa_cons (pe_lc (own := [("server", 2)]) rfl nd (pi_range1 (by rfl) Bt.brange (pa_cons (pv 0) pa_nil)) (blkOk_by (own := [("server", 2)]) (N := N_others_of) (sc := defScope s_others_of) (by decide +kernel)) (fun _ _ _ _ _ => (pg_name (i := 2) nd rfl (Or.inl rfl))) (fun _ _ _ _ _ => (pts_one (pt_cmpR (op_niQ (K := c.K) rfl) (pv 2) (pv 1) rfl))) (fun _ _ _ _ _ => (pv 2))) pa_nil)))), ?_⟩
  refine s_ret g (P := S (othersOf n t)) ?_ k
  refine (ef_cb rf_tuple (ea_cons (ef_lcm (List.range n) (fun k : Nat => I (k : Int)) (fun k => !decide (k ∈ t)) (fun k : Nat => I (k : Int)) (es_range1 (ea_cons (ev_var rfl h0) ea_nil) (by omega)).i (by rw [List.length_range]; omega) fun a x Hc ha gc hx => ?_).ev ea_nil)).ev
  exact ⟨_, tg_name, rfl, et_test (ev_op rv_niS (ev_var rfl hx) (ev_var rfl ((S t).st gc h1))), fun _ => ev_var rfl hx⟩
def isWithin (one other : List Nat) : Bool := one.all fun k => decide (k ∈ other)
def R_is_within (As : List (SV c)) (Z : SV c) : Prop := ∃ s t : List Nat, As = [S s, S t] ∧ s.length ≤ 1000 ∧ Z = B (isWithin s t)
abbrev N_is_within : List Str := ["one", "other", "server"]
theorem sc_is_within : FnScope N_is_within ["one", "other"] (defScope s_is_within) := ⟨rfl, rfl, rfl, by decide +kernel, rfl, by decide +kernel, by decide +kernel⟩
theorem ok_is_within (F : FnP c.K "is_within" "is_within" s_is_within f fd) (Bt : Bts c mg) (C : Cl c) (Il : IsL c)  : FnOk P w c.K mg base CX0 1 f fd ["one", "other"] (Pm c R_is_within) := by
  refine okP F sc_is_within (fun As Z h => by obtain ⟨_, _, rfl, _⟩ := h; rfl) fun cdv A outer s H vs Q E As Z hr hA hR g k => ?_
  have nd := sc_is_within.nd
  obtain ⟨s, t, rfl, hl, rfl⟩ := hR
  obtain ⟨v0, v1, rfl, h0, h1⟩ := hA.inv2
  refine ⟨_, (pss_one (ps_ret (pe_callB (cr_allQ (K := c.K) rfl rfl) (by rfl) Bt.ball (by decide +kernel) (pa_cons (pe_lc (own := [("server", 2)]) rfl nd (pi_tupQ (K := c.K) rfl (pv 0)) (blkOk_by (own := [("server", 2)]) (N := N_is_within) (sc := defScope s_is_within) (by decide +kernel)) (fun _ _ _ _ _ => (pg_name (i := 2) nd rfl (Or.inl rfl))) (fun _ _ _ _ _ => pts_nil) (fun _ _ _ _ _ => (pe_cmpR (op_inQ (K := c.K) rfl) (pv 2) (pv 1) rfl))) pa_nil)))), ?_⟩
  refine s_ret g (P := B (isWithin s t)) ?_ k
  have e : B (c := c) (isWithin s t) = B ((s.map fun k => decide (k ∈ t)).all id) := by rw [List.all_map]; rfl
  rw [e]
  refine ev_cb rc_all (ea_cons (Ev.to (ef_lcA s (fun k : Nat => I (k : Int)) (fun k => B (decide (k ∈ t))) (ei_tup (ev_var rfl h0)) (by omega) fun a x Hc ha gc hx => ?_).ev (LB_map _ _)) ea_nil)
  exact ⟨_, tg_name, rfl, ev_op rv_inS (ev_var rfl hx) (ev_var rfl ((S t).st gc h1))⟩
end


section
open PySem PySem.Spec PyProof.Rows L2 LamX
variable {c : Cxt} {P : Program} {w : World} {mg : Str → Option Value} {base : Heap} {f : Addr} {fd : FuncData}
theorem allB {α : Type} {xs : List α} {f : α → Bool} (h : ∀ x ∈ xs, f x = true) : (xs.map f).all id = true := by
  rw [List.all_eq_true]
  intro b hb
  obtain ⟨x, hx, rfl⟩ := List.mem_map.mp hb
  exact h x hx
/-! is_set, is_item -/
def R_is_set (As : List (SV c)) (Z : SV c) : Prop := ∃ (s : List Nat) (n : Nat), As = [S s, I (n : Int)] ∧ WfS n s ∧ s.length ≤ 1000 ∧ Z = B true
theorem zip_lt {s : List Nat} (h : s.Pairwise (· < ·)) : ∀ p ∈ s.zip (s.drop 1), p.1 < p.2 := by
  induction s with
  | nil => intro p hp; cases hp
  | cons a s ih =>
    intro p hp
    cases s with
    | nil => simp at hp
    | cons b s =>
      rw [List.drop_succ_cons, List.drop_zero, List.zip_cons_cons] at hp
      rcases List.mem_cons.mp hp with rfl | hp
      · exact (List.pairwise_cons.mp h).1 b (List.mem_cons_self ..)
      · exact ih (List.pairwise_cons.mp h).2 p (by rw [List.drop_succ_cons, List.drop_zero]; exact hp)
abbrev N_is_set : List Str := ["thing", "servers", "one", "other", "server"]
theorem sc_is_set : FnScope N_is_set ["thing", "servers"] (defScope s_is_set) := ⟨rfl, rfl, rfl, by decide +kernel, rfl, by decide +kernel, by decide +kernel⟩
theorem ok_is_set (F : FnP c.K "is_set" "is_set" s_is_set f fd) (Bt : Bts c mg) (C : Cl c) (Il : IsL c) (h_is_number : Has P w c.K mg base "is_number" ["thing", "least", "most"] 1 (Pm c R_is_number)) : FnOk P w c.K mg base CX0 2 f fd ["thing", "servers"] (Pm c R_is_set) := by
  refine okP F sc_is_set (fun As Z h => by obtain ⟨_, _, rfl, _⟩ := h; rfl) fun cdv A outer s H vs Q E As Z hr hA hR g k => ?_
  have nd := sc_is_set.nd
  obtain ⟨s, n, rfl, hw, hl, rfl⟩ := hR
  obtain ⟨v0, v1, rfl, h0, h1⟩ := hA.inv2
  refine ⟨_, (pss_cons (ps_if (PW.pt (pw_or (pt_not (pt_val (pe_callB (cl_isiQ (K := c.K) rfl) (by rfl) Bt.bisinstance (by decide +kernel) (pa_cons (pv 0) (pa_cons (pe_bltn (v := .ty "tuple") (by rfl) Bt.btuple (by decide +kernel) rfl) pa_nil))))) (pw_or1 (pt_not (pt_val (pe_callB (cr_allQ (K := c.K) rfl rfl) (by rfl) Bt.ball (by decide +kernel) (pa_cons (pe_lc (own := [("server", 4)]) rfl nd (pi_tupQ (K := c.K) rfl (pv 0)) (blkOk_by (own := [("server", 4)]) (N := N_is_set) (sc := defScope s_is_set) (by decide +kernel)) (fun _ _ _ _ _ => (pg_name (i := 4) nd rfl (Or.inl rfl))) (fun _ _ _ _ _ => pts_nil) (fun _ _ _ _ _ => (pe_callH h_is_number (hr.mono (by decide)) rfl (pa_cons (pv 4) (pa_cons pe_int (pa_cons (pe_op op_sub (pv 1) pe_int) pa_nil)))))) pa_nil))))))) (pss_one (ps_ret pe_bl)) pss_nil)
    (pss_one (ps_ret (pe_callB (cr_allQ (K := c.K) rfl rfl) (by rfl) Bt.ball (by decide +kernel) (pa_cons (pe_lc (own := [("one", 2), ("other", 3)]) rfl nd (pi_zipQ (K := c.K) rfl (by rfl) Bt.bzip (pa_cons (pv 0) (pa_cons (pe_slice (sl_tupQ (K := c.K) rfl) (pv 0) (po_some pe_int) po_none) pa_nil))) (blkOk_by (own := [("one", 2), ("other", 3)]) (N := N_is_set) (sc := defScope s_is_set) (by decide +kernel)) (fun _ _ _ _ _ => (pg_tupQ (K := c.K) (n := 2) rfl rfl (pgs_cons (pg_name (i := 2) nd rfl (Or.inl rfl)) (pgs_cons (pg_name (i := 3) nd rfl (Or.inl rfl)) pgs_nil)))) (fun _ _ _ _ _ => pts_nil) (fun _ _ _ _ _ => (pe_cmpR op_lt (pv 2) (pv 3) (nomark _)))) pa_nil))))), ?_⟩
  have hall : Ev c _ _ H (B true) := ev_cb (c := c) (σ := [some v0, some v1, none, none, none]) rc_all (ea_cons (Ev.to (ef_lcA s (fun k : Nat => I (k : Int)) (fun k => B true) (ei_tup (ev_var (i := 0) rfl h0)) (by omega) (vs := [4]) (g0 := gName 4) (te := tCall (Pm c R_is_number) [] E0 (tCons (tVar 4) (tCons (tC (.int 0)) (tCons (tOp (rI0 fun i j => .int (i - j)) (tVar 1) (tC (.int 1))) tNil))))
    fun a x Hc ha gc hx => ⟨_, tg_name, rfl, ev_call (ea_cons (ev_var rfl hx) (ea_cons ev_c (ea_cons (ev_op rv_I0 (ev_var rfl ((I (n : Int)).st gc h1)) ev_c) ea_nil))) ⟨_, _, _, rfl, by omega, by have := hw.2 a ha; omega, rfl⟩⟩).ev (LB_map (fun _ => true) s)) ea_nil) |>.to (by rw [allB (fun _ _ => rfl)])
  refine q_no g (EvT.to (et_or (et_not (et_B (ev_cb rc_isTup (ea_cons (ev_var rfl h0) (ea_cons ev_c ea_nil))))) fun _ => et_not (et_B hall)) rfl) fun H1 g1 => ?_
  refine s_retG g1 (P := B true) ?_ k
  have hz : (((s.zip (s.drop 1)).map fun p => decide ((p.1 : Int) < (p.2 : Int))).all id) = true := allB fun p hp => decide_eq_true (by have := zip_lt hw.1 p hp; omega)
  rw [← hz]
  refine ev_cb rc_all (ea_cons (Ev.to (ef_lcA (s.zip (s.drop 1)) (fun p => TupOf [I (p.1 : Int), I (p.2 : Int)]) (fun p => B (decide ((p.1 : Int) < (p.2 : Int)))) (ei_zipT (F := fun k : Nat => I (k : Int)) (G := fun k : Nat => I (k : Int)) (ea_cons (ev_var rfl h0) (ea_cons (Ev.to (ev_slT (n := 1) (ev_var rfl h0) (eo_some ev_c) eo_none) (by rw [← List.map_drop])) ea_nil))) (by rw [List.length_zip]; omega) fun a x Hc ha gc hx => ?_).ev (LB_map _ _)) ea_nil)
  obtain ⟨x1, x2, e1, e2, ht⟩ := tg_pair hx
  exact ⟨_, ht tg_name tg_name, rfl, ev_op rv_I0 (ev_var rfl e1) (ev_var rfl e2)⟩
def R_is_item (As : List (SV c)) (Z : SV c) : Prop := ∃ (it : Itm) (n : Nat), As = [It1 it, I (n : Int)] ∧ WfI n it ∧ n ≤ 1000 ∧ Z = B true
abbrev N_is_item : List Str := ["thing", "servers"]
theorem sc_is_item : FnScope N_is_item ["thing", "servers"] (defScope s_is_item) := ⟨rfl, rfl, rfl, by decide +kernel, rfl, by decide +kernel, by decide +kernel⟩
theorem ok_is_item (F : FnP c.K "is_item" "is_item" s_is_item f fd) (Bt : Bts c mg) (C : Cl c) (Il : IsL c) (h_is_set : Has P w c.K mg base "is_set" ["thing", "servers"] 2 (Pm c R_is_set)) (h_is_number : Has P w c.K mg base "is_number" ["thing", "least", "most"] 1 (Pm c R_is_number)) : FnOk P w c.K mg base CX0 3 f fd ["thing", "servers"] (Pm c R_is_item) := by
  refine okP F sc_is_item (fun As Z h => by obtain ⟨_, _, rfl, _⟩ := h; rfl) fun cdv A outer s H vs Q E As Z hr hA hR g k => ?_
  have nd := sc_is_item.nd
  obtain ⟨it, n, rfl, hw, hl, rfl⟩ := hR
  obtain ⟨v0, v1, rfl, h0, h1⟩ := hA.inv2
  have hlen := hw.1.len
  refine ⟨_, (pss_cons (ps_if (PW.pt (pw_or (pt_not (pt_val (pe_callB (cl_isiQ (K := c.K) rfl) (by rfl) Bt.bisinstance (by decide +kernel) (pa_cons (pv 0) (pa_cons (pe_bltn (v := .ty "tuple") (by rfl) Bt.btuple (by decide +kernel) rfl) pa_nil))))) (pw_or (pt_cmpR op_ne (pe_callB (cl_lenQ (K := c.K) rfl) (by rfl) Bt.blen (by decide +kernel) (pa_cons (pv 0) pa_nil)) pe_int (nomark _)) (pw_or1 (pt_not (pt_val (pe_callH h_is_set (hr.mono (by decide)) rfl (pa_cons (pe_ix (ix_tupQ (K := c.K) rfl) (pv 0) pe_int (fun _ _ => rfl)) (pa_cons (pv 1) pa_nil))))))))) (pss_one (ps_ret pe_bl)) pss_nil)
    (pss_one (ps_ret (pe_callH h_is_number (hr.mono (by decide)) rfl (pa_cons (pe_ix (ix_tupQ (K := c.K) rfl) (pv 0) pe_int (fun _ _ => rfl)) (pa_cons pe_int (pa_cons (pe_callB (cl_lenQ (K := c.K) rfl) (by rfl) Bt.blen (by decide +kernel) (pa_cons (pe_ix (ix_tupQ (K := c.K) rfl) (pv 0) pe_int (fun _ _ => rfl)) pa_nil)) pa_nil))))))), ?_⟩
  refine q_no g (EvT.to (et_or (et_not (et_B (ev_cb rc_isTup (ea_cons (ev_var rfl h0) (ea_cons ev_c ea_nil))))) fun _ => et_or (et_test (ev_op rv_neI (ev_cb rc_lenT (ea_cons (ev_var rfl h0) ea_nil)) ev_c)) fun _ =>
    et_not (et_B (ev_call (ea_cons (ev_op (rv_ixT (i := 0) rfl) (ev_var rfl h0) ev_c) (ea_cons (ev_var rfl h1) ea_nil)) ⟨_, _, rfl, hw.1, by omega, rfl⟩))) rfl) fun H1 g1 => ?_
  refine s_retG g1 (P := B true) ?_ k
  exact ev_call (ea_cons (ev_op (rv_ixT (i := 1) rfl) (ev_var rfl h0) ev_c) (ea_cons ev_c (ea_cons (ev_cb rc_lenT (ea_cons (ev_op (rv_ixT (i := 0) rfl) (ev_var rfl h0) ev_c) ea_nil)) ea_nil))) ⟨_, _, _, rfl, by have := hw.2.1; omega, by have := hw.2.2; rw [List.length_map]; omega, rfl⟩
/-! Layout -/
def R_Layout_init (As : List (SV c)) (Z : SV c) : Prop := ∃ (n : Nat) (its : List Itm), As = [I (n : Int), LIt its] ∧ WfL n its ∧ Z = Lay n its
abbrev N_Layout_init : List Str := ["self", "servers", "items", "index", "item"]
theorem sc_Layout_init : FnScope N_Layout_init ["self", "servers", "items"] (defScope s_Layout_init) := ⟨rfl, rfl, rfl, by decide +kernel, rfl, by decide +kernel, by decide +kernel⟩
theorem ok_Layout_init (F : FnP c.K "__init__" "Layout.__init__" s_Layout_init f fd) (Bt : Bts c mg) (C : Cl c) (Il : IsL c) (h_is_number : Has P w c.K mg base "is_number" ["thing", "least", "most"] 1 (Pm c R_is_number)) (h_is_item : Has P w c.K mg base "is_item" ["thing", "servers"] 3 (Pm c R_is_item)) : FnOk P w c.K mg base CX0 4 f fd ["self", "servers", "items"] (PmI c c.cL R_Layout_init) := by
  refine okI F sc_Layout_init (fun As Z h => by obtain ⟨_, _, rfl, _⟩ := h; rfl) fun cdv A outer s H H0 x d ws Q E As Z hr h0 g hx hA hR k => ?_
  have nd := sc_Layout_init.nd
  obtain ⟨n, its, rfl, hw, rfl⟩ := hR
  obtain ⟨v1, v2, rfl, h1, h2⟩ := hA.inv2
  have hwlo := hw.lo
  have hwhi := hw.hi
  have hwne := hw.ne
  have hwle := hw.le
  refine ⟨_, (pss_cons (ps_if (pt_not (pt_val (pe_callH h_is_number (hr.mono (by decide)) rfl (pa_cons (pv 1) (pa_cons pe_int (pa_cons (pe_glob (v := .int 8) rfl Bt.MOST_SERVERS.choose_spec ⟨_, rfl⟩) pa_nil)))))) pss_never pss_nil)
    (pss_cons (ps_if (PW.pt (pw_or (pt_not (pt_val (pe_callB (cl_isiTQ (K := c.K) rfl) (by rfl) Bt.bisinstance (by decide +kernel) (pa_cons (pv 2) (pa_cons (pe_tup (pa_cons (pe_bltn (v := .ty "list") (by rfl) Bt.blist (by decide +kernel) rfl) (pa_cons (pe_bltn (v := .ty "tuple") (by rfl) Bt.btuple (by decide +kernel) rfl) pa_nil))) pa_nil))))) (pw_or1 (pt_not (pt_chain op_le op_le pe_int (pe_callB (cl_lenQ (K := c.K) rfl) (by rfl) Bt.blen (by decide +kernel) (pa_cons (pv 2) pa_nil)) (pe_glob (v := .int 10) rfl Bt.MOST_ITEMS.choose_spec ⟨_, rfl⟩)))))) pss_never pss_nil)
    (pss_cons (ps_for PassesOwn.never rfl (pi_enumQ (K := c.K) rfl (by rfl) Bt.benumerate (pa_cons (pv 2) pa_nil)) (pg_tupQ (K := c.K) (n := 2) rfl rfl (pgs_cons (pg_name (i := 3) nd rfl (Or.inl rfl)) (pgs_cons (pg_name (i := 4) nd rfl (Or.inl rfl)) pgs_nil))) (pss_one (ps_if (pt_not (pt_val (pe_callH h_is_item (hr.mono (by decide)) rfl (pa_cons (pv 4) (pa_cons (pv 1) pa_nil))))) pss_never pss_nil)))
    (pss_cons (ps_fld (pv 0) (pv 1) rfl)
    (pss_one (ps_fld (pv 0) (pe_callTy (cl_tupleQ (K := c.K) rfl) (by rfl) Bt.btuple (by decide +kernel) (pa_cons (pv 2) pa_nil)) rfl)))))), ?_⟩
  refine q_no g (EvT.to (et_not (et_B (ev_call (ea_cons (ev_var rfl h1) (ea_cons ev_c (ea_cons ev_c ea_nil))) ⟨_, _, _, rfl, by omega, by omega, rfl⟩))) rfl) fun H1 g1 => ?_
  have g01 := g.trans g1
  refine q_no g01 (EvT.to (et_or (et_not (et_B (ev_cb rc_isLT (ea_cons (ev_var rfl h2) (ea_cons (ev_tupT (ea_cons ev_c (ea_cons ev_c ea_nil)) (by simp)) ea_nil))))) fun _ => et_not (et_test (ev_chain rv_I0 rv_I0 ev_c (ev_cb rc_lenL (ea_cons (ev_var rfl h2) ea_nil)) ev_c))) ?_) fun H2 g2 => ?_
  · rw [List.length_map, decide_eq_true (by omega), decide_eq_true (by omega)]
    rfl
  have g02 := g01.trans g2
  have hx2 : H2 x = some (.ins c.cL d []) := g2.ins (g1.ins hx)
  refine q_for its.zipIdx (fun p => TupOf [I (p.2 : Int), It1 p.1]) g02 (es_enum (ev_var rfl rfl) h2) (fun i σ' H' => Gr c H0 H' ∧ H' x = some (.ins c.cL d []) ∧ ∃ u v, σ' = [some (.ref x), some v1, some v2, u, v]) (fun H3 g3 => ⟨g02.trans g3, g3.ins hx2, none, none, rfl⟩) (fun _ _ _ p => p.1) ?_ ?_
  · rintro i ⟨it, j⟩ y σ' H' hi ⟨gp, hxp, u, v, rfl⟩ H3 g3 hy
    have hit : it ∈ its := by
      have := List.mem_of_getElem? hi
      exact List.fst_mem_of_mem_zipIdx this
    obtain ⟨w1, w2, e1, e2, ht⟩ := tg_pair hy
    refine ht tg_name tg_name _ ?_
    exact s_noN g3.self (EvT.to (et_not (et_B (ev_call (ea_cons (ev_var rfl e2) (ea_cons (ev_var rfl ((I (n : Int)).st (gp.trans g3) h1)) ea_nil)) ⟨_, _, rfl, hw.it it hit, by omega, rfl⟩))) rfl) fun H4 g4 => ⟨(gp.trans g3).trans g4, g4.ins (g3.ins hxp), _, _, rfl⟩
  · rintro σ' H3 ⟨gp, hx3, u, v, rfl⟩
    refine q_fld gp hx3 rfl C.cl C.nS (by decide) (ev_var (P := I (n : Int)) rfl h1) fun v3 H4 g4 e4 hx4 => ?_
    obtain rfl : v3 = _ := e4
    have g5 : Gr c H0 (upd H4 x (.ins c.cL d (putF "servers" (.int (n : Int)) []))) := (gp.trans g4).mut h0 hx4 True.intro
    refine s_fld g5 upd_same rfl C.cl C.nE (by show 1 < 1000; decide) (ef_cb rf_tuple (ea_cons (ev_var rfl h2) ea_nil)).ev fun v6 H6 g6 e6 hx6 => ?_
    have hx7 := hx6
    have gt := Gt.mut (o := .ins c.cL d (pfL n (match v6 with | .ref e => e | _ => 0))) hx7 True.intro
    obtain ⟨e, us, rfl, f1, f2⟩ := id e6
    refine k _ ((g5.trans g6).mut h0 hx7 True.intro) ⟨x, d, e, rfl, upd_same, ?_⟩
    exact Tst.st gt e6
def R_check_layout (As : List (SV c)) (Z : SV c) : Prop := ∃ (n : Nat) (its : List Itm), As = [Lay n its] ∧ True ∧ Z = Nn
abbrev N_check_layout : List Str := ["layout"]
theorem sc_check_layout : FnScope N_check_layout ["layout"] (defScope s_check_layout) := ⟨rfl, rfl, rfl, by decide +kernel, rfl, by decide +kernel, by decide +kernel⟩
theorem ok_check_layout (F : FnP c.K "check_layout" "check_layout" s_check_layout f fd) (Bt : Bts c mg) (C : Cl c) (Il : IsL c)  : FnOk P w c.K mg base CX0 1 f fd ["layout"] (Pm c R_check_layout) := by
  refine okP F sc_check_layout (fun As Z h => by obtain ⟨_, _, rfl, _⟩ := h; rfl) fun cdv A outer s H vs Q E As Z hr hA hR g k => ?_
  have nd := sc_check_layout.nd
  obtain ⟨n, its, rfl, hw, rfl⟩ := hR
  obtain ⟨v0, rfl, h0⟩ := hA.inv1
  refine ⟨_, (pss_one (ps_if (pt_not (pt_val (pe_callB (cl_isiQ (K := c.K) rfl) (by rfl) Bt.bisinstance (by decide +kernel) (pa_cons (pv 0) (pa_cons (pe_glob (v := .ref c.cL) rfl Bt.gLayout rfl) pa_nil))))) pss_never pss_nil)), ?_⟩
  exact s_noN g (EvT.to (et_not (et_B (ev_cb (rc_isLay Il) (ea_cons (ev_var rfl h0) (ea_cons ev_c ea_nil))))) rfl) fun H1 g1 => k .non H1 g1 rfl
def R_check_set (As : List (SV c)) (Z : SV c) : Prop := ∃ (n : Nat) (its : List Itm) (s : List Nat), As = [Lay n its, S s] ∧ WfS n s ∧ n ≤ 1000 ∧ Z = Nn
abbrev N_check_set : List Str := ["layout", "servers"]
theorem sc_check_set : FnScope N_check_set ["layout", "servers"] (defScope s_check_set) := ⟨rfl, rfl, rfl, by decide +kernel, rfl, by decide +kernel, by decide +kernel⟩
theorem ok_check_set (F : FnP c.K "check_set" "check_set" s_check_set f fd) (Bt : Bts c mg) (C : Cl c) (Il : IsL c) (h_is_set : Has P w c.K mg base "is_set" ["thing", "servers"] 2 (Pm c R_is_set)) : FnOk P w c.K mg base CX0 3 f fd ["layout", "servers"] (Pm c R_check_set) := by
  refine okP F sc_check_set (fun As Z h => by obtain ⟨_, _, _, rfl, _⟩ := h; rfl) fun cdv A outer s H vs Q E As Z hr hA hR g k => ?_
  have nd := sc_check_set.nd
  obtain ⟨n, its, s, rfl, hw, hl, rfl⟩ := hR
  obtain ⟨v0, v1, rfl, h0, h1⟩ := hA.inv2
  have hlen := hw.len
  refine ⟨_, (pss_one (ps_if (pt_not (pt_val (pe_callH h_is_set (hr.mono (by decide)) rfl (pa_cons (pv 1) (pa_cons (pe_fldQ (K := c.K) rfl (pv 0) rfl) pa_nil))))) pss_never pss_nil)), ?_⟩
  exact s_noN g (EvT.to (et_not (et_B (ev_call (ea_cons (ev_var rfl h1) (ea_cons (ev_servers C (ev_var rfl h0)) ea_nil)) ⟨_, _, rfl, hw, by omega, rfl⟩))) rfl) fun H1 g1 => k .non H1 g1 rfl
abbrev N_Layout_len : List Str := ["self"]
theorem sc_Layout_len : FnScope N_Layout_len ["self"] (defScope s_Layout_len) := ⟨rfl, rfl, rfl, by decide +kernel, rfl, by decide +kernel, by decide +kernel⟩
theorem ok_Layout_len (F : FnP c.K "__len__" "Layout.__len__" s_Layout_len f fd) (Bt : Bts c mg) (C : Cl c) (Il : IsL c)  : FnOk P w c.K mg base CX0 1 f fd ["self"] (Pm c R_Layout_len) := by
  refine okP F sc_Layout_len (fun As Z h => by obtain ⟨_, _, rfl, _⟩ := h; rfl) fun cdv A outer s H vs Q E As Z hr hA hR g k => ?_
  have nd := sc_Layout_len.nd
  obtain ⟨n, its, rfl, hw, rfl⟩ := hR
  obtain ⟨v0, rfl, h0⟩ := hA.inv1
  refine ⟨_, (pss_one (ps_ret (pe_callB (cl_lenQ (K := c.K) rfl) (by rfl) Bt.blen (by decide +kernel) (pa_cons (pe_fldQ (K := c.K) rfl (pv 0) rfl) pa_nil)))), ?_⟩
  exact s_retG g (Ev.to (ev_cb rc_lenT (ea_cons (ev_entries C (ev_var rfl h0)) ea_nil)) (by rw [List.length_map])) k
def R_check_index (As : List (SV c)) (Z : SV c) : Prop := ∃ (n : Nat) (its : List Itm) (i : Nat), As = [Lay n its, I (i : Int)] ∧ its.length ≤ 1000 ∧ i < its.length ∧ Z = Nn
abbrev N_check_index : List Str := ["layout", "index"]
theorem sc_check_index : FnScope N_check_index ["layout", "index"] (defScope s_check_index) := ⟨rfl, rfl, rfl, by decide +kernel, rfl, by decide +kernel, by decide +kernel⟩
theorem ok_check_index (F : FnP c.K "check_index" "check_index" s_check_index f fd) (Bt : Bts c mg) (C : Cl c) (Il : IsL c) (h_is_number : Has P w c.K mg base "is_number" ["thing", "least", "most"] 1 (Pm c R_is_number)) (h_Layout_len : HasM P w c.K mg base c.cL "__len__" ["self"] 1 (Pm c R_Layout_len)) : FnOk P w c.K mg base CX0 3 f fd ["layout", "index"] (Pm c R_check_index) := by
  refine okP F sc_check_index (fun As Z h => by obtain ⟨_, _, _, rfl, _⟩ := h; rfl) fun cdv A outer s H vs Q E As Z hr hA hR g k => ?_
  have nd := sc_check_index.nd
  obtain ⟨n, its, i, rfl, hw, hl, rfl⟩ := hR
  obtain ⟨v0, v1, rfl, h0, h1⟩ := hA.inv2
  refine ⟨_, (pss_one (ps_if (pt_not (pt_val (pe_callH h_is_number (hr.mono (by decide)) rfl (pa_cons (pv 1) (pa_cons pe_int (pa_cons (pe_op op_sub (pe_callB (cl_lenO h_Layout_len (hr.mono (by decide))) (by rfl) Bt.blen (by decide +kernel) (pa_cons (pv 0) pa_nil)) pe_int) pa_nil)))))) pss_never pss_nil)), ?_⟩
  exact s_noN g (EvT.to (et_not (et_B (ev_call (ea_cons (ev_var rfl h1) (ea_cons ev_c (ea_cons (ev_op rv_I0 (ev_cb (rc_lenLay hw) (ea_cons (ev_var rfl h0) ea_nil)) ev_c) ea_nil))) ⟨_, _, _, rfl, by omega, by omega, rfl⟩))) rfl) fun H1 g1 => k .non H1 g1 rfl
end


/-! what the defs compute, in plain Lean -/
section
/-- lexicographic order -/
def lexLe : List Nat → List Nat → Bool
  | [], _ => true
  | _ :: _, [] => false
  | a :: as, b :: bs => decide (a < b) || (decide (a = b) && lexLe as bs)
def leS (a b : List Nat) : Bool := decide (a.length < b.length) || (decide (a.length = b.length) && lexLe a b)
def genS : Nat → List (List Nat)
  | 0 => [[]]
  | k + 1 => genS k ++ (genS k).map (· ++ [k])
def insS (a : List Nat) : List (List Nat) → List (List Nat)
  | [] => [a]
  | b :: bs => if leS a b then a :: b :: bs else b :: insS a bs
def srtS : List (List Nat) → List (List Nat)
  | [] => []
  | a :: as => insS a (srtS as)
def sets (n : Nat) : List (List Nat) := srtS (genS n)
def readable (its : List Itm) (up : List Nat) : List Nat := (its.zipIdx.filter fun p => decide (p.1.2 ≤ (common p.1.1 up).length)).map (·.2)
def keeping (its : List Itm) (up : List Nat) : Bool := decide ((readable its up).length = its.length)
def losing (n : Nat) (its : List Itm) (down : List Nat) : Bool := !keeping its (othersOf n down)
def minStep (found : List (List Nat)) (some : List Nat) : List (List Nat) := if found.any (fun o => isWithin o some) then found else found ++ [some]
def minimal (l : List (List Nat)) : List (List Nat) := l.foldl minStep []
def minLosses (n : Nat) (its : List Itm) : List (List Nat) := minimal ((sets n).filter (losing n its))
def minKeepers (n : Nat) (its : List Itm) : List (List Nat) := minimal ((sets n).filter (keeping its))
def spare (it : Itm) : Int := (it.1.length : Int) - (it.2 : Int)
def countLosses (n : Nat) (its : List Itm) : List Nat := (List.range (n + 1)).map fun k => (((sets n).filter (losing n its)).map List.length).count k
def essential (n : Nat) (its : List Itm) : List Nat := (List.range n).filter fun s => losing n its [s]
def useless (n : Nat) (its : List Itm) : List Nat := (List.range n).filter fun s => !(minKeepers n its).any fun k => decide (s ∈ k)
def settles (n : Nat) (ls ks : List (List Nat)) (down : List Nat) : Bool := ls.any (fun s => isWithin s down) || ks.any (fun s => isWithin s (othersOf n down))
def shows (n : Nat) (its : List Itm) (ls ks : List (List Nat)) : Bool := ls.all (losing n its) && (ks.all (keeping its) && (sets n).all (settles n ls ks))
def fact : Nat → Nat
  | 0 => 1
  | n + 1 => (n + 1) * fact n
def comb (n k : Nat) : Nat := if n < k then 0 else fact n / (fact k * fact (n - k))
def weightOf (ch : List Nat) (down : List Nat) : Nat := ch.zipIdx.foldl (fun a p => a * (if p.2 ∈ down then p.1 else 12 - p.1)) 1
def lowest (a b : Int) : Int × Int := (a / (Int.gcd a b : Int), b / (Int.gcd a b : Int))
def withChance (ch : List Nat) (s v : Nat) : List Nat := ch.zipIdx.map fun p => if p.2 = s then v else p.1
def ways (n : Nat) (ch : List Nat) (f : List Nat → Bool) : Nat := (((sets n).filter f).map (weightOf ch)).sum
def chanceOf (n : Nat) (ch : List Nat) (f : List Nat → Bool) : Int × Int := lowest (ways n ch f : Int) ((12 ^ n : Nat) : Int)
def lossChance (n : Nat) (its : List Itm) (ch : List Nat) : Int × Int := chanceOf n ch (losing n its)
def itemBad (n : Nat) (its : List Itm) (i : Nat) (down : List Nat) : Bool := !decide (i ∈ readable its (othersOf n down))
def itemChance (n : Nat) (its : List Itm) (i : Nat) (ch : List Nat) : Int × Int := chanceOf n ch (itemBad n its i)
def importance (n : Nat) (its : List Itm) (ch : List Nat) (s : Nat) : Int × Int :=
  let d := lossChance n its (withChance ch s 12)
  let u := lossChance n its (withChance ch s 0)
  lowest (d.1 * u.2 - u.1 * d.2) (d.2 * u.2)
def importances (n : Nat) (its : List Itm) (ch : List Nat) : List (Int × Int) := (List.range n).map (importance n its ch)
def randomLoss (n : Nat) (its : List Itm) (k : Nat) : Int × Int := lowest (((countLosses n its)[k]?.getD 0 : Nat) : Int) (comb n k : Int)
def levelDiff (n m : Nat) (a b : List Itm) : List Int := ((countLosses n a).zip (countLosses m b)).map fun p => (p.1 : Int) - (p.2 : Int)
def equallySafe (n : Nat) (a b : List Itm) : Bool := (levelDiff n n a b).all fun d => decide (d = 0)

/-! ### the sets of servers -/
theorem genS_mem {n : Nat} : ∀ {s : List Nat}, s ∈ genS n → WfS n s := by
  induction n with
  | zero => intro s h; rw [genS, List.mem_singleton] at h; rw [h]; exact ⟨.nil, fun k hk => by cases hk⟩
  | succ n ih =>
    intro s h
    rw [genS, List.mem_append] at h
    rcases h with h | h
    · exact ⟨(ih h).1, fun k hk => Nat.lt_succ_of_lt ((ih h).2 k hk)⟩
    · obtain ⟨t, ht, rfl⟩ := List.mem_map.mp h
      obtain ⟨h1, h2⟩ := ih ht
      refine ⟨List.pairwise_append.mpr ⟨h1, List.pairwise_singleton _ _, fun a ha b hb => by rw [List.mem_singleton] at hb; rw [hb]; exact h2 a ha⟩, fun k hk => ?_⟩
      rcases List.mem_append.mp hk with hk | hk
      · exact Nat.lt_succ_of_lt (h2 k hk)
      · rw [List.mem_singleton] at hk; omega
theorem insS_perm (a : List Nat) : ∀ l, (insS a l).Perm (a :: l)
  | [] => .refl _
  | b :: bs => by
    rw [insS]
    split
    · exact .refl _
    · exact ((insS_perm a bs).cons b).trans (.swap a b bs)
theorem srtS_perm : ∀ l, (srtS l).Perm l
  | [] => .refl _
  | a :: as => (insS_perm a _).trans ((srtS_perm as).cons a)
theorem sets_perm (n : Nat) : (sets n).Perm (genS n) := srtS_perm _
theorem sets_mem {n : Nat} {s : List Nat} (h : s ∈ sets n) : WfS n s := genS_mem ((sets_perm n).mem_iff.mp h)
theorem genS_len : ∀ n, (genS n).length = 2 ^ n
  | 0 => rfl
  | n + 1 => by rw [genS, List.length_append, List.length_map, genS_len n, Nat.pow_succ]; omega
theorem sets_len (n : Nat) : (sets n).length = 2 ^ n := (sets_perm n).length_eq.trans (genS_len n)
theorem sets_le {n : Nat} (h : n ≤ 6) : (sets n).length ≤ 64 := by
  rw [sets_len]
  exact Nat.pow_le_pow_right (by decide) h
end


section
open PySem PySem.Spec PyProof.Rows L2 LamX
variable {c : Cxt} {P : Program} {w : World} {mg : Str → Option Value} {base : Heap} {f : Addr} {fd : FuncData}
instance {Ps : List (SV c)} [t : TstL Ps] : Tst (TupT Ps) := ⟨fun g ⟨a, vs, e, h1, h2⟩ => ⟨a, vs, e, g.1 _ _ h1, AllP.gt t.st g h2⟩⟩
/-- a set, its tuple tracked -/
abbrev ST (s : List Nat) : SV c := TupT (s.map fun k : Nat => I (k : Int))
abbrev LST (l : List (List Nat)) : SV c := L (l.map ST)
theorem ST.s {s : List Nat} {v : V} {H : Hp} (h : (ST (c := c) s).p v H) : (S (c := c) s).p v H := by
  obtain ⟨a, vs, e, h1, h2⟩ := h
  exact ⟨a, vs, e, SqT.of h1, h2⟩
theorem allP_imp {α : Type} {F G : α → SV c} {H : Hp} (h : ∀ x v, (F x).p v H → (G x).p v H) : ∀ {xs : List α} {vs : List V}, AllP (xs.map F) vs H → AllP (xs.map G) vs H
  | [], _, k => k
  | x :: xs, _, k => by
    obtain ⟨v, ws, rfl, h1, h2⟩ := AllP.cons_inv k
    exact ⟨h x v h1, allP_imp h h2⟩
theorem LST.ls {l : List (List Nat)} {v : V} {H : Hp} (h : (LST (c := c) l).p v H) : (LS (c := c) l).p v H := by
  obtain ⟨a, vs, e, h1, h2⟩ := h
  exact ⟨a, vs, e, h1, allP_imp (fun _ _ => ST.s) h2⟩
def R_sets_of (As : List (SV c)) (Z : SV c) : Prop := ∃ n : Nat, As = [I (n : Int)] ∧ n ≤ 6 ∧ Z = LST (sets n)
theorem ev_sets {σ : L2.St} {H : Hp} {ta : TE} {E : XK} {n : Nat} (h : Ev c ta σ H (I (n : Int))) (hn : n ≤ 6) : Ev c (tCall (Pm c R_sets_of) [] E (tCons ta tNil)) σ H (LS (sets n)) :=
  (ev_call (ea_cons h ea_nil) ⟨n, rfl, hn, rfl⟩).imp fun _ _ => LST.ls
/-! readable, is_keeping, is_losing -/
theorem mem_zipIdx_fst {α : Type} {xs : List α} {p : α × Nat} (h : p ∈ xs.zipIdx) : p.1 ∈ xs := List.fst_mem_of_mem_zipIdx h
theorem dGe {a b : Nat} : decide ((a : Int) ≥ (b : Int)) = decide (b ≤ a) := dLe
def R_Layout_readable (As : List (SV c)) (Z : SV c) : Prop := ∃ (n : Nat) (its : List Itm) (up : List Nat), As = [Lay n its, S up] ∧ WfL n its ∧ WfS n up ∧ Z = LN (readable its up)
abbrev N_Layout_readable : List Str := ["self", "up", "index", "item"]
theorem sc_Layout_readable : FnScope N_Layout_readable ["self", "up"] (defScope s_Layout_readable) := ⟨rfl, rfl, rfl, by decide +kernel, rfl, by decide +kernel, by decide +kernel⟩
theorem ok_Layout_readable (F : FnP c.K "readable" "Layout.readable" s_Layout_readable f fd) (Bt : Bts c mg) (C : Cl c) (Il : IsL c) (h_check_set : Has P w c.K mg base "check_set" ["layout", "servers"] 3 (Pm c R_check_set)) (h_common : Has P w c.K mg base "common" ["one", "other"] 1 (Pm c R_common)) : FnOk P w c.K mg base CX0 4 f fd ["self", "up"] (Pm c R_Layout_readable) := by
  refine okP F sc_Layout_readable (fun As Z h => by obtain ⟨_, _, _, rfl, _⟩ := h; rfl) fun cdv A outer s H vs Q E As Z hr hA hR g k => ?_
  have nd := sc_Layout_readable.nd
  obtain ⟨n, its, up, rfl, hw, hu, rfl⟩ := hR
  obtain ⟨v0, v1, rfl, h0, h1⟩ := hA.inv2
  have hwlo := hw.lo
  have hwhi := hw.hi
  have hwle := hw.le
  refine ⟨_, (pss_cons (ps_expr (pe_callH h_check_set (hr.mono (by decide)) rfl (pa_cons (pv 0) (pa_cons (pv 1) pa_nil))))
    (pss_one (ps_ret (pe_lc (own := [("index", 2), ("item", 3)]) rfl nd (pi_enumTQ (K := c.K) rfl (by rfl) Bt.benumerate (pa_cons (pe_fldQ (K := c.K) rfl (pv 0) rfl) pa_nil)) (blkOk_by (own := [("index", 2), ("item", 3)]) (N := N_Layout_readable) (sc := defScope s_Layout_readable) (by decide +kernel)) (fun _ _ _ _ _ => (pg_tupQ (K := c.K) (n := 2) rfl rfl (pgs_cons (pg_name (i := 2) nd rfl (Or.inl rfl)) (pgs_cons (pg_name (i := 3) nd rfl (Or.inl rfl)) pgs_nil)))) (fun _ _ _ _ _ => (pts_one (pt_cmpR op_ge (pe_callB (cl_lenQ (K := c.K) rfl) (by rfl) Bt.blen (by decide +kernel) (pa_cons (pe_callH h_common (hr.mono (by decide)) rfl (pa_cons (pe_ix (ix_tupQ (K := c.K) rfl) (pv 3) pe_int (fun _ _ => rfl)) (pa_cons (pv 1) pa_nil))) pa_nil)) (pe_ix (ix_tupQ (K := c.K) rfl) (pv 3) pe_int (fun _ _ => rfl)) (nomark _)))) (fun _ _ _ _ _ => (pv 2)))))), ?_⟩
  refine q_drop g (ev_call (ea_cons (ev_var rfl h0) (ea_cons (ev_var rfl h1) ea_nil)) ⟨_, _, _, rfl, hu, by omega, rfl⟩) fun H1 g1 => ?_
  refine s_retG g1 (P := LN (readable its up)) ?_ k
  refine Ev.to (ef_lcm its.zipIdx (fun p => TupOf [I (p.2 : Int), It1 p.1]) (fun p => decide (p.1.2 ≤ (common p.1.1 up).length)) (fun p => I (p.2 : Int)) (ei_enumT (F := It1) (ea_cons (ev_entries C (ev_var rfl h0)) ea_nil)) (by rw [List.length_zipIdx]; omega) fun a x Hc ha gc hx => ?_).ev (LN_map _ _)
  obtain ⟨x1, x2, e1, e2, ht⟩ := tg_pair hx
  have hl := (hw.it _ (mem_zipIdx_fst ha)).1.len
  refine ⟨_, ht tg_name tg_name, rfl, EvT.to (et_test (ev_op rv_I0 (ev_cb rc_lenT (ea_cons (ev_call (ea_cons (ev_op (rv_ixT (i := 0) rfl) (ev_var rfl e2) ev_c) (ea_cons (ev_var rfl ((S up).st gc h1)) ea_nil)) ⟨_, _, rfl, by omega, rfl⟩) ea_nil)) (ev_op (rv_ixT (i := 1) rfl) (ev_var rfl e2) ev_c))) ?_, fun _ => ev_var rfl e1⟩
  rw [List.length_map, dGe]
def R_is_keeping (As : List (SV c)) (Z : SV c) : Prop := ∃ (n : Nat) (its : List Itm) (up : List Nat), As = [Lay n its, S up] ∧ WfL n its ∧ WfS n up ∧ Z = B (keeping its up)
abbrev N_is_keeping : List Str := ["layout", "up"]
theorem sc_is_keeping : FnScope N_is_keeping ["layout", "up"] (defScope s_is_keeping) := ⟨rfl, rfl, rfl, by decide +kernel, rfl, by decide +kernel, by decide +kernel⟩
theorem ok_is_keeping (F : FnP c.K "is_keeping" "is_keeping" s_is_keeping f fd) (Bt : Bts c mg) (C : Cl c) (Il : IsL c) (h_Layout_readable : HasM P w c.K mg base c.cL "readable" ["self", "up"] 4 (Pm c R_Layout_readable)) (h_Layout_len : HasM P w c.K mg base c.cL "__len__" ["self"] 1 (Pm c R_Layout_len)) : FnOk P w c.K mg base CX0 5 f fd ["layout", "up"] (Pm c R_is_keeping) := by
  refine okP F sc_is_keeping (fun As Z h => by obtain ⟨_, _, _, rfl, _⟩ := h; rfl) fun cdv A outer s H vs Q E As Z hr hA hR g k => ?_
  have nd := sc_is_keeping.nd
  obtain ⟨n, its, up, rfl, hw, hu, rfl⟩ := hR
  obtain ⟨v0, v1, rfl, h0, h1⟩ := hA.inv2
  have hwle := hw.le
  refine ⟨_, (pss_one (ps_ret (pe_cmpR op_eq (pe_callB (cl_lenQ (K := c.K) rfl) (by rfl) Bt.blen (by decide +kernel) (pa_cons (pe_methH h_Layout_readable (hr.mono (by decide)) (pv 0) (pa_cons (pv 1) pa_nil)) pa_nil)) (pe_callB (cl_lenO h_Layout_len (hr.mono (by decide))) (by rfl) Bt.blen (by decide +kernel) (pa_cons (pv 0) pa_nil)) (nomark _)))), ?_⟩
  refine s_ret g (P := B (keeping its up)) ?_ k
  refine Ev.to (ev_op rv_eqI (ev_cb rc_lenL (ea_cons (ev_meth (ev_var rfl h0) (fun v H' ⟨a, d, e, h, h1, _⟩ => ⟨a, d, _, h, h1, pfL_no _ _ (by decide +kernel) (by decide +kernel)⟩) (ea_cons (ev_var rfl h1) ea_nil) ⟨_, _, _, rfl, hw, hu, rfl⟩) ea_nil)) (ev_cb (rc_lenLay (by omega)) (ea_cons (ev_var rfl h0) ea_nil))) ?_
  rw [List.length_map, dEq]
  rfl
theorem wfS_others {n : Nat} {s : List Nat} : WfS n (othersOf n s) := by
  refine ⟨List.Pairwise.filter _ List.pairwise_lt_range, fun k hk => ?_⟩
  exact List.mem_range.mp (List.mem_filter.mp hk).1
def R_is_losing (As : List (SV c)) (Z : SV c) : Prop := ∃ (n : Nat) (its : List Itm) (down : List Nat), As = [Lay n its, S down] ∧ WfL n its ∧ Z = B (losing n its down)
abbrev N_is_losing : List Str := ["layout", "down"]
theorem sc_is_losing : FnScope N_is_losing ["layout", "down"] (defScope s_is_losing) := ⟨rfl, rfl, rfl, by decide +kernel, rfl, by decide +kernel, by decide +kernel⟩
theorem ok_is_losing (F : FnP c.K "is_losing" "is_losing" s_is_losing f fd) (Bt : Bts c mg) (C : Cl c) (Il : IsL c) (h_is_keeping : Has P w c.K mg base "is_keeping" ["layout", "up"] 5 (Pm c R_is_keeping)) (h_others_of : Has P w c.K mg base "others_of" ["servers", "some"] 1 (Pm c R_others_of)) : FnOk P w c.K mg base CX0 6 f fd ["layout", "down"] (Pm c R_is_losing) := by
  refine okP F sc_is_losing (fun As Z h => by obtain ⟨_, _, _, rfl, _⟩ := h; rfl) fun cdv A outer s H vs Q E As Z hr hA hR g k => ?_
  have nd := sc_is_losing.nd
  obtain ⟨n, its, dn, rfl, hw, rfl⟩ := hR
  obtain ⟨v0, v1, rfl, h0, h1⟩ := hA.inv2
  have hwle := hw.le
  have hwhi := hw.hi
  refine ⟨_, (pss_one (ps_ret (pe_not (pe_callH h_is_keeping (hr.mono (by decide)) rfl (pa_cons (pv 0) (pa_cons (pe_callH h_others_of (hr.mono (by decide)) rfl (pa_cons (pe_fldQ (K := c.K) rfl (pv 0) rfl) (pa_cons (pv 1) pa_nil))) pa_nil)))))), ?_⟩
  refine s_ret g (P := B (losing n its dn)) ?_ k
  exact ev_not (ev_call (ea_cons (ev_var rfl h0) (ea_cons (ev_call (ea_cons (ev_servers C (ev_var rfl h0)) (ea_cons (ev_var rfl h1) ea_nil)) ⟨_, _, rfl, by omega, rfl⟩) ea_nil)) ⟨_, _, _, rfl, hw, wfS_others, rfl⟩)
/-! minimal -/
theorem anyB {α : Type} (xs : List α) (f : α → Bool) : (xs.map f).any id = xs.any f := by rw [List.any_map]; rfl
theorem allB' {α : Type} (xs : List α) (f : α → Bool) : (xs.map f).all id = xs.all f := by rw [List.all_map]; rfl
theorem minStep_sub {l found : List (List Nat)} {s : List Nat} (h : ∀ x ∈ found, x ∈ l) (hs : s ∈ l) : ∀ x ∈ minStep found s, x ∈ l := by
  intro x hx
  unfold minStep at hx
  split at hx
  · exact h x hx
  · rcases List.mem_append.mp hx with hx | hx
    · exact h x hx
    · rw [List.mem_singleton] at hx; rw [hx]; exact hs
theorem minStep_no {found : List (List Nat)} {s : List Nat} (h : (!found.any fun o => isWithin o s) = true) : minStep found s = found ++ [s] := by
  unfold minStep
  cases q : found.any fun o => isWithin o s with
  | true => rw [q] at h; cases h
  | false => rfl
theorem minStep_yes {found : List (List Nat)} {s : List Nat} (h : (!found.any fun o => isWithin o s) = false) : minStep found s = found := by
  unfold minStep
  cases q : found.any fun o => isWithin o s with
  | true => rfl
  | false => rw [q] at h; cases h
theorem fold_sub {l : List (List Nat)} : ∀ {ys found : List (List Nat)}, (∀ x ∈ found, x ∈ l) → (∀ y ∈ ys, y ∈ l) → ∀ x ∈ ys.foldl minStep found, x ∈ l
  | [], _, h, _ => h
  | y :: ys, _, h, hy => fold_sub (ys := ys) (minStep_sub h (hy y (List.mem_cons_self ..))) fun z hz => hy z (List.mem_cons_of_mem _ hz)
theorem fold_len : ∀ {ys found : List (List Nat)}, (ys.foldl minStep found).length ≤ found.length + ys.length
  | [], _ => Nat.le_refl _
  | y :: ys, found => by
    have h := fold_len (ys := ys) (found := minStep found y)
    have h2 : (minStep found y).length ≤ found.length + 1 := by
      unfold minStep
      split
      · omega
      · rw [List.length_append]; exact Nat.le_refl _
    rw [List.foldl_cons, List.length_cons]
    omega
def R_minimal (As : List (SV c)) (Z : SV c) : Prop := ∃ (l : List (List Nat)), As = [LS l] ∧ l.length ≤ 1000 ∧ (∀ s ∈ l, s.length ≤ 1000) ∧ Z = LS (minimal l)
abbrev N_minimal : List Str := ["sets", "found", "some", "other"]
theorem sc_minimal : FnScope N_minimal ["sets"] (defScope s_minimal) := ⟨rfl, rfl, rfl, by decide +kernel, rfl, by decide +kernel, by decide +kernel⟩
theorem ok_minimal (F : FnP c.K "minimal" "minimal" s_minimal f fd) (Bt : Bts c mg) (C : Cl c) (Il : IsL c) (h_is_within : Has P w c.K mg base "is_within" ["one", "other"] 1 (Pm c R_is_within)) : FnOk P w c.K mg base CX0 2 f fd ["sets"] (Pm c R_minimal) := by
  refine okP F sc_minimal (fun As Z h => by obtain ⟨_, rfl, _⟩ := h; rfl) fun cdv A outer s H vs Q E As Z hr hA hR g k => ?_
  have nd := sc_minimal.nd
  obtain ⟨l, rfl, hl, hm, rfl⟩ := hR
  obtain ⟨v0, rfl, h0⟩ := hA.inv1
  refine ⟨_, (pss_cons (ps_set (i := 1) nd rfl (Or.inl rfl) (pe_lst pa_nil))
    (pss_cons (ps_for PassesOwn.never rfl (pi_listQ (K := c.K) rfl (pv 0)) (pg_name (i := 2) nd rfl (Or.inr rfl)) (pss_one (ps_if (pt_not (pt_val (pe_callB (cr_anyQ (K := c.K) rfl rfl) (by rfl) Bt.bany (by decide +kernel) (pa_cons (pe_lc (own := [("other", 3)]) rfl nd (pi_listQ (K := c.K) rfl (pv 1)) (blkOk_by (own := [("other", 3)]) (N := N_minimal) (sc := defScope s_minimal) (by decide +kernel)) (fun _ _ _ _ _ => (pg_name (i := 3) nd rfl (Or.inl rfl))) (fun _ _ _ _ _ => pts_nil) (fun _ _ _ _ _ => (pe_callH h_is_within (hr.mono (by decide)) rfl (pa_cons (pv 3) (pa_cons (pv 2) pa_nil))))) pa_nil)))) (pss_one (ps_expr (pe_appendQ (K := c.K) rfl (pv 1) (pa_cons (pv 2) pa_nil)))) pss_nil)))
    (pss_one (ps_ret (pv 1))))), ?_⟩
  refine q_asgF g (P := LS []) (ef_lst ea_nil (by simp)) fun a H1 n1 g1 ⟨a', vs, ea, e1, e2⟩ => ?_
  obtain rfl : a = a' := V.ref.inj ea
  obtain rfl := e2.nil_inv
  refine q_for l S g1 (es_list rfl h0) (fun i σ' H' => Gr c H H' ∧ (∃ ws, H' a = some (.lst ws) ∧ AllP (c := c) (((l.take i).foldl minStep []).map S) ws H') ∧ ∃ u v, σ' = [some v0, some (.ref a), u, v]) (fun H2 g2 => ⟨g1.trans g2, ⟨[], g2.lst e1, True.intro⟩, none, none, rfl⟩) (fun _ _ _ p => p.1) ?_ ?_
  · rintro i s x σ' H' hi ⟨gp, ⟨ws, hws, hall⟩, u, v, rfl⟩ H2 g2 hx
    have hil : i < l.length := (List.getElem?_eq_some_iff.mp hi).1
    have hmem : s ∈ l := List.mem_of_getElem? hi
    have eT : (l.take (i + 1)).foldl minStep [] = minStep ((l.take i).foldl minStep []) s := by
      rw [List.take_add_one, hi, List.foldl_append]; rfl
    have hsub : ∀ o ∈ (l.take i).foldl minStep [], o ∈ l := fold_sub (fun x hx => by cases hx) fun y hy => List.mem_of_mem_take hy
    have hlen : ((l.take i).foldl minStep []).length ≤ l.length := by
      have := fold_len (ys := l.take i) (found := [])
      rw [List.length_take, List.length_nil] at this
      omega
    have gp2 := gp.trans g2
    have hL2 : (LS ((l.take i).foldl minStep [])).p (.ref a) H2 := ⟨a, ws, rfl, g2.lst hws, hall.gr g2⟩
    show tIfS _ _ _ _ _ _
    refine s_when g2.self (EvT.to (et_not (et_B (ev_cb rc_any (ea_cons (Ev.to (ef_lcA ((l.take i).foldl minStep []) S (fun o => B (isWithin o s)) (ei_list (ev_var rfl hL2)) (by omega) fun o y Hc ho gc hy => ?_).ev (LB_map _ _)) ea_nil)))) (by rw [anyB])) (fun hb H3 g3 => ?_) fun hb H3 g3 => ?_
    · exact ⟨_, tg_name, rfl, ev_call (ea_cons (ev_var rfl hy) (ea_cons (ev_var rfl ((S s).st gc hx)) ea_nil)) ⟨_, _, rfl, hm o (hsub o ho), rfl⟩⟩
    · have hws3 : H3 a = some (.lst ws) := g3.lst (g2.lst hws)
      refine s_app g3 hws3 (ev_var rfl rfl) (ev_var rfl hx) (by have := hall.len; rw [List.length_map] at this; omega) fun v3 H4 g4 e4 => ?_
      refine ⟨((gp2.trans g3).trans g4).mut n1 (g4.lst hws3) True.intro, ⟨_, upd_same, ?_⟩, _, _, rfl⟩
      have gt := Gt.mut (o := .lst (ws ++ [v3])) (g4.lst hws3) True.intro
      rw [eT]
      have eS := minStep_no hb
      rw [eS, List.map_append]
      exact AllP.append (AllP.gt (TstL.st) gt (((hall.gr g2).gr g3).gr g4)) ⟨Tst.st gt e4, True.intro⟩
    · refine ⟨gp2.trans g3, ⟨ws, g3.lst (g2.lst hws), ?_⟩, _, _, rfl⟩
      rw [eT]
      have eS := minStep_yes hb
      rw [eS]
      exact (hall.gr g2).gr g3
  · rintro σ' H2 ⟨gp, ⟨ws, hws, hall⟩, u, v, rfl⟩
    rw [List.take_of_length_le (Nat.le_refl _)] at hall
    exact s_ret gp.self (P := LS (minimal l)) (ev_var rfl ⟨a, ws, rfl, hws, hall⟩) fun v' H3 g3 e3 => k v' H3 (gp.trans g3) e3
end


section
open PySem PySem.Spec PyProof.Rows L2 LamX
variable {c : Cxt} {P : Program} {w : World} {mg : Str → Option Value} {base : Heap} {f : Addr} {fd : FuncData}
/-! minimal_losses, minimal_keepers -/
def R_minimal_losses (As : List (SV c)) (Z : SV c) : Prop := ∃ (n : Nat) (its : List Itm), As = [Lay n its] ∧ WfL n its ∧ Z = LS (minLosses n its)
abbrev N_minimal_losses : List Str := ["layout", "down"]
theorem sc_minimal_losses : FnScope N_minimal_losses ["layout"] (defScope s_minimal_losses) := ⟨rfl, rfl, rfl, by decide +kernel, rfl, by decide +kernel, by decide +kernel⟩
theorem ok_minimal_losses (F : FnP c.K "minimal_losses" "minimal_losses" s_minimal_losses f fd) (Bt : Bts c mg) (C : Cl c) (Il : IsL c) (h_check_layout : Has P w c.K mg base "check_layout" ["layout"] 1 (Pm c R_check_layout)) (h_minimal : Has P w c.K mg base "minimal" ["sets"] 2 (Pm c R_minimal)) (h_sets_of : Has P w c.K mg base "sets_of" ["servers"] 5 (Pm c R_sets_of)) (h_is_losing : Has P w c.K mg base "is_losing" ["layout", "down"] 6 (Pm c R_is_losing)) : FnOk P w c.K mg base CX0 7 f fd ["layout"] (Pm c R_minimal_losses) := by
  refine okP F sc_minimal_losses (fun As Z h => by obtain ⟨_, _, rfl, _⟩ := h; rfl) fun cdv A outer s H vs Q E As Z hr hA hR g k => ?_
  have nd := sc_minimal_losses.nd
  obtain ⟨n, its, rfl, hw, rfl⟩ := hR
  obtain ⟨v0, rfl, h0⟩ := hA.inv1
  have hs := sets_le hw.hi
  refine ⟨_, (pss_cons (ps_expr (pe_callH h_check_layout (hr.mono (by decide)) rfl (pa_cons (pv 0) pa_nil)))
    (pss_one (ps_ret (pe_callH h_minimal (hr.mono (by decide)) rfl (pa_cons (pe_lc (own := [("down", 1)]) rfl nd (pi_listQ (K := c.K) rfl (pe_callH h_sets_of (hr.mono (by decide)) rfl (pa_cons (pe_fldQ (K := c.K) rfl (pv 0) rfl) pa_nil))) (blkOk_by (own := [("down", 1)]) (N := N_minimal_losses) (sc := defScope s_minimal_losses) (by decide +kernel)) (fun _ _ _ _ _ => (pg_name (i := 1) nd rfl (Or.inl rfl))) (fun _ _ _ _ _ => (pts_one (pt_val (pe_callH h_is_losing (hr.mono (by decide)) rfl (pa_cons (pv 0) (pa_cons (pv 1) pa_nil)))))) (fun _ _ _ _ _ => (pv 1))) pa_nil))))), ?_⟩
  refine q_drop g (ev_call (ea_cons (ev_var rfl h0) ea_nil) ⟨_, _, rfl, True.intro, rfl⟩) fun H1 g1 => ?_
  refine s_retG g1 (P := LS (minLosses n its)) ?_ k
  refine ev_call (ea_cons (ef_lcm (sets n) S (losing n its) S (ei_list (ev_sets (ev_servers C (ev_var rfl h0)) hw.hi)) (by omega) fun a x Hc ha gc hx => ?_).ev ea_nil) ⟨_, rfl, ?_, ?_, rfl⟩
  · exact ⟨_, tg_name, rfl, et_B (ev_call (ea_cons (ev_var rfl ((Lay n its).st gc h0)) (ea_cons (ev_var rfl hx) ea_nil)) ⟨_, _, _, rfl, hw, rfl⟩), fun _ => ev_var rfl hx⟩
  · have := List.length_filter_le (losing n its) (sets n); omega
  · intro s h
    have := (sets_mem (List.mem_filter.mp h).1).len
    have := hw.hi
    omega
def R_minimal_keepers (As : List (SV c)) (Z : SV c) : Prop := ∃ (n : Nat) (its : List Itm), As = [Lay n its] ∧ WfL n its ∧ Z = LS (minKeepers n its)
abbrev N_minimal_keepers : List Str := ["layout", "up"]
theorem sc_minimal_keepers : FnScope N_minimal_keepers ["layout"] (defScope s_minimal_keepers) := ⟨rfl, rfl, rfl, by decide +kernel, rfl, by decide +kernel, by decide +kernel⟩
theorem ok_minimal_keepers (F : FnP c.K "minimal_keepers" "minimal_keepers" s_minimal_keepers f fd) (Bt : Bts c mg) (C : Cl c) (Il : IsL c) (h_check_layout : Has P w c.K mg base "check_layout" ["layout"] 1 (Pm c R_check_layout)) (h_minimal : Has P w c.K mg base "minimal" ["sets"] 2 (Pm c R_minimal)) (h_sets_of : Has P w c.K mg base "sets_of" ["servers"] 5 (Pm c R_sets_of)) (h_is_keeping : Has P w c.K mg base "is_keeping" ["layout", "up"] 5 (Pm c R_is_keeping)) : FnOk P w c.K mg base CX0 6 f fd ["layout"] (Pm c R_minimal_keepers) := by
  refine okP F sc_minimal_keepers (fun As Z h => by obtain ⟨_, _, rfl, _⟩ := h; rfl) fun cdv A outer s H vs Q E As Z hr hA hR g k => ?_
  have nd := sc_minimal_keepers.nd
  obtain ⟨n, its, rfl, hw, rfl⟩ := hR
  obtain ⟨v0, rfl, h0⟩ := hA.inv1
  have hs := sets_le hw.hi
  refine ⟨_, (pss_cons (ps_expr (pe_callH h_check_layout (hr.mono (by decide)) rfl (pa_cons (pv 0) pa_nil)))
    (pss_one (ps_ret (pe_callH h_minimal (hr.mono (by decide)) rfl (pa_cons (pe_lc (own := [("up", 1)]) rfl nd (pi_listQ (K := c.K) rfl (pe_callH h_sets_of (hr.mono (by decide)) rfl (pa_cons (pe_fldQ (K := c.K) rfl (pv 0) rfl) pa_nil))) (blkOk_by (own := [("up", 1)]) (N := N_minimal_keepers) (sc := defScope s_minimal_keepers) (by decide +kernel)) (fun _ _ _ _ _ => (pg_name (i := 1) nd rfl (Or.inl rfl))) (fun _ _ _ _ _ => (pts_one (pt_val (pe_callH h_is_keeping (hr.mono (by decide)) rfl (pa_cons (pv 0) (pa_cons (pv 1) pa_nil)))))) (fun _ _ _ _ _ => (pv 1))) pa_nil))))), ?_⟩
  refine q_drop g (ev_call (ea_cons (ev_var rfl h0) ea_nil) ⟨_, _, rfl, True.intro, rfl⟩) fun H1 g1 => ?_
  refine s_retG g1 (P := LS (minKeepers n its)) ?_ k
  refine ev_call (ea_cons (ef_lcm (sets n) S (keeping its) S (ei_list (ev_sets (ev_servers C (ev_var rfl h0)) hw.hi)) (by omega) fun a x Hc ha gc hx => ?_).ev ea_nil) ⟨_, rfl, ?_, ?_, rfl⟩
  · exact ⟨_, tg_name, rfl, et_B (ev_call (ea_cons (ev_var rfl ((Lay n its).st gc h0)) (ea_cons (ev_var rfl hx) ea_nil)) ⟨_, _, _, rfl, hw, sets_mem ha, rfl⟩), fun _ => ev_var rfl hx⟩
  · have := List.length_filter_le (keeping its) (sets n); omega
  · intro s h
    have := (sets_mem (List.mem_filter.mp h).1).len
    have := hw.hi
    omega
/-! Dual -/
theorem L_mut {Ps : List (SV c)} [TstL Ps] {v : V} {H : Hp} {x C d : Addr} {fs : List (Str × V)} {o : HO} (hx : H x = some (.ins C d fs)) (h : (L Ps).p v H) : (L Ps).p v (upd H x o) := by
  obtain ⟨a, vs, e, h1, h2⟩ := h
  exact ⟨a, vs, e, by rw [upd_ne (fun z => by rw [z, hx] at h1; cases h1)]; exact h1, h2.gt TstL.st (Gt.mut hx True.intro)⟩
def R_Dual_init (As : List (SV c)) (Z : SV c) : Prop := ∃ (ls ks : List (List Nat)), As = [LS ls, LS ks] ∧ ls.length ≤ 1000 ∧ ks.length ≤ 1000 ∧ Z = Du ls ks
abbrev N_Dual_init : List Str := ["self", "losses", "keepers", "some"]
theorem sc_Dual_init : FnScope N_Dual_init ["self", "losses", "keepers"] (defScope s_Dual_init) := ⟨rfl, rfl, rfl, by decide +kernel, rfl, by decide +kernel, by decide +kernel⟩
theorem ok_Dual_init (F : FnP c.K "__init__" "Dual.__init__" s_Dual_init f fd) (Bt : Bts c mg) (C : Cl c) (Il : IsL c)  : FnOk P w c.K mg base CX0 1 f fd ["self", "losses", "keepers"] (PmI c c.cD R_Dual_init) := by
  refine okI F sc_Dual_init (fun As Z h => by obtain ⟨_, _, rfl, _⟩ := h; rfl) fun cdv A outer s H H0 x d ws Q E As Z hr h0 g hx hA hR k => ?_
  have nd := sc_Dual_init.nd
  obtain ⟨ls, ks, rfl, hl, hk, rfl⟩ := hR
  obtain ⟨v1, v2, rfl, h1, h2⟩ := hA.inv2
  refine ⟨_, (pss_cons (ps_fld (pv 0) (pe_lc (own := [("some", 3)]) rfl nd (pi_listQ (K := c.K) rfl (pv 1)) (blkOk_by (own := [("some", 3)]) (N := N_Dual_init) (sc := defScope s_Dual_init) (by decide +kernel)) (fun _ _ _ _ _ => (pg_name (i := 3) nd rfl (Or.inl rfl))) (fun _ _ _ _ _ => pts_nil) (fun _ _ _ _ _ => (pe_callTy (cl_tupleQ (K := c.K) rfl) (by rfl) Bt.btuple (by decide +kernel) (pa_cons (pv 3) pa_nil)))) rfl)
    (pss_one (ps_fld (pv 0) (pe_lc (own := [("some", 3)]) rfl nd (pi_listQ (K := c.K) rfl (pv 2)) (blkOk_by (own := [("some", 3)]) (N := N_Dual_init) (sc := defScope s_Dual_init) (by decide +kernel)) (fun _ _ _ _ _ => (pg_name (i := 3) nd rfl (Or.inl rfl))) (fun _ _ _ _ _ => pts_nil) (fun _ _ _ _ _ => (pe_callTy (cl_tupleQ (K := c.K) rfl) (by rfl) Bt.btuple (by decide +kernel) (pa_cons (pv 3) pa_nil)))) rfl))), ?_⟩
  refine q_fld g hx rfl C.cd C.nL (by decide) (P := LS ls) (ef_lcA ls S S (ei_list (ev_var rfl h1)) (by omega) fun a x Hc ha gc hx => ⟨_, tg_name, rfl, ev_cb rc_tupT (ea_cons (ev_var rfl hx) ea_nil)⟩).ev fun v3 H3 g3 e3 hx3 => ?_
  have g4 : Gr c H0 (upd H3 x (.ins c.cD d (putF "losses" v3 []))) := (g.trans g3).mut h0 hx3 True.intro
  have e4 := L_mut (o := .ins c.cD d (putF "losses" v3 [])) hx3 e3
  refine s_fld g4 upd_same rfl C.cd C.nK (by show 1 < 1000; decide) (P := LS ks) (ef_lcA ks S S (ei_list (ev_var rfl h2)) (by omega) fun a x Hc ha gc hx => ⟨_, tg_name, rfl, ev_cb rc_tupT (ea_cons (ev_var rfl hx) ea_nil)⟩).ev fun v5 H5 g5 e5 hx5 => ?_
  have e6 := (LS ls).st g5 e4
  obtain ⟨l, us, rfl, -, -⟩ := id e6
  obtain ⟨k', us', rfl, -, -⟩ := id e5
  exact k _ ((g4.trans g5).mut h0 hx5 True.intro) ⟨x, d, l, k', rfl, upd_same, L_mut hx5 e6, L_mut hx5 e5⟩
def R_find_dual (As : List (SV c)) (Z : SV c) : Prop := ∃ (n : Nat) (its : List Itm), As = [Lay n its] ∧ WfL n its ∧ Z = Du (minLosses n its) (minKeepers n its)
theorem minimal_len (l : List (List Nat)) : (minimal l).length ≤ l.length := by
  have := fold_len (ys := l) (found := [])
  rw [List.length_nil] at this
  unfold minimal
  omega
theorem minL_len {n : Nat} {its : List Itm} (h : n ≤ 6) : (minLosses n its).length ≤ 64 := by
  have h1 := minimal_len ((sets n).filter (losing n its))
  have h2 := List.length_filter_le (losing n its) (sets n)
  have h3 := sets_le h
  unfold minLosses
  omega
theorem minK_len {n : Nat} {its : List Itm} (h : n ≤ 6) : (minKeepers n its).length ≤ 64 := by
  have h1 := minimal_len ((sets n).filter (keeping its))
  have h2 := List.length_filter_le (keeping its) (sets n)
  have h3 := sets_le h
  unfold minKeepers
  omega
abbrev N_find_dual : List Str := ["layout"]
theorem sc_find_dual : FnScope N_find_dual ["layout"] (defScope s_find_dual) := ⟨rfl, rfl, rfl, by decide +kernel, rfl, by decide +kernel, by decide +kernel⟩
theorem ok_find_dual (F : FnP c.K "find_dual" "find_dual" s_find_dual f fd) (Bt : Bts c mg) (C : Cl c) (Il : IsL c) (h_Dual : HasC P w c.K mg base "Dual" c.cD ["self", "losses", "keepers"] 1 (PmI c c.cD R_Dual_init)) (h_minimal_losses : Has P w c.K mg base "minimal_losses" ["layout"] 7 (Pm c R_minimal_losses)) (h_minimal_keepers : Has P w c.K mg base "minimal_keepers" ["layout"] 6 (Pm c R_minimal_keepers)) : FnOk P w c.K mg base CX0 8 f fd ["layout"] (Pm c R_find_dual) := by
  refine okP F sc_find_dual (fun As Z h => by obtain ⟨_, _, rfl, _⟩ := h; rfl) fun cdv A outer s H vs Q E As Z hr hA hR g k => ?_
  have nd := sc_find_dual.nd
  obtain ⟨n, its, rfl, hw, rfl⟩ := hR
  obtain ⟨v0, rfl, h0⟩ := hA.inv1
  refine ⟨_, (pss_one (ps_ret (pe_makeH h_Dual (hr.mono (by decide)) rfl (pa_cons (pe_callH h_minimal_losses (hr.mono (by decide)) rfl (pa_cons (pv 0) pa_nil)) (pa_cons (pe_callH h_minimal_keepers (hr.mono (by decide)) rfl (pa_cons (pv 0) pa_nil)) pa_nil))))), ?_⟩
  have l1 := minL_len (its := its) hw.hi
  have l2 := minK_len (its := its) hw.hi
  exact s_retG g (ev_make (ea_cons (ev_call (ea_cons (ev_var rfl h0) ea_nil) ⟨_, _, rfl, hw, rfl⟩) (ea_cons (ev_call (ea_cons (ev_var rfl h0) ea_nil) ⟨_, _, rfl, hw, rfl⟩) ea_nil)) ⟨_, _, rfl, by omega, by omega, rfl⟩).ev k
def R_Dual_settles (As : List (SV c)) (Z : SV c) : Prop := ∃ (n : Nat) (its : List Itm) (ls ks : List (List Nat)) (dn : List Nat), As = [Du ls ks, Lay n its, S dn] ∧ n ≤ 1000 ∧ ls.length ≤ 1000 ∧ ks.length ≤ 1000 ∧ (∀ s ∈ ls, s.length ≤ 1000) ∧ (∀ s ∈ ks, s.length ≤ 1000) ∧ Z = B (settles n ls ks dn)
abbrev N_Dual_settles : List Str := ["self", "layout", "down", "up", "some"]
theorem sc_Dual_settles : FnScope N_Dual_settles ["self", "layout", "down"] (defScope s_Dual_settles) := ⟨rfl, rfl, rfl, by decide +kernel, rfl, by decide +kernel, by decide +kernel⟩
theorem ok_Dual_settles (F : FnP c.K "settles" "Dual.settles" s_Dual_settles f fd) (Bt : Bts c mg) (C : Cl c) (Il : IsL c) (h_others_of : Has P w c.K mg base "others_of" ["servers", "some"] 1 (Pm c R_others_of)) (h_is_within : Has P w c.K mg base "is_within" ["one", "other"] 1 (Pm c R_is_within)) : FnOk P w c.K mg base CX0 2 f fd ["self", "layout", "down"] (Pm c R_Dual_settles) := by
  refine okP F sc_Dual_settles (fun As Z h => by obtain ⟨_, _, _, _, _, rfl, _⟩ := h; rfl) fun cdv A outer s H vs Q E As Z hr hA hR g k => ?_
  have nd := sc_Dual_settles.nd
  obtain ⟨n, its, ls, ks, dn, rfl, hn, hl, hk, hl', hk', rfl⟩ := hR
  obtain ⟨v0, v1, v2, rfl, h0, h1, h2⟩ := hA.inv3
  refine ⟨_, (pss_cons (ps_set (i := 3) nd rfl (Or.inr rfl) (pe_callH h_others_of (hr.mono (by decide)) rfl (pa_cons (pe_fldQ (K := c.K) rfl (pv 1) rfl) (pa_cons (pv 2) pa_nil))))
    (pss_cons (ps_if (pt_val (pe_callB (cr_anyQ (K := c.K) rfl rfl) (by rfl) Bt.bany (by decide +kernel) (pa_cons (pe_lc (own := [("some", 4)]) rfl nd (pi_listQ (K := c.K) rfl (pe_fldQ (K := c.K) rfl (pv 0) rfl)) (blkOk_by (own := [("some", 4)]) (N := N_Dual_settles) (sc := defScope s_Dual_settles) (by decide +kernel)) (fun _ _ _ _ _ => (pg_name (i := 4) nd rfl (Or.inl rfl))) (fun _ _ _ _ _ => pts_nil) (fun _ _ _ _ _ => (pe_callH h_is_within (hr.mono (by decide)) rfl (pa_cons (pv 4) (pa_cons (pv 2) pa_nil))))) pa_nil))) (pss_one (ps_ret pe_bl)) pss_nil)
    (pss_one (ps_ret (pe_callB (cr_anyQ (K := c.K) rfl rfl) (by rfl) Bt.bany (by decide +kernel) (pa_cons (pe_lc (own := [("some", 4)]) rfl nd (pi_listQ (K := c.K) rfl (pe_fldQ (K := c.K) rfl (pv 0) rfl)) (blkOk_by (own := [("some", 4)]) (N := N_Dual_settles) (sc := defScope s_Dual_settles) (by decide +kernel)) (fun _ _ _ _ _ => (pg_name (i := 4) nd rfl (Or.inl rfl))) (fun _ _ _ _ _ => pts_nil) (fun _ _ _ _ _ => (pe_callH h_is_within (hr.mono (by decide)) rfl (pa_cons (pv 4) (pa_cons (pv 3) pa_nil))))) pa_nil)))))), ?_⟩
  refine q_asg g (P := S (othersOf n dn)) (ev_call (ea_cons (ev_servers C (ev_var rfl h1)) (ea_cons (ev_var rfl h2) ea_nil)) ⟨_, _, rfl, hn, rfl⟩) fun u H1 g1 hu => ?_
  refine q_when (b := ls.any fun s => isWithin s dn) g1.self (EvT.to (et_B (ev_cb rc_any (ea_cons (Ev.to (ef_lcA ls S (fun o => B (isWithin o dn)) (ei_list (ev_losses C (ev_var rfl ((Du ls ks).st g1 h0)))) (by omega) fun o y Hc ho gc hy => ?_).ev (LB_map _ _)) ea_nil))) (by rw [anyB])) (fun hb H2 g2 => ?_) fun hb H2 g2 => ?_
  · exact ⟨_, tg_name, rfl, ev_call (ea_cons (ev_var rfl hy) (ea_cons (ev_var rfl ((S dn).st (g1.trans gc) h2)) ea_nil)) ⟨_, _, rfl, hl' o ho, rfl⟩⟩
  · refine s_retG (g1.trans g2) (P := B true) ev_c fun v H3 g3 e3 => k v H3 g3 ?_
    unfold settles
    rw [hb]
    exact e3
  · refine s_ret g2 (P := B (ks.any fun s => isWithin s (othersOf n dn))) ?_ fun v H3 g3 e3 => k v H3 ((g1.trans g2).trans g3) ?_
    · refine Ev.to (ev_cb rc_any (ea_cons (Ev.to (ef_lcA ks S (fun o => B (isWithin o (othersOf n dn))) (ei_list (ev_keepers C (ev_var rfl ((Du ls ks).st g1 h0)))) (by omega) fun o y Hc ho gc hy => ?_).ev (LB_map _ _)) ea_nil)) (by rw [anyB])
      exact ⟨_, tg_name, rfl, ev_call (ea_cons (ev_var rfl hy) (ea_cons (ev_var rfl ((S (othersOf n dn)).st gc hu)) ea_nil)) ⟨_, _, rfl, hk' o ho, rfl⟩⟩
    · unfold settles
      rw [hb]
      exact e3
def R_Dual_shows (As : List (SV c)) (Z : SV c) : Prop := ∃ (n : Nat) (its : List Itm) (ls ks : List (List Nat)), As = [Du ls ks, Lay n its] ∧ WfL n its ∧ ls.length ≤ 1000 ∧ ks.length ≤ 1000 ∧ (∀ s ∈ ls, WfS n s) ∧ (∀ s ∈ ks, WfS n s) ∧ Z = B (shows n its ls ks)
abbrev N_Dual_shows : List Str := ["self", "layout", "down", "some"]
theorem sc_Dual_shows : FnScope N_Dual_shows ["self", "layout"] (defScope s_Dual_shows) := ⟨rfl, rfl, rfl, by decide +kernel, rfl, by decide +kernel, by decide +kernel⟩
theorem ok_Dual_shows (F : FnP c.K "shows" "Dual.shows" s_Dual_shows f fd) (Bt : Bts c mg) (C : Cl c) (Il : IsL c) (h_check_layout : Has P w c.K mg base "check_layout" ["layout"] 1 (Pm c R_check_layout)) (h_is_set : Has P w c.K mg base "is_set" ["thing", "servers"] 2 (Pm c R_is_set)) (h_is_losing : Has P w c.K mg base "is_losing" ["layout", "down"] 6 (Pm c R_is_losing)) (h_is_keeping : Has P w c.K mg base "is_keeping" ["layout", "up"] 5 (Pm c R_is_keeping)) (h_sets_of : Has P w c.K mg base "sets_of" ["servers"] 5 (Pm c R_sets_of)) (h_Dual_settles : HasM P w c.K mg base c.cD "settles" ["self", "layout", "down"] 2 (Pm c R_Dual_settles)) : FnOk P w c.K mg base CX0 7 f fd ["self", "layout"] (Pm c R_Dual_shows) := by
  refine okP F sc_Dual_shows (fun As Z h => by obtain ⟨_, _, _, _, rfl, _⟩ := h; rfl) fun cdv A outer s H vs Q E As Z hr hA hR g k => ?_
  have nd := sc_Dual_shows.nd
  obtain ⟨n, its, ls, ks, rfl, hw, hl, hk, hl', hk', rfl⟩ := hR
  obtain ⟨v0, v1, rfl, h0, h1⟩ := hA.inv2
  have hwhi := hw.hi
  have hl2 : ∀ s ∈ ls, s.length ≤ 1000 := fun s hs => by have := (hl' s hs).len; omega
  have hk2 : ∀ s ∈ ks, s.length ≤ 1000 := fun s hs => by have := (hk' s hs).len; omega
  have hz := sets_le hw.hi
  refine ⟨_, (pss_cons (ps_expr (pe_callH h_check_layout (hr.mono (by decide)) rfl (pa_cons (pv 1) pa_nil)))
    (pss_cons (ps_if (pt_not (pt_val (pe_callB (cr_allQ (K := c.K) rfl rfl) (by rfl) Bt.ball (by decide +kernel) (pa_cons (pe_lc (own := [("some", 3)]) rfl nd (pi_listQ (K := c.K) rfl (pe_lst (pa_starQ (K := c.K) rfl (pe_fldQ (K := c.K) rfl (pv 0) rfl) (pa_starQ (K := c.K) rfl (pe_fldQ (K := c.K) rfl (pv 0) rfl) pa_nil)))) (blkOk_by (own := [("some", 3)]) (N := N_Dual_shows) (sc := defScope s_Dual_shows) (by decide +kernel)) (fun _ _ _ _ _ => (pg_name (i := 3) nd rfl (Or.inl rfl))) (fun _ _ _ _ _ => pts_nil) (fun _ _ _ _ _ => (pe_callH h_is_set (hr.mono (by decide)) rfl (pa_cons (pv 3) (pa_cons (pe_fldQ (K := c.K) rfl (pv 1) rfl) pa_nil))))) pa_nil)))) (pss_one (ps_ret pe_bl)) pss_nil)
    (pss_cons (ps_if (pt_not (pt_val (pe_callB (cr_allQ (K := c.K) rfl rfl) (by rfl) Bt.ball (by decide +kernel) (pa_cons (pe_lc (own := [("some", 3)]) rfl nd (pi_listQ (K := c.K) rfl (pe_fldQ (K := c.K) rfl (pv 0) rfl)) (blkOk_by (own := [("some", 3)]) (N := N_Dual_shows) (sc := defScope s_Dual_shows) (by decide +kernel)) (fun _ _ _ _ _ => (pg_name (i := 3) nd rfl (Or.inl rfl))) (fun _ _ _ _ _ => pts_nil) (fun _ _ _ _ _ => (pe_callH h_is_losing (hr.mono (by decide)) rfl (pa_cons (pv 1) (pa_cons (pv 3) pa_nil))))) pa_nil)))) (pss_one (ps_ret pe_bl)) pss_nil)
    (pss_cons (ps_if (pt_not (pt_val (pe_callB (cr_allQ (K := c.K) rfl rfl) (by rfl) Bt.ball (by decide +kernel) (pa_cons (pe_lc (own := [("some", 3)]) rfl nd (pi_listQ (K := c.K) rfl (pe_fldQ (K := c.K) rfl (pv 0) rfl)) (blkOk_by (own := [("some", 3)]) (N := N_Dual_shows) (sc := defScope s_Dual_shows) (by decide +kernel)) (fun _ _ _ _ _ => (pg_name (i := 3) nd rfl (Or.inl rfl))) (fun _ _ _ _ _ => pts_nil) (fun _ _ _ _ _ => (pe_callH h_is_keeping (hr.mono (by decide)) rfl (pa_cons (pv 1) (pa_cons (pv 3) pa_nil))))) pa_nil)))) (pss_one (ps_ret pe_bl)) pss_nil)
    (pss_one (ps_ret (pe_callB (cr_allQ (K := c.K) rfl rfl) (by rfl) Bt.ball (by decide +kernel) (pa_cons (pe_lc (own := [("down", 2)]) rfl nd (pi_listQ (K := c.K) rfl (pe_callH h_sets_of (hr.mono (by decide)) rfl (pa_cons (pe_fldQ (K := c.K) rfl (pv 1) rfl) pa_nil))) (blkOk_by (own := [("down", 2)]) (N := N_Dual_shows) (sc := defScope s_Dual_shows) (by decide +kernel)) (fun _ _ _ _ _ => (pg_name (i := 2) nd rfl (Or.inl rfl))) (fun _ _ _ _ _ => pts_nil) (fun _ _ _ _ _ => (pe_methH h_Dual_settles (hr.mono (by decide)) (pv 0) (pa_cons (pv 1) (pa_cons (pv 2) pa_nil))))) pa_nil)))))))), ?_⟩
  refine q_drop g (ev_call (ea_cons (ev_var rfl h1) ea_nil) ⟨_, _, rfl, True.intro, rfl⟩) fun H1 g1 => ?_
  refine q_no (H0 := H) g1 (EvT.to (et_not (et_B (ev_cb rc_all (ea_cons (Ev.to (ef_lcA (ls ++ ks) S (fun o => B true) (ei_list (Ev.to (ef_lst (ea_star (ev_losses C (ev_var rfl h0)) (ea_star (ev_keepers C (ev_var rfl h0)) ea_nil)) (by simp only [List.length_append, List.length_map, List.length_nil]; omega)).ev (by rw [List.append_nil, List.map_append]))) (by rw [List.length_append]; omega) fun o y Hc ho gc hy => ?_).ev (LB_map _ _)) ea_nil)))) (by rw [allB (fun _ _ => rfl)]; rfl)) fun H2 g2 => ?_
  · have hwo : WfS n o := (List.mem_append.mp ho).elim (hl' o) (hk' o)
    have := hwo.len
    exact ⟨_, tg_name, rfl, ev_call (ea_cons (ev_var rfl hy) (ea_cons (ev_servers C (ev_var rfl ((Lay n its).st gc h1))) ea_nil)) ⟨_, _, rfl, hwo, by omega, rfl⟩⟩
  have g12 := g1.trans g2
  refine q_when (b := !ls.all (losing n its)) (H0 := H) g12 (EvT.to (et_not (et_B (ev_cb rc_all (ea_cons (Ev.to (ef_lcA ls S (fun o => B (losing n its o)) (ei_list (ev_losses C (ev_var rfl h0))) (by omega) fun o y Hc ho gc hy => ?_).ev (LB_map _ _)) ea_nil)))) (by rw [allB'])) (fun hb H3 g3 => ?_) fun hb H3 g3 => ?_
  · exact ⟨_, tg_name, rfl, ev_call (ea_cons (ev_var rfl ((Lay n its).st gc h1)) (ea_cons (ev_var rfl hy) ea_nil)) ⟨_, _, _, rfl, hw, rfl⟩⟩
  · refine s_retG (g12.trans g3) (P := B false) ev_c fun v H4 g4 e4 => k v H4 g4 ?_
    unfold shows
    cases q : ls.all (losing n its) with
    | true => rw [q] at hb; cases hb
    | false => exact e4
  have g13 := g12.trans g3
  refine q_when (b := !ks.all (keeping its)) (H0 := H) g13 (EvT.to (et_not (et_B (ev_cb rc_all (ea_cons (Ev.to (ef_lcA ks S (fun o => B (keeping its o)) (ei_list (ev_keepers C (ev_var rfl h0))) (by omega) fun o y Hc ho gc hy => ?_).ev (LB_map _ _)) ea_nil)))) (by rw [allB'])) (fun hb2 H4 g4 => ?_) fun hb2 H4 g4 => ?_
  · exact ⟨_, tg_name, rfl, ev_call (ea_cons (ev_var rfl ((Lay n its).st gc h1)) (ea_cons (ev_var rfl hy) ea_nil)) ⟨_, _, _, rfl, hw, hk' o ho, rfl⟩⟩
  · refine s_retG (g13.trans g4) (P := B false) ev_c fun v H5 g5 e5 => k v H5 g5 ?_
    unfold shows
    cases q : ks.all (keeping its) with
    | true => rw [q] at hb2; cases hb2
    | false => rw [Bool.false_and, Bool.and_false]; exact e5
  have g14 := g13.trans g4
  refine s_retG g14 (P := B ((sets n).all (settles n ls ks))) ?_ fun v H5 g5 e5 => k v H5 g5 ?_
  · refine Ev.to (ev_cb rc_all (ea_cons (Ev.to (ef_lcA (sets n) S (fun o => B (settles n ls ks o)) (ei_list (ev_sets (ev_servers C (ev_var rfl h1)) hw.hi)) (by omega) fun o y Hc ho gc hy => ?_).ev (LB_map _ _)) ea_nil)) (by rw [allB'])
    exact ⟨_, tg_name, rfl, ev_meth (ev_var rfl ((Du ls ks).st gc h0)) (fun v H' ⟨a, d, l, k, h, h1, _⟩ => ⟨a, d, _, h, h1, pfD_no _ _ (by decide +kernel) (by decide +kernel)⟩) (ea_cons (ev_var rfl ((Lay n its).st gc h1)) (ea_cons (ev_var rfl hy) ea_nil)) ⟨_, _, _, _, _, rfl, by omega, hl, hk, hl2, hk2, rfl⟩⟩
  · unfold shows
    cases q : ls.all (losing n its) with
    | false => rw [q] at hb; cases hb
    | true =>
      cases q2 : ks.all (keeping its) with
      | false => rw [q2] at hb2; cases hb2
      | true => exact e5
end


section
open PySem PySem.Spec PyProof.Rows L2 LamX
variable {c : Cxt} {P : Program} {w : World} {mg : Str → Option Value} {base : Heap} {f : Addr} {fd : FuncData}
abbrev Fr (p : Int × Int) : SV c := Fr2 p.1 p.2
def R_tolerance (As : List (SV c)) (Z : SV c) : Prop := ∃ (n : Nat) (its : List Itm) (m : Int), As = [Lay n its] ∧ its.length ≤ 1000 ∧ m ∈ its.map spare ∧ (∀ y ∈ its.map spare, m ≤ y) ∧ Z = I m
abbrev N_tolerance : List Str := ["layout", "holders", "need"]
theorem sc_tolerance : FnScope N_tolerance ["layout"] (defScope s_tolerance) := ⟨rfl, rfl, rfl, by decide +kernel, rfl, by decide +kernel, by decide +kernel⟩
theorem ok_tolerance (F : FnP c.K "tolerance" "tolerance" s_tolerance f fd) (Bt : Bts c mg) (C : Cl c) (Il : IsL c) (h_check_layout : Has P w c.K mg base "check_layout" ["layout"] 1 (Pm c R_check_layout)) : FnOk P w c.K mg base CX0 2 f fd ["layout"] (Pm c R_tolerance) := by
  refine okP F sc_tolerance (fun As Z h => by obtain ⟨_, _, _, rfl, _⟩ := h; rfl) fun cdv A outer s H vs Q E As Z hr hA hR g k => ?_
  have nd := sc_tolerance.nd
  obtain ⟨n, its, m, rfl, hl, hm, hle, rfl⟩ := hR
  obtain ⟨v0, rfl, h0⟩ := hA.inv1
  refine ⟨_, (pss_cons (ps_expr (pe_callH h_check_layout (hr.mono (by decide)) rfl (pa_cons (pv 0) pa_nil)))
    (pss_one (ps_ret (pe_callB (cr_minQ (K := c.K) rfl rfl) (by rfl) Bt.bmin (by decide +kernel) (pa_cons (pe_lc (own := [("holders", 1), ("need", 2)]) rfl nd (pi_tupQ (K := c.K) rfl (pe_fldQ (K := c.K) rfl (pv 0) rfl)) (blkOk_by (own := [("holders", 1), ("need", 2)]) (N := N_tolerance) (sc := defScope s_tolerance) (by decide +kernel)) (fun _ _ _ _ _ => (pg_tupQ (K := c.K) (n := 2) rfl rfl (pgs_cons (pg_name (i := 1) nd rfl (Or.inl rfl)) (pgs_cons (pg_name (i := 2) nd rfl (Or.inl rfl)) pgs_nil)))) (fun _ _ _ _ _ => pts_nil) (fun _ _ _ _ _ => (pe_op op_sub (pe_callB (cl_lenQ (K := c.K) rfl) (by rfl) Bt.blen (by decide +kernel) (pa_cons (pv 1) pa_nil)) (pv 2)))) pa_nil))))), ?_⟩
  refine q_drop g (ev_call (ea_cons (ev_var rfl h0) ea_nil) ⟨_, _, rfl, True.intro, rfl⟩) fun H1 g1 => ?_
  refine s_retG g1 (ev_cb (rc_min hm hle) (ea_cons (Ev.to (ef_lcA its It1 (fun it => I (spare it)) (ei_tup (ev_entries C (ev_var rfl h0))) (by omega) fun a x Hc ha gc hx => ?_).ev (LI_map _ _)) ea_nil)) k
  obtain ⟨x1, x2, e1, e2, ht⟩ := tg_pair hx
  refine ⟨_, ht tg_name tg_name, rfl, Ev.to (ev_op rv_I0 (ev_cb rc_lenT (ea_cons (ev_var rfl e1) ea_nil)) (ev_var rfl e2)) ?_⟩
  rw [List.length_map]
  rfl
def R_count_losses (As : List (SV c)) (Z : SV c) : Prop := ∃ (n : Nat) (its : List Itm), As = [Lay n its] ∧ WfL n its ∧ Z = S (countLosses n its)
abbrev N_count_losses : List Str := ["layout", "sizes", "down", "size"]
theorem sc_count_losses : FnScope N_count_losses ["layout"] (defScope s_count_losses) := ⟨rfl, rfl, rfl, by decide +kernel, rfl, by decide +kernel, by decide +kernel⟩
theorem ok_count_losses (F : FnP c.K "count_losses" "count_losses" s_count_losses f fd) (Bt : Bts c mg) (C : Cl c) (Il : IsL c) (h_check_layout : Has P w c.K mg base "check_layout" ["layout"] 1 (Pm c R_check_layout)) (h_sets_of : Has P w c.K mg base "sets_of" ["servers"] 5 (Pm c R_sets_of)) (h_is_losing : Has P w c.K mg base "is_losing" ["layout", "down"] 6 (Pm c R_is_losing)) : FnOk P w c.K mg base CX0 7 f fd ["layout"] (Pm c R_count_losses) := by
  refine okP F sc_count_losses (fun As Z h => by obtain ⟨_, _, rfl, _⟩ := h; rfl) fun cdv A outer s H vs Q E As Z hr hA hR g k => ?_
  have nd := sc_count_losses.nd
  obtain ⟨n, its, rfl, hw, rfl⟩ := hR
  obtain ⟨v0, rfl, h0⟩ := hA.inv1
  have hz := sets_le hw.hi
  have hhi := hw.hi
  refine ⟨_, (pss_cons (ps_expr (pe_callH h_check_layout (hr.mono (by decide)) rfl (pa_cons (pv 0) pa_nil)))
    (pss_cons (ps_set (i := 1) nd rfl (Or.inr rfl) (pe_lc (own := [("down", 2)]) rfl nd (pi_listQ (K := c.K) rfl (pe_callH h_sets_of (hr.mono (by decide)) rfl (pa_cons (pe_fldQ (K := c.K) rfl (pv 0) rfl) pa_nil))) (blkOk_by (own := [("down", 2)]) (N := N_count_losses) (sc := defScope s_count_losses) (by decide +kernel)) (fun _ _ _ _ _ => (pg_name (i := 2) nd rfl (Or.inl rfl))) (fun _ _ _ _ _ => (pts_one (pt_val (pe_callH h_is_losing (hr.mono (by decide)) rfl (pa_cons (pv 0) (pa_cons (pv 2) pa_nil)))))) (fun _ _ _ _ _ => (pe_callB (cl_lenQ (K := c.K) rfl) (by rfl) Bt.blen (by decide +kernel) (pa_cons (pv 2) pa_nil)))))
    (pss_one (ps_ret (pe_callTy (cl_tupleQ (K := c.K) rfl) (by rfl) Bt.btuple (by decide +kernel) (pa_cons (pe_lc (own := [("size", 3)]) rfl nd (pi_range1 (by rfl) Bt.brange (pa_cons (pe_op op_add (pe_fldQ (K := c.K) rfl (pv 0) rfl) pe_int) pa_nil)) (blkOk_by (own := [("size", 3)]) (N := N_count_losses) (sc := defScope s_count_losses) (by decide +kernel)) (fun _ _ _ _ _ => (pg_name (i := 3) nd rfl (Or.inl rfl))) (fun _ _ _ _ _ => pts_nil) (fun _ _ _ _ _ => (pe_countQ (K := c.K) rfl (pv 1) (pa_cons (pv 3) pa_nil)))) pa_nil)))))), ?_⟩
  refine q_drop g (ev_call (ea_cons (ev_var rfl h0) ea_nil) ⟨_, _, rfl, True.intro, rfl⟩) fun H1 g1 => ?_
  refine q_asg g1 (P := LN (((sets n).filter (losing n its)).map List.length)) (Ev.to (ef_lcm (sets n) S (losing n its) (fun s => I (s.length : Int)) (ei_list (ev_sets (ev_servers C (ev_var rfl h0)) hw.hi)) (by omega) fun a x Hc ha gc hx => ?_).ev (LN_map _ _)) fun v1 H2 g2 h1 => ?_
  · exact ⟨_, tg_name, rfl, et_B (ev_call (ea_cons (ev_var rfl ((Lay n its).st gc h0)) (ea_cons (ev_var rfl hx) ea_nil)) ⟨_, _, _, rfl, hw, rfl⟩), fun _ => Ev.to (ev_cb rc_lenT (ea_cons (ev_var rfl hx) ea_nil)) (by rw [List.length_map])⟩
  · have g12 := g1.trans g2
    refine s_ret g2.self (P := S (countLosses n its)) ?_ fun v H3 g3 e3 => k v H3 (g12.trans g3) e3
    refine Ev.to (ef_cb rf_tuple (ea_cons (ef_lcA (List.range (n + 1)) (fun k : Nat => I (k : Int)) (fun k => I (((((sets n).filter (losing n its)).map List.length).count k : Nat) : Int)) (es_range1 (ea_cons (Ev.to (ev_op rv_I0 (ev_servers C (ev_var rfl ((Lay n its).st g12 h0))) ev_c) (by rfl)) ea_nil) (by omega)).i (by rw [List.length_range]; omega) fun a x Hc ha gc hx => ?_).ev ea_nil)).ev (by unfold countLosses S; rw [List.map_map]; rfl)
    exact ⟨_, tg_name, rfl, ev_count (ev_var rfl ((LN _).st gc h1)) (ev_var rfl hx)⟩
def R_essential (As : List (SV c)) (Z : SV c) : Prop := ∃ (n : Nat) (its : List Itm), As = [Lay n its] ∧ WfL n its ∧ Z = LN (essential n its)
abbrev N_essential : List Str := ["layout", "server"]
theorem sc_essential : FnScope N_essential ["layout"] (defScope s_essential) := ⟨rfl, rfl, rfl, by decide +kernel, rfl, by decide +kernel, by decide +kernel⟩
theorem ok_essential (F : FnP c.K "essential" "essential" s_essential f fd) (Bt : Bts c mg) (C : Cl c) (Il : IsL c) (h_check_layout : Has P w c.K mg base "check_layout" ["layout"] 1 (Pm c R_check_layout)) (h_is_losing : Has P w c.K mg base "is_losing" ["layout", "down"] 6 (Pm c R_is_losing)) : FnOk P w c.K mg base CX0 7 f fd ["layout"] (Pm c R_essential) := by
  refine okP F sc_essential (fun As Z h => by obtain ⟨_, _, rfl, _⟩ := h; rfl) fun cdv A outer s H vs Q E As Z hr hA hR g k => ?_
  have nd := sc_essential.nd
  obtain ⟨n, its, rfl, hw, rfl⟩ := hR
  obtain ⟨v0, rfl, h0⟩ := hA.inv1
  have hhi := hw.hi
  refine ⟨_, (pss_cons (ps_expr (pe_callH h_check_layout (hr.mono (by decide)) rfl (pa_cons (pv 0) pa_nil)))
    (pss_one (ps_ret (pe_lc (own := [("server", 1)]) rfl nd (pi_range1 (by rfl) Bt.brange (pa_cons (pe_fldQ (K := c.K) rfl (pv 0) rfl) pa_nil)) (blkOk_by (own := [("server", 1)]) (N := N_essential) (sc := defScope s_essential) (by decide +kernel)) (fun _ _ _ _ _ => (pg_name (i := 1) nd rfl (Or.inl rfl))) (fun _ _ _ _ _ => (pts_one (pt_val (pe_callH h_is_losing (hr.mono (by decide)) rfl (pa_cons (pv 0) (pa_cons (pe_tup (pa_cons (pv 1) pa_nil)) pa_nil)))))) (fun _ _ _ _ _ => (pv 1)))))), ?_⟩
  refine q_drop g (ev_call (ea_cons (ev_var rfl h0) ea_nil) ⟨_, _, rfl, True.intro, rfl⟩) fun H1 g1 => ?_
  refine s_retG g1 (P := LN (essential n its)) (ef_lcm (List.range n) (fun k : Nat => I (k : Int)) (fun k => losing n its [k]) (fun k : Nat => I (k : Int)) (es_range1 (ea_cons (ev_servers C (ev_var rfl h0)) ea_nil) (by omega)).i (by rw [List.length_range]; omega) fun a x Hc ha gc hx => ?_).ev k
  exact ⟨_, tg_name, rfl, et_B (ev_call (ea_cons (ev_var rfl ((Lay n its).st gc h0)) (ea_cons (P := S [a]) (ef_tup (Ps := [I (a : Int)]) (ea_cons (ev_var rfl hx) ea_nil) (by simp)).ev ea_nil)) ⟨_, _, _, rfl, hw, rfl⟩), fun _ => ev_var rfl hx⟩
def R_useless (As : List (SV c)) (Z : SV c) : Prop := ∃ (n : Nat) (its : List Itm), As = [Lay n its] ∧ WfL n its ∧ Z = LN (useless n its)
abbrev N_useless : List Str := ["layout", "keepers", "server", "some"]
theorem sc_useless : FnScope N_useless ["layout"] (defScope s_useless) := ⟨rfl, rfl, rfl, by decide +kernel, rfl, by decide +kernel, by decide +kernel⟩
theorem ok_useless (F : FnP c.K "useless" "useless" s_useless f fd) (Bt : Bts c mg) (C : Cl c) (Il : IsL c) (h_minimal_keepers : Has P w c.K mg base "minimal_keepers" ["layout"] 6 (Pm c R_minimal_keepers)) : FnOk P w c.K mg base CX0 7 f fd ["layout"] (Pm c R_useless) := by
  refine okP F sc_useless (fun As Z h => by obtain ⟨_, _, rfl, _⟩ := h; rfl) fun cdv A outer s H vs Q E As Z hr hA hR g k => ?_
  have nd := sc_useless.nd
  obtain ⟨n, its, rfl, hw, rfl⟩ := hR
  obtain ⟨v0, rfl, h0⟩ := hA.inv1
  have hhi := hw.hi
  have hk := minK_len (its := its) hw.hi
  refine ⟨_, (pss_cons (ps_set (i := 1) nd rfl (Or.inr rfl) (pe_callH h_minimal_keepers (hr.mono (by decide)) rfl (pa_cons (pv 0) pa_nil)))
    (pss_one (ps_ret (pe_lc (own := [("server", 2)]) rfl nd (pi_range1 (by rfl) Bt.brange (pa_cons (pe_fldQ (K := c.K) rfl (pv 0) rfl) pa_nil)) (blkOk_by (own := [("server", 2)]) (N := N_useless) (sc := defScope s_useless) (by decide +kernel)) (fun _ _ _ _ _ => (pg_name (i := 2) nd rfl (Or.inr rfl))) (fun _ _ _ _ _ => (pts_one (pt_not (pt_val (pe_callB (cr_anyQ (K := c.K) rfl rfl) (by rfl) Bt.bany (by decide +kernel) (pa_cons (pe_lc (own := [("some", 3)]) rfl nd (pi_listQ (K := c.K) rfl (pv 1)) (by exact blkOk_by (by rfl)) (fun _ _ _ _ _ => (pg_name (i := 3) nd rfl (Or.inl rfl))) (fun _ _ _ _ _ => pts_nil) (fun _ _ _ _ _ => (pe_cmpR (op_inQ (K := c.K) rfl) (pv 2) (pv 3) rfl))) pa_nil)))))) (fun _ _ _ _ _ => (pv 2)))))), ?_⟩
  refine q_asg g (P := LS (minKeepers n its)) (ev_call (ea_cons (ev_var rfl h0) ea_nil) ⟨_, _, rfl, hw, rfl⟩) fun v1 H1 g1 h1 => ?_
  refine s_ret g1.self (P := LN (useless n its)) (ef_lcm (List.range n) (fun k : Nat => I (k : Int)) (fun s => !(minKeepers n its).any fun k => decide (s ∈ k)) (fun k : Nat => I (k : Int)) (es_range1 (ea_cons (ev_servers C (ev_var rfl ((Lay n its).st g1 h0))) ea_nil) (by omega)).i (by rw [List.length_range]; omega) fun a x Hc ha gc hx => ?_).ev fun v H2 g2 e2 => k v H2 (g1.trans g2) e2
  refine ⟨_, tg_name, rfl, EvT.to (et_not (et_B (ev_cb rc_any (ea_cons (Ev.to (ef_lcA (minKeepers n its) S (fun o => B (decide (a ∈ o))) (ei_list (ev_var rfl ((LS _).st gc h1))) (by omega) fun o y Hc ho gc hy => ?_).ev (LB_map _ _)) ea_nil)))) (by rw [anyB]), fun _ => ev_var rfl hx⟩
  exact ⟨_, tg_name, rfl, ev_op rv_inS (ev_var rfl ((I (a : Int)).st gc hx)) (ev_var rfl hy)⟩
/-! numbers -/
theorem fact_le : ∀ n, n ≤ 7 → fact n ≤ 5040 := by decide
def R_factorial (As : List (SV c)) (Z : SV c) : Prop := ∃ m : Nat, As = [I (m : Int)] ∧ m ≤ 6 ∧ Z = I (fact m : Int)
abbrev N_factorial : List Str := ["many", "found", "late"]
theorem sc_factorial : FnScope N_factorial ["many"] (defScope s_factorial) := ⟨rfl, rfl, rfl, by decide +kernel, rfl, by decide +kernel, by decide +kernel⟩
theorem ok_factorial (F : FnP c.K "factorial" "factorial" s_factorial f fd) (Bt : Bts c mg) (C : Cl c) (Il : IsL c)  : FnOk P w c.K mg base CX0 1 f fd ["many"] (Pm c R_factorial) := by
  refine okP F sc_factorial (fun As Z h => by obtain ⟨_, rfl, _⟩ := h; rfl) fun cdv A outer s H vs Q E As Z hr hA hR g k => ?_
  have nd := sc_factorial.nd
  obtain ⟨m, rfl, hm, rfl⟩ := hR
  obtain ⟨v0, rfl, h0⟩ := hA.inv1
  refine ⟨_, (pss_cons (ps_set (i := 1) nd rfl (Or.inl rfl) pe_int)
    (pss_cons (ps_for PassesOwn.never rfl (pi_range2 (by rfl) Bt.brange (pa_cons pe_int (pa_cons (pe_op op_add (pv 0) pe_int) pa_nil))) (pg_name (i := 2) nd rfl (Or.inl rfl)) (pss_one (ps_aug (i := 1) nd rfl (Or.inl rfl) (pv 2) ip_mul)))
    (pss_one (ps_ret (pv 1))))), ?_⟩
  refine q_asg g (P := I 1) ev_c fun v1 H1 g1 h1 => ?_
  obtain rfl : v1 = _ := h1
  refine q_forP (List.range (m + 1 - 2)) (fun k : Nat => I (2 + (k : Int))) g1 (es_range2 (lo := 2) (n := m + 1) (ea_cons ev_c (ea_cons (Ev.to (ev_op rv_I0 (ev_var rfl h0) ev_c) (by rfl)) ea_nil)) (by omega) (by omega)) (fun i σ' _ => ∃ u, σ' = [some v0, some (.int (fact (i + 1) : Nat)), u]) (fun H2 g2 => ⟨none, rfl⟩) ?_ ?_
  · rintro i a x σ' H' hi gp ⟨u, rfl⟩ H2 g2 hx
    have hil : i < m + 1 - 2 := by have := (List.getElem?_eq_some_iff.mp hi).1; rw [List.length_range] at this; exact this
    have ha : a = i := by
      obtain ⟨h1, h2⟩ := List.getElem?_eq_some_iff.mp hi
      rw [List.getElem_range] at h2
      exact h2.symm
    subst ha
    have hf := fact_le (a + 1) (by omega)
    show tAug _ _ _ _ _ _
    refine s_aug g2.self rfl (P := I ((fact (a + 1) : Nat) : Int)) rfl (ev_var rfl hx) (rv_ipM (wide_mul (a := 64) (b := 64) (by rw [Int.natAbs_natCast]; exact Nat.lt_of_le_of_lt hf (by decide)) (by exact Nat.lt_of_le_of_lt (show (2 + (a : Int)).natAbs ≤ 100 by omega) (by decide)) (by decide) (by decide) (by decide))) fun v H3 g3 e3 => ⟨(gp.trans g2).trans g3, some x, ?_⟩
    obtain rfl : v = _ := e3
    have e4 : ((fact (a + 1) : Nat) : Int) * (2 + (a : Int)) = ((fact (a + 1 + 1) : Nat) : Int) := by
      show _ = (((a + 1 + 1) * fact (a + 1) : Nat) : Int)
      rw [Int.natCast_mul, Int.mul_comm]
      congr 1
      omega
    rw [e4]
    rfl
  · rintro σ' H' gp ⟨u, rfl⟩
    refine s_retG gp (P := I (fact m : Int)) (ev_var rfl ?_) k
    rw [List.length_range]
    show V.int _ = V.int _
    have e : fact (m + 1 - 2 + 1) = fact m := by
      cases m with
      | zero => rfl
      | succ m => rfl
    rw [e]
def R_comb (As : List (SV c)) (Z : SV c) : Prop := ∃ n k : Nat, As = [I (n : Int), I (k : Int)] ∧ n ≤ 6 ∧ k ≤ n ∧ Z = I (comb n k : Int)
theorem fact_pos : ∀ n, n ≤ 7 → 0 < fact n := by decide
abbrev N_comb : List Str := ["many", "few"]
theorem sc_comb : FnScope N_comb ["many", "few"] (defScope s_comb) := ⟨rfl, rfl, rfl, by decide +kernel, rfl, by decide +kernel, by decide +kernel⟩
theorem ok_comb (F : FnP c.K "comb" "comb" s_comb f fd) (Bt : Bts c mg) (C : Cl c) (Il : IsL c) (h_factorial : Has P w c.K mg base "factorial" ["many"] 1 (Pm c R_factorial)) : FnOk P w c.K mg base CX0 2 f fd ["many", "few"] (Pm c R_comb) := by
  refine okP F sc_comb (fun As Z h => by obtain ⟨_, _, rfl, _⟩ := h; rfl) fun cdv A outer s H vs Q E As Z hr hA hR g k => ?_
  have nd := sc_comb.nd
  obtain ⟨n, m, rfl, hn, hm, rfl⟩ := hR
  obtain ⟨v0, v1, rfl, h0, h1⟩ := hA.inv2
  refine ⟨_, (pss_cons (ps_if (pt_cmpR op_gt (pv 1) (pv 0) (nomark _)) (pss_one (ps_ret pe_int)) pss_nil)
    (pss_one (ps_ret (pe_op op_fdiv (pe_callH h_factorial (hr.mono (by decide)) rfl (pa_cons (pv 0) pa_nil)) (pe_op op_mul (pe_callH h_factorial (hr.mono (by decide)) rfl (pa_cons (pv 1) pa_nil)) (pe_callH h_factorial (hr.mono (by decide)) rfl (pa_cons (pe_op op_sub (pv 0) (pv 1)) pa_nil))))))), ?_⟩
  refine q_no g (EvT.to (et_test (ev_op rv_I0 (ev_var rfl h1) (ev_var rfl h0))) (decide_eq_false (by omega))) fun H1 g1 => ?_
  have b1 := fact_le m (by omega)
  have b2 := fact_le (n - m) (by omega)
  have p1 := fact_pos m (by omega)
  have p2 := fact_pos (n - m) (by omega)
  have hlt : fact m * fact (n - m) < 1073741824 := Nat.lt_of_le_of_lt (Nat.mul_le_mul b1 b2) (by decide)
  have hpos : 0 < fact m * fact (n - m) := Nat.mul_pos p1 p2
  refine s_retG g1 (P := I (comb n m : Int)) ?_ k
  have hc : CDiv (fact n : Int) (((fact m * fact (n - m) : Nat)) : Int) := ⟨by omega, by omega⟩
  rw [Int.natCast_mul] at hc
  refine Ev.to (ev_op (rv_I hc) (ev_call (ea_cons (ev_var rfl h0) ea_nil) ⟨_, rfl, hn, rfl⟩) (ev_op (rv_I (.inl ⟨by omega, by omega⟩)) (ev_call (ea_cons (ev_var rfl h1) ea_nil) ⟨_, rfl, by omega, rfl⟩) (ev_call (ea_cons (Ev.to (ev_op rv_I0 (ev_var rfl h0) (ev_var rfl h1)) (congrArg (fun i : Int => I i) (show (n : Int) - (m : Int) = ((n - m : Nat) : Int) by omega))) ea_nil) ⟨_, rfl, by omega, rfl⟩))) ?_
  unfold comb
  rw [if_neg (by omega), Int.natCast_ediv, Int.natCast_mul]
end


section
open PySem PySem.Spec PyProof.Rows L2 LamX
variable {c : Cxt} {P : Program} {w : World} {mg : Str → Option Value} {base : Heap} {f : Addr} {fd : FuncData}
def R_check_chances (As : List (SV c)) (Z : SV c) : Prop := ∃ (n : Nat) (its : List Itm) (ch : List Nat), As = [Lay n its, S ch] ∧ ch.length = n ∧ n ≤ 1000 ∧ (∀ x ∈ ch, x ≤ 12) ∧ Z = Nn
abbrev N_check_chances : List Str := ["layout", "chances", "chance"]
theorem sc_check_chances : FnScope N_check_chances ["layout", "chances"] (defScope s_check_chances) := ⟨rfl, rfl, rfl, by decide +kernel, rfl, by decide +kernel, by decide +kernel⟩
theorem ok_check_chances (F : FnP c.K "check_chances" "check_chances" s_check_chances f fd) (Bt : Bts c mg) (C : Cl c) (Il : IsL c) (h_is_number : Has P w c.K mg base "is_number" ["thing", "least", "most"] 1 (Pm c R_is_number)) : FnOk P w c.K mg base CX0 2 f fd ["layout", "chances"] (Pm c R_check_chances) := by
  refine okP F sc_check_chances (fun As Z h => by obtain ⟨_, _, _, rfl, _⟩ := h; rfl) fun cdv A outer s H vs Q E As Z hr hA hR g k => ?_
  have nd := sc_check_chances.nd
  obtain ⟨n, its, ch, rfl, hl, hn, hm, rfl⟩ := hR
  obtain ⟨v0, v1, rfl, h0, h1⟩ := hA.inv2
  refine ⟨_, (pss_cons (ps_if (PW.pt (pw_or (pt_not (pt_val (pe_callB (cl_isiQ (K := c.K) rfl) (by rfl) Bt.bisinstance (by decide +kernel) (pa_cons (pv 1) (pa_cons (pe_bltn (v := .ty "tuple") (by rfl) Bt.btuple (by decide +kernel) rfl) pa_nil))))) (pw_or1 (pt_cmpR op_ne (pe_callB (cl_lenQ (K := c.K) rfl) (by rfl) Bt.blen (by decide +kernel) (pa_cons (pv 1) pa_nil)) (pe_fldQ (K := c.K) rfl (pv 0) rfl) (nomark _))))) pss_never pss_nil)
    (pss_one (ps_if (pt_not (pt_val (pe_callB (cr_allQ (K := c.K) rfl rfl) (by rfl) Bt.ball (by decide +kernel) (pa_cons (pe_lc (own := [("chance", 2)]) rfl nd (pi_tupQ (K := c.K) rfl (pv 1)) (blkOk_by (own := [("chance", 2)]) (N := N_check_chances) (sc := defScope s_check_chances) (by decide +kernel)) (fun _ _ _ _ _ => (pg_name (i := 2) nd rfl (Or.inl rfl))) (fun _ _ _ _ _ => pts_nil) (fun _ _ _ _ _ => (pe_callH h_is_number (hr.mono (by decide)) rfl (pa_cons (pv 2) (pa_cons pe_int (pa_cons (pe_glob (v := .int 12) rfl Bt.WHOLE.choose_spec ⟨_, rfl⟩) pa_nil)))))) pa_nil)))) pss_never pss_nil))), ?_⟩
  refine q_no g (EvT.to (et_or (et_not (et_B (ev_cb rc_isTup (ea_cons (ev_var rfl h1) (ea_cons ev_c ea_nil))))) fun _ => et_test (ev_op rv_neI (ev_cb rc_lenT (ea_cons (ev_var rfl h1) ea_nil)) (ev_servers C (ev_var rfl h0)))) ?_) fun H1 g1 => ?_
  · rw [List.length_map, hl, decide_eq_true rfl]
    rfl
  · refine s_noN g1 (EvT.to (et_not (et_B (ev_cb rc_all (ea_cons (Ev.to (ef_lcA ch (fun k : Nat => I (k : Int)) (fun _ => B true) (ei_tup (ev_var rfl h1)) (by omega) fun a x Hc ha gc hx => ?_).ev (LB_map _ _)) ea_nil)))) (by rw [allB (fun _ _ => rfl)]; rfl)) fun H2 g2 => k .non H2 (g1.trans g2) rfl
    have := hm a ha
    exact ⟨_, tg_name, rfl, ev_call (ea_cons (ev_var rfl hx) (ea_cons ev_c (ea_cons ev_c ea_nil))) ⟨_, _, _, rfl, by omega, by omega, rfl⟩⟩
theorem nat_one {ns : List Nat} {Z : SV c} {i : Nat} (h : (ns.map fun k : Nat => I (c := c) (k : Int))[i]? = some Z) : ∃ k, ns[i]? = some k ∧ Z = I (k : Int) := by
  rw [List.getElem?_map] at h
  cases q : ns[i]? with
  | none => rw [q] at h; cases h
  | some k => rw [q] at h; exact ⟨k, rfl, (Option.some.inj h).symm⟩
theorem fold_le {ch : List (Nat × Nat)} {down : List Nat} (h : ∀ p ∈ ch, p.1 ≤ 12) : ∀ a, ch.foldl (fun a p => a * (if p.2 ∈ down then p.1 else 12 - p.1)) a ≤ a * 12 ^ ch.length := by
  induction ch with
  | nil => intro a; simp
  | cons p ch ih =>
    intro a
    rw [List.foldl_cons, List.length_cons]
    refine Nat.le_trans (ih (fun q hq => h q (List.mem_cons_of_mem _ hq)) _) ?_
    have hp := h p (List.mem_cons_self ..)
    rw [Nat.pow_succ, Nat.mul_comm (12 ^ ch.length) 12, ← Nat.mul_assoc]
    refine Nat.mul_le_mul_right _ (Nat.mul_le_mul_left _ ?_)
    split <;> omega
def R_weight_of (As : List (SV c)) (Z : SV c) : Prop := ∃ (ch down : List Nat), As = [S ch, S down] ∧ ch.length ≤ 6 ∧ (∀ x ∈ ch, x ≤ 12) ∧ Z = I (weightOf ch down : Int)
abbrev N_weight_of : List Str := ["chances", "down", "found", "server", "chance"]
theorem sc_weight_of : FnScope N_weight_of ["chances", "down"] (defScope s_weight_of) := ⟨rfl, rfl, rfl, by decide +kernel, rfl, by decide +kernel, by decide +kernel⟩
theorem ok_weight_of (F : FnP c.K "weight_of" "weight_of" s_weight_of f fd) (Bt : Bts c mg) (C : Cl c) (Il : IsL c)  : FnOk P w c.K mg base CX0 1 f fd ["chances", "down"] (Pm c R_weight_of) := by
  refine okP F sc_weight_of (fun As Z h => by obtain ⟨_, _, rfl, _⟩ := h; rfl) fun cdv A outer s H vs Q E As Z hr hA hR g k => ?_
  have nd := sc_weight_of.nd
  obtain ⟨ch, dn, rfl, hl, hm, rfl⟩ := hR
  obtain ⟨v0, v1, rfl, h0, h1⟩ := hA.inv2
  refine ⟨_, (pss_cons (ps_set (i := 2) nd rfl (Or.inl rfl) pe_int)
    (pss_cons (ps_for PassesOwn.never rfl (pi_enumTQ (K := c.K) rfl (by rfl) Bt.benumerate (pa_cons (pv 0) pa_nil)) (pg_tupQ (K := c.K) (n := 2) rfl rfl (pgs_cons (pg_name (i := 3) nd rfl (Or.inl rfl)) (pgs_cons (pg_name (i := 4) nd rfl (Or.inl rfl)) pgs_nil))) (pss_one (ps_aug (i := 2) nd rfl (Or.inl rfl) (pe_ifExp (pt_cmpR (op_inQ (K := c.K) rfl) (pv 3) (pv 1) rfl) (pv 4) (pe_op op_sub (pe_glob (v := .int 12) rfl Bt.WHOLE.choose_spec ⟨_, rfl⟩) (pv 4))) ip_mul)))
    (pss_one (ps_ret (pv 2))))), ?_⟩
  refine q_asg g (P := I 1) ev_c fun v2 H1 g1 h2 => ?_
  obtain rfl : v2 = _ := h2
  refine q_forP ch.zipIdx (fun p => TupOf [I (p.2 : Int), I (p.1 : Int)]) g1 (es_enumT (F := fun k : Nat => I (k : Int)) (ev_var (P := Eqv v0) rfl rfl) h0) (fun i σ' _ => ∃ u u', σ' = [some v0, some v1, some (.int (((ch.zipIdx.take i).foldl (fun a p => a * (if p.2 ∈ dn then p.1 else 12 - p.1)) 1 : Nat) : Int)), u, u']) (fun H2 g2 => ⟨none, none, rfl⟩) ?_ ?_
  · rintro i ⟨a, j⟩ x σ' H' hi gp ⟨u, u', rfl⟩ H2 g2 hx
    obtain ⟨x1, x2, e1, e2, ht⟩ := tg_pair hx
    refine ht tg_name tg_name _ ?_
    have hil : i < ch.length := by have := (List.getElem?_eq_some_iff.mp hi).1; rw [List.length_zipIdx] at this; exact this
    have hmem : (a, j) ∈ ch.zipIdx := List.mem_of_getElem? hi
    have ha : a ≤ 12 := hm a (mem_zipIdx_fst hmem)
    have eT : (ch.zipIdx.take (i + 1)).foldl (fun a p => a * (if p.2 ∈ dn then p.1 else 12 - p.1)) 1 = ((ch.zipIdx.take i).foldl (fun a p => a * (if p.2 ∈ dn then p.1 else 12 - p.1)) 1) * (if j ∈ dn then a else 12 - a) := by
      rw [List.take_add_one, hi, List.foldl_append]; rfl
    have hle := fold_le (ch := ch.zipIdx.take i) (down := dn) (fun p hp => hm _ (mem_zipIdx_fst (List.mem_of_mem_take hp))) 1
    rw [eT]
    generalize (ch.zipIdx.take i).foldl (fun a p => a * (if p.2 ∈ dn then p.1 else 12 - p.1)) 1 = acc at hle ⊢
    have hacc : acc ≤ 12 ^ 6 := by
      refine Nat.le_trans hle ?_
      rw [Nat.one_mul]
      exact Nat.pow_le_pow_right (by decide) (by rw [List.length_take, List.length_zipIdx]; omega)
    show tAug _ _ _ _ _ _
    have hf : (if j ∈ dn then a else 12 - a) ≤ 12 := by split <;> omega
    refine s_aug (Z := I ((acc * (if j ∈ dn then a else 12 - a) : Nat) : Int)) (R := I ((if j ∈ dn then a else 12 - a : Nat) : Int)) (gp.trans g2).self rfl (P := I ((acc : Nat) : Int)) rfl ?_ ?_ fun v H3 g3 e3 => ⟨(gp.trans g2).trans g3, some x1, some x2, ?_⟩
    · refine ev_if (et_test (ev_op rv_inS (ev_var rfl e1) (ev_var rfl ((S dn).st ((g.trans gp).trans g2) h1)))) (fun hb => ?_) fun hb => ?_
      · rw [if_pos (of_decide_eq_true hb)]
        exact ev_var rfl e2
      · rw [if_neg (of_decide_eq_false hb)]
        exact Ev.to (ev_op rv_I0 ev_c (ev_var rfl e2)) (congrArg (fun i : Int => I i) (show (12 : Int) - (a : Int) = ((12 - a : Nat) : Int) by omega))
    · have := rv_ipM (c := c) (i := (acc : Int)) (j := ((if j ∈ dn then a else 12 - a : Nat) : Int)) (wide_mul (a := 64) (b := 64) (by rw [Int.natAbs_natCast]; exact Nat.lt_of_le_of_lt hacc (by decide)) (by rw [Int.natAbs_natCast]; exact Nat.lt_of_le_of_lt hf (by decide)) (by decide) (by decide) (by decide))
      rw [← Int.natCast_mul] at this
      exact this
    · obtain rfl : v = _ := e3
      rfl
  · rintro σ' H' gp ⟨u, u', rfl⟩
    refine s_retG (g.trans gp) (P := I (weightOf ch dn : Int)) (ev_var rfl ?_) k
    have e : ch.zipIdx.take ch.zipIdx.length = ch.zipIdx := List.take_of_length_le (Nat.le_refl _)
    rw [e]
    rfl
def R_power (As : List (SV c)) (Z : SV c) : Prop := ∃ (b e : Nat), As = [I (b : Int), I (e : Int)] ∧ b ≤ 12 ∧ e ≤ 6 ∧ Z = I ((b ^ e : Nat) : Int)
abbrev N_power : List Str := ["base", "exponent", "found", "step"]
theorem sc_power : FnScope N_power ["base", "exponent"] (defScope s_power) := ⟨rfl, rfl, rfl, by decide +kernel, rfl, by decide +kernel, by decide +kernel⟩
theorem ok_power (F : FnP c.K "power" "power" s_power f fd) (Bt : Bts c mg) (C : Cl c) (Il : IsL c)  : FnOk P w c.K mg base CX0 1 f fd ["base", "exponent"] (Pm c R_power) := by
  refine okP F sc_power (fun As Z h => by obtain ⟨_, _, rfl, _⟩ := h; rfl) fun cdv A outer s H vs Q E As Z hr hA hR g k => ?_
  have nd := sc_power.nd
  obtain ⟨b, e, rfl, hb, he, rfl⟩ := hR
  obtain ⟨v0, v1, rfl, h0, h1⟩ := hA.inv2
  refine ⟨_, (pss_cons (ps_set (i := 2) nd rfl (Or.inl rfl) pe_int)
    (pss_cons (ps_for PassesOwn.never rfl (pi_range1 (by rfl) Bt.brange (pa_cons (pv 1) pa_nil)) (pg_name (i := 3) nd rfl (Or.inl rfl)) (pss_one (ps_aug (i := 2) nd rfl (Or.inl rfl) (pv 0) ip_mul)))
    (pss_one (ps_ret (pv 2))))), ?_⟩
  refine q_asg g (P := I 1) ev_c fun v2 H1 g1 h2 => ?_
  obtain rfl : v2 = _ := h2
  refine q_forP (List.range e) (fun k : Nat => I (k : Int)) g1 (es_range1 (ea_cons (ev_var rfl h1) ea_nil) (by omega)) (fun i σ' _ => ∃ u, σ' = [some v0, some v1, some (.int ((b ^ i : Nat) : Int)), u]) (fun H2 g2 => ⟨none, rfl⟩) ?_ ?_
  · rintro i a x σ' H' hi gp ⟨u, rfl⟩ H2 g2 hx
    have hil : i < e := by have := (List.getElem?_eq_some_iff.mp hi).1; rw [List.length_range] at this; exact this
    show tAug _ _ _ _ _ _
    have hle : b ^ i ≤ 12 ^ 6 := Nat.le_trans (Nat.pow_le_pow_left hb i) (Nat.pow_le_pow_right (by decide) (by omega))
    refine s_aug g2.self rfl (P := I ((b ^ i : Nat) : Int)) rfl (ev_var rfl ((I (b : Int)).st ((g.trans gp).trans g2) h0)) (rv_ipM (wide_mul (a := 64) (b := 64) (by rw [Int.natAbs_natCast]; exact Nat.lt_of_le_of_lt hle (by decide)) (by rw [Int.natAbs_natCast]; exact Nat.lt_of_le_of_lt hb (by decide)) (by decide) (by decide) (by decide))) fun v H3 g3 e3 => ⟨(gp.trans g2).trans g3, some x, ?_⟩
    obtain rfl : v = _ := e3
    rw [Nat.pow_succ, Int.natCast_mul]
    rfl
  · rintro σ' H' gp ⟨u, rfl⟩
    refine s_retG (g.trans gp) (P := I ((b ^ e : Nat) : Int)) (ev_var rfl ?_) k
    rw [List.length_range]
    rfl
def R_lowest (As : List (SV c)) (Z : SV c) : Prop := ∃ (a b : Int), As = [I a, I b] ∧ 0 < b ∧ b < 2 ^ 64 ∧ Z = Fr (lowest a b)
abbrev N_lowest : List Str := ["numerator", "denominator", "one", "other"]
theorem sc_lowest : FnScope N_lowest ["numerator", "denominator"] (defScope s_lowest) := ⟨rfl, rfl, rfl, by decide +kernel, rfl, by decide +kernel, by decide +kernel⟩
theorem ok_lowest (F : FnP c.K "lowest" "lowest" s_lowest f fd) (Bt : Bts c mg) (C : Cl c) (Il : IsL c)  : FnOk P w c.K mg base CX0 1 f fd ["numerator", "denominator"] (Pm c R_lowest) := by
  refine okP F sc_lowest (fun As Z h => by obtain ⟨_, _, rfl, _⟩ := h; rfl) fun cdv A outer s H vs Q E As Z hr hA hR g k => ?_
  have nd := sc_lowest.nd
  obtain ⟨a, b, rfl, hb, hb2, rfl⟩ := hR
  obtain ⟨v0, v1, rfl, h0, h1⟩ := hA.inv2
  refine ⟨_, (pss_cons (ps_par (i := 2) (j := 3) rfl nd rfl rfl (by decide) rfl rfl (pa_cons (pe_callB call_abs (by rfl) Bt.babs (by decide +kernel) (pa_cons (pv 0) pa_nil)) (pa_cons (pv 1) pa_nil)) (by rfl))
    (pss_cons (ps_while PassesOwn.never (pt_cmpR op_ne (pv 3) pe_int (nomark _)) (pss_one (ps_par (i := 2) (j := 3) rfl nd rfl rfl (by decide) rfl rfl (pa_cons (pv 3) (pa_cons (pe_op op_mod (pv 2) (pv 3)) pa_nil)) (by rfl))))
    (pss_one (ps_ret (pe_tup (pa_cons (pe_op op_fdivW (pv 0) (pv 2)) (pa_cons (pe_op op_fdivW (pv 1) (pv 2)) pa_nil))))))), ?_⟩
  obtain ⟨b', rfl⟩ : ∃ b' : Nat, b = (b' : Int) := ⟨b.toNat, by omega⟩
  refine q_par g (P := I (a.natAbs : Int)) (Ev.to (ev_cb rc_abs (ea_cons (ev_var rfl h0) ea_nil)) (congrArg (fun i : Int => I i) (by split <;> omega))) (ev_var rfl h1) fun v2 v3 H1 g1 h2 h3 => ?_
  obtain rfl : v2 = _ := h2
  obtain rfl : v3 = _ := h3
  obtain rfl : v0 = _ := h0
  obtain rfl : v1 = _ := h1
  refine q_while (c := c) (fun m σ' H' => ∃ x y : Nat, y = m ∧ Nat.gcd x y = Nat.gcd a.natAbs b' ∧ σ' = [some (.int a), some (.int b'), some (.int x), some (.int y)] ∧ Gr c H H') b' ⟨a.natAbs, b', rfl, rfl, rfl, g1⟩ ?_
  rintro m σ' H' ⟨x, y, rfl, hg, rfl, gp⟩
  refine ⟨!decide ((y : Int) = 0), et_test (ev_op rv_neI (ev_var rfl rfl) ev_c), gp.self, fun hb3 H2 g2 => ?_, fun hb3 H2 g2 => ?_⟩
  · have hy : 0 < y := by
      cases y with
      | zero => exact absurd hb3 (by decide)
      | succ y => omega
    refine ⟨fun σ2 H3 => ∃ x' y' : Nat, y' < y ∧ Nat.gcd x' y' = Nat.gcd a.natAbs b' ∧ σ2 = [some (.int a), some (.int b'), some (.int x'), some (.int y')] ∧ Gr c H H3, fun σ2 H3 ⟨x', y', h1, h2, h3, h4⟩ => ⟨y', h1, x', y', rfl, h2, h3, h4⟩, ?_⟩
    refine s_par (P := I (y : Int)) (R := I ((x % y : Nat) : Int)) g2 (ev_var rfl rfl) (Ev.to (ev_op (rv_I (by omega)) (ev_var (P := I (x : Int)) rfl rfl) (ev_var (P := I (y : Int)) rfl rfl)) (congrArg (fun i : Int => I i) (Int.natCast_emod x y).symm)) fun v w H3 g3 e1 e2 => ?_
    obtain rfl : v = _ := e1
    obtain rfl : w = _ := e2
    refine ⟨y, x % y, Nat.mod_lt _ hy, ?_, rfl, (gp.trans g2).trans g3⟩
    rw [← hg, Nat.gcd_comm x y, Nat.gcd_rec y x]
    exact Nat.gcd_comm _ _
  · have hy : y = 0 := by
      cases y with
      | zero => rfl
      | succ y =>
        have e : decide (((y + 1 : Nat) : Int) = 0) = false := decide_eq_false (by omega)
        rw [e] at hb3
        cases hb3
    subst hy
    rw [Nat.gcd_zero_right] at hg
    have hx0 : 0 < x := by rw [hg]; exact Nat.gcd_pos_of_pos_right _ (by omega)
    have hxb : x ≤ b' := by rw [hg]; exact Nat.le_of_dvd (by omega) (Nat.gcd_dvd_right _ _)
    have hd : ∀ i : Int, CDivW i (x : Int) := fun i => wide_div (b := 64) (by omega) (by rw [Int.natAbs_natCast]; omega) (by decide) (by decide)
    have eg : (Int.gcd a (b' : Int) : Int) = (x : Int) := by rw [hg]; rfl
    have hlow : lowest a (b' : Int) = (a / (x : Int), (b' : Int) / (x : Int)) := by unfold lowest; rw [eg]
    rw [hlow] at k
    exact s_retG (gp.trans g2) (ef_tup (ea_cons (ev_op (rv_I (hd _)) (ev_var (P := I a) rfl rfl) (ev_var (P := I (x : Int)) rfl rfl)) (ea_cons (ev_op (rv_I (hd _)) (ev_var (P := I (b' : Int)) rfl rfl) (ev_var (P := I (x : Int)) rfl rfl)) ea_nil)) (by simp)).ev k
def R_with_chance (As : List (SV c)) (Z : SV c) : Prop := ∃ (ch : List Nat) (s v : Nat), As = [S ch, I (s : Int), I (v : Int)] ∧ ch.length ≤ 1000 ∧ Z = S (withChance ch s v)
abbrev N_with_chance : List Str := ["chances", "server", "chance", "late", "old"]
theorem sc_with_chance : FnScope N_with_chance ["chances", "server", "chance"] (defScope s_with_chance) := ⟨rfl, rfl, rfl, by decide +kernel, rfl, by decide +kernel, by decide +kernel⟩
theorem ok_with_chance (F : FnP c.K "with_chance" "with_chance" s_with_chance f fd) (Bt : Bts c mg) (C : Cl c) (Il : IsL c)  : FnOk P w c.K mg base CX0 1 f fd ["chances", "server", "chance"] (Pm c R_with_chance) := by
  refine okP F sc_with_chance (fun As Z h => by obtain ⟨_, _, _, rfl, _⟩ := h; rfl) fun cdv A outer s H vs Q E As Z hr hA hR g k => ?_
  have nd := sc_with_chance.nd
  obtain ⟨ch, s', x', rfl, hl, rfl⟩ := hR
  obtain ⟨v0, v1, v2, rfl, h0, h1, h2⟩ := hA.inv3
  refine ⟨_, (pss_one (ps_ret (pe_callTy (cl_tupleQ (K := c.K) rfl) (by rfl) Bt.btuple (by decide +kernel) (pa_cons (pe_lc (own := [("late", 3), ("old", 4)]) rfl nd (pi_enumTQ (K := c.K) rfl (by rfl) Bt.benumerate (pa_cons (pv 0) pa_nil)) (blkOk_by (own := [("late", 3), ("old", 4)]) (N := N_with_chance) (sc := defScope s_with_chance) (by decide +kernel)) (fun _ _ _ _ _ => (pg_tupQ (K := c.K) (n := 2) rfl rfl (pgs_cons (pg_name (i := 3) nd rfl (Or.inl rfl)) (pgs_cons (pg_name (i := 4) nd rfl (Or.inl rfl)) pgs_nil)))) (fun _ _ _ _ _ => pts_nil) (fun _ _ _ _ _ => (pe_ifExp (pt_cmpR op_eq (pv 3) (pv 1) (nomark _)) (pv 2) (pv 4)))) pa_nil)))), ?_⟩
  refine s_ret g (P := S (withChance ch s' x')) ?_ k
  refine Ev.to (ef_cb rf_tuple (ea_cons (ef_lcA ch.zipIdx (fun p => TupOf [I (p.2 : Int), I (p.1 : Int)]) (fun p => I ((if p.2 = s' then x' else p.1 : Nat) : Int)) (ei_enumT (F := fun k : Nat => I (k : Int)) (ea_cons (ev_var rfl h0) ea_nil)) (by rw [List.length_zipIdx]; omega) fun a x Hc ha gc hx => ?_).ev ea_nil)).ev (by unfold withChance S; rw [List.map_map]; rfl)
  obtain ⟨x1, x2, e1, e2, ht⟩ := tg_pair hx
  refine ⟨_, ht tg_name tg_name, rfl, ev_if (et_test (ev_op rv_eqI (ev_var rfl e1) (ev_var rfl ((I (s' : Int)).st gc h1)))) (fun hb => ?_) fun hb => ?_⟩
  · rw [if_pos (by have := of_decide_eq_true hb; omega)]
    exact ev_var rfl ((I (x' : Int)).st gc h2)
  · rw [if_neg (by have := of_decide_eq_false hb; omega)]
    exact ev_var rfl e2
end


section
open PySem PySem.Spec PyProof.Rows L2 LamX
variable {c : Cxt} {P : Program} {w : World} {mg : Str → Option Value} {base : Heap} {f : Addr} {fd : FuncData}
def R_check_pair (As : List (SV c)) (Z : SV c) : Prop := ∃ (n : Nat) (a b : List Itm), As = [Lay n a, Lay n b] ∧ True ∧ Z = Nn
abbrev N_check_pair : List Str := ["one", "other"]
theorem sc_check_pair : FnScope N_check_pair ["one", "other"] (defScope s_check_pair) := ⟨rfl, rfl, rfl, by decide +kernel, rfl, by decide +kernel, by decide +kernel⟩
theorem ok_check_pair (F : FnP c.K "check_pair" "check_pair" s_check_pair f fd) (Bt : Bts c mg) (C : Cl c) (Il : IsL c) (h_check_layout : Has P w c.K mg base "check_layout" ["layout"] 1 (Pm c R_check_layout)) : FnOk P w c.K mg base CX0 2 f fd ["one", "other"] (Pm c R_check_pair) := by
  refine okP F sc_check_pair (fun As Z h => by obtain ⟨_, _, _, rfl, _⟩ := h; rfl) fun cdv A outer s H vs Q E As Z hr hA hR g k => ?_
  have nd := sc_check_pair.nd
  obtain ⟨n, a, b, rfl, -, rfl⟩ := hR
  obtain ⟨v0, v1, rfl, h0, h1⟩ := hA.inv2
  refine ⟨_, (pss_cons (ps_expr (pe_callH h_check_layout (hr.mono (by decide)) rfl (pa_cons (pv 0) pa_nil)))
    (pss_cons (ps_expr (pe_callH h_check_layout (hr.mono (by decide)) rfl (pa_cons (pv 1) pa_nil)))
    (pss_one (ps_if (pt_cmpR op_ne (pe_fldQ (K := c.K) rfl (pv 0) rfl) (pe_fldQ (K := c.K) rfl (pv 1) rfl) (nomark _)) pss_never pss_nil)))), ?_⟩
  refine q_drop g (ev_call (ea_cons (ev_var rfl h0) ea_nil) ⟨_, _, rfl, True.intro, rfl⟩) fun H1 g1 => ?_
  refine q_drop g1 (ev_call (ea_cons (ev_var rfl h1) ea_nil) ⟨_, _, rfl, True.intro, rfl⟩) fun H2 g2 => ?_
  exact s_noN (g1.trans g2) (EvT.to (et_test (ev_op rv_neI (ev_servers C (ev_var rfl h0)) (ev_servers C (ev_var rfl h1)))) (by rw [decide_eq_true rfl]; rfl)) fun H3 g3 => k .non H3 ((g1.trans g2).trans g3) rfl
def R_level_differences (As : List (SV c)) (Z : SV c) : Prop := ∃ (n : Nat) (a b : List Itm), As = [Lay n a, Lay n b] ∧ (WfL n a ∧ WfL n b) ∧ Z = TI' (levelDiff n n a b)
theorem counts_len (n : Nat) (its : List Itm) : (countLosses n its).length = n + 1 := by
  unfold countLosses
  rw [List.length_map, List.length_range]
abbrev N_level_differences : List Str := ["one", "other", "first", "last"]
theorem sc_level_differences : FnScope N_level_differences ["one", "other"] (defScope s_level_differences) := ⟨rfl, rfl, rfl, by decide +kernel, rfl, by decide +kernel, by decide +kernel⟩
theorem ok_level_differences (F : FnP c.K "level_differences" "level_differences" s_level_differences f fd) (Bt : Bts c mg) (C : Cl c) (Il : IsL c) (h_check_pair : Has P w c.K mg base "check_pair" ["one", "other"] 2 (Pm c R_check_pair)) (h_count_losses : Has P w c.K mg base "count_losses" ["layout"] 7 (Pm c R_count_losses)) : FnOk P w c.K mg base CX0 8 f fd ["one", "other"] (Pm c R_level_differences) := by
  refine okP F sc_level_differences (fun As Z h => by obtain ⟨_, _, _, rfl, _⟩ := h; rfl) fun cdv A outer s H vs Q E As Z hr hA hR g k => ?_
  have nd := sc_level_differences.nd
  obtain ⟨n, a, b, rfl, ⟨hwa, hwb⟩, rfl⟩ := hR
  obtain ⟨v0, v1, rfl, h0, h1⟩ := hA.inv2
  have hhi := hwa.hi
  refine ⟨_, (pss_cons (ps_expr (pe_callH h_check_pair (hr.mono (by decide)) rfl (pa_cons (pv 0) (pa_cons (pv 1) pa_nil))))
    (pss_one (ps_ret (pe_callTy (cl_tupleQ (K := c.K) rfl) (by rfl) Bt.btuple (by decide +kernel) (pa_cons (pe_lc (own := [("first", 2), ("last", 3)]) rfl nd (pi_zipQ (K := c.K) rfl (by rfl) Bt.bzip (pa_cons (pe_callH h_count_losses (hr.mono (by decide)) rfl (pa_cons (pv 0) pa_nil)) (pa_cons (pe_callH h_count_losses (hr.mono (by decide)) rfl (pa_cons (pv 1) pa_nil)) pa_nil))) (blkOk_by (own := [("first", 2), ("last", 3)]) (N := N_level_differences) (sc := defScope s_level_differences) (by decide +kernel)) (fun _ _ _ _ _ => (pg_tupQ (K := c.K) (n := 2) rfl rfl (pgs_cons (pg_name (i := 2) nd rfl (Or.inl rfl)) (pgs_cons (pg_name (i := 3) nd rfl (Or.inl rfl)) pgs_nil)))) (fun _ _ _ _ _ => pts_nil) (fun _ _ _ _ _ => (pe_op op_sub (pv 2) (pv 3)))) pa_nil))))), ?_⟩
  refine q_drop g (ev_call (ea_cons (ev_var rfl h0) (ea_cons (ev_var rfl h1) ea_nil)) ⟨_, _, _, rfl, True.intro, rfl⟩) fun H1 g1 => ?_
  refine s_retG g1 (P := TI' (levelDiff n n a b)) ?_ k
  refine Ev.to (ef_cb rf_tuple (ea_cons (ef_lcA ((countLosses n a).zip (countLosses n b)) (fun p => TupOf [I (p.1 : Int), I (p.2 : Int)]) (fun p => I ((p.1 : Int) - (p.2 : Int))) (ei_zipT (F := fun k : Nat => I (k : Int)) (G := fun k : Nat => I (k : Int)) (ea_cons (ev_call (ea_cons (ev_var rfl h0) ea_nil) ⟨_, _, rfl, hwa, rfl⟩) (ea_cons (ev_call (ea_cons (ev_var rfl h1) ea_nil) ⟨_, _, rfl, hwb, rfl⟩) ea_nil))) (by rw [List.length_zip, counts_len]; omega) fun p x Hc ha gc hx => ?_).ev ea_nil)).ev (by unfold levelDiff TI'; rw [List.map_map]; rfl)
  obtain ⟨x1, x2, e1, e2, ht⟩ := tg_pair hx
  exact ⟨_, ht tg_name tg_name, rfl, ev_op rv_I0 (ev_var rfl e1) (ev_var rfl e2)⟩
def R_equally_safe (As : List (SV c)) (Z : SV c) : Prop := ∃ (n : Nat) (a b : List Itm), As = [Lay n a, Lay n b] ∧ (WfL n a ∧ WfL n b) ∧ Z = B (equallySafe n a b)
abbrev N_equally_safe : List Str := ["one", "other", "difference"]
theorem sc_equally_safe : FnScope N_equally_safe ["one", "other"] (defScope s_equally_safe) := ⟨rfl, rfl, rfl, by decide +kernel, rfl, by decide +kernel, by decide +kernel⟩
theorem ok_equally_safe (F : FnP c.K "equally_safe" "equally_safe" s_equally_safe f fd) (Bt : Bts c mg) (C : Cl c) (Il : IsL c) (h_level_differences : Has P w c.K mg base "level_differences" ["one", "other"] 8 (Pm c R_level_differences)) : FnOk P w c.K mg base CX0 9 f fd ["one", "other"] (Pm c R_equally_safe) := by
  refine okP F sc_equally_safe (fun As Z h => by obtain ⟨_, _, _, rfl, _⟩ := h; rfl) fun cdv A outer s H vs Q E As Z hr hA hR g k => ?_
  have nd := sc_equally_safe.nd
  obtain ⟨n, a, b, rfl, ⟨hwa, hwb⟩, rfl⟩ := hR
  obtain ⟨v0, v1, rfl, h0, h1⟩ := hA.inv2
  have hhi := hwa.hi
  have hlen : (levelDiff n n a b).length ≤ 1000 := by
    unfold levelDiff
    rw [List.length_map, List.length_zip, counts_len]
    omega
  refine ⟨_, (pss_one (ps_ret (pe_callB (cr_allQ (K := c.K) rfl rfl) (by rfl) Bt.ball (by decide +kernel) (pa_cons (pe_lc (own := [("difference", 2)]) rfl nd (pi_tupQ (K := c.K) rfl (pe_callH h_level_differences (hr.mono (by decide)) rfl (pa_cons (pv 0) (pa_cons (pv 1) pa_nil)))) (blkOk_by (own := [("difference", 2)]) (N := N_equally_safe) (sc := defScope s_equally_safe) (by decide +kernel)) (fun _ _ _ _ _ => (pg_name (i := 2) nd rfl (Or.inl rfl))) (fun _ _ _ _ _ => pts_nil) (fun _ _ _ _ _ => (pe_cmpR op_eq (pv 2) pe_int (nomark _)))) pa_nil)))), ?_⟩
  refine s_ret g (P := B (equallySafe n a b)) (Ev.to (ev_cb rc_all (ea_cons (Ev.to (ef_lcA (levelDiff n n a b) I (fun d => B (decide (d = 0))) (ei_tup (ev_call (ea_cons (ev_var rfl h0) (ea_cons (ev_var rfl h1) ea_nil)) ⟨_, _, _, rfl, ⟨hwa, hwb⟩, rfl⟩)) (by omega) fun p x Hc ha gc hx => ?_).ev (LB_map _ _)) ea_nil)) (by rw [allB']; rfl)) k
  exact ⟨_, tg_name, rfl, ev_op rv_eqI (ev_var rfl hx) ev_c⟩
theorem comb_pos : ∀ n, n ≤ 6 → ∀ k, k ≤ n → 0 < comb n k ∧ comb n k ≤ 720 := by decide
def R_random_loss (As : List (SV c)) (Z : SV c) : Prop := ∃ (n : Nat) (its : List Itm) (k : Nat), As = [Lay n its, I (k : Int)] ∧ WfL n its ∧ k ≤ n ∧ Z = Fr (randomLoss n its k)
abbrev N_random_loss : List Str := ["layout", "failures"]
theorem sc_random_loss : FnScope N_random_loss ["layout", "failures"] (defScope s_random_loss) := ⟨rfl, rfl, rfl, by decide +kernel, rfl, by decide +kernel, by decide +kernel⟩
theorem ok_random_loss (F : FnP c.K "random_loss" "random_loss" s_random_loss f fd) (Bt : Bts c mg) (C : Cl c) (Il : IsL c) (h_check_layout : Has P w c.K mg base "check_layout" ["layout"] 1 (Pm c R_check_layout)) (h_is_number : Has P w c.K mg base "is_number" ["thing", "least", "most"] 1 (Pm c R_is_number)) (h_lowest : Has P w c.K mg base "lowest" ["numerator", "denominator"] 1 (Pm c R_lowest)) (h_count_losses : Has P w c.K mg base "count_losses" ["layout"] 7 (Pm c R_count_losses)) (h_comb : Has P w c.K mg base "comb" ["many", "few"] 2 (Pm c R_comb)) : FnOk P w c.K mg base CX0 8 f fd ["layout", "failures"] (Pm c R_random_loss) := by
  refine okP F sc_random_loss (fun As Z h => by obtain ⟨_, _, _, rfl, _⟩ := h; rfl) fun cdv A outer s H vs Q E As Z hr hA hR g k => ?_
  have nd := sc_random_loss.nd
  obtain ⟨n, its, m, rfl, hw, hm, rfl⟩ := hR
  obtain ⟨v0, v1, rfl, h0, h1⟩ := hA.inv2
  have hhi := hw.hi
  obtain ⟨hc1, hc2⟩ := comb_pos n hhi m hm
  have hg : (countLosses n its)[m]? = some ((countLosses n its)[m]?.getD 0) := by
    rw [List.getElem?_eq_getElem (by rw [counts_len]; omega)]
    rfl
  refine ⟨_, (pss_cons (ps_expr (pe_callH h_check_layout (hr.mono (by decide)) rfl (pa_cons (pv 0) pa_nil)))
    (pss_cons (ps_if (pt_not (pt_val (pe_callH h_is_number (hr.mono (by decide)) rfl (pa_cons (pv 1) (pa_cons pe_int (pa_cons (pe_fldQ (K := c.K) rfl (pv 0) rfl) pa_nil)))))) pss_never pss_nil)
    (pss_one (ps_ret (pe_callH h_lowest (hr.mono (by decide)) rfl (pa_cons (pe_ix (ix_tupQ (K := c.K) rfl) (pe_callH h_count_losses (hr.mono (by decide)) rfl (pa_cons (pv 0) pa_nil)) (pv 1) (fun _ _ => rfl)) (pa_cons (pe_callH h_comb (hr.mono (by decide)) rfl (pa_cons (pe_fldQ (K := c.K) rfl (pv 0) rfl) (pa_cons (pv 1) pa_nil))) pa_nil))))))), ?_⟩
  refine q_drop g (ev_call (ea_cons (ev_var rfl h0) ea_nil) ⟨_, _, rfl, True.intro, rfl⟩) fun H1 g1 => ?_
  refine q_no (H0 := H) g1 (EvT.to (et_not (et_B (ev_call (ea_cons (ev_var rfl h1) (ea_cons ev_c (ea_cons (ev_servers C (ev_var rfl h0)) ea_nil))) ⟨_, _, _, rfl, by omega, by omega, rfl⟩))) rfl) fun H2 g2 => ?_
  refine s_retG (g1.trans g2) (ev_call (ea_cons (P := I (((countLosses n its)[m]?.getD 0 : Nat) : Int)) (ev_op (rv_ixT (i := m) (by rw [List.getElem?_map, hg]; rfl)) (ev_call (ea_cons (ev_var rfl h0) ea_nil) ⟨_, _, rfl, hw, rfl⟩) (ev_var rfl h1)) (ea_cons (ev_call (ea_cons (ev_servers C (ev_var rfl h0)) (ea_cons (ev_var rfl h1) ea_nil)) ⟨_, _, rfl, hhi, hm, rfl⟩) ea_nil)) ⟨_, _, rfl, by omega, by omega, rfl⟩) k
def R_loss_chance (As : List (SV c)) (Z : SV c) : Prop := ∃ (n : Nat) (its : List Itm) (ch : List Nat), As = [Lay n its, S ch] ∧ WfL n its ∧ ch.length = n ∧ (∀ x ∈ ch, x ≤ 12) ∧ Z = Fr (lossChance n its ch)
def R_importances (As : List (SV c)) (Z : SV c) : Prop := ∃ (n : Nat) (its : List Itm) (ch : List Nat), As = [Lay n its, S ch] ∧ WfL n its ∧ ch.length = n ∧ (∀ x ∈ ch, x ≤ 12) ∧ Z = TupOf ((importances n its ch).map Fr)
theorem lowest_snd {a b : Int} (h : 0 < b) : 0 < (lowest a b).2 ∧ (lowest a b).2 ≤ b := by
  have hg : 0 < (Int.gcd a b : Int) := by
    have : 0 < Int.gcd a b := Int.gcd_pos_of_ne_zero_right _ (by omega)
    omega
  have hd : (Int.gcd a b : Int) ∣ b := Int.gcd_dvd_right ..
  obtain ⟨q, hq⟩ := hd
  have e : b / (Int.gcd a b : Int) = q := by
    conv => lhs; lhs; rw [hq]
    exact Int.mul_ediv_cancel_left _ (by omega)
  show 0 < b / (Int.gcd a b : Int) ∧ b / (Int.gcd a b : Int) ≤ b
  refine ⟨?_, Int.ediv_le_self _ (by omega)⟩
  rw [e]
  have : ¬ q ≤ 0 := fun hq0 => by
    have := Int.mul_le_mul_of_nonneg_left hq0 (Int.le_of_lt hg)
    rw [Int.mul_zero, ← hq] at this
    omega
  omega
theorem chance_snd {n : Nat} {ch : List Nat} {f : List Nat → Bool} (h : n ≤ 6) : 0 < (chanceOf n ch f).2 ∧ (chanceOf n ch f).2 ≤ 2985984 := by
  have h1 : 12 ^ n ≤ 12 ^ 6 := Nat.pow_le_pow_right (by decide) h
  have h2 : 0 < 12 ^ n := Nat.pow_pos (by decide)
  obtain ⟨a, b⟩ := lowest_snd (a := (ways n ch f : Int)) (b := ((12 ^ n : Nat) : Int)) (by omega)
  have e : (12 : Nat) ^ 6 = 2985984 := by decide
  exact ⟨a, by unfold chanceOf; omega⟩
theorem withC_len (ch : List Nat) (s v : Nat) : (withChance ch s v).length = ch.length := by
  unfold withChance
  rw [List.length_map, List.length_zipIdx]
theorem withC_le {ch : List Nat} {s v : Nat} (h : ∀ x ∈ ch, x ≤ 12) (hv : v ≤ 12) : ∀ x ∈ withChance ch s v, x ≤ 12 := by
  intro x hx
  obtain ⟨p, hp, rfl⟩ := List.mem_map.mp hx
  split
  · exact hv
  · exact h _ (mem_zipIdx_fst hp)
abbrev N_importances : List Str := ["layout", "chances", "found", "server", "down", "up"]
theorem sc_importances : FnScope N_importances ["layout", "chances"] (defScope s_importances) := ⟨rfl, rfl, rfl, by decide +kernel, rfl, by decide +kernel, by decide +kernel⟩
theorem ok_importances (F : FnP c.K "importances" "importances" s_importances f fd) (Bt : Bts c mg) (C : Cl c) (Il : IsL c) (h_check_layout : Has P w c.K mg base "check_layout" ["layout"] 1 (Pm c R_check_layout)) (h_check_chances : Has P w c.K mg base "check_chances" ["layout", "chances"] 2 (Pm c R_check_chances)) (h_loss_chance : Has P w c.K mg base "loss_chance" ["layout", "chances"] 9 (Pm c R_loss_chance)) (h_with_chance : Has P w c.K mg base "with_chance" ["chances", "server", "chance"] 1 (Pm c R_with_chance)) (h_lowest : Has P w c.K mg base "lowest" ["numerator", "denominator"] 1 (Pm c R_lowest)) : FnOk P w c.K mg base CX0 10 f fd ["layout", "chances"] (Pm c R_importances) := by
  refine okP F sc_importances (fun As Z h => by obtain ⟨_, _, _, rfl, _⟩ := h; rfl) fun cdv A outer s H vs Q E As Z hr hA hR g k => ?_
  have nd := sc_importances.nd
  obtain ⟨n, its, ch, rfl, hw, hl, hm, rfl⟩ := hR
  obtain ⟨v0, v1, rfl, h0, h1⟩ := hA.inv2
  have hhi := hw.hi
  refine ⟨_, (pss_cons (ps_expr (pe_callH h_check_layout (hr.mono (by decide)) rfl (pa_cons (pv 0) pa_nil)))
    (pss_cons (ps_expr (pe_callH h_check_chances (hr.mono (by decide)) rfl (pa_cons (pv 0) (pa_cons (pv 1) pa_nil))))
    (pss_cons (ps_set (i := 2) nd rfl (Or.inl rfl) (pe_lst pa_nil))
    (pss_cons (ps_for PassesOwn.never rfl (pi_range1 (by rfl) Bt.brange (pa_cons (pe_fldQ (K := c.K) rfl (pv 0) rfl) pa_nil)) (pg_name (i := 3) nd rfl (Or.inl rfl)) (pss_cons (ps_set (i := 4) nd rfl (Or.inl rfl) (pe_callH h_loss_chance (hr.mono (by decide)) rfl (pa_cons (pv 0) (pa_cons (pe_callH h_with_chance (hr.mono (by decide)) rfl (pa_cons (pv 1) (pa_cons (pv 3) (pa_cons (pe_glob (v := .int 12) rfl Bt.WHOLE.choose_spec ⟨_, rfl⟩) pa_nil)))) pa_nil))))
    (pss_cons (ps_set (i := 5) nd rfl (Or.inl rfl) (pe_callH h_loss_chance (hr.mono (by decide)) rfl (pa_cons (pv 0) (pa_cons (pe_callH h_with_chance (hr.mono (by decide)) rfl (pa_cons (pv 1) (pa_cons (pv 3) (pa_cons pe_int pa_nil)))) pa_nil))))
    (pss_one (ps_expr (pe_appendQ (K := c.K) rfl (pv 2) (pa_cons (pe_callH h_lowest (hr.mono (by decide)) rfl (pa_cons (pe_op op_sub (pe_op op_mul (pe_ix (ix_tupQ (K := c.K) rfl) (pv 4) pe_int (fun _ _ => rfl)) (pe_ix (ix_tupQ (K := c.K) rfl) (pv 5) pe_int (fun _ _ => rfl))) (pe_op op_mul (pe_ix (ix_tupQ (K := c.K) rfl) (pv 5) pe_int (fun _ _ => rfl)) (pe_ix (ix_tupQ (K := c.K) rfl) (pv 4) pe_int (fun _ _ => rfl)))) (pa_cons (pe_op op_mul (pe_ix (ix_tupQ (K := c.K) rfl) (pv 4) pe_int (fun _ _ => rfl)) (pe_ix (ix_tupQ (K := c.K) rfl) (pv 5) pe_int (fun _ _ => rfl))) pa_nil))) pa_nil)))))))
    (pss_one (ps_ret (pe_callTy (cl_tupleQ (K := c.K) rfl) (by rfl) Bt.btuple (by decide +kernel) (pa_cons (pv 2) pa_nil)))))))), ?_⟩
  refine q_drop g (ev_call (ea_cons (ev_var rfl h0) ea_nil) ⟨_, _, rfl, True.intro, rfl⟩) fun H1 g1 => ?_
  refine q_drop g1 (ev_call (ea_cons (ev_var rfl h0) (ea_cons (ev_var rfl h1) ea_nil)) ⟨_, _, _, rfl, hl, by omega, hm, rfl⟩) fun H2 g2 => ?_
  have g02 := g1.trans g2
  refine q_asgF (H0 := H) g02 (P := L []) (ef_lst ea_nil (by simp)) fun a H3 n3 g3 ⟨a', vs, ea, e1, e2⟩ => ?_
  obtain rfl : a = a' := V.ref.inj ea
  obtain rfl := e2.nil_inv
  have g03 := g02.trans g3
  have nH : H a = none := g02.free n3
  refine q_for (List.range n) (fun k : Nat => I (k : Int)) (H0 := H) g03 (es_range1 (ea_cons (ev_servers C (ev_var rfl h0)) ea_nil) (by omega)) (fun i σ' H' => Gr c H H' ∧ (∃ ws, H' a = some (.lst ws) ∧ AllP (c := c) (((List.range i).map (importance n its ch)).map Fr) ws H') ∧ ∃ u v w', σ' = [some v0, some v1, some (.ref a), u, v, w']) (fun H4 g4 => ⟨g03.trans g4, ⟨[], g4.lst e1, True.intro⟩, none, none, none, rfl⟩) (fun _ _ _ p => p.1) ?_ ?_
  · rintro i s' x σ' H' hi ⟨gp, ⟨ws, hws, hall⟩, u, v, w', rfl⟩ H4 g4 hx
    have hs' : s' = i := by
      obtain ⟨h1, h2⟩ := List.getElem?_eq_some_iff.mp hi
      rw [List.getElem_range] at h2
      exact h2.symm
    subst hs'
    have gp4 := gp.trans g4
    show tSeq _ _ _ _ _
    refine q_asg (H0 := H4) gp4.self (P := Fr (lossChance n its (withChance ch s' 12))) (ev_call (ea_cons (ev_var rfl ((Lay n its).st gp4 h0)) (ea_cons (ev_call (ea_cons (ev_var rfl ((S ch).st gp4 h1)) (ea_cons (ev_var rfl hx) (ea_cons ev_c ea_nil))) ⟨_, _, 12, rfl, by omega, rfl⟩) ea_nil)) ⟨_, _, _, rfl, hw, by rw [withC_len]; exact hl, withC_le hm (by omega), rfl⟩) fun d H5 g5 hd => ?_
    have gp5 := gp4.trans g5
    refine q_asg (H0 := H5) gp5.self (P := Fr (lossChance n its (withChance ch s' 0))) (ev_call (ea_cons (ev_var rfl ((Lay n its).st gp5 h0)) (ea_cons (ev_call (ea_cons (ev_var rfl ((S ch).st gp5 h1)) (ea_cons (ev_var rfl ((I (s' : Int)).st g5 hx)) (ea_cons ev_c ea_nil))) ⟨_, _, 0, rfl, by omega, rfl⟩) ea_nil)) ⟨_, _, _, rfl, hw, by rw [withC_len]; exact hl, withC_le hm (by omega), rfl⟩) fun u' H6 g6 hu => ?_
    have hd6 := (Fr (lossChance n its (withChance ch s' 12))).st g6 hd
    have hws6 := g6.lst (g5.lst (g4.lst hws))
    obtain ⟨d1, d2⟩ := chance_snd (ch := withChance ch s' 12) (f := losing n its) hhi
    obtain ⟨u1, u2⟩ := chance_snd (ch := withChance ch s' 0) (f := losing n its) hhi
    have hdu1 : 0 < (lossChance n its (withChance ch s' 12)).2 * (lossChance n its (withChance ch s' 0)).2 := Int.mul_pos d1 u1
    have hdu2 : (lossChance n its (withChance ch s' 12)).2 * (lossChance n its (withChance ch s' 0)).2 ≤ 2985984 * 2985984 := Int.mul_le_mul d2 u2 (by exact Int.le_of_lt u1) (by decide)
    refine s_app (H0 := H6) (P := Fr (importance n its ch s')) (gp5.trans g6).self hws6 (ev_var rfl rfl) (ev_call (ea_cons (ev_op rv_I0 (ev_op (rv_I (.inr ⟨by unfold lossChance; omega, by unfold lossChance; omega⟩)) (ev_op (rv_ixT (i := 0) rfl) (ev_var rfl hd6) ev_c) (ev_op (rv_ixT (i := 1) rfl) (ev_var rfl hu) ev_c)) (ev_op (rv_I (.inr ⟨by unfold lossChance; omega, by unfold lossChance; omega⟩)) (ev_op (rv_ixT (i := 0) rfl) (ev_var rfl hu) ev_c) (ev_op (rv_ixT (i := 1) rfl) (ev_var rfl hd6) ev_c)))
      (ea_cons (ev_op (rv_I (.inr ⟨by unfold lossChance; omega, by unfold lossChance; omega⟩)) (ev_op (rv_ixT (i := 1) rfl) (ev_var rfl hd6) ev_c) (ev_op (rv_ixT (i := 1) rfl) (ev_var rfl hu) ev_c)) ea_nil)) ⟨_, _, rfl, hdu1, by omega, rfl⟩) (by have := hall.len; rw [List.length_map, List.length_map, List.length_range] at this; have := (List.getElem?_eq_some_iff.mp hi).1; rw [List.length_range] at this; omega) fun v7 H7 g7 e7 => ?_
    have hws7 := g7.lst hws6
    refine ⟨((gp5.trans g6).trans g7).mut nH hws7 True.intro, ⟨_, upd_same, ?_⟩, some x, some d, some u', rfl⟩
    have gt := Gt.mut (o := .lst (ws ++ [v7])) hws7 True.intro
    rw [List.range_succ, List.map_append, List.map_append]
    exact AllP.append (AllP.gt (TstL.st) gt ((((hall.gr g4).gr g5).gr g6).gr g7)) ⟨Tst.st gt e7, True.intro⟩
  · rintro σ' H4 ⟨gp, ⟨ws, hws, hall⟩, u, v, w', rfl⟩
    rw [List.length_range] at hall
    exact s_ret (H0 := H4) gp.self (P := TupOf ((importances n its ch).map Fr)) (ef_cb rf_tuple (ea_cons (ev_var rfl ⟨a, ws, rfl, hws, hall⟩) ea_nil)).ev fun v' H5 g5 e5 => k v' H5 (gp.trans g5) e5
end


section
open PySem PySem.Spec PyProof.Rows L2 LamX
variable {c : Cxt}

theorem updn {H : Hp} {a b : Addr} {o : HO} (e : upd H a o b = Option.none) : H b = Option.none := by
  by_cases q : b = a
  · rw [q, upd_same] at e; cases e
  · rw [upd_ne q] at e; exact e
/-! ### a lambda's object, tracked -/
def LamO (f : Addr) (q : Str) (params : Arguments) (body : Expr) (scope : Scope) (cl : List (Str × Addr)) (c' : Addr) : HO :=
  .ext fun h => ∃ pm ctv, h.get? f = some (PySem.W.kla_obj "<lambda>" q params body scope cl pm c' ctv)
theorem lamO_ne {f : Addr} {q : Str} {params : Arguments} {body : Expr} {scope : Scope} {cl : List (Str × Addr)} {c' : Addr} (ps : Array Value) : LamO f q params body scope cl c' ≠ .tbl ps := fun z => by
  unfold LamO at z
  cases z
theorem lamO_at {P : Program} {w : World} {H : Hp} {h : Heap} {f : Addr} {q : Str} {params : Arguments} {body : Expr} {scope : Scope} {cl : List (Str × Addr)} {c' : Addr} (hok : HOk P w H h) (e : H f = some (LamO f q params body scope cl c')) :
    ∃ pm ctv, h.get? f = some (PySem.W.kla_obj "<lambda>" q params body scope cl pm c' ctv) := (hok f _ e).1
section
variable {X : Cx} {pins : List (Addr × Obj)} {σ : L2.St} {H : Hp} {s : Shared}
theorem inv_lam {q : Str} {params : Arguments} {body : Expr} {scope : Scope} {cl : List (Str × Addr)} {c' : Addr} {pm ctv : Value} {t' : Nat} (I : Inv X pins σ H s) :
    Inv X pins σ (upd H s.heap.objs.size (LamO s.heap.objs.size q params body scope cl c')) { s with heap := s.heap.push (PySem.W.kla_obj "<lambda>" q params body scope cl pm c' ctv), toks := t' } := by
  refine I.laid (a := s.heap.objs.size) (fun b u e => Heap.get?_push_of_some _ e) (Nat.le_refl _) ?_
  have e : (s.heap.push (PySem.W.kla_obj "<lambda>" q params body scope cl pm c' ctv)).get? s.heap.objs.size = some (PySem.W.kla_obj "<lambda>" q params body scope cl pm c' ctv) := Heap.get?_push_size _ rfl
  exact ⟨⟨pm, ctv, e⟩, ⟨_, e⟩, fun h1 h2 ⟨p, t, z⟩ st => ⟨p, t, st _ z⟩⟩
/-- the lambda is made, and known from now on -/
theorem lam_makeT {T : List (Addr × Str)} {cc P : Addr} {params : Arguments} {body : Expr} {scope : Scope} {pos : Pos} {E : Value → Shared → Prop} {Q : Value → Shared → Prop} (I : Inv X pins σ H s) (TB : TabB X.base X.mg cc P) (hcode : X.env.code = .ref cc)
    (hm : (P, X.env.qual ++ "<lambda>") ∈ T) (hu : ∀ p ∈ T, p.1 = P → p.2 = X.env.qual ++ "<lambda>") (hT : Tabs T H) (hdef : defaultsOf params X.env = ([], [])) (hfree : ∀ y ∈ scope.names, y.2 = .free → ∃ c, X.env.cells.lookup y.1 = some c)
    (h : ∀ (f c' : Addr) (H1 : Hp) (s' : Shared), Inv X pins σ H1 s' → ExtN H H1 → (∀ b, H1 b = none → H b = none) → Tabs T H1 → H f = none →
      H1 f = some (LamO f (X.env.qual ++ "<lambda>") params body scope (cloFrom X.env.cells scope.names []) c') → H1 c' = some (CodeO c' (X.env.qual ++ "<lambda>")) → Q (.ref f) s') :
    wpAny (model X.prog X.w) X.A (eval (.Lambda params body scope pos) X.env) Q E s := by
  obtain ⟨ps, hP, ht, ha⟩ := hT _ hm
  refine PySem.W.kla_eval hdef ?_
  have bP : s.heap.BuiltinsAt X.mg P := TB.bm.keeps I.bk
  have hP' : s.heap.get? P = some { cls := .none, data := .fields ps } := I.hok P _ hP
  cases hc : codeAmong pos ps.toList with
  | none =>
    refine PySem.W.kla_makeFunction (mg := X.mg) (c := cc) (P := P) (ps := ps) (closure_ok hfree) I.ok.glob (I.mod.glob.keeps I.bk) hcode (TB.code.keeps I.bk) hP' ht hc TB.gP bP fun c' ctv h' tk hx hge hlt hrec htb => ?_
    obtain ⟨c2, oc, vs, t, e2, hoc, hd, hv⟩ := hrec
    cases e2
    have nC : H c' = none := I.hok.fresh hge
    have I1 := inv_table (t' := tk) (more := #[rawInt pos.line, rawInt pos.col, .ref c']) (h' := h') I hP (fun b o hb e => hx b o hb e) htb hge ⟨oc, vs, t, hoc, hd, hv⟩
    have hE : ExtN H (upd (upd H P (.tbl (ps ++ #[rawInt pos.line, rawInt pos.col, .ref c']))) c' (CodeO c' (X.env.qual ++ "<lambda>"))) := fun b o e n => by
      rw [upd_ne (ne_of_none e nC), upd_ne (fun z => n ps (Option.some.inj (e.symm.trans (by rw [z]; exact hP))))]
      exact e
    have eL : (ps ++ #[rawInt pos.line, rawInt pos.col, .ref c']).toList = ps.toList ++ [rawInt pos.line, rawInt pos.col, .ref c'] := by simp
    have T1 : Tabs T (upd (upd H P (.tbl (ps ++ #[rawInt pos.line, rawInt pos.col, .ref c']))) c' (CodeO c' (X.env.qual ++ "<lambda>"))) := fun p hp => by
      by_cases hb : p.1 = P
      · rw [hu p hp hb, hb]
        refine ⟨_, by rw [upd_ne (ne_of_none hP nC), upd_same], by rw [eL]; exact PySem.TriplesOk_snoc _ _ _ _ ht, fun p' cv hcv => ?_⟩
        rw [eL] at hcv
        rcases among_app _ ht hcv with z | z
        · obtain ⟨c0, e1, e2⟩ := ha p' cv z
          exact ⟨c0, e1, hE _ _ e2 codeO_ne⟩
        · exact ⟨c', z, upd_same⟩
      · obtain ⟨ps', a1, a2, a3⟩ := hT p hp
        refine ⟨ps', by rw [upd_ne (ne_of_none a1 nC), upd_ne hb]; exact a1, a2, fun p' cv hcv => ?_⟩
        obtain ⟨c0, e1, e2⟩ := a3 p' cv hcv
        exact ⟨c0, e1, hE _ _ e2 codeO_ne⟩
    have nF := I1.hok.fresh (Nat.le_refl _)
    have I2 := inv_lam (q := X.env.qual ++ "<lambda>") (params := params) (body := body) (scope := scope) (cl := cloFrom X.env.cells scope.names []) (c' := c') (pm := (X.mg "__name__").getD .none) (ctv := ctv) (t' := tk) I1
    refine h h'.objs.size c' _ _ I2 (fun b o e n => ?_) (fun b e => updn (updn (updn e))) (T1.ext fun b o e => ?_) (I.hok.fresh (Nat.le_trans hge (Nat.le_of_lt hlt))) upd_same ?_
    · have e1 := hE b o e n
      exact (upd_ne (ne_of_none e1 nF)).trans e1
    · exact (upd_ne (ne_of_none e nF)).trans e
    · exact (upd_ne (Nat.ne_of_lt hlt)).trans upd_same
  | some cv =>
    obtain ⟨c', e, hco⟩ := ha pos cv hc
    subst e
    refine PySem.W.kla_makeFunctionHit (mg := X.mg) (c := cc) (P := P) (ps := ps) (closure_ok hfree) I.ok.glob (I.mod.glob.keeps I.bk) hcode (TB.code.keeps I.bk) hP' ht hc bP fun ctv h' tk hx hsz => ?_
    have I1 : Inv X pins σ H { s with heap := h', toks := tk } := I.kept hx
    have nF : H h'.objs.size = none := I1.hok.fresh (Nat.le_refl _)
    have I2 := inv_lam (q := X.env.qual ++ "<lambda>") (params := params) (body := body) (scope := scope) (cl := cloFrom X.env.cells scope.names []) (c' := c') (pm := (X.mg "__name__").getD .none) (ctv := ctv) (t' := tk) I1
    refine h h'.objs.size c' _ _ I2 (fun b o e n => ?_) (fun b e => updn e) (hT.ext fun b o e => ?_) nF upd_same ?_
    · exact (upd_ne (ne_of_none e nF)).trans e
    · exact (upd_ne (ne_of_none e nF)).trans e
    · exact (upd_ne (ne_of_none hco nF)).trans hco
end
/-- the reading of a lambda: a new function object; cl its captured cells -/
def tLamE (c : Cxt) (q : Str) (params : Arguments) (body : Expr) (scope : Scope) (cl : List (Str × Addr)) : TE := fun _ H Q =>
  Tabs c.T H ∧ ∀ (f c' : Addr) (H1 : Hp), Gr c H H1 → H f = none → H1 f = some (LamO f q params body scope cl c') → H1 c' = some (CodeO c' q) → Q (.ref f) H1
theorem pe_lam {X : Cx} {cc P : Addr} {q : Str} {params : Arguments} {body : Expr} {scope : Scope} {pos : Pos} (TB : TabB X.base X.mg cc P) (hcode : X.env.code = .ref cc) (hq : X.env.qual ++ "<lambda>" = q)
    (hm : (P, q) ∈ c.T) (hu : ∀ p ∈ c.T, p.1 = P → p.2 = q) (hdef : defaultsOf params X.env = ([], [])) (hfree : X.Ok → ∀ y ∈ scope.names, y.2 = .free → ∃ c, X.env.cells.lookup y.1 = some c) :
    PE X (.Lambda params body scope pos) (tLamE c q params body scope (cloFrom X.env.cells scope.names [])) := by
  subst hq
  refine ⟨fun pins s σ H Q I h => ?_⟩
  obtain ⟨hT, h⟩ := h
  exact lam_makeT I TB hcode hm hu hT hdef (hfree I.ok) fun f c' H1 s' I1 eN fr T1 hf h1 h2 => ⟨.ref f, H1, I1, rfl, h f c' H1 ⟨fun b o e n => eN b o e n, fr, hT, T1⟩ hf h1 h2⟩

/-! ### the key (len(some), some) -/
def keyD (s : List Nat) : PyData := .tuple [.int (s.length : Int), pdI s]
section
variable {prog : Program} {w : World} {A : Around} {s : Shared}
theorem reads_ints {h : Heap} : ∀ {ns : List Int} {us : List Value}, Vals (ns.map V.int) us → ReadsAll h us (ns.map PyData.int) []
  | [], _, .nil => .nil
  | _ :: ns, _, .cons r t => by
    obtain ⟨k, rfl⟩ := r
    exact .cons (as := []) (bs := []) (.int _ _) (reads_ints t)
end
end


section
open PySem PySem.Spec PyProof.Rows L2 LamX
variable {c : Cxt}
/-! ### the order of the keys -/
theorem lexLe_refl : ∀ a, lexLe a a = true
  | [] => rfl
  | a :: as => by rw [lexLe, lexLe_refl as]; simp
theorem lexLe_total : ∀ a b, lexLe a b = true ∨ lexLe b a = true
  | [], _ => .inl rfl
  | _ :: _, [] => .inr rfl
  | a :: as, b :: bs => by
    rcases Nat.lt_trichotomy a b with h | h | h
    · left; rw [lexLe, decide_eq_true h]; rfl
    · subst h
      rcases lexLe_total as bs with q | q
      · left; rw [lexLe, q]; simp
      · right; rw [lexLe, q]; simp
    · right; rw [lexLe, decide_eq_true h]; rfl
theorem lexLe_cons {a b : Nat} {as bs : List Nat} : lexLe (a :: as) (b :: bs) = true ↔ a < b ∨ (a = b ∧ lexLe as bs = true) := by
  rw [lexLe]
  simp
theorem lexLe_anti : ∀ {a b}, lexLe a b = true → lexLe b a = true → a = b
  | [], [], _, _ => rfl
  | [], _ :: _, _, h => by cases h
  | _ :: _, [], h, _ => by cases h
  | a :: as, b :: bs, h, k => by
    rcases lexLe_cons.mp h with h | ⟨h, h2⟩
    · rcases lexLe_cons.mp k with k | ⟨k, k2⟩ <;> omega
    · rcases lexLe_cons.mp k with k | ⟨k, k2⟩
      · omega
      · rw [h, lexLe_anti h2 k2]
theorem lexLe_trans : ∀ {a b d}, lexLe a b = true → lexLe b d = true → lexLe a d = true
  | [], _, _, _, _ => rfl
  | _ :: _, [], _, h, _ => by cases h
  | _ :: _, _ :: _, [], _, h => by cases h
  | a :: as, b :: bs, d :: ds, h, k => by
    rcases lexLe_cons.mp h with h | ⟨h, h2⟩ <;> rcases lexLe_cons.mp k with k | ⟨k, k2⟩ <;> refine lexLe_cons.mpr ?_
    · left; omega
    · left; omega
    · left; omega
    · right; exact ⟨by omega, lexLe_trans h2 k2⟩
theorem leS_iff {a b : List Nat} : leS a b = true ↔ a.length < b.length ∨ (a.length = b.length ∧ lexLe a b = true) := by
  unfold leS
  simp
theorem leS_anti {a b : List Nat} (h : leS a b = true) (k : leS b a = true) : a = b := by
  rcases leS_iff.mp h with h | ⟨h, h2⟩ <;> rcases leS_iff.mp k with k | ⟨k, k2⟩
  · omega
  · omega
  · omega
  · exact lexLe_anti h2 k2
theorem leS_trans {a b d : List Nat} (h : leS a b = true) (k : leS b d = true) : leS a d = true := by
  rcases leS_iff.mp h with h | ⟨h, h2⟩ <;> rcases leS_iff.mp k with k | ⟨k, k2⟩ <;> refine leS_iff.mpr ?_
  · left; omega
  · left; omega
  · left; omega
  · right; exact ⟨by omega, lexLe_trans h2 k2⟩
theorem leS_total (a b : List Nat) : leS a b = true ∨ leS b a = true := by
  rcases Nat.lt_trichotomy a.length b.length with h | h | h
  · left; exact leS_iff.mpr (.inl h)
  · rcases lexLe_total a b with q | q
    · left; exact leS_iff.mpr (.inr ⟨h, q⟩)
    · right; exact leS_iff.mpr (.inr ⟨h.symm, q⟩)
  · right; exact leS_iff.mpr (.inl h)
theorem insS_mem {a x : List Nat} {l : List (List Nat)} (h : x ∈ insS a l) : x = a ∨ x ∈ l := by
  have := (insS_perm a l).mem_iff.mp h
  rcases List.mem_cons.mp this with e | e
  · exact .inl e
  · exact .inr e
theorem insS_sorted {a : List Nat} : ∀ {l : List (List Nat)}, l.Pairwise (fun x y => leS x y = true) → (insS a l).Pairwise (fun x y => leS x y = true)
  | [], _ => List.pairwise_singleton _ _
  | b :: bs, h => by
    obtain ⟨h1, h2⟩ := List.pairwise_cons.mp h
    rw [insS]
    split
    · rename_i q
      refine List.pairwise_cons.mpr ⟨fun x hx => ?_, h⟩
      rcases List.mem_cons.mp hx with e | e
      · rw [e]; exact q
      · exact leS_trans q (h1 x e)
    · rename_i q
      refine List.pairwise_cons.mpr ⟨fun x hx => ?_, insS_sorted h2⟩
      rcases insS_mem hx with e | e
      · rw [e]
        exact (leS_total a b).resolve_left (by simpa using q)
      · exact h1 x e
theorem srtS_sorted : ∀ l, (srtS l).Pairwise (fun x y => leS x y = true)
  | [] => .nil
  | a :: as => insS_sorted (srtS_sorted as)
theorem sorted_unique : ∀ {l m : List (List Nat)}, l.Perm m → l.Pairwise (fun x y => leS x y = true) → m.Pairwise (fun x y => leS x y = true) → l = m
  | [], m, h, _, _ => by rw [List.nil_perm.mp h]
  | a :: as, m, h, h1, h2 => by
    cases m with
    | nil => exact absurd h.symm (by simp)
    | cons b bs =>
      have ha : a ∈ b :: bs := h.mem_iff.mp (List.mem_cons_self ..)
      have hb : b ∈ a :: as := h.mem_iff.mpr (List.mem_cons_self ..)
      have e : a = b := by
        rcases List.mem_cons.mp ha with e | ha
        · exact e
        · rcases List.mem_cons.mp hb with e | hb
          · exact e.symm
          · exact leS_anti ((List.pairwise_cons.mp h1).1 b hb) ((List.pairwise_cons.mp h2).1 a ha)
      subst e
      rw [sorted_unique (List.Perm.cons_inv h) (List.pairwise_cons.mp h1).2 (List.pairwise_cons.mp h2).2]
theorem lt_cast : ∀ a b : List Nat, ((b.map fun k : Nat => (k : Int)) < (a.map fun k : Nat => (k : Int))) ↔ lexLe a b = false
  | [], b => by simp [lexLe]
  | a :: as, [] => by simp [lexLe]
  | a :: as, b :: bs => by
    rw [List.map_cons, List.map_cons, List.cons_lt_cons_iff, lt_cast as bs, ← Bool.not_eq_true, ← Bool.not_eq_true, lexLe_cons]
    constructor
    · rintro (h | ⟨h, k⟩) <;> rintro (h' | ⟨h', k'⟩)
      · omega
      · omega
      · omega
      · exact k k'
    · intro h
      by_cases h1 : (b : Int) < (a : Int)
      · exact .inl h1
      · by_cases h2 : a = b
        · exact .inr ⟨by omega, fun k => h (.inr ⟨h2, k⟩)⟩
        · exact absurd (.inl (by omega)) h
theorem leKey (p q : List Nat) : PySem.W.dataLe false keyD p q = leS p q := by
  rw [PySem.W.dataLe_eq]
  show (!PySem.W.dataLt (keyD q) (keyD p)) = leS p q
  have e1 : PySem.W.alikeAll (q.map fun k : Nat => PyData.int (k : Int)) (p.map fun k : Nat => PyData.int (k : Int)) = true := by
    have := PySem.W.alike_ints (q.map fun k : Nat => (k : Int)) (p.map fun k : Nat => (k : Int))
    rw [List.map_map, List.map_map] at this
    exact this
  have e2 : PySem.W.dataLt (pdI q) (pdI p) = decide ((q.map fun k : Nat => (k : Int)) < (p.map fun k : Nat => (k : Int))) := by
    have := PySem.W.dataLt_ints (q.map fun k : Nat => (k : Int)) (p.map fun k : Nat => (k : Int))
    rw [List.map_map, List.map_map] at this
    rw [← this]
    exact PySem.W.dataLt_tuple _ _
  unfold keyD
  rw [PySem.W.dataLt_pair (by simp [PySem.W.alike]) (by unfold pdI; simp [PySem.W.alike, e1]), PySem.W.dataLt_int, eqv_nat, eqv_pdI, e2]
  refine Bool.eq_iff_iff.mpr ?_
  rw [leS_iff]
  by_cases h1 : q.length = p.length
  · rw [decide_eq_true h1, if_pos rfl]
    by_cases h2 : q = p
    · subst h2
      simp [lexLe_refl]
    · rw [decide_eq_false h2, if_neg Bool.false_ne_true]
      have := lt_cast p q
      cases hl : lexLe p q with
      | true =>
        rw [hl] at this
        rw [decide_eq_false (fun h => by cases this.mp h)]
        simp [h1]
      | false =>
        rw [decide_eq_true (this.mpr hl)]
        simp [h1]
  · rw [decide_eq_false h1, if_neg Bool.false_ne_true]
    by_cases h2 : q.length < p.length
    · rw [decide_eq_true (by omega)]
      simp; omega
    · rw [decide_eq_false (by omega)]
      simp; omega
theorem mergeSort_sets (n : Nat) : (genS n).mergeSort (PySem.W.dataLe false keyD) = sets n := by
  have e : PySem.W.dataLe false keyD = leS := by funext p q; exact leKey p q
  rw [e]
  refine sorted_unique ((List.mergeSort_perm _ _).trans (sets_perm n).symm) ?_ (srtS_sorted _)
  exact List.pairwise_mergeSort (le := leS) (fun a b d => leS_trans) (fun a b => by rcases leS_total a b with h | h <;> simp [h]) _

/-! ### a call of the key -/
abbrev keyBody (p1 p2 p3 p4 p5 : Pos) (x1 : Nat) : Expr := .Tuple [.Call (.Name "len" p1) [.Name "some" p2] [] p3, .Name "some" p4] x1 p5
abbrev keyScope (more : List (Str × Const)) : Scope := { kind := .function, names := [(Str.ofString "some", .local), (Str.ofString "len", .globalImplicit)], isGenerator := false, isCoroutine := false, more := more }
theorem key_turn {prog : Program} {w : World} {A : Around} {s : Shared} {mg mb : Str → Option Value} {q : Str} {params : Arguments} {p1 p2 p3 p4 p5 : Pos} {x1 : Nat} {more : List (Str × Const)} {pm ctv : Value} {f c' a : Addr} {ns : List Nat} {us : List Value}
    (hg : s.heap.Ns mainGlobals mg) (hmiss : mg "len" = none) (hb : s.heap.Ns builtinsNs mb) (hv : mb "len" = some (.builtin "len")) (lim : s.heap.NoLimit) (hroom : A.depth < recursionLimit) (hcd : s.heap.CodeRec (.ref c') q)
    (hf : s.heap.get? f = some (PySem.W.kla_obj "<lambda>" q params (keyBody p1 p2 p3 p4 p5 x1) (keyScope more) [] pm c' ctv))
    (hbind : bindArgs (PySem.W.kla_fn "<lambda>" q params (keyBody p1 p2 p3 p4 p5 x1) (keyScope more) [] pm (.ref c') ctv) ⟨[.ref a], []⟩ = pure [(Str.ofString "some", .ref a)])
    (ht : IsTup s.heap a us.toArray) (hu : Vals ((ns.map fun k : Nat => (k : Int)).map V.int) us) (hz : us.length ≤ 100000) :
    wpAny (model prog w) A (call (.ref f) [.ref a]) (PySem.W.KeyPure (keyD ns) s) (fun _ _ => False) s := by
  refine wpAny_call ?_
  refine PySem.W.kla_callFunE hroom hf rfl rfl rfl rfl hcd ?_
  rw [hbind]
  refine wpAny_pure (wpAny_newFunctionEnv (fun x hx => ?_) (fun x hx => ?_) (fun h₁ hns hsb => ⟨lim.fresh _ hsb, ?_⟩) rfl)
  · simp only [List.mem_cons, List.not_mem_nil, or_false] at hx
    rcases hx with rfl | rfl <;> decide
  · simp only [List.mem_cons, List.not_mem_nil, or_false] at hx
    subst hx
    rfl
  have kp : ∀ b o, s.heap.get? b = some o → h₁.get? b = some o := fun b o e => hsb.extBut b o (Nat.ne_of_lt (Heap.lt_size e)) (Heap.get?_push_of_some _ e)
  have hloc : ([(Str.ofString "some", Value.ref a)] : List (Str × Value)).reverse.lookup (Str.ofString "some") = some (Value.ref a) := by rfl
  have htK : IsTup h₁ a us.toArray := by
    obtain ⟨o, h1, h2⟩ := ht
    exact ⟨o, kp _ _ h1, h2⟩
  refine PySem.W.kla_codeExpr ?_
  refine wpAny_Tuple_spliced ?_
  refine Calls.spliced_cons (wpAny_Call_Name_kw (Calls.Name_function_global rfl (by rfl) (Calls.loadGlobal_builtin (hg.keeps kp) hmiss (hb.keeps kp) hv ?_)))
  refine PyProof.Rows.callWith_builtin1 (Calls.spliced_cons (wpAny_Name (wpAny_loadName_local rfl (by rfl) hns hloc (Calls.spliced_nil (PyProof.Rows.len_tuple htK (by simp only [List.size_toArray]; omega) ?_)))))
  refine Calls.spliced_cons (wpAny_Name (wpAny_loadName_local rfl (by rfl) hns hloc (Calls.spliced_nil ?_)))
  refine ⟨by simp [sizeLine], ?_⟩
  have hl := hu.length
  rw [List.length_map, List.length_map] at hl
  refine ⟨_, _, rfl, fun b o e => Heap.get?_push_of_some _ (kp b o e), ?_⟩
  refine .tuple (Heap.get?_push_size _ rfl) rfl rfl ?_
  obtain ⟨o, h1, h2, n, h3⟩ := htK
  have hr := reads_ints (h := h₁.push { cls := .type "tuple", data := .seq [Value.int us.toArray.size (s.toks + [(Str.ofString "some", Value.ref a)].length + 1), Value.ref a].toArray }) hu
  rw [List.map_map] at hr
  have e1 : ((us.toArray.size : Nat) : Int) = (ns.length : Int) := by simp only [List.size_toArray]; omega
  rw [e1] at hr ⊢
  exact .cons (as := []) (bs := []) (.int _ _) (.cons (as := []) (bs := []) (.tuple (Heap.get?_push_of_some _ h1) h2 h3 hr) .nil)
end


section
open PySem PySem.Spec PyProof.Rows L2 LamX
variable {c : Cxt}
/-! ### sorted(l, key=the lambda) -/
def rSortK (c : Cxt) (q : Str) (params : Arguments) (body : Expr) (scope : Scope) (l : List (List Nat)) : List V → List V → Hp → VK → Prop := fun vs zs H Q => ∃ (a f c' : Addr), vs = [.ref a] ∧ zs = [.ref f] ∧ (LST (c := c) l).p (.ref a) H ∧
  H f = some (LamO f q params body scope [] c') ∧ H c' = some (CodeO c' q) ∧ l.length ≤ 1000 ∧ (∀ s ∈ l, s.length ≤ 1000) ∧
  ∀ (p : Addr) (ws : List V), H p = none → AllP (c := c) ((l.mergeSort (PySem.W.dataLe false keyD)).map ST) ws H → Q (.ref p) (upd H p (.lst ws))
theorem depth_key (s : List Nat) : (keyD s).depth ≤ 2 := by
  have h := depth_pdI s
  unfold keyD
  unfold PyData.depth PyData.depthAll PyData.depthAll PyData.depthAll
  unfold PyData.depth at *
  simp only [Nat.zero_max, Nat.max_zero]
  omega
theorem each_S {H : Hp} : ∀ {vs : List Value} {us : List V} {l : List (List Nat)}, Vals us vs → AllP (c := c) (l.map ST) us H → PySem.W.EachIs (fun (v : Value) (x : List Nat) => ∃ b, v = .ref b ∧ (ST (c := c) x).p (.ref b) H) vs l
  | _, _, [], r, h => by
    obtain rfl := h.nil_inv
    cases r
    exact .nil
  | _, _, x :: l, r, h => by
    obtain ⟨v, ws, rfl, h1, h2⟩ := h.cons_inv
    cases r with
    | cons r1 r2 =>
      obtain ⟨b, us', rfl, -, -⟩ := id h1
      obtain rfl := (show _ = Value.ref b from r1)
      exact .cons ⟨b, rfl, h1⟩ (each_S r2 h2)
theorem each_back {H : Hp} : ∀ {vs : List Value} {l : List (List Nat)}, PySem.W.EachIs (fun (v : Value) (x : List Nat) => ∃ b, v = .ref b ∧ (ST (c := c) x).p (.ref b) H) vs l → ∃ us, Vals us vs ∧ AllP (c := c) (l.map ST) us H
  | _, _, .nil => ⟨[], .nil, True.intro⟩
  | _, _, .cons h t => by
    obtain ⟨b, rfl, h1⟩ := h
    obtain ⟨us, r, h2⟩ := each_back t
    exact ⟨.ref b :: us, .cons rfl r, h1, h2⟩
theorem cr_sortK {X : Cx} {q : Str} {params : Arguments} {body : Expr} {scope : Scope} {l : List (List Nat)} {k : Nat} (eK : X.K = c.K) (hr : Room (k + 3) X.A) (hmiss : X.mg "len" = none) (hbd : ∃ p1 p2 p3 p4 p5 x1, body = keyBody p1 p2 p3 p4 p5 x1) (hsc : ∃ more, scope = keyScope more)
    (hbind : ∀ (pm ctv : Value) (c' a : Addr), bindArgs (PySem.W.kla_fn "<lambda>" q params body scope [] pm (.ref c') ctv) ⟨[.ref a], []⟩ = pure [(Str.ofString "some", .ref a)]) :
    CallRK X (.builtin "sorted") [Str.ofString "key"] (rSortK c q params body scope l) := by
  obtain ⟨p1, p2, p3, p4, p5, x1, rfl⟩ := hbd
  obtain ⟨more, rfl⟩ := hsc
  intro pins s σ H vs zs us ws Q I r rz h
  obtain ⟨a, f, c', rfl, rfl, hL, hf, hc, hl, hs, q⟩ := h
  obtain rfl := Vals.ref1 r
  obtain ⟨w1, rfl, e1⟩ := vals1 rz
  obtain rfl : w1 = Value.ref f := e1
  obtain ⟨a', vs, ea, hlst, hall⟩ := hL
  obtain rfl : a = a' := V.ref.inj ea
  obtain ⟨its, rv, hIs, hz⟩ := I.list (xs := vs) (SqL.of hlst)
  obtain ⟨pm, ctv, hfo⟩ := lamO_at I.hok hf
  obtain ⟨⟨oc, vs0, t0, hoc, hdc, hvc⟩, _, _⟩ := I.hok c' _ hc
  obtain ⟨mb, hb1, hb2⟩ := I.mod.blt
  have hlen := hall.len
  rw [List.length_map] at hlen
  refine PySem.W.sorted_key_data (R := fun (v : Value) (x : List Nat) => ∃ b, v = .ref b ∧ (ST (c := c) x).p (.ref b) H) (bs := l) (vs := its) (b := false) keyD hIs.isList (each_S rv hall) (PySem.W.AllAlike.of fun x y => ?_) (PySem.W.Sortable.tuples fun x => ⟨_, _, rfl⟩) (sz_of (by omega)) (fun x hx => ?_) (PyProof.Rows.ksk_s1 _ _) (fun x => PyProof.Rows.ksk_l1 _ _) (fun x => PyProof.Rows.ksk_t1 _ _) ?_ ?_
  · have e1 : PySem.W.alikeAll (x.map fun k : Nat => PyData.int (k : Int)) (y.map fun k : Nat => PyData.int (k : Int)) = true := by
      have := PySem.W.alike_ints (x.map fun k : Nat => (k : Int)) (y.map fun k : Nat => (k : Int))
      rw [List.map_map, List.map_map] at this
      exact this
    unfold keyD pdI
    simp [PySem.W.alike, PySem.W.alikeAll, e1]
  · have h1 := depth_key x
    have h2 := hr.units
    omega
  · rintro v x ⟨b, rfl, hb⟩ hx h tk kp
    obtain ⟨b', us, eb, hsq, hus⟩ := ST.s hb
    obtain rfl : b = b' := V.ref.inj eb
    obtain ⟨its2, rv2, ht2, hz2⟩ := I.tuple (xs := us) (by rw [eK]; exact hsq)
    have hKn : ∀ {α : Type} {A B : α}, A = B → A = B := fun e => e
    have e2 := hus.nats
    refine key_turn (s := { s with heap := h, toks := tk }) (mg := X.mg) (mb := mb) (us := its2) ((I.mod.glob.keeps I.bk).keeps kp) hmiss ((hb1.keeps I.bk).keeps kp) ((hb2 _ (by decide)).trans (by decide +kernel)) (I.nolimit.keeps kp) (Room.depth (hr.in1.in1)) ⟨c', oc, vs0, t0, rfl, kp _ _ hoc, hdc, hvc⟩ (kp _ _ hfo) (hbind _ _ _ _) ?_ (by rw [← e2]; exact rv2) ?_
    · obtain ⟨o, o1, o2⟩ := ht2
      exact ⟨o, kp _ _ o1, o2⟩
    · have h1 := rv2.length
      have h2 := hus.len
      rw [List.length_map] at h2
      have h3 := hs x hx
      omega
  · intro out ep h' tk kp hfr hat hol hea
    obtain ⟨us2, rv2, hall2⟩ := each_back hea
    have fr : H (s.heap.objs.size + 1) = none := I.hok.fresh (Nat.le_succ _)
    have hl2 := hall2.len
    rw [List.length_map, List.length_mergeSort] at hl2
    refine ⟨.ref _, upd H (s.heap.objs.size + 1) (.lst us2), I.laid (t' := tk) kp (Nat.le_succ _) ⟨sz_of (by omega), out, ep, rv2, hat⟩, rfl, q _ _ fr hall2⟩

/-! ### a def that makes a lambda -/
structure LamF (c : Cxt) (base : Heap) (mg : Str → Option Value) (fd : FuncData) (q : Str) : Prop where
  ex : ∃ cc P, fd.code = .ref cc ∧ TabB base mg cc P ∧ (P, q) ∈ c.T ∧ ∀ p ∈ c.T, p.1 = P → p.2 = q
section
variable {P : Program} {w : World} {mg : Str → Option Value} {base : Heap} {n q : Str} {st : Stmt} {f : Addr} {fd : FuncData} {N ps : List Str} {k : Nat} {R : List (SV c) → SV c → Prop}
theorem okPL (F : FnP c.K n q st f fd) (Sc : FnScope N ps (defScope st)) (hlen : ∀ As Z, R As Z → As.length = ps.length)
    (hb : ∀ (cdv : Value) (A : Around) (outer : List Env) (s : Shared) (H : Hp) (vs : List V) (Q : VK) (E : XK) (As : List (SV c)) (Z : SV c), fd.code = cdv → Room k (A.deeper (envOfC q (defScope st) s.heap.objs.size f cdv)) → AllP As vs H → R As Z → Gr c H H →
      (∀ v H', Gr c H H' → Z.p v H' → Q v H') → ∃ t, PSs (cxOf CX0 P w c.K mg base N q (defScope st) f cdv A outer s H E).nox (defBody st) t ∧ t { nx := fun _ H' => Q .non H', rt := Q } (start N vs) H) :
    FnOk P w c.K mg base CX0 (k + 1) f fd ps (Pm c R) := by
  obtain ⟨oc, od, dV, kV, doc, pm, an, cdv, ct, osl, e, lk, hcd, _, _⟩ := F.ex
  have ecd : fd.code = cdv := by rw [e]
  rw [e] at lk ⊢
  refine fn_of lk hcd Sc (fun vs H Q E h => ?_) (fun A outer s H vs Q E hr h => ?_)
  · obtain ⟨As, Z, hA, hR, _⟩ := h
    rw [hA.len, hlen As Z hR]
  · obtain ⟨As, Z, hA, hR, hT, kQ⟩ := h
    obtain ⟨t, h1, h2⟩ := hb cdv A outer s H vs Q E As Z ecd hr hA hR (Gr.refl hT) kQ
    exact ⟨t, h1.nox, h2⟩
end
/-! ### sets_of -/
variable {P : Program} {w : World} {mg : Str → Option Value} {base : Heap} {f : Addr} {fd : FuncData}
theorem genS_le {n : Nat} (h : n ≤ 6) : (genS n).length ≤ 64 := by
  rw [genS_len]
  exact Nat.pow_le_pow_right (by decide) h
/-- the lambda that a def's last statement hands over by key= -/
def kLam (st : Stmt) : Arguments × Option (Expr × Scope) := match defBody st with
  | [_, _, .Return (some (.Call _ _ [⟨_, .Lambda p b s _, _⟩] _)) _] => (p, some (b, s))
  | _ => (defArgs st, none)
abbrev kP (st : Stmt) : Arguments := (kLam st).1
abbrev kB (st : Stmt) : Expr := match (kLam st).2 with
  | some b => b.1
  | none => .Name "x" ⟨0, 0, 0, 0⟩
abbrev kS (st : Stmt) : Scope := match (kLam st).2 with
  | some b => b.2
  | none => defScope st
abbrev N_sets_of : List Str := ["servers", "found", "server", "some"]
theorem sc_sets_of : FnScope N_sets_of ["servers"] (defScope s_sets_of) := ⟨rfl, rfl, rfl, by decide +kernel, rfl, by decide +kernel, by decide +kernel⟩
theorem ok_sets_of (F : FnP c.K "sets_of" "sets_of" s_sets_of f fd) (Bt : Bts c mg) (C : Cl c) (Il : IsL c) (Lf : LamF c base mg fd "sets_of.<locals>.<lambda>")  : FnOk P w c.K mg base CX0 5 f fd ["servers"] (Pm c R_sets_of) := by
  refine okPL F sc_sets_of (fun As Z h => by obtain ⟨_, rfl, _⟩ := h; rfl) fun cdv A outer s H vs Q E As Z hcd hr hA hR g k => ?_
  have nd := sc_sets_of.nd
  obtain ⟨n, rfl, hn, rfl⟩ := hR
  obtain ⟨v0, rfl, h0⟩ := hA.inv1
  obtain ⟨cc, PT, hcc, TB, hmT, huT⟩ := Lf.ex
  rw [hcd] at hcc
  subst hcc
  refine ⟨_, (pss_cons (ps_set (i := 1) nd rfl (Or.inl rfl) (pe_lst (pa_cons (pe_tup pa_nil) pa_nil)))
    (pss_cons (ps_for PassesOwn.never rfl (pi_range1 (by rfl) Bt.brange (pa_cons (pv 0) pa_nil)) (pg_name (i := 2) nd rfl (Or.inr rfl)) (pss_one (ps_set (i := 1) nd rfl (Or.inl rfl) (pe_lst (pa_starQ (K := c.K) rfl (pv 1) (pa_starQ (K := c.K) rfl (pe_lc (own := [("some", 3)]) rfl nd (pi_listQ (K := c.K) rfl (pv 1)) (blkOk_by (own := [("some", 3)]) (N := N_sets_of) (sc := defScope s_sets_of) (by decide +kernel)) (fun _ _ _ _ _ => (pg_name (i := 3) nd rfl (Or.inl rfl))) (fun _ _ _ _ _ => pts_nil) (fun _ _ _ _ _ => (pe_tup (pa_starQ (K := c.K) rfl (pv 3) (pa_cons (pv 2) pa_nil))))) pa_nil))))))
    (pss_one (ps_ret (pe_callBK (cr_sortK (c := c) (l := genS n) (q := "sets_of.<locals>.<lambda>") (params := kP s_sets_of) (body := kB s_sets_of) (scope := kS s_sets_of) (k := 1) rfl (hr.mono (by decide)) Bt.blen ⟨_, _, _, _, _, _, rfl⟩ ⟨_, rfl⟩ (fun pm ctv c' a => by rfl)) (by rfl) Bt.bsorted (by decide +kernel) (pa_cons (pv 1) pa_nil) (pk_cons (pe_lam (c := c) TB rfl (by rfl) hmT huT (by rfl) (fun ok y hy e => absurd e ((by decide : ∀ y ∈ (kS s_sets_of).names, y.2 ≠ .free) y hy))) pk_nil)))))), ?_⟩
  refine q_asgF g (P := LST (genS 0)) (ef_lst (Ps := [ST []]) (ea_cons (ev_tupT ea_nil (by simp)) ea_nil) (by simp)) fun a H1 n1 g1 h1 => ?_
  refine q_forP (List.range n) (fun k : Nat => I (k : Int)) g1 (es_range1 (ea_cons (ev_var rfl h0) ea_nil) (by omega)) (fun i σ' H' => ∃ a u w', σ' = [some v0, some (.ref a), u, w'] ∧ (LST (c := c) (genS i)).p (.ref a) H') (fun H2 g2 => ⟨a, none, none, rfl, (LST _).st g2 h1⟩) ?_ ?_
  · rintro i s' x σ' H' hi gp ⟨a', u, w', rfl, hL⟩ H2 g2 hx
    have hil : i < n := by have := (List.getElem?_eq_some_iff.mp hi).1; rw [List.length_range] at this; exact this
    have hs' : s' = i := by
      obtain ⟨h1, h2⟩ := List.getElem?_eq_some_iff.mp hi
      rw [List.getElem_range] at h2
      exact h2.symm
    subst hs'
    have hL2 := (LST (genS s')).st g2 hL
    have hle := genS_le (n := s') (by omega)
    show tAsg _ _ _ _ _
    refine s_asgF g2.self (P := LST (genS (s' + 1))) ?_ fun a2 H3 n3 g3 h3 => ⟨(gp.trans g2).trans g3, a2, some x, w', rfl, h3⟩
    have e : (genS (s' + 1)).map (ST (c := c)) = (genS s').map ST ++ (((genS s').map fun s => ST (s ++ [s'])) ++ []) := by
      rw [genS, List.map_append, List.map_map, List.append_nil]
      rfl
    show EvF c _ _ H2 (L ((genS (s' + 1)).map ST))
    rw [e]
    refine ef_lst (ea_star (ev_var rfl hL2) (ea_star (ef_lcA (genS s') ST (fun s => ST (s ++ [s'])) (ei_list (ev_var rfl hL2)) (by omega) fun d y Hc hd gc hy => ?_).ev ea_nil)) (by simp only [List.length_append, List.length_map, List.length_nil]; omega)
    refine ⟨_, tg_name, rfl, Ev.to (ev_tupT (ea_starT (ev_var (P := S d) rfl (ST.s hy)) (ea_cons (ev_var rfl ((I (s' : Int)).st gc hx)) ea_nil)) ?_) ?_⟩
    · have := (genS_mem hd).len
      simp only [List.length_append, List.length_map, List.length_cons, List.length_nil]
      omega
    · show _ = TupT _
      rw [List.map_append]
      rfl
  · rintro σ' H' gp ⟨a', u, w', rfl, hL⟩
    rw [List.length_range] at hL
    have hle := genS_le hn
    refine ⟨.ref a', rfl, gp.t1, fun f' c' H1 g1 hf hL1 hC => ⟨a', f', c', rfl, rfl, (LST _).st g1 hL, hL1, hC, by omega, fun s hs => by have := (genS_mem hs).len; omega, fun p ws hp hall => ?_⟩⟩
    rw [mergeSort_sets] at hall
    exact k (.ref p) _ ((gp.trans g1).trans (g1.self.new hp)) ⟨p, ws, rfl, upd_same, hall.gr (g1.self.new hp)⟩
end


section
open PySem PySem.Spec PyProof.Rows L2 LamX NdefX
variable {c : Cxt}
/-! ### cells tracked -/
abbrev Cel (b : Addr) (o : Obj) : HO := .frz o (.own b)
def trk (H : Hp) (C : Addr → Option Obj) : Hp := fun b => match C b with
  | some o => some (Cel b o)
  | none => H b
def untrk (H : Hp) (C : Addr → Option Obj) : Hp := fun b => match C b with
  | some _ => none
  | none => H b
section
variable {H H' H1 : Hp} {C : Addr → Option Obj} {b : Addr} {o : Obj} {P : Program} {w : World} {h h' : Heap} {fs : List Addr}
theorem trk_some (e : C b = some o) : trk H C b = some (Cel b o) := by unfold trk; rw [e]
theorem trk_none (e : C b = none) : trk H C b = H b := by unfold trk; rw [e]
theorem untrk_some (e : C b = some o) : untrk H C b = none := by unfold untrk; rw [e]
theorem untrk_none (e : C b = none) : untrk H C b = H b := by unfold untrk; rw [e]
theorem cn (h : ∀ b o, C b = some o → H b = none) {u : HO} (e : H b = some u) : C b = none := by
  cases q : C b with
  | none => rfl
  | some o => rw [h b o q] at e; cases e
theorem hok_trk (ok : HOk P w H h) (h0 : ∀ b o, C b = some o → h.get? b = some o) (h1 : ∀ b o, C b = some o → H b = none) : HOk P w (trk H C) h := fun a u e => by
  cases q : C a with
  | some o =>
    rw [trk_some q] at e
    cases e
    exact ⟨h0 a o q, o, h0 a o q⟩
  | none =>
    rw [trk_none q] at e
    exact (ok a u e).stay (fun _ _ _ q => q) (fun b q => by rw [trk_none (cn h1 q)]; exact q) fun b xs q => by rw [trk_none (cn h1 q)]; exact q
theorem cc (h : ∀ b o, C b = some o → H b = some (Cel b o)) {u : HO} (e : H b = some u) (hu : ∀ o x, u ≠ .frz o (.own x)) : C b = none := by
  cases q : C b with
  | none => rfl
  | some o => rw [h b o q] at e; cases e; exact absurd rfl (hu o b)
theorem hok_untrk (ok : HOk P w H h) (h1 : ∀ b o, C b = some o → H b = some (Cel b o)) : HOk P w (untrk H C) h := fun a u e => by
  cases q : C a with
  | some o => rw [untrk_some q] at e; cases e
  | none =>
    rw [untrk_none q] at e
    exact (ok a u e).stay (fun _ _ _ q => q) (fun b q => by rw [untrk_none (cc h1 q (fun _ _ z => by cases z))]; exact q) fun b xs q => by rw [untrk_none (cc h1 q (fun _ _ z => by cases z))]; exact q
/-- behind a call that ran with the cells tracked: without them -/
theorem un_out (u : Un fs [] (trk H C) H' h h') (ok : HOk P w H' h') (h0 : ∀ b o, C b = some o → h.get? b = some o) (h1 : ∀ b o, C b = some o → H b = none) (h2 : ∀ b o, C b = some o → b ∉ fs) (h3 : ∀ b o, C b = some o → H' b = some (Cel b o)) : Un fs [] H (untrk H' C) h h' where
  keep := fun b o e n hb hx => by
    cases q : C b with
    | some o' =>
      rw [h0 b o' q] at e
      cases e
      exact (ok b _ (h3 b _ q)).1
    | none => exact u.keep b o e (by rw [trk_none q]; exact n) hb hx
  slot := fun b o e n hb hx => by
    cases q : C b with
    | some o' => exact absurd hb (h2 b o' q)
    | none => exact u.slot b o e (by rw [trk_none q]; exact n) hb hx
  free := fun b o e n hx => by
    cases q : C b with
    | some o' => exact untrk_some q
    | none =>
      rw [untrk_none q]
      exact u.free b o e (by rw [trk_none q]; exact n) hx
  there := u.there
  tups := fun b xs e => by
    have q := cn h1 e
    rw [untrk_none q]
    exact u.tups b xs (by rw [trk_none q]; exact e)
  frzs := fun b o x e => by
    have q := cn h1 e
    rw [untrk_none q]
    exact u.frzs b o x (by rw [trk_none q]; exact e)
  tbls := fun b ps e => by
    have q := cn h1 e
    obtain ⟨m, z⟩ := u.tbls b ps (by rw [trk_none q]; exact e)
    exact ⟨m, by rw [untrk_none q]; exact z⟩
/-- behind a call that ran without them: with them -/
theorem un_in (u : Un fs [] (untrk H C) H1 h h') (h1 : ∀ b o, C b = some o → H b = some (Cel b o)) (hT : ∀ b o, C b = some o → H1 b = none) : Un fs [] H (trk H1 C) h h' := by
  have nn : ∀ b, H b = none → C b = none := fun b n => by
    cases q : C b with
    | none => rfl
    | some o => rw [h1 b o q] at n; cases n
  refine ⟨fun b o e n hb hx => u.keep b o e (by rw [untrk_none (nn b n)]; exact n) hb hx, fun b o e n hb hx => u.slot b o e (by rw [untrk_none (nn b n)]; exact n) hb hx, fun b o e n hx => ?_, u.there, fun b xs e => ?_, fun b o x e => ?_, fun b ps e => ?_⟩
  · rw [trk_none (nn b n)]
    exact u.free b o e (by rw [untrk_none (nn b n)]; exact n) hx
  · have q := cc h1 e (fun _ _ z => by cases z)
    rw [trk_none q]
    exact u.tups b xs (by rw [untrk_none q]; exact e)
  · cases q : C b with
    | some o' =>
      rw [trk_some q, ← h1 b o' q]
      exact e
    | none =>
      rw [trk_none q]
      exact u.frzs b o x (by rw [untrk_none q]; exact e)
  · have q := cc h1 e (fun _ _ z => by cases z)
    obtain ⟨m, z⟩ := u.tbls b ps (by rw [untrk_none q]; exact e)
    exact ⟨m, by rw [trk_none q]; exact z⟩
theorem tabs_trk (t : Tabs c.T H) (h1 : ∀ b o, C b = some o → H b = none) : Tabs c.T (trk H C) := t.ext fun b o e => by rw [trk_none (cn h1 e)]; exact e
theorem codeO_nf {a x y : Addr} {q : Str} {o : Obj} : CodeO a q ≠ .frz o (.own x) := fun z => by unfold CodeO at z; cases z
theorem tabs_untrk (t : Tabs c.T H) (h1 : ∀ b o, C b = some o → H b = some (Cel b o)) : Tabs c.T (untrk H C) := fun p hp => by
  obtain ⟨ps, a1, a2, a3⟩ := t p hp
  refine ⟨ps, by rw [untrk_none (cc h1 a1 (fun _ _ z => by cases z))]; exact a1, a2, fun pos cv hc => ?_⟩
  obtain ⟨k, e1, e2⟩ := a3 pos cv hc
  exact ⟨k, e1, by rw [untrk_none (cc h1 e2 (fun _ _ => codeO_nf (y := 0)))]; exact e2⟩
theorem gr_trk (t : Tabs c.T H) (h1 : ∀ b o, C b = some o → H b = none) : Gr c H (trk H C) := ⟨fun b o e _ => by rw [trk_none (cn h1 e)]; exact e, fun b e => by
  cases q : C b with
  | some o => rw [trk_some q] at e; cases e
  | none => rw [trk_none q] at e; exact e, t, tabs_trk t h1⟩
/-- from the heap with the cells on, told without them -/
theorem gr_out (g : Gr c (trk H C) H') (t : Tabs c.T H) (h1 : ∀ b o, C b = some o → H b = none) : Gr c H (untrk H' C) := by
  have h3 : ∀ b o, C b = some o → H' b = some (Cel b o) := fun b o q => g.ext b _ (trk_some q) fun ps z => by cases z
  refine ⟨fun b o e n => ?_, fun b e => ?_, t, tabs_untrk g.t1 h3⟩
  · have q := cn h1 e
    rw [untrk_none q]
    exact g.ext b o (by rw [trk_none q]; exact e) n
  · cases q : C b with
    | some o => exact h1 b o q
    | none =>
      rw [untrk_none q] at e
      have := g.fr b e
      rw [trk_none q] at this
      exact this
/-- from the heap without the cells on, told with them -/
theorem gr_in (g : Gr c (untrk H C) H1) (t : Tabs c.T H) (h1 : ∀ b o, C b = some o → H b = some (Cel b o)) (hT : ∀ b o, C b = some o → H1 b = none) : Gr c H (trk H1 C) := by
  refine ⟨fun b o e n => ?_, fun b e => ?_, t, tabs_trk g.t1 hT⟩
  · cases q : C b with
    | some o' => rw [trk_some q, ← h1 b o' q]; exact e
    | none =>
      rw [trk_none q]
      exact g.ext b o (by rw [untrk_none q]; exact e) n
  · cases q : C b with
    | some o' => rw [trk_some q] at e; cases e
    | none =>
      rw [trk_none q] at e
      have := g.fr b e
      rw [untrk_none q] at this
      exact this
end
/-! ### a lambda runs -/
section
variable {P : Program} {w : World} {mg : Str → Option Value} {base : Heap} {N ps fr : List Str} {F : NF} {f : Addr} {k : Nat} {A : Around} {outer : List Env} {s : Shared} {H : Hp} {us : List Value} {vs : List V} {ws : List (Option V)} {Q : VK} {body : Expr} {tb : TE}
theorem lam_run (S : NScope N ps fr F.scope) (hbind : ∀ (pm ctv : Value), bindArgs (PySem.W.kla_fn "<lambda>" F.qual F.params body F.scope F.cl pm (.ref F.c) ctv) ⟨us, []⟩ = pure (ps.zip us)) (hf : H f = some (LamO f F.qual F.params body F.scope F.cl F.c)) (hc : H F.c = some (CodeO F.c F.qual))
    (C : CellsAt F.cl fr ws s.heap H) (hr : Room (k + 1) A) (e0 : Env0 P w c.K mg base A outer s H) (r : Vals vs us) (hl : vs.length = ps.length) (hb : Room k (A.deeper (envF F f s.heap.objs.size)) → PE (ncx CX0 P w c.K mg base N F f A outer s H E0) body tb) (hq : tb (startF N vs ws) H Q) :
    codeAny (model P w) A (.call (.ref f) ⟨us, []⟩) (CR CX0 outer P w H s Q E0) s := by
  have lim : s.heap.NoLimit := e0.mod.nolimit.keeps fun b o e => (e0.bs b o e).1
  obtain ⟨pm, ctv, ho⟩ := lamO_at e0.hok hf
  refine PySem.W.kla_callFunE hr.depth ho rfl S.co S.gen rfl (codeO_at e0.hok hc) ?_
  rw [hbind]
  refine wpAny_pure (wpAny_newFunctionEnv S.nocell (fun ⟨n, _⟩ hy => S.par n (List.of_mem_zip hy).1) (fun h₁ hns hsb => ⟨lim.fresh _ hsb, ?_⟩) S.kind)
  show codeAny _ _ (.expr body (envF F f s.heap.objs.size)) _ _
  have kp : ∀ b o, s.heap.get? b = some o → h₁.get? b = some o := fun b o e => hsb.extBut b o (Nat.ne_of_lt (Heap.lt_size e)) (Heap.get?_push_of_some _ e)
  have I : Inv (ncx CX0 P w c.K mg base N F f A outer s H E0) [] (startF N vs ws) H { s with heap := h₁, toks := s.toks + (ps.zip us).length } := inv_startN S hr.hd e0 hl r C hns kp
  refine PySem.W.kla_codeExpr (wpAny_mono ((hb (hr.deeper _)).run [] _ _ H Q I hq) (fun v s' hq => ?_) fun e s' hq => hq)
  obtain ⟨w', H', J', rv, q⟩ := hq
  exact ⟨w', H', J'.os, J'.bare, J'.base, J'.hok, rv, q⟩
end
/-! ### a function value: tells of sets of servers -/
def FnB (c : Cxt) (P : Program) (w : World) (mg : Str → Option Value) (base : Heap) (k : Nat) (bad : List Nat → Bool) (dom : List Nat → Prop) : SV c :=
  ⟨fun v H => ∃ f, v = .ref f ∧ ∀ H', Gr c H H' → (∀ h, HOk P w H' h → PySem.W.FnAt f h) ∧ ∀ (A : Around) (outer : List Env) (s : Shared) (us : List Value) (vs : List V) (Q : VK) (dn : List Nat), Room k A → Env0 P w c.K mg base A outer s H' → Vals vs us → AllP (c := c) [S dn] vs H' → dom dn →
    (∀ v H2, Gr c H' H2 → (B (c := c) (bad dn)).p v H2 → Q v H2) → codeAny (model P w) A (.call (.ref f) ⟨us, []⟩) (CR CX0 outer P w H' s Q E0) s, fun {v H0 H1} g h => by
    obtain ⟨f, e, h⟩ := h
    exact ⟨f, e, fun H' g' => h H' (g.trans g')⟩⟩
def tCallFn (P : Program) (w : World) (K : PySem.W.Frag) (mg : Str → Option Value) (base : Heap) (k i : Nat) (t : TA) : TE := fun σ H Q => ∃ f, σ[i]? = some (some (.ref f)) ∧ (∀ h, HOk P w H h → PySem.W.FnAt f h) ∧ t σ H fun vs H1 => (∀ h, HOk P w H1 h → PySem.W.FnAt f h) ∧
  ∀ (A : Around) (outer : List Env) (s : Shared) (us : List Value), Room k A → Env0 P w K mg base A outer s H1 → Vals vs us → codeAny (model P w) A (.call (.ref f) ⟨us, []⟩) (CR CX0 outer P w H1 s Q E0) s
section
variable {X : Cx} {P : Program} {w : World} {K : PySem.W.Frag} {mg : Str → Option Value} {base : Heap} {k i : Nat} {x : Str} {p pos : Pos} {e : Expr} {es : List Expr} {t : TA}
theorem pe_callFn (eP : X.prog = P) (ew : X.w = w) (eK : X.K = K) (em : X.mg = mg) (eb : X.base = base) (hr : Room k X.A) (hN : X.N[i]? = some x) (hv : Vis X.env.scope x) (ha : PA X (e :: es) t)
    (hdb : (x == ("__debug__" : Str)) = false := by decide) (hcd : (x == ("__classdict__" : Str)) = false := by decide)
    (he : starEach (e :: es) X.env = (false, eval e X.env) :: starEach es X.env := by rfl) (hpl : (backTo pos (starEach es X.env)).any (·.1) = false := by rfl) : PE X (.Call (.Name x p) (e :: es) [] pos) (tCallFn P w K mg base k i t) := by
  subst eP ew eK em eb
  refine ⟨fun pins s σ H Q I h => ?_⟩
  obtain ⟨f, hs, hf, ht⟩ := h
  refine wpAny_Call_Name_kw (thn ((pe_var (pos := p) hN hv hdb hcd).run pins s σ H (fun v H1 => v = .ref f ∧ H1 = H) I ⟨.ref f, hs, rfl, rfl⟩) fun u s1 ⟨v, H1, I1, r1, q1⟩ => ?_)
  obtain ⟨ev, eH⟩ := q1
  subst ev
  rw [eH] at I1
  obtain rfl : u = Value.ref f := r1
  refine PySem.W.callWith_F (first := []) (hf _ I1.hok) (thn (ha.run pos pins s1 σ H _ I1 ht) fun us s2 ⟨vs, H2, I2, r, h1, q⟩ => ⟨h1 _ I2.hok, ?_⟩) he hpl
  show wpAny _ _ (call (.ref f) us) _ _ _
  refine wpAny_call (codeAny_mono (q X.A X.stack s2 us hr I2.env0 r) fun r s' hq => ?_)
  cases r with
  | error e => exact (show False from hq).elim
  | ok fl =>
    cases fl with
    | ret u => exact I2.after hq
    | next => exact False.elim hq
    | brk => exact False.elim hq
    | cont => exact False.elim hq
theorem ev_callFn {σ : L2.St} {H : Hp} {v : V} {bad : List Nat → Bool} {dom : List Nat → Prop} {dn : List Nat} (hs : σ[i]? = some (some v)) (hv : (FnB c P w mg base k bad dom).p v H) (ha : EvA c t σ H [S dn]) (hd : dom dn) : Ev c (tCallFn P w c.K mg base k i t) σ H (B (bad dn)) := fun H1 g Q q => by
  obtain ⟨f, rfl, h⟩ := hv
  exact ⟨f, hs, (h H1 g).1, ha H1 g _ fun vs H2 g2 e2 => ⟨(h H2 (g.trans g2)).1, fun A outer s us hr e0 r => (h H2 (g.trans g2)).2 A outer s us vs Q dn hr e0 r e2 hd fun v H3 g3 e3 => q v H3 (g2.trans g3) e3⟩⟩
end
end


section
open PySem PySem.Spec PyProof.Rows L2 LamX NdefX
variable {c : Cxt} {P : Program} {w : World} {mg : Str → Option Value} {base : Heap} {f : Addr} {fd : FuncData}
def R_chance_of' (P : Program) (w : World) (mg : Str → Option Value) (base : Heap) (As : List (SV c)) (Z : SV c) : Prop := ∃ (n : Nat) (its : List Itm) (ch : List Nat) (bad : List Nat → Bool), As = [Lay n its, S ch, FnB c P w mg base 7 bad (WfS n)] ∧ n ≤ 6 ∧ ch.length = n ∧ (∀ x ∈ ch, x ≤ 12) ∧ Z = Fr (chanceOf n ch bad)
theorem sum_cast {α : Type} (g : α → Nat) : ∀ l : List α, (l.map fun x => ((g x : Nat) : Int)).sum = (((l.map g).sum : Nat) : Int)
  | [] => rfl
  | a :: l => by rw [List.map_cons, List.sum_cons, sum_cast g l, List.map_cons, List.sum_cons, Int.natCast_add]
abbrev N_chance_of : List Str := ["layout", "chances", "is_bad", "ways", "down"]
theorem sc_chance_of : FnScope N_chance_of ["layout", "chances", "is_bad"] (defScope s_chance_of) := ⟨rfl, rfl, rfl, by decide +kernel, rfl, by decide +kernel, by decide +kernel⟩
theorem ok_chance_of (F : FnP c.K "chance_of" "chance_of" s_chance_of f fd) (Bt : Bts c mg) (C : Cl c) (Il : IsL c) (h_sets_of : Has P w c.K mg base "sets_of" ["servers"] 5 (Pm c R_sets_of)) (h_weight_of : Has P w c.K mg base "weight_of" ["chances", "down"] 1 (Pm c R_weight_of)) (h_lowest : Has P w c.K mg base "lowest" ["numerator", "denominator"] 1 (Pm c R_lowest)) (h_power : Has P w c.K mg base "power" ["base", "exponent"] 1 (Pm c R_power)) : FnOk P w c.K mg base CX0 8 f fd ["layout", "chances", "is_bad"] (Pm c (R_chance_of' P w mg base)) := by
  refine okP F sc_chance_of (fun As Z h => by obtain ⟨_, _, _, _, rfl, _⟩ := h; rfl) fun cdv A outer s H vs Q E As Z hr hA hR g k => ?_
  have nd := sc_chance_of.nd
  obtain ⟨n, its, ch, bad, rfl, hn, hl, hm, rfl⟩ := hR
  obtain ⟨v0, v1, v2, rfl, h0, h1, h2⟩ := hA.inv3
  have hz := sets_le hn
  refine ⟨_, (pss_cons (ps_set (i := 3) nd rfl (Or.inl rfl) (pe_callB (cr_sumQ (K := c.K) rfl rfl) (by rfl) Bt.bsum (by decide +kernel) (pa_cons (pe_lc (own := [("down", 4)]) rfl nd (pi_listQ (K := c.K) rfl (pe_callH h_sets_of (hr.mono (by decide)) rfl (pa_cons (pe_fldQ (K := c.K) rfl (pv 0) rfl) pa_nil))) (blkOk_by (own := [("down", 4)]) (N := N_chance_of) (sc := defScope s_chance_of) (by decide +kernel)) (fun _ _ _ _ _ => (pg_name (i := 4) nd rfl (Or.inl rfl))) (fun _ _ _ _ _ => (pts_one (pt_val (pe_callFn (P := P) (w := w) (K := c.K) (mg := mg) (base := base) (k := 7) (i := 2) rfl rfl rfl rfl rfl (hr.mono (by decide)) rfl (by first | exact Or.inl rfl | exact Or.inr (Or.inl rfl) | exact Or.inr (Or.inr rfl)) (pa_cons (pv 4) pa_nil))))) (fun _ _ _ _ _ => (pe_callH h_weight_of (hr.mono (by decide)) rfl (pa_cons (pv 1) (pa_cons (pv 4) pa_nil))))) pa_nil)))
    (pss_one (ps_ret (pe_callH h_lowest (hr.mono (by decide)) rfl (pa_cons (pv 3) (pa_cons (pe_callH h_power (hr.mono (by decide)) rfl (pa_cons (pe_glob (v := .int 12) rfl Bt.WHOLE.choose_spec ⟨_, rfl⟩) (pa_cons (pe_fldQ (K := c.K) rfl (pv 0) rfl) pa_nil))) pa_nil)))))), ?_⟩
  refine q_asg g (P := I (ways n ch bad : Int)) (Ev.to (ev_cb rc_sum (ea_cons (Ev.to (ef_lcm (sets n) S bad (fun s => I ((weightOf ch s : Nat) : Int)) (ei_list (ev_sets (ev_servers C (ev_var rfl h0)) hn)) (by omega) fun a x Hc ha gc hx => ?_).ev (LI_map _ _)) ea_nil)) (congrArg (fun i : Int => I i) (sum_cast _ _))) fun v3 H1 g1 h3 => ?_
  · exact ⟨_, tg_name, rfl, et_B (ev_callFn rfl ((FnB c P w mg base 7 bad (WfS n)).st gc h2) (ea_cons (ev_var rfl hx) ea_nil) (sets_mem ha)), fun _ => ev_call (ea_cons (ev_var rfl ((S ch).st gc h1)) (ea_cons (ev_var rfl hx) ea_nil)) ⟨_, _, rfl, by omega, hm, rfl⟩⟩
  · have hp1 : 12 ^ n ≤ 12 ^ 6 := Nat.pow_le_pow_right (by decide) hn
    have hp2 : 0 < 12 ^ n := Nat.pow_pos (by decide)
    have e6 : (12 : Nat) ^ 6 = 2985984 := by decide
    exact s_ret g1.self (ev_call (ea_cons (ev_var rfl h3) (ea_cons (ev_call (ea_cons (P := I ((12 : Nat) : Int)) ev_c (ea_cons (ev_servers C (ev_var rfl ((Lay n its).st g1 h0))) ea_nil)) ⟨_, _, rfl, by omega, hn, rfl⟩) ea_nil)) ⟨_, _, rfl, by omega, by omega, rfl⟩) fun v H2 g2 e2 => k v H2 (g1.trans g2) e2
end


section
open PySem PySem.Spec PyProof.Rows L2 LamX NdefX
variable {c : Cxt}
/-- what the tracked cells C hold -/
structure CelT (cl : List (Str × Addr)) (fr : List Str) (ws : List (Option V)) (C : Addr → Option Obj) : Prop where
  len : ws.length = fr.length
  all : ∀ y b, cl.lookup y = some b → ∃ o v, C b = some o ∧ o.data = .cell v
  inj : ∀ x y b, cl.lookup x = some b → cl.lookup y = some b → x = y
  has : ∀ (i : Nat) (y : Str), fr[i]? = some y → ∃ b, cl.lookup y = some b ∧ ∀ v, ws[i]? = some (some v) → ∃ u o, L2.RelV v u ∧ C b = some o ∧ o.data = .cell (some u)
/-- a lambda's object, its code object -/
def LamV (c : Cxt) (q : Str) (params : Arguments) (body : Expr) (scope : Scope) (cl : List (Str × Addr)) : SV c := ⟨fun v H => ∃ f c', v = .ref f ∧ H f = some (LamO f q params body scope cl c') ∧ H c' = some (CodeO c' q), fun {v H0 H1} g h => by
  obtain ⟨f, c', e, h1, h2⟩ := h
  exact ⟨f, c', e, g.ext _ _ h1 fun ps => lamO_ne ps, g.ext _ _ h2 fun ps => codeO_ne ps⟩⟩
theorem ev_lam {q : Str} {params : Arguments} {body : Expr} {scope : Scope} {cl : List (Str × Addr)} {σ : L2.St} {H : Hp} : Ev c (tLamE c q params body scope cl) σ H (LamV c q params body scope cl) := fun H1 g Q q =>
  ⟨g.t1, fun f c' H2 g2 hf h1 h2 => q _ H2 g2 ⟨f, c', rfl, h1, h2⟩⟩
theorem lamO_nf {a x : Addr} {f : Addr} {q : Str} {params : Arguments} {body : Expr} {scope : Scope} {cl : List (Str × Addr)} {c' : Addr} {o : Obj} : LamO f q params body scope cl c' ≠ .frz o (.own x) := fun z => by unfold LamO at z; cases z
section
variable {P : Program} {w : World} {mg : Str → Option Value} {base : Heap} {N fr : List Str} {k : Nat} {pn q : Str} {params : Arguments} {body : Expr} {scope : Scope} {cl : List (Str × Addr)} {bad : List Nat → Bool} {dom : List Nat → Prop} {Ws : List (SV c)}
theorem fnB_lam (Sc : NScope N [pn] fr scope) (hbind : ∀ (u pm ctv : Value) (c' : Addr), bindArgs (PySem.W.kla_fn "<lambda>" q params body scope cl pm (.ref c') ctv) ⟨[u], []⟩ = pure [(pn, u)])
    (hbody : ∀ (F : NF) (f : Addr) (A : Around) (outer : List Env) (s : Shared) (H : Hp), F.scope = scope → F.qual = q → F.cl = cl → Room k (A.deeper (envF F f s.heap.objs.size)) → ∃ tb, PE (ncx CX0 P w c.K mg base N F f A outer s H E0) body tb ∧
      ∀ (vs ws : List V) (dn : List Nat), AllP (c := c) [S dn] vs H → AllP Ws ws H → dom dn → Gr c H H → Ev c tb (startF N vs (ws.map some)) H (B (bad dn)))
    {v : V} {H1 : Hp} {C : Addr → Option Obj} {ws : List V} (hv : (LamV c q params body scope cl).p v H1) (hC : CelT cl fr (ws.map some) C) (hW : AllP Ws ws H1) (h1 : ∀ b o, C b = some o → H1 b = none) (t : Tabs c.T H1) : (FnB c P w mg base (k + 1) bad dom).p v (trk H1 C) := by
  obtain ⟨f, c', rfl, hf, hc⟩ := hv
  refine ⟨f, rfl, fun H' g' => ?_⟩
  have h3 : ∀ b o, C b = some o → H' b = some (Cel b o) := fun b o q => g'.ext b _ (trk_some q) fun ps z => by cases z
  have go : Gr c H1 (untrk H' C) := gr_out g' t h1
  have hfU := go.ext _ _ hf fun ps => lamO_ne ps
  have hcU := go.ext _ _ hc fun ps => codeO_ne ps
  have hfH : H' f = some (LamO f q params body scope cl c') := g'.ext _ _ (by rw [trk_none (cn h1 hf)]; exact hf) fun ps => lamO_ne ps
  refine ⟨fun h ok => ?_, fun A outer s us vs Q dn hr e0 r hA hd kQ => ?_⟩
  · obtain ⟨pm, ctv, e⟩ := lamO_at ok hfH
    exact ⟨_, _, _, _, e⟩
  have U0 : ∀ b, H' b = none → untrk H' C b = none := fun b n => by
    cases q : C b with
    | some o => exact untrk_some q
    | none => rw [untrk_none q]; exact n
  have e1 : Env0 P w c.K mg base A outer s (untrk H' C) := ⟨e0.frames, e0.mod, fun b o e => ⟨(e0.bs b o e).1, U0 b (e0.bs b o e).2⟩, e0.bsz, e0.funs, fun b hb => U0 b (e0.frf b hb), hok_untrk e0.hok h3, e0.bare⟩
  have hget : ∀ b o, C b = some o → s.heap.get? b = some o := fun b o q => (e0.hok b _ (h3 b o q)).1
  have hCA : CellsAt cl fr (ws.map some) s.heap (untrk H' C) := by
    refine ⟨hC.len, fun y b e => ?_, hC.inj, fun i y e => ?_⟩
    · obtain ⟨o, v, h4, h5⟩ := hC.all y b e
      exact ⟨untrk_some h4, v, o, hget b o h4, h5⟩
    · obtain ⟨b, h4, h5⟩ := hC.has i y e
      refine ⟨b, h4, fun v hv => ?_⟩
      obtain ⟨u, o, r, h6, h7⟩ := h5 v hv
      exact ⟨u, r, o, hget b o h6, h7⟩
  have gU : Gr c (untrk H' C) (untrk H' C) := go.self
  have hAU : AllP (c := c) [S dn] vs (untrk H' C) := by
    obtain ⟨v, rfl, a, xs, rfl, hq, hx⟩ := hA.inv1
    refine ⟨⟨a, xs, rfl, ?_, ?_⟩, True.intro⟩
    · rcases hq with (hq | ⟨o, hq⟩) | hq
      · exact .inl (.inl (by rw [untrk_none (cc h3 hq (fun _ _ z => by cases z))]; exact hq))
      · exact .inl (.inr ⟨o, by rw [untrk_none (cc h3 hq (fun _ _ z => by cases z))]; exact hq⟩)
      · exact .inr hq
    · rw [hx.nats]; exact AllP.of_nats
  have hl : vs.length = 1 := hA.len
  obtain ⟨v1, rfl⟩ : ∃ v1, vs = [v1] := by
    obtain ⟨v, e, _⟩ := hA.inv1
    exact ⟨v, e⟩
  obtain ⟨u1, rfl, r1⟩ := vals1 r
  have rc : codeAny (model P w) A (.call (.ref f) ⟨[u1], []⟩) (CR CX0 outer P w (untrk H' C) s (fun v H2 => Gr c (untrk H' C) H2 ∧ v = .bl (bad dn)) E0) s := by
    let F : NF := ⟨"<lambda>", q, params, [], scope, cl, c'⟩
    by_cases hrm : Room k (A.deeper (envF F f s.heap.objs.size))
    · obtain ⟨tb, hb, hq⟩ := hbody F f A outer s (untrk H' C) rfl rfl rfl hrm
      exact lam_run (F := F) Sc (fun pm ctv => hbind u1 pm ctv c') hfU hcU hCA hr e1 (.cons r1 .nil) rfl (fun _ => hb) (hq [v1] ws dn hAU (hW.gr go) hd gU (untrk H' C) gU _ fun v H2 g2 e2 => ⟨g2, e2⟩)
    · exact absurd (hr.deeper _) hrm
  refine codeAny_mono rc fun res s' hq => ?_
  cases res with
  | error e => exact (show False from hq).elim
  | ok fl =>
    cases fl with
    | ret u =>
      obtain ⟨v, H2, os, bare, un, hok, rv, g2, e2⟩ := hq
      have hT : ∀ b o, C b = some o → H2 b = none := fun b o q => un.free b o (hget b o q) (untrk_some q) (by simp)
      have nfr : ∀ b o, C b = some o → b ∉ frs outer := fun b o q hb => by
        have := e0.frf b hb
        rw [h3 b o q] at this
        cases this
      exact ⟨v, trk H2 C, os, bare, un_in un h3 hT, hok_trk hok (fun b o q => un.keep b o (hget b o q) (untrk_some q) (nfr b o q) (by simp)) hT, rv, kQ v _ (gr_in g2 g'.t1 h3 hT) e2⟩
    | next => exact False.elim hq
    | brk => exact False.elim hq
    | cont => exact False.elim hq
end
/-! ### a call with cells tracked -/
def tCallC (cl : List (Str × Addr)) (fr : List Str) (js : List Nat) (sp : Sp) (t : TA) : TE := fun σ H Q => t σ H fun vs H1 => ∀ C : Addr → Option Obj, (∀ b o, C b = some o → H1 b = none) → CelT cl fr (js.map (slotAt σ)) C →
  sp vs (trk H1 C) (fun v H' => (∀ b o, C b = some o → H' b = some (Cel b o)) ∧ Q v (untrk H' C)) E0
section
variable {X : Cx} {x : Str} {ps : List Str} {k : Nat} {sp : Sp} {p pos : Pos} {e : Expr} {es : List Expr} {t : TA} {scope : Scope} {fr : List Str} {js : List Nat}
theorem pe_callC (h : Has X.prog X.w X.K X.mg X.base x ps k sp) (hr : Room k X.A) (hg : Gl X x) (ha : PA X (e :: es) t) (hfn : ∀ y, X.fn y = true) (cp : X.Ok → Caps X (cloFrom X.env.cells scope.names []) fr js) (hdb : (x == ("__debug__" : Str)) = false := by decide)
    (he : starEach (e :: es) X.env = (false, eval e X.env) :: starEach es X.env := by rfl) (hpl : (backTo pos (starEach es X.env)).any (·.1) = false := by rfl) : PE X (.Call (.Name x p) (e :: es) [] pos) (tCallC (cloFrom X.env.cells scope.names []) fr js sp t) := by
  obtain ⟨f, fd, hm, hk, hb, F⟩ := h.ex
  refine ⟨fun pins s σ H Q I h => ?_⟩
  refine wpAny_Call_Name_kw (ld_glob I hg hm ?_ hdb)
  refine PySem.W.callWith_K (h₀ := X.base) I.ok.mod.kin hk (thn (ha.run pos pins s σ H _ I h) fun us s1 ⟨vs, H1, I1, r, q⟩ => ⟨I1.kIn, ?_⟩) he hpl
  have cl := cells_of I1 (cp I1.ok)
  generalize hcl : cloFrom X.env.cells scope.names [] = cls at q cl cp
  have sub := (cp I1.ok).sub
  let C : Addr → Option Obj := fun b => open Classical in if ∃ y, cls.lookup y = some b then s1.heap.get? b else none
  have hC : ∀ b o, C b = some o → (∃ y, cls.lookup y = some b) ∧ s1.heap.get? b = some o := fun b o e => by
    have e : (open Classical in if ∃ y, cls.lookup y = some b then s1.heap.get? b else none) = some o := e
    split at e
    · rename_i z; exact ⟨z, e⟩
    · cases e
  have hCi : ∀ y b o, cls.lookup y = some b → s1.heap.get? b = some o → C b = some o := fun y b o e1 e2 => by
    show (open Classical in if ∃ y, cls.lookup y = some b then s1.heap.get? b else none) = some o
    rw [if_pos ⟨y, e1⟩]
    exact e2
  have h0 : ∀ b o, C b = some o → s1.heap.get? b = some o := fun b o e => (hC b o e).2
  have h1 : ∀ b o, C b = some o → H1 b = none := fun b o e => by
    obtain ⟨⟨y, hy⟩, _⟩ := hC b o e
    exact (cl.all y b hy).1
  have hge : ∀ b o, C b = some o → X.s_0.heap.objs.size ≤ b := fun b o e => by
    obtain ⟨⟨y, hy⟩, _⟩ := hC b o e
    exact I1.ok.cab y b (hfn y) (sub y b hy)
  have hcell : ∀ b o, C b = some o → ∃ v, o.data = .cell v := fun b o e => by
    obtain ⟨⟨y, hy⟩, h2⟩ := hC b o e
    obtain ⟨v, o', h3, h4⟩ := (cl.all y b hy).2
    rw [h2] at h3
    cases h3
    exact ⟨v, h4⟩
  have h2 : ∀ b o, C b = some o → b ∉ frs X.stack := fun b o e hb => by
    have hfs : b ∉ X.fs := fun z => by
      obtain ⟨_, o', ho, _⟩ := I1.ok.funs.mem z
      exact Nat.lt_irrefl _ (Nat.lt_of_lt_of_le (Heap.lt_size ho) (hge b o e))
    rcases I1.ok.stk with z | ⟨z, z2⟩
    · rw [z] at hb; exact hfs hb
    · rw [z] at hb
      have hb : b ∈ (X.env :: X.outer).filterMap (·.frame) := hb
      rw [List.filterMap_cons, z2] at hb
      rcases List.mem_cons.mp hb with z3 | z3
      · obtain ⟨m, ⟨o', es, ep, ho, h5⟩, _⟩ := I1.loc
        rw [← z3, h0 b o e] at ho
        cases ho
        obtain ⟨v, hv⟩ := hcell b o e
        have h6 := h5
        simp only [hv] at h6
        first | exact (nomatch h6.1) | exact (nomatch h6.2.1) | (obtain ⟨a, b⟩ := h6; cases a) | cases h6
      · exact hfs z3
  have hbase : ∀ b o o', X.base.get? b = some o' → C b ≠ some o := fun b o o' e z => by
    have h3 := Heap.lt_size e
    have h4 := hge b o z
    exact Nat.lt_irrefl _ (Nat.lt_of_lt_of_le h3 (Nat.le_trans I1.ok.bsz h4))
  have CT : CelT cls fr (js.map (slotAt σ)) C := by
    refine ⟨cl.len, fun y b e => ?_, cl.inj, fun i y e => ?_⟩
    · obtain ⟨v, o, h3, h4⟩ := (cl.all y b e).2
      exact ⟨o, v, hCi y b o e h3, h4⟩
    · obtain ⟨b, h3, h4⟩ := cl.has i y e
      refine ⟨b, h3, fun v hv => ?_⟩
      obtain ⟨u, r, o, h5, h6⟩ := h4 v hv
      exact ⟨u, o, r, hCi y b o h3 h5, h6⟩
  have e0 := I1.env0
  have e1 : Env0 X.prog X.w X.K X.mg X.base X.A X.stack s1 (trk H1 C) := ⟨e0.frames, e0.mod, fun b o e => ⟨(e0.bs b o e).1, by
      cases q : C b with
      | some o' => exact absurd q (hbase b o' o e)
      | none => rw [trk_none q]; exact (e0.bs b o e).2⟩, e0.bsz, e0.funs, fun b hb => by
      cases q : C b with
      | some o' => exact absurd hb (h2 b o' q)
      | none => rw [trk_none q]; exact e0.frf b hb, hok_trk e0.hok h0 h1, e0.bare⟩
  have hsp := q C h1 CT
  have hl : (us ++ ([] : List Value)).length = ps.length := by rw [List.append_nil, ← r.length]; exact F.len _ _ _ _ hsp
  have hbd := hb s1 us I1.kIn hl
  rw [List.append_nil] at hbd
  refine wpAny_call (codeAny_mono (F.run X.A X.stack s1 (trk H1 C) ⟨us, []⟩ us vs _ E0 hr e1 hbd r hsp) fun r s' hq => ?_)
  cases r with
  | error e => exact (show False from hq).elim
  | ok fl =>
    cases fl with
    | ret u =>
      obtain ⟨v, H', os, bare, un, hok, rv, h3, q⟩ := hq
      exact I1.after ⟨v, untrk H' C, os, bare, un_out un hok h0 h1 h2 h3, hok_untrk hok h3, rv, q⟩
    | next => exact False.elim hq
    | brk => exact False.elim hq
    | cont => exact False.elim hq
end
theorem fr_untrk {p : Int × Int} {v : V} {H' : Hp} {C : Addr → Option Obj} (h3 : ∀ b o, C b = some o → H' b = some (Cel b o)) (h : (Fr (c := c) p).p v H') : (Fr (c := c) p).p v (untrk H' C) := by
  obtain ⟨a, vs, e, hq, hx⟩ := h
  refine ⟨a, vs, e, ?_, ?_⟩
  · rcases hq with (hq | ⟨o, hq⟩) | hq
    · exact .inl (.inl (by rw [untrk_none (cc h3 hq (fun _ _ z => by cases z))]; exact hq))
    · exact .inl (.inr ⟨o, by rw [untrk_none (cc h3 hq (fun _ _ z => by cases z))]; exact hq⟩)
    · exact .inr hq
  · obtain ⟨v, w, rfl, h1, h2⟩ := hx.inv2
    exact ⟨h1, h2, True.intro⟩
theorem allP_snoc {Ps : List (SV c)} {P : SV c} {vs : List V} {H : Hp} (h : AllP (Ps ++ [P]) vs H) : ∃ us v, vs = us ++ [v] ∧ AllP Ps us H ∧ P.p v H := by
  induction Ps generalizing vs with
  | nil =>
    obtain ⟨v, rfl, h1⟩ := AllP.inv1 h
    exact ⟨[], v, rfl, True.intro, h1⟩
  | cons Q Qs ih =>
    obtain ⟨v, ws, rfl, h1, h2⟩ := AllP.cons_inv h
    obtain ⟨us, u, rfl, h3, h4⟩ := ih h2
    exact ⟨v :: us, u, rfl, ⟨h1, h3⟩, h4⟩
/-- the call with a lambda as its last argument -/
theorem ev_callC {σ : L2.St} {H : Hp} {Rl : List (SV c) → SV c → Prop} {cl : List (Str × Addr)} {fr : List Str} {js : List Nat} {t : TA} {As : List (SV c)} {q : Str} {params : Arguments} {body : Expr} {scope : Scope} {Fn : SV c} {p : Int × Int} (ha : EvA c t σ H (As ++ [LamV c q params body scope cl])) (hr : Rl (As ++ [Fn]) (Fr p))
    (hfn : ∀ v H1 C, Gr c H H1 → (LamV c q params body scope cl).p v H1 → CelT cl fr (js.map (slotAt σ)) C → (∀ b o, C b = some o → H1 b = none) → Fn.p v (trk H1 C)) : Ev c (tCallC cl fr js (Pm c Rl) t) σ H (Fr p) := fun H1 g Q qq =>
  ha H1 g _ fun vs H2 g2 e2 => fun C h1 hC => by
    obtain ⟨us, v, rfl, e3, e4⟩ := allP_snoc e2
    have gt := gr_trk g2.t1 h1
    refine ⟨As ++ [Fn], Fr p, AllP.append (e3.gr gt) ⟨hfn v H2 C (g.trans g2) e4 hC h1, True.intro⟩, hr, gt.t1, fun v' H' g' hp => ?_⟩
    have h3 : ∀ b o, C b = some o → H' b = some (Cel b o) := fun b o q => g'.ext b _ (trk_some q) fun ps z => by cases z
    exact ⟨h3, qq v' _ (g2.trans (gr_out g' g2.t1 h1)) (fr_untrk h3 hp)⟩
end


section
open PySem PySem.Spec PyProof.Rows L2 LamX NdefX
variable {c : Cxt} {P : Program} {w : World} {mg : Str → Option Value} {base : Heap} {f : Addr} {fd : FuncData}
/-- the lambda that a def's last statement hands over as a third argument -/
def kLam2 (st : Stmt) : Arguments × Option (Expr × Scope) := match (defBody st).reverse with
  | .Return (some (.Call _ [_, _, .Lambda p b s _] _ _)) _ :: _ => (p, some (b, s))
  | _ => (defArgs st, none)
abbrev kP2 (st : Stmt) : Arguments := (kLam2 st).1
abbrev kB2 (st : Stmt) : Expr := match (kLam2 st).2 with
  | some b => b.1
  | none => .Name "x" ⟨0, 0, 0, 0⟩
abbrev kS2 (st : Stmt) : Scope := match (kLam2 st).2 with
  | some b => b.2
  | none => defScope st
theorem free_loss : ∀ y ∈ (kS2 s_loss_chance).names, y.2 = .free → (defScope s_loss_chance).names.lookup y.1 = some .cell ∨ (defScope s_loss_chance).names.lookup y.1 = some .free := by decide +kernel
theorem free_item : ∀ y ∈ (kS2 s_item_chance).names, y.2 = .free → (defScope s_item_chance).names.lookup y.1 = some .cell ∨ (defScope s_item_chance).names.lookup y.1 = some .free := by decide +kernel
abbrev N_loss_chance : List Str := ["layout", "chances"]
theorem sc_loss_chance : FnScope N_loss_chance ["layout", "chances"] (defScope s_loss_chance) := ⟨rfl, rfl, rfl, by decide +kernel, rfl, by decide +kernel, by decide +kernel⟩
theorem ok_loss_chance (F : FnP c.K "loss_chance" "loss_chance" s_loss_chance f fd) (Bt : Bts c mg) (C : Cl c) (Il : IsL c) (Lf : LamF c base mg fd "loss_chance.<locals>.<lambda>") (h_check_layout : Has P w c.K mg base "check_layout" ["layout"] 1 (Pm c R_check_layout)) (h_check_chances : Has P w c.K mg base "check_chances" ["layout", "chances"] 2 (Pm c R_check_chances)) (h_chance_of : Has P w c.K mg base "chance_of" ["layout", "chances", "is_bad"] 8 (Pm c (R_chance_of' P w mg base))) (h_is_losing : Has P w c.K mg base "is_losing" ["layout", "down"] 6 (Pm c R_is_losing)) : FnOk P w c.K mg base CX0 9 f fd ["layout", "chances"] (Pm c R_loss_chance) := by
  refine okPL F sc_loss_chance (fun As Z h => by obtain ⟨_, _, _, rfl, _⟩ := h; rfl) fun cdv A outer s H vs Q E As Z hcd hr hA hR g k => ?_
  have nd := sc_loss_chance.nd
  obtain ⟨n, its, ch, rfl, hw, hl, hm, rfl⟩ := hR
  obtain ⟨v0, v1, rfl, h0, h1⟩ := hA.inv2
  have hhi := hw.hi
  obtain ⟨cc, PT, hcc, TB, hmT, huT⟩ := Lf.ex
  rw [hcd] at hcc
  subst hcc
  refine ⟨_, (pss_cons (ps_expr (pe_callH h_check_layout (hr.mono (by decide)) rfl (pa_cons (pv 0) pa_nil)))
    (pss_cons (ps_expr (pe_callH h_check_chances (hr.mono (by decide)) rfl (pa_cons (pv 0) (pa_cons (pv 1) pa_nil))))
    (pss_one (ps_ret (pe_callC (scope := kS2 s_loss_chance) (fr := ["layout"]) (js := [0]) h_chance_of (hr.mono (by decide)) rfl (pa_cons (pv 0) (pa_cons (pv 1) (pa_cons (pe_lam (c := c) (q := "loss_chance.<locals>.<lambda>") TB rfl (by rfl) hmT huT (by rfl) (fun ok y hy e => (free_loss y hy e).elim (fun z => ok.has _ (.inl z)) fun z => ok.has _ (.inr z))) pa_nil))) (fun _ => rfl) (fun ok => Caps.made ok free_loss (by decide +kernel) (by rfl))))))), ?_⟩
  refine q_drop g (ev_call (ea_cons (ev_var rfl h0) ea_nil) ⟨_, _, rfl, True.intro, rfl⟩) fun H1 g1 => ?_
  refine q_drop g1 (ev_call (ea_cons (ev_var rfl h0) (ea_cons (ev_var rfl h1) ea_nil)) ⟨_, _, _, rfl, hl, by omega, hm, rfl⟩) fun H2 g2 => ?_
  have g12 := g1.trans g2
  refine s_retG g12 (ev_callC (Fn := FnB c P w mg base 7 (losing n its) (WfS n)) (As := [Lay n its, S ch]) (p := lossChance n its ch) (ea_cons (ev_var rfl h0) (ea_cons (ev_var rfl h1) (ea_cons ev_lam ea_nil))) ⟨n, its, ch, losing n its, rfl, hhi, hl, hm, rfl⟩ fun v H3 C g3 hv hC hN => ?_) k
  refine fnB_lam (N := ["down", "layout"]) (fr := ["layout"]) (pn := "down") (k := 6) (Ws := [Lay n its]) (ws := [v0]) (nscope_by (by decide +kernel)) (fun u pm ctv c' => by rfl) ?_ hv hC ⟨(Lay n its).st g3 h0, True.intro⟩ hN g3.t1
  rintro ⟨nm, qq, pp, bb, sc, cl', c'⟩ f A outer s H rfl rfl rfl hrm
  refine ⟨_, pe_callH h_is_losing (hrm.mono (by decide)) rfl (pa_cons (pv 1) (pa_cons (pv 0) pa_nil)), fun vs ws dn hA hW hd g => ?_⟩
  obtain ⟨u, rfl, hu⟩ := hA.inv1
  obtain ⟨u2, rfl, hu2⟩ := hW.inv1
  exact ev_call (ea_cons (ev_var rfl hu2) (ea_cons (ev_var rfl hu) ea_nil)) ⟨_, _, _, rfl, hw, rfl⟩
def R_item_chance (As : List (SV c)) (Z : SV c) : Prop := ∃ (n : Nat) (its : List Itm) (i : Nat) (ch : List Nat), As = [Lay n its, I (i : Int), S ch] ∧ WfL n its ∧ i < its.length ∧ ch.length = n ∧ (∀ x ∈ ch, x ≤ 12) ∧ Z = Fr (itemChance n its i ch)
abbrev N_item_chance : List Str := ["layout", "index", "chances"]
theorem sc_item_chance : FnScope N_item_chance ["layout", "index", "chances"] (defScope s_item_chance) := ⟨rfl, rfl, rfl, by decide +kernel, rfl, by decide +kernel, by decide +kernel⟩
theorem ok_item_chance (F : FnP c.K "item_chance" "item_chance" s_item_chance f fd) (Bt : Bts c mg) (C : Cl c) (Il : IsL c) (Lf : LamF c base mg fd "item_chance.<locals>.<lambda>") (h_check_layout : Has P w c.K mg base "check_layout" ["layout"] 1 (Pm c R_check_layout)) (h_check_index : Has P w c.K mg base "check_index" ["layout", "index"] 3 (Pm c R_check_index)) (h_check_chances : Has P w c.K mg base "check_chances" ["layout", "chances"] 2 (Pm c R_check_chances)) (h_chance_of : Has P w c.K mg base "chance_of" ["layout", "chances", "is_bad"] 8 (Pm c (R_chance_of' P w mg base))) (h_Layout_readable : HasM P w c.K mg base c.cL "readable" ["self", "up"] 4 (Pm c R_Layout_readable)) (h_others_of : Has P w c.K mg base "others_of" ["servers", "some"] 1 (Pm c R_others_of)) : FnOk P w c.K mg base CX0 9 f fd ["layout", "index", "chances"] (Pm c R_item_chance) := by
  refine okPL F sc_item_chance (fun As Z h => by obtain ⟨_, _, _, _, rfl, _⟩ := h; rfl) fun cdv A outer s H vs Q E As Z hcd hr hA hR g k => ?_
  have nd := sc_item_chance.nd
  obtain ⟨n, its, i, ch, rfl, hw, hi, hl, hm, rfl⟩ := hR
  obtain ⟨v0, v1, v2, rfl, h0, h1, h2⟩ := hA.inv3
  have hhi := hw.hi
  have hle := hw.le
  obtain ⟨cc, PT, hcc, TB, hmT, huT⟩ := Lf.ex
  rw [hcd] at hcc
  subst hcc
  refine ⟨_, (pss_cons (ps_expr (pe_callH h_check_layout (hr.mono (by decide)) rfl (pa_cons (pv 0) pa_nil)))
    (pss_cons (ps_expr (pe_callH h_check_index (hr.mono (by decide)) rfl (pa_cons (pv 0) (pa_cons (pv 1) pa_nil))))
    (pss_cons (ps_expr (pe_callH h_check_chances (hr.mono (by decide)) rfl (pa_cons (pv 0) (pa_cons (pv 2) pa_nil))))
    (pss_one (ps_ret (pe_callC (scope := kS2 s_item_chance) (fr := ["index", "layout"]) (js := [1, 0]) h_chance_of (hr.mono (by decide)) rfl (pa_cons (pv 0) (pa_cons (pv 2) (pa_cons (pe_lam (c := c) (q := "item_chance.<locals>.<lambda>") TB rfl (by rfl) hmT huT (by rfl) (fun ok y hy e => (free_item y hy e).elim (fun z => ok.has _ (.inl z)) fun z => ok.has _ (.inr z))) pa_nil))) (fun _ => rfl) (fun ok => Caps.made ok free_item (by decide +kernel) (by rfl)))))))), ?_⟩
  refine q_drop g (ev_call (ea_cons (ev_var rfl h0) ea_nil) ⟨_, _, rfl, True.intro, rfl⟩) fun H1 g1 => ?_
  refine q_drop g1 (ev_call (ea_cons (ev_var rfl h0) (ea_cons (ev_var rfl h1) ea_nil)) ⟨_, _, _, rfl, by omega, hi, rfl⟩) fun H2 g2 => ?_
  have g12 := g1.trans g2
  refine q_drop g12 (ev_call (ea_cons (ev_var rfl h0) (ea_cons (ev_var rfl h2) ea_nil)) ⟨_, _, _, rfl, hl, by omega, hm, rfl⟩) fun H3 g3 => ?_
  have g13 := g12.trans g3
  refine s_retG g13 (ev_callC (Fn := FnB c P w mg base 7 (itemBad n its i) (WfS n)) (As := [Lay n its, S ch]) (p := itemChance n its i ch) (ea_cons (ev_var rfl h0) (ea_cons (ev_var rfl h2) (ea_cons ev_lam ea_nil))) ⟨n, its, ch, itemBad n its i, rfl, hhi, hl, hm, rfl⟩ fun v H4 C' g4 hv hC hN => ?_) k
  refine fnB_lam (N := ["down", "index", "layout"]) (fr := ["index", "layout"]) (pn := "down") (k := 6) (Ws := [I (i : Int), Lay n its]) (ws := [v1, v0]) (nscope_by (by decide +kernel)) (fun u pm ctv c' => by rfl) ?_ hv hC ⟨(I (i : Int)).st g4 h1, (Lay n its).st g4 h0, True.intro⟩ hN g4.t1
  rintro ⟨nm, qq, pp, bb, sc, cl', c'⟩ f A outer s H rfl rfl rfl hrm
  refine ⟨_, pe_cmpR (op_niQ (K := c.K) rfl) (pv 1) (pe_methH h_Layout_readable (hrm.mono (by decide)) (pv 2) (pa_cons (pe_callH h_others_of (hrm.mono (by decide)) rfl (pa_cons (pe_fldQ (K := c.K) rfl (pv 2) rfl) (pa_cons (pv 0) pa_nil))) pa_nil)) rfl, fun vs ws dn hA hW hd g => ?_⟩
  obtain ⟨u, rfl, hu⟩ := hA.inv1
  obtain ⟨u2, u3, rfl, hu2, hu3⟩ := hW.inv2
  exact ev_op rv_niLN (ev_var rfl hu2) (ev_meth (ev_var rfl hu3) (fun v H' ⟨a, d, e, h, h1, _⟩ => ⟨a, d, _, h, h1, pfL_no _ _ (by decide +kernel) (by decide +kernel)⟩) (ea_cons (ev_call (ea_cons (ev_servers C (ev_var rfl hu3)) (ea_cons (ev_var rfl hu) ea_nil)) ⟨_, _, rfl, by omega, rfl⟩) ea_nil) ⟨_, _, _, rfl, hw, wfS_others, rfl⟩)
end


/-! the flows in plain Lean -/
section
def loadsOf (n : Nat) (rows : List (List Nat)) : List Nat := (List.range n).map fun s => (rows.filter fun r => decide (s ∈ r)).length
abbrev Step : Type := Nat × Nat × Nat
abbrev FD : Type := List (Nat × Option (Nat × Nat))
inductive Chain (fd : FD) : Nat → List Step → Prop
  | nil {s : Nat} : fd.lookup s = some none → Chain fd s []
  | cons {s i o : Nat} {st : List Step} : fd.lookup s = some (some (i, o)) → Chain fd o st → Chain fd s ((i, o, s) :: st)
structure GoodR (n k : Nat) (rows : List (List Nat)) : Prop where
  len : rows.length = k
  nd : ∀ r ∈ rows, r.Nodup
  lt : ∀ r ∈ rows, ∀ s ∈ r, s < n
/-- the tree of a search -/
inductive Tree (n : Nat) (rows : List (List Nat)) (start : Nat) : FD → Prop
  | base : Tree n rows start [(start, none)]
  | snoc {fd : FD} {late i sv : Nat} {row : List Nat} : Tree n rows start fd → late ∉ fd.map (·.1) → sv ∈ fd.map (·.1) → rows[i]? = some row → sv ∈ row → late ∉ row → late < n → Tree n rows start (fd ++ [(late, some (i, sv))])
structure GoodP (n : Nat) (rows : List (List Nat)) (start : Nat) (st : List Step) : Prop where
  ok : ∀ p ∈ st, ∃ row, rows[p.1]? = some row ∧ p.2.1 ∈ row ∧ p.2.2 ∉ row ∧ p.2.2 < n
  olds : (st.map fun p => p.2.1).Nodup
  news : (st.map fun p => p.2.2).Nodup
  start : start ∉ st.map fun p => p.2.2
theorem look_some {fd : FD} {k : Nat} {o : Option (Nat × Nat)} (h : fd.lookup k = some o) : k ∈ fd.map (·.1) := by
  induction fd with
  | nil => cases h
  | cons p fd ih =>
    rw [List.lookup_cons] at h
    rw [List.map_cons]
    by_cases e : k = p.1
    · rw [e]; exact List.mem_cons_self ..
    · have : (k == p.1) = false := by simpa using e
      rw [this] at h
      exact List.mem_cons_of_mem _ (ih h)
theorem look_none' {fd : FD} {k : Nat} (h : k ∉ fd.map (·.1)) : fd.lookup k = none := by
  cases q : fd.lookup k with
  | none => rfl
  | some o => exact absurd (look_some q) h
theorem look_snoc {fd : FD} {k k' : Nat} {o : Option (Nat × Nat)} (h : fd.lookup k = some o) (v : Option (Nat × Nat)) : (fd ++ [(k', v)]).lookup k = some o := by
  rw [List.lookup_append, h]; rfl
theorem look_new {fd : FD} {k : Nat} (h : k ∉ fd.map (·.1)) (v : Option (Nat × Nat)) : (fd ++ [(k, v)]).lookup k = some v := by
  rw [List.lookup_append, look_none' h]
  simp [List.lookup]
theorem Chain.snoc {fd : FD} {s k : Nat} {st : List Step} (h : Chain fd s st) (v : Option (Nat × Nat)) : Chain (fd ++ [(k, v)]) s st := by
  induction h with
  | nil e => exact .nil (look_snoc e v)
  | cons e _ ih => exact .cons (look_snoc e v) ih
theorem Tree.start_mem {n start : Nat} {rows : List (List Nat)} {fd : FD} (h : Tree n rows start fd) : start ∈ fd.map (·.1) := by
  induction h with
  | base => simp
  | snoc h _ _ _ _ _ _ ih => rw [List.map_append]; exact List.mem_append_left _ ih
theorem Tree.nodup {n start : Nat} {rows : List (List Nat)} {fd : FD} (h : Tree n rows start fd) : (fd.map (·.1)).Nodup := by
  induction h with
  | base => simp
  | snoc h h1 _ _ _ _ _ ih =>
    rw [List.map_append, List.nodup_append]
    refine ⟨ih, by simp, fun a ha b hb => ?_⟩
    simp at hb
    rintro rfl
    rw [hb] at ha
    exact h1 ha
theorem Tree.lt {n start : Nat} {rows : List (List Nat)} {fd : FD} (hs : start < n) (h : Tree n rows start fd) : ∀ k ∈ fd.map (·.1), k < n := by
  induction h with
  | base => intro k hk; simp at hk; rw [hk]; exact hs
  | snoc h _ _ _ _ _ h6 ih =>
    intro k hk
    rw [List.map_append, List.mem_append] at hk
    rcases hk with hk | hk
    · exact ih k hk
    · simp at hk; rw [hk]; exact h6
theorem nodup_le {n : Nat} : ∀ {l : List Nat}, l.Nodup → (∀ k ∈ l, k < n) → l.length ≤ n := by
  induction n with
  | zero =>
    intro l _ h
    cases l with
    | nil => exact Nat.le_refl _
    | cons a l => exact absurd (h a (List.mem_cons_self ..)) (by omega)
  | succ n ih =>
    intro l nd h
    have h1 := ih (l := l.erase n) (nd.erase n) (fun k hk => by
      have h2 := (List.Nodup.mem_erase_iff nd).mp hk
      have := h k h2.2
      omega)
    have h3 := List.length_erase (a := n) (l := l)
    split at h3 <;> omega
theorem Tree.len {n start : Nat} {rows : List (List Nat)} {fd : FD} (hs : start < n) (h : Tree n rows start fd) : fd.length ≤ n := by
  have := nodup_le h.nodup (h.lt hs)
  rw [List.length_map] at this
  exact this
theorem Tree.chain {n start : Nat} {rows : List (List Nat)} {fd : FD} (h : Tree n rows start fd) : ∀ s ∈ fd.map (·.1), ∃ st, Chain fd s st ∧ GoodP n rows start st ∧ (s :: st.map fun p => p.2.1).Nodup ∧ (∀ x ∈ (s :: st.map fun p => p.2.1), x ∈ fd.map (·.1)) ∧ (∀ x ∈ st.map (fun p => p.2.2), x ∈ fd.map (·.1)) ∧ st.length < fd.length := by
  induction h with
  | base =>
    intro s hs
    simp at hs
    subst hs
    exact ⟨[], .nil (by simp [List.lookup]), ⟨fun p hp => (by cases hp), by simp, by simp, by simp⟩, by simp, fun x hx => by simpa using hx, fun x hx => (by cases hx), by simp⟩
  | @snoc fd late i sv row h h1 h2 h3 h4 h5 h6 ih =>
    intro s hs
    rw [List.map_append, List.mem_append] at hs
    rcases hs with hs | hs
    · obtain ⟨st, a1, a2, a3, a4, a5, a6⟩ := ih s hs
      refine ⟨st, a1.snoc _, a2, a3, fun x hx => ?_, fun x hx => ?_, ?_⟩
      · rw [List.map_append]; exact List.mem_append_left _ (a4 x hx)
      · rw [List.map_append]; exact List.mem_append_left _ (a5 x hx)
      · rw [List.length_append]; omega
    · simp at hs
      subst hs
      obtain ⟨st, a1, a2, a3, a4, a5, a6⟩ := ih sv h2
      refine ⟨(i, sv, s) :: st, .cons (look_new h1 _) (a1.snoc _), ⟨?_, ?_, ?_, ?_⟩, ?_, ?_, ?_, ?_⟩
      · intro p hp
        rcases List.mem_cons.mp hp with rfl | hp
        · exact ⟨row, h3, h4, h5, h6⟩
        · exact a2.ok p hp
      · rw [List.map_cons]; exact a3
      · rw [List.map_cons, List.nodup_cons]
        exact ⟨fun z => h1 (a5 _ z), a2.news⟩
      · rw [List.map_cons, List.mem_cons, not_or]
        exact ⟨fun z => h1 (by have z : start = s := z; rw [← z]; exact h.start_mem), a2.start⟩
      · rw [List.map_cons, List.nodup_cons]
        exact ⟨fun z => h1 (a4 _ z), a3⟩
      · intro x hx
        rw [List.map_append, List.mem_append]
        rw [List.map_cons] at hx
        rcases List.mem_cons.mp hx with rfl | hx
        · right; simp
        · left; exact a4 x hx
      · intro x hx
        rw [List.map_append, List.mem_append]
        rw [List.map_cons] at hx
        rcases List.mem_cons.mp hx with rfl | hx
        · right; simp
        · left; exact a5 x hx
      · rw [List.length_append, List.length_cons]
        simp
        omega
/-! ### rows moved -/
def moveR (rows : List (List Nat)) (p : Step) : List (List Nat) := rows.set p.1 ((rows[p.1]?.getD []).filter (fun k => !decide (k = p.2.1)) ++ [p.2.2])
def moveRows (rows : List (List Nat)) (st : List Step) : List (List Nat) := st.foldl moveR rows
theorem filter_len {l : List Nat} (nd : l.Nodup) {o : Nat} (h : o ∈ l) : (l.filter fun k => !decide (k = o)).length + 1 = l.length := by
  induction l with
  | nil => cases h
  | cons a l ih =>
    obtain ⟨h1, h2⟩ := List.nodup_cons.mp nd
    by_cases e : a = o
    · subst e
      have e2 : l.filter (fun k => !decide (k = a)) = l := List.filter_eq_self.mpr fun k hk => by
        have : k ≠ a := fun z => h1 (z ▸ hk)
        simp [this]
      rw [List.filter_cons_of_neg (by simp), e2, List.length_cons]
    · rcases List.mem_cons.mp h with h | h
      · exact absurd h.symm e
      · rw [List.filter_cons_of_pos (by simp [e]), List.length_cons, List.length_cons]
        have := ih h2 h
        omega
/-- between the rows at the start and those after some steps: what was old and is not yet gone is there, what is new came only by the steps -/
theorem moveRows_good {n start : Nat} {rows0 : List (List Nat)} : ∀ {st : List Step} {rows : List (List Nat)}, GoodP n rows0 start st → rows.length = rows0.length →
    (∀ (i : Nat) (r r0 : List Nat), rows[i]? = some r → rows0[i]? = some r0 → r.Nodup ∧ (∀ s ∈ r, s < n) ∧ r.length = r0.length ∧ (∀ x ∈ r0, x ∈ st.map (fun p => p.2.1) → x ∈ r) ∧ (∀ x, x ∉ r0 → x ∈ st.map (fun p => p.2.2) → x ∉ r) ∧ (start ∉ r0 → start ∉ r)) →
    (moveRows rows st).length = rows0.length ∧ ∀ (i : Nat) (r r0 : List Nat), (moveRows rows st)[i]? = some r → rows0[i]? = some r0 → r.Nodup ∧ (∀ s ∈ r, s < n) ∧ r.length = r0.length ∧ (start ∉ r0 → start ∉ r)
  | [], rows, _, hl, h => ⟨hl, fun i r r0 h1 h2 => by
    obtain ⟨a, b, d, _, _, e⟩ := h i r r0 h1 h2
    exact ⟨a, b, d, e⟩⟩
  | p :: st, rows, hp, hl, h => by
    obtain ⟨row0, e0, hold, hnew, hlt⟩ := hp.ok p (List.mem_cons_self ..)
    obtain ⟨o1, o2⟩ := List.nodup_cons.mp (by have := hp.olds; rw [List.map_cons] at this; exact this)
    obtain ⟨n1, n2⟩ := List.nodup_cons.mp (by have := hp.news; rw [List.map_cons] at this; exact this)
    have hs := hp.start
    rw [List.map_cons, List.mem_cons, not_or] at hs
    have hp' : GoodP n rows0 start st := ⟨fun q hq => hp.ok q (List.mem_cons_of_mem _ hq), o2, n2, hs.2⟩
    have hi0 : p.1 < rows0.length := (List.getElem?_eq_some_iff.mp e0).1
    obtain ⟨row, er⟩ : ∃ row, rows[p.1]? = some row := ⟨_, List.getElem?_eq_getElem (by omega)⟩
    obtain ⟨b1, b2, b3, b4, b5, b6⟩ := h p.1 row row0 er e0
    have hmem : p.2.1 ∈ row := b4 _ hold (by rw [List.map_cons]; exact List.mem_cons_self ..)
    have hnot : p.2.2 ∉ row := b5 _ hnew (by rw [List.map_cons]; exact List.mem_cons_self ..)
    refine moveRows_good (st := st) (rows := moveR rows p) hp' (by unfold moveR; rw [List.length_set]; exact hl) fun i r r0 h1 h2 => ?_
    unfold moveR at h1
    rw [er] at h1
    by_cases hi : p.1 = i
    · subst hi
      rw [List.getElem?_set_self (by omega)] at h1
      have h1 := Option.some.inj h1
      have h1 : row.filter (fun k => !decide (k = p.2.1)) ++ [p.2.2] = r := h1
      rw [e0] at h2
      cases h2
      subst h1
      refine ⟨?_, fun s hs => ?_, ?_, fun x hx hx2 => ?_, fun x hx hx2 => ?_, fun hst => ?_⟩
      · rw [List.nodup_append]
        refine ⟨b1.filter _, by simp, fun a ha b hb => ?_⟩
        simp at hb
        rintro rfl
        rw [hb] at ha
        exact hnot (List.mem_filter.mp ha).1
      · rcases List.mem_append.mp hs with hs | hs
        · exact b2 s (List.mem_filter.mp hs).1
        · simp at hs; rw [hs]; exact hlt
      · have := filter_len b1 hmem
        rw [List.length_append, List.length_singleton]
        omega
      · refine List.mem_append_left _ (List.mem_filter.mpr ⟨b4 x hx (by rw [List.map_cons]; exact List.mem_cons_of_mem _ hx2), ?_⟩)
        have : x ≠ p.2.1 := fun z => o1 (z ▸ hx2)
        simp [this]
      · intro z
        rcases List.mem_append.mp z with z | z
        · exact b5 x hx (by rw [List.map_cons]; exact List.mem_cons_of_mem _ hx2) (List.mem_filter.mp z).1
        · simp at z
          rw [z] at hx2
          exact n1 hx2
      · intro z
        rcases List.mem_append.mp z with z | z
        · exact b6 hst (List.mem_filter.mp z).1
        · simp at z
          exact hs.1 z
    · rw [List.getElem?_set_ne hi] at h1
      obtain ⟨c1, c2, c3, c4, c5, c6⟩ := h i r r0 h1 h2
      exact ⟨c1, c2, c3, fun x hx hx2 => c4 x hx (by rw [List.map_cons]; exact List.mem_cons_of_mem _ hx2), fun x hx hx2 => c5 x hx (by rw [List.map_cons]; exact List.mem_cons_of_mem _ hx2), c6⟩
theorem moveRows_ok {n k start : Nat} {rows : List (List Nat)} {st : List Step} (hR : GoodR n k rows) (h : GoodP n rows start st) :
    (moveRows rows st).length = k ∧ ∀ (i : Nat) (r r0 : List Nat), (moveRows rows st)[i]? = some r → rows[i]? = some r0 → r.Nodup ∧ (∀ s ∈ r, s < n) ∧ r.length = r0.length ∧ (start ∉ r0 → start ∉ r) := by
  rw [← hR.len]
  refine moveRows_good h rfl fun i r r0 h1 h2 => ?_
  rw [h1] at h2
  cases h2
  have hm := List.mem_of_getElem? h1
  exact ⟨hR.nd r hm, hR.lt r hm, rfl, fun x hx _ => hx, fun x hx _ => hx, fun z => z⟩
end


section
open PySem PySem.Spec PyProof.Rows L2 LamX
variable {c : Cxt} {P : Program} {w : World} {mg : Str → Option Value} {base : Heap} {f : Addr} {fd : FuncData}
abbrev CH (rows : List (List Nat)) : SV c := LS rows
abbrev Stp (p : Step) : SV c := TupOf [I (p.1 : Int), I (p.2.1 : Int), I (p.2.2 : Int)]
abbrev OptP : Option (Nat × Nat) → SV c
  | none => Nn
  | some p => TupOf [I (p.1 : Int), I (p.2 : Int)]
instance {o : Option (Nat × Nat)} : Tst (OptP (c := c) o) := by
  cases o with
  | none => exact (inferInstance : Tst (Eqv (c := c) .non))
  | some p => exact (inferInstance : Tst (TupOf (c := c) [I (p.1 : Int), I (p.2 : Int)]))
/-- a dict of what was found -/
def DIat (a : Addr) (fd : FD) (H : Hp) : Prop := ∃ kvs : List (Key × V), H a = some (.dK kvs) ∧ kvs.map (·.1) = fd.map (fun p => Sum.inl (p.1 : Int)) ∧ AllP (c := c) (fd.map fun p => OptP p.2) (kvs.map (·.2)) H
def DI (fd : FD) : SV c := ⟨fun v H => ∃ a, v = .ref a ∧ DIat (c := c) a fd H, fun {v H0 H1} g h => by
  obtain ⟨a, e, kvs, h1, h2, h3⟩ := h
  exact ⟨a, e, kvs, g.ext _ _ h1 fun ps z => (by cases z), h2, h3.gr g⟩⟩
theorem di_look {fd : FD} {H : Hp} {k : Nat} : ∀ {kvs : List (Key × V)}, kvs.map (·.1) = fd.map (fun p => Sum.inl (p.1 : Int)) → AllP (c := c) (fd.map fun p => OptP p.2) (kvs.map (·.2)) H →
    (∀ o, fd.lookup k = some o → ∃ v, valV kvs (Sum.inl (k : Int)) = some v ∧ (OptP (c := c) o).p v H) ∧ (fd.lookup k = none → valV kvs (Sum.inl (k : Int)) = none) := by
  induction fd with
  | nil =>
    intro kvs h1 h2
    cases kvs with
    | nil => exact ⟨fun o h => (by cases h), fun _ => rfl⟩
    | cons p kvs => cases h1
  | cons p fd ih =>
    intro kvs h1 h2
    cases kvs with
    | nil => cases h1
    | cons q kvs =>
      rw [List.map_cons, List.map_cons] at h1
      rw [List.map_cons, List.map_cons] at h2
      obtain ⟨e1, e2⟩ := List.cons.inj h1
      obtain ⟨h3, h4⟩ := h2
      by_cases e : k = p.1
      · have hq : q.1 = Sum.inl (k : Int) := by rw [e1, e]
        rw [valV_pos hq, List.lookup_cons]
        have : (k == p.1) = true := by simpa using e
        rw [this]
        exact ⟨fun o h => ⟨q.2, rfl, by cases h; exact h3⟩, fun h => (by cases h)⟩
      · have hq : ¬ q.1 = Sum.inl (k : Int) := by
          rw [e1]
          intro z
          have := Sum.inl.inj z
          omega
        rw [valV_neg hq, List.lookup_cons]
        have : (k == p.1) = false := by simpa using e
        rw [this]
        exact ih e2 h4
section
variable {σ : L2.St} {H : Hp} {td ty : TE}
theorem ev_dget {fd : FD} {k : Nat} {o : Option (Nat × Nat)} (hd : Ev c td σ H (DI fd)) (hk : Ev c ty σ H (I (k : Int))) (hl : fd.lookup k = some o) : Ev c (tDGet td ty) σ H (OptP o) := fun H1 g Q q =>
  hd H1 g _ fun v H2 g2 e2 => hk H2 (g.trans g2) _ fun y H3 g3 e3 => by
    obtain ⟨a, rfl, kvs, h1, h2, h3⟩ := (DI fd).st g3 e2
    obtain rfl : y = _ := e3
    obtain ⟨v, e, hv⟩ := (di_look h2 h3).1 o hl
    exact ⟨a, v, rfl, .inl ⟨kvs, Sum.inl (k : Int), .inl h1, rfl, e.symm⟩, q v H3 (g2.trans g3) hv⟩
/-- x is not None -/
theorem rv_notN {R : SV c} {b : Bool} (hR : ∀ v H, R.p v H → decide (v = .non) = !b) : RV c (fun x y H Q => y = .non ∧ Q (.bl (!decide (x = .non))) H) R Nn (B b) := fun x y H g e1 e2 Q q => by
  refine ⟨e2, ?_⟩
  rw [hR x H e1, Bool.not_not]
  exact q _ H g rfl
theorem optP_non {o : Option (Nat × Nat)} : ∀ v H, (OptP (c := c) o).p v H → decide (v = .non) = !o.isSome := fun v H h => by
  cases o with
  | none =>
    have e : v = .non := h
    rw [e]; rfl
  | some p =>
    obtain ⟨a, vs, rfl, _⟩ := h
    rfl
end
/-! loads_of, count_readings -/
def R_loads_of (As : List (SV c)) (Z : SV c) : Prop := ∃ (n : Nat) (rows : List (List Nat)), As = [I (n : Int), CH rows] ∧ n ≤ 1000 ∧ rows.length ≤ 1000 ∧ Z = LN (loadsOf n rows)
abbrev N_loads_of : List Str := ["servers", "choices", "server", "row"]
theorem sc_loads_of : FnScope N_loads_of ["servers", "choices"] (defScope s_loads_of) := ⟨rfl, rfl, rfl, by decide +kernel, rfl, by decide +kernel, by decide +kernel⟩
theorem ok_loads_of (F : FnP c.K "loads_of" "loads_of" s_loads_of f fd) (Bt : Bts c mg) (C : Cl c) (Il : IsL c)  : FnOk P w c.K mg base CX0 1 f fd ["servers", "choices"] (Pm c R_loads_of) := by
  refine okP F sc_loads_of (fun As Z h => by obtain ⟨_, _, rfl, _⟩ := h; rfl) fun cdv A outer s H vs Q E As Z hr hA hR g k => ?_
  have nd := sc_loads_of.nd
  obtain ⟨n, rows, rfl, hn, hl, rfl⟩ := hR
  obtain ⟨v0, v1, rfl, h0, h1⟩ := hA.inv2
  refine ⟨_, (pss_one (ps_ret (pe_lc (own := [("server", 2)]) rfl nd (pi_range1 (by rfl) Bt.brange (pa_cons (pv 0) pa_nil)) (blkOk_by (own := [("server", 2)]) (N := N_loads_of) (sc := defScope s_loads_of) (by decide +kernel)) (fun _ _ _ _ _ => (pg_name (i := 2) nd rfl (Or.inr rfl))) (fun _ _ _ _ _ => pts_nil) (fun _ _ _ _ _ => (pe_callB (cl_lenQ (K := c.K) rfl) (by rfl) Bt.blen (by decide +kernel) (pa_cons (pe_lc (own := [("row", 3)]) rfl nd (pi_listQ (K := c.K) rfl (pv 1)) (by exact blkOk_by (by rfl)) (fun _ _ _ _ _ => (pg_name (i := 3) nd rfl (Or.inl rfl))) (fun _ _ _ _ _ => (pts_one (pt_cmpR (op_inQ (K := c.K) rfl) (pv 2) (pv 3) rfl))) (fun _ _ _ _ _ => (pv 3))) pa_nil)))))), ?_⟩
  refine s_ret g (P := LN (loadsOf n rows)) (Ev.to (ef_lcA (List.range n) (fun k : Nat => I (k : Int)) (fun s => I ((((rows.filter fun r => decide (s ∈ r)).length : Nat)) : Int)) (es_range1 (ea_cons (ev_var rfl h0) ea_nil) (by omega)).i (by rw [List.length_range]; omega) fun a x Hc ha gc hx => ?_).ev (LN_map _ _)) k
  refine ⟨_, tg_name, rfl, Ev.to (ev_cb rc_lenL (ea_cons (ef_lcm rows S (fun r => decide (a ∈ r)) S (ei_list (ev_var rfl ((CH rows).st gc h1))) (by omega) fun r y Hd hr gd hy => ?_).ev ea_nil)) (by rw [List.length_map])⟩
  exact ⟨_, tg_name, rfl, et_test (ev_op rv_inS (ev_var rfl ((I (a : Int)).st gd hx)) (ev_var rfl hy)), fun _ => ev_var rfl hy⟩
def R_count_readings (As : List (SV c)) (Z : SV c) : Prop := ∃ (rows : List (List Nat)), As = [CH rows] ∧ rows.length ≤ 1000 ∧ Z = I ((rows.map List.length).sum : Nat)
abbrev N_count_readings : List Str := ["choices", "row"]
theorem sc_count_readings : FnScope N_count_readings ["choices"] (defScope s_count_readings) := ⟨rfl, rfl, rfl, by decide +kernel, rfl, by decide +kernel, by decide +kernel⟩
theorem ok_count_readings (F : FnP c.K "count_readings" "count_readings" s_count_readings f fd) (Bt : Bts c mg) (C : Cl c) (Il : IsL c)  : FnOk P w c.K mg base CX0 1 f fd ["choices"] (Pm c R_count_readings) := by
  refine okP F sc_count_readings (fun As Z h => by obtain ⟨_, rfl, _⟩ := h; rfl) fun cdv A outer s H vs Q E As Z hr hA hR g k => ?_
  have nd := sc_count_readings.nd
  obtain ⟨rows, rfl, hl, rfl⟩ := hR
  obtain ⟨v0, rfl, h0⟩ := hA.inv1
  refine ⟨_, (pss_one (ps_ret (pe_callB (cr_sumQ (K := c.K) rfl rfl) (by rfl) Bt.bsum (by decide +kernel) (pa_cons (pe_lc (own := [("row", 1)]) rfl nd (pi_listQ (K := c.K) rfl (pv 0)) (blkOk_by (own := [("row", 1)]) (N := N_count_readings) (sc := defScope s_count_readings) (by decide +kernel)) (fun _ _ _ _ _ => (pg_name (i := 1) nd rfl (Or.inl rfl))) (fun _ _ _ _ _ => pts_nil) (fun _ _ _ _ _ => (pe_callB (cl_lenQ (K := c.K) rfl) (by rfl) Bt.blen (by decide +kernel) (pa_cons (pv 1) pa_nil)))) pa_nil)))), ?_⟩
  refine s_ret g (Ev.to (ev_cb rc_sum (ea_cons (Ev.to (ef_lcA rows S (fun r => I ((r.length : Nat) : Int)) (ei_list (ev_var rfl h0)) (by omega) fun r y Hd hr gd hy => ?_).ev (LI_map _ _)) ea_nil)) (congrArg (fun i : Int => I i) (sum_cast _ _))) k
  exact ⟨_, tg_name, rfl, Ev.to (ev_cb rc_lenT (ea_cons (ev_var rfl hy) ea_nil)) (by rw [List.length_map])⟩
/-! steps_to -/
def R_steps_to (As : List (SV c)) (Z : SV c) : Prop := ∃ (fd : FD) (s : Nat) (st : List Step), As = [DI fd, I (s : Int)] ∧ Chain fd s st ∧ st.length ≤ 1000 ∧ Z = L (st.map Stp)
abbrev N_steps_to : List Str := ["found", "server", "steps", "index", "old"]
theorem sc_steps_to : FnScope N_steps_to ["found", "server"] (defScope s_steps_to) := ⟨rfl, rfl, rfl, by decide +kernel, rfl, by decide +kernel, by decide +kernel⟩
theorem ok_steps_to (F : FnP c.K "steps_to" "steps_to" s_steps_to f fd) (Bt : Bts c mg) (C : Cl c) (Il : IsL c)  : FnOk P w c.K mg base CX0 1 f fd ["found", "server"] (Pm c R_steps_to) := by
  refine okP F sc_steps_to (fun As Z h => by obtain ⟨_, _, _, rfl, _⟩ := h; rfl) fun cdv A outer s H vs Q E As Z hr hA hR g k => ?_
  have nd := sc_steps_to.nd
  obtain ⟨fd', s0, st, rfl, hch, hl, rfl⟩ := hR
  obtain ⟨v0, v1, rfl, h0, h1⟩ := hA.inv2
  refine ⟨_, (pss_cons (ps_set (i := 2) nd rfl (Or.inl rfl) (pe_lst pa_nil))
    (pss_cons (ps_while PassesOwn.never (pt_cmpR op_notN (pe_dget (hu_of hr) (pv 0) (pv 1) (fun _ _ => rfl)) pe_non (nomark _)) (pss_cons (ps_asg (pe_dget (hu_of hr) (pv 0) (pv 1) (fun _ _ => rfl)) (pg_tupQ (K := c.K) (n := 2) rfl rfl (pgs_cons (pg_name (i := 3) nd rfl (Or.inl rfl)) (pgs_cons (pg_name (i := 4) nd rfl (Or.inl rfl)) pgs_nil))))
    (pss_cons (ps_expr (pe_appendQ (K := c.K) rfl (pv 2) (pa_cons (pe_tup (pa_cons (pv 3) (pa_cons (pv 4) (pa_cons (pv 1) pa_nil)))) pa_nil)))
    (pss_one (ps_set (i := 1) nd rfl (Or.inl rfl) (pv 4))))))
    (pss_one (ps_ret (pv 2))))), ?_⟩
  refine q_asgF g (P := L []) (ef_lst ea_nil (by simp)) fun a H1 n1 g1 ⟨a', vs, ea, e1, e2⟩ => ?_
  obtain rfl : a = a' := V.ref.inj ea
  obtain rfl := e2.nil_inv
  refine q_while (c := c) (fun m σ' H' => ∃ (dn rest : List Step) (cur : Nat) (u u' : Option V), m = rest.length ∧ Chain fd' cur rest ∧ dn ++ rest = st ∧ Gr c H H' ∧ (∃ ws, H' a = some (.lst ws) ∧ AllP (c := c) (dn.map Stp) ws H') ∧ σ' = [some v0, some (.int (cur : Int)), some (.ref a), u, u']) st.length ⟨[], st, s0, none, none, rfl, hch, rfl, g1, ⟨[], e1, True.intro⟩, by obtain rfl : v1 = _ := h1; rfl⟩ ?_
  rintro m σ' H' ⟨dn, rest, cur, u, u', rfl, hc, hst, gp, ⟨ws, hws, hall⟩, rfl⟩
  cases hc with
  | nil e =>
    refine ⟨false, et_test (ev_op (rv_notN fun v H h => optP_non (o := none) v H h) (ev_dget (ev_var rfl ((DI fd').st gp h0)) (ev_var rfl rfl) e) ev_c), gp.self, fun z => (by cases z), fun _ H2 g2 => ?_⟩
    rw [List.append_nil] at hst
    subst hst
    exact s_ret g2 (P := L (dn.map Stp)) (ev_var rfl ⟨a, ws, rfl, hws, hall⟩) fun v H3 g3 e3 => k v H3 ((gp.trans g2).trans g3) e3
  | @cons _ i o rest e hc2 =>
    refine ⟨true, et_test (ev_op (rv_notN fun v H h => optP_non (o := some (i, o)) v H h) (ev_dget (ev_var rfl ((DI fd').st gp h0)) (ev_var rfl rfl) e) ev_c), gp.self, fun _ H2 g2 => ?_, fun z => (by cases z)⟩
    refine ⟨fun σ2 H3 => ∃ (dn' : List Step) (u u' : Option V), Chain fd' o rest ∧ dn' ++ rest = st ∧ Gr c H H3 ∧ (∃ ws, H3 a = some (.lst ws) ∧ AllP (c := c) (dn'.map Stp) ws H3) ∧ σ2 = [some v0, some (.int (o : Int)), some (.ref a), u, u'], fun σ2 H3 ⟨dn', u, u', a1, a2, a3, a4, a5⟩ => ⟨rest.length, by simp, dn', rest, o, u, u', rfl, a1, a2, a3, a4, a5⟩, ?_⟩
    have gp2 := gp.trans g2
    show tSeq _ _ _ _ _
    refine q_asgT g2 (ev_dget (ev_var rfl ((DI fd').st gp h0)) (ev_var (P := I (cur : Int)) rfl rfl) e) fun v H3 g3 hv => ?_
    obtain ⟨x1, x2, f1, f2, ht⟩ := tg_pair hv
    refine ⟨_, ht tg_name tg_name, ?_⟩
    have hws3 := g3.lst (g2.lst hws)
    refine q_app (H0 := H3) g3.self.self hws3 (ev_var rfl rfl) (P := Stp (i, o, cur)) (ef_tup (ea_cons (ev_var rfl f1) (ea_cons (ev_var rfl f2) (ea_cons (ev_var (P := I (cur : Int)) rfl rfl) ea_nil))) (by simp)).ev (by have := hall.len; rw [List.length_map] at this; have h5 := congrArg List.length hst; rw [List.length_append] at h5; omega) fun v4 H4 g4 e4 => ?_
    obtain rfl : x2 = _ := f2
    have hws4 := g4.lst hws3
    refine s_asg (H0 := upd H4 a (.lst (ws ++ [v4]))) (P := I (o : Int)) ((gp2.trans g3).trans g4 |>.mut n1 hws4 True.intro).self (ev_var rfl rfl) fun v5 H5 g5 e5 => ?_
    obtain rfl : v5 = _ := e5
    have gt := Gt.mut (o := .lst (ws ++ [v4])) hws4 True.intro
    refine ⟨dn ++ [(i, o, cur)], some x1, some (.int (o : Int)), hc2, by rw [List.append_assoc]; exact hst, (((gp2.trans g3).trans g4).mut n1 hws4 True.intro).trans g5, ⟨_, g5.lst upd_same, ?_⟩, rfl⟩
    rw [List.map_append]
    have e6 : AllP (c := c) (dn.map Stp ++ [Stp (i, o, cur)]) (ws ++ [v4]) (upd H4 a (.lst (ws ++ [v4]))) := AllP.append (AllP.gt (TstL.st) gt (((hall.gr g2).gr g3).gr g4)) ⟨Tst.st gt e4, True.intro⟩
    exact e6.gr g5
end


section
open PySem PySem.Spec PyProof.Rows L2 LamX
variable {c : Cxt} {P : Program} {w : World} {mg : Str → Option Value} {base : Heap} {f : Addr} {fd : FuncData}
theorem Gt.refl (H : Hp) : Gt H H := ⟨fun _ _ e => e, fun _ _ _ e => e⟩
theorem Gt.trans {H H1 H2 : Hp} (a : Gt H H1) (b : Gt H1 H2) : Gt H H2 := ⟨fun x xs e => b.1 x xs (a.1 x xs e), fun x o u e => b.2 x o u (a.2 x o u e)⟩
/-- a value that is a new object (seen from H0) -/
def FrS (H0 : Hp) (P : SV c) : SV c := ⟨fun v H => P.p v H ∧ ∃ a, v = .ref a ∧ H0 a = none, fun g h => ⟨P.st g h.1, h.2⟩⟩
section
variable {σ : L2.St} {H H0 H' : Hp} {te td ty tv tl : TE} {Pp R Z : SV c} {D : Ends} {tw tz : TS} {g0 : TG}
theorem EvF.frs (h : EvF c te σ H Pp) : Ev c te σ H (FrS H Pp) := fun H1 g Q q => h H1 g Q fun a H2 n g2 hp => q (.ref a) H2 g2 ⟨hp, a, rfl, g.free n⟩
theorem EvF.frs0 (g0 : Gr c H0 H) (h : EvF c te σ H Pp) : Ev c te σ H (FrS H0 Pp) := fun H1 g Q q => h H1 g Q fun a H2 n g2 hp => q (.ref a) H2 g2 ⟨hp, a, rfl, g0.free (g.free n)⟩
theorem ef_disp {k : Nat} {tk : TE} (hk : Ev c tk σ H (I (k : Int))) (hv : Ev c tv σ H Nn) : EvF c (tDisp [(tk, tv)]) σ H (DI [(k, none)]) := fun H1 g Q q => fun p hp => by
  have gp : Gr c H1 (upd H1 p (.dK [])) := g.new hp
  refine hk _ (g.trans gp) _ fun x H2 g2 e2 => hv H2 ((g.trans gp).trans g2) _ fun y H3 g3 e3 => ?_
  obtain rfl : x = _ := e2
  obtain rfl : y = _ := e3
  have h3 : H3 p = some (.dK []) := g3.ext _ _ (g2.ext _ _ upd_same fun ps z => by cases z) fun ps z => by cases z
  refine ⟨h3, [(Sum.inl (k : Int), .non)], rfl, by simp, q p _ hp (((gp.trans g2).trans g3).mut hp h3 True.intro) ⟨p, rfl, _, upd_same, rfl, rfl, True.intro⟩⟩
theorem ev_dnotin {fd : FD} {k : Nat} (hk : Ev c ty σ H (I (k : Int))) (hd : Ev c td σ H (DI fd)) : Ev c (tDNotIn ty td) σ H (B (!(fd.lookup k).isSome)) := fun H1 g Q q =>
  hk H1 g _ fun y H2 g2 e2 => hd H2 (g.trans g2) _ fun v H3 g3 e3 => by
    obtain rfl : y = _ := e2
    obtain ⟨a, rfl, kvs, h1, h2, h3⟩ := e3
    have hl := di_look (k := k) h2 h3
    refine ⟨a, valV kvs (Sum.inl (k : Int)), rfl, .inl ⟨kvs, Sum.inl (k : Int), .inl h1, rfl, rfl⟩, q _ H3 (g2.trans g3) ?_⟩
    cases e : fd.lookup k with
    | none => rw [hl.2 e]; rfl
    | some o =>
      obtain ⟨v, e2, _⟩ := hl.1 o e
      rw [e2]; rfl
theorem putK_new {kvs : List (Key × V)} {k : Key} {v : V} (h : valV kvs k = none) : putK kvs k v = kvs ++ [(k, v)] := by
  unfold putK
  rw [valV_any, h]
  rfl
theorem q_dput {d : Addr} {fd : FD} {k : Nat} {o : Nat × Nat} (g : Gr c H0 H) (hd : DIat (c := c) d fd H) (h0 : fd.lookup k = none) (hl : fd.length < 1000) (hv : Ev c tv σ H (OptP (some o))) (hdv : Ev c td σ H (Eqv (.ref d))) (hk : Ev c ty σ H (I (k : Int)))
    (kk : ∀ H1 kvs, Gr c H H1 → H1 d = some (.dK kvs) → ∀ o', DIat (c := c) d (fd ++ [(k, some o)]) (upd H1 d o') → tz D σ (upd H1 d o') ) : tSeq (sDPut td ty tv) tz D σ H :=
  hv H g.self _ fun v H1 g1 e1 => hdv H1 g1 _ fun x H2 g2 e2 => hk H2 (g1.trans g2) _ fun y H3 g3 e3 => by
    obtain rfl : x = _ := e2
    obtain rfl : y = _ := e3
    have g13 := (g1.trans g2).trans g3
    obtain ⟨kvs, a1, a2, a3⟩ := hd
    have b1 : H3 d = some (.dK kvs) := g13.ext _ _ a1 fun ps z => by cases z
    have b3 := a3.gr g13
    have hn := (di_look (k := k) a2 b3).2 h0
    have hlen : kvs.length = fd.length := by
      have := congrArg List.length a2
      rw [List.length_map, List.length_map] at this
      exact this
    refine ⟨d, _, rfl, .inl ⟨kvs, Sum.inl (k : Int), b1, rfl, sz_lt (by omega), rfl⟩, ?_⟩
    have gt := Gt.mut (o := .dK (putK kvs (Sum.inl (k : Int)) v)) b1 True.intro
    refine kk H3 kvs g13 b1 _ ⟨_, upd_same, ?_, ?_⟩
    · rw [putK_new hn, List.map_append, List.map_append, a2]
      rfl
    · rw [putK_new hn, List.map_append, List.map_append]
      rw [putK_new hn] at gt
      exact AllP.append (AllP.gt (TstL.st) gt b3) ⟨Tst.st gt ((OptP (some o)).st (g2.trans g3) e1), True.intro⟩
/-- for over a tuple whose items stand whatever lists do -/
theorem s_forT {α : Type} (xs : List α) (F : α → SV c) [hT : ∀ x, Tst (F x)] (g : Gr c H0 H) (h : Ev c tl σ H (TupOf (xs.map F))) (Pv : Hp → Nat → L2.St → Hp → Prop) (h0 : ∀ H1, Gr c H H1 → Pv H1 0 σ H1) (hG : ∀ H1 i σ' H', Gr c H H1 → Pv H1 i σ' H' → Gr c H0 H' ∧ Gt H1 H')
    (hs : ∀ H1 i a x σ' H', Gr c H H1 → xs[i]? = some a → Pv H1 i σ' H' → (F a).p x H' → g0 x σ' H' fun σ2 H3 => tw { D with nx := Pv H1 (i + 1), ct := Pv H1 (i + 1), bk := D.nx } σ2 H3)
    (hd : ∀ H1 σ' H', Gr c H H1 → Pv H1 xs.length σ' H' → D.nx σ' H') : tFor (iTup c.K tl) g0 tw D σ H := h H g.self _ fun v H1 g1 ⟨a, vs, e, e1, e2⟩ => by
  refine ⟨a, e, ⟨vs, e1⟩, fun i m σ' H' => m = xs.length - i ∧ i ≤ xs.length ∧ Pv H1 i σ' H', ⟨xs.length, by simp, Nat.zero_le _, h0 H1 g1⟩, ?_⟩
  rintro i m σ' H' ⟨rfl, hi, p⟩
  obtain ⟨gr, gt⟩ := hG H1 i σ' H' g1 p
  have f1 := gt.sqT e1
  have f2 := AllP.gt (TstL.st (Ps := xs.map F)) gt e2
  have s := src_tup (c := c) (a := a) (Ps := xs.map F) (vs := vs)
  by_cases hlt : i < xs.length
  · refine .inr ⟨s.goes i H' (by rw [List.length_map]; exact hlt) ⟨f1, f2⟩, Pv H1 (i + 1), fun σ'' H'' p' => ⟨xs.length - (i + 1), by omega, rfl, hlt, p'⟩, fun x H3 y => ?_⟩
    obtain ⟨e3, y2⟩ := y
    obtain ⟨u, hu, hp⟩ := f2.get (i := i) (P := F xs[i]) (by rw [List.getElem?_map, List.getElem?_eq_getElem hlt]; rfl)
    have := y2 vs f1
    rw [hu] at this
    cases this
    rw [e3]
    exact hs H1 i xs[i] x σ' H' g1 (List.getElem?_eq_getElem hlt) p hp
  · have e3 : i = xs.length := by omega
    subst e3
    exact .inl ⟨by have := s.stops H' ⟨f1, f2⟩; rw [List.length_map] at this; exact this, hd H1 σ' H' g1 p⟩
theorem L_keepD {Ps : List (SV c)} [TstL Ps] {v : V} {H : Hp} {b : Addr} {kvs : List (Key × V)} {o : HO} (hb : H b = some (.dK kvs)) (h : (L Ps).p v H) : (L Ps).p v (upd H b o) := by
  obtain ⟨a, vs, e, h1, h2⟩ := h
  exact ⟨a, vs, e, by rw [upd_ne (fun z => by rw [z, hb] at h1; cases h1)]; exact h1, h2.gt TstL.st (Gt.mut hb True.intro)⟩
theorem L_keepL {Ps : List (SV c)} [TstL Ps] {v : V} {H : Hp} {b : Addr} {ws : List V} {o : HO} (hb : H b = some (.lst ws)) (hne : ∀ a, v = .ref a → a ≠ b) (h : (L Ps).p v H) : (L Ps).p v (upd H b o) := by
  obtain ⟨a, vs, e, h1, h2⟩ := h
  exact ⟨a, vs, e, by rw [upd_ne (hne a e)]; exact h1, h2.gt TstL.st (Gt.mut hb True.intro)⟩
theorem DI_keepL {d b : Addr} {fd : FD} {H : Hp} {ws : List V} {o : HO} (hb : H b = some (.lst ws)) (h : DIat (c := c) d fd H) : DIat (c := c) d fd (upd H b o) := by
  obtain ⟨kvs, h1, h2, h3⟩ := h
  exact ⟨kvs, by rw [upd_ne (fun z => by rw [z, hb] at h1; cases h1)]; exact h1, h2, h3.gt TstL.st (Gt.mut hb True.intro)⟩
theorem DI_gr {d : Addr} {fd : FD} {H H' : Hp} (g : Gr c H H') (h : DIat (c := c) d fd H) : DIat (c := c) d fd H' := by
  obtain ⟨kvs, h1, h2, h3⟩ := h
  exact ⟨kvs, g.ext _ _ h1 fun ps z => (by cases z), h2, h3.gr g⟩
theorem q_par3 {i j l : Nat} {ta : TA} (g : Gr c H0 H) (h : EvA c ta σ H0 [Pp, R, Z]) (k : ∀ u v x H1, Gr c H H1 → Pp.p u H1 → R.p v H1 → Z.p x H1 → tz D (((σ.set i (some u)).set j (some v)).set l (some x)) H1) : tSeq (tPar3 i j l ta) tz D σ H :=
  h H g _ fun vs H1 g1 e => by
    obtain ⟨u, v, x, rfl, e1, e2, e3⟩ := e.inv3
    exact ⟨u, v, x, rfl, k u v x H1 g1 e1 e2 e3⟩
theorem cast_inj : ∀ {l m : List Nat}, (l.map fun k : Nat => (k : Int)) = (m.map fun k : Nat => (k : Int)) → l = m
  | [], [], _ => rfl
  | [], _ :: _, h => by cases h
  | _ :: _, [], h => by cases h
  | a :: l, b :: m, h => by
    rw [List.map_cons, List.map_cons] at h
    obtain ⟨h1, h2⟩ := List.cons.inj h
    have : a = b := by omega
    rw [this, cast_inj h2]
theorem LN_LI (l : List Nat) : LN (c := c) l = LI (l.map fun k : Nat => (k : Int)) := by
  show _ = L ((l.map _).map I)
  rw [List.map_map]; rfl
theorem rv_neLN {l m : List Nat} : RV c (rNeD c.K) (LN l) (LN m) (B (!decide (l = m))) := by
  have h := rv_neLI (c := c) (l := l.map fun k : Nat => (k : Int)) (m := m.map fun k : Nat => (k : Int))
  have e : decide (l.map (fun k : Nat => (k : Int)) = m.map fun k : Nat => (k : Int)) = decide (l = m) := by
    refine decide_eq_decide.mpr ⟨fun h => ?_, fun h => by rw [h]⟩
    exact cast_inj h
  rw [e] at h
  rw [LN_LI, LN_LI]
  exact fun x y H g a b Q q => h x y H g (L.lstOf a) b Q q
end
/-- what path_from gives: steps, or None where the start has no room -/
theorem look_mem {fd : FD} {k : Nat} (h : k ∈ fd.map (·.1)) : ∃ o, fd.lookup k = some o := by
  induction fd with
  | nil => cases h
  | cons p fd ih =>
    rw [List.lookup_cons]
    by_cases e : k = p.1
    · have : (k == p.1) = true := by simpa using e
      rw [this]
      exact ⟨_, rfl⟩
    · have : (k == p.1) = false := by simpa using e
      rw [this]
      rw [List.map_cons] at h
      rcases List.mem_cons.mp h with h | h
      · exact absurd h e
      · exact ih h
def PathZ (n : Nat) (rows : List (List Nat)) (start : Nat) (must : Prop) : SV c := ⟨fun v H => (v = .non ∧ ¬ must) ∨ ∃ st : List Step, GoodP n rows start st ∧ st.length ≤ 1000 ∧ (L (c := c) (st.map Stp)).p v H, fun {v H0 H1} g h => by
  rcases h with h | ⟨st, a, b, d⟩
  · exact .inl h
  · exact .inr ⟨st, a, b, (L _).st g d⟩⟩
def R_path_from (As : List (SV c)) (Z : SV c) : Prop := ∃ (n : Nat) (its : List Itm) (rows : List (List Nat)) (start : Nat) (lims : List Nat), As = [Lay n its, CH rows, I (start : Int), LN lims] ∧ n ≤ 100 ∧ rows.length = its.length ∧ its.length ≤ 100 ∧ start < n ∧ lims.length = n ∧ (∀ it ∈ its, ∀ s ∈ it.1, s < n) ∧ Z = PathZ n rows start ((loadsOf n rows)[start]?.getD 0 < lims[start]?.getD 0)
abbrev N_path_from : List Str := ["layout", "choices", "start", "limits", "loads", "found", "queue", "server", "index", "row", "late"]
theorem sc_path_from : FnScope N_path_from ["layout", "choices", "start", "limits"] (defScope s_path_from) := ⟨rfl, rfl, rfl, by decide +kernel, rfl, by decide +kernel, by decide +kernel⟩
theorem ok_path_from (F : FnP c.K "path_from" "path_from" s_path_from f fd) (Bt : Bts c mg) (C : Cl c) (Il : IsL c) (h_loads_of : Has P w c.K mg base "loads_of" ["servers", "choices"] 1 (Pm c R_loads_of)) (h_steps_to : Has P w c.K mg base "steps_to" ["found", "server"] 1 (Pm c R_steps_to)) : FnOk P w c.K mg base CX0 2 f fd ["layout", "choices", "start", "limits"] (Pm c R_path_from) := by
  refine okP F sc_path_from (fun As Z h => by obtain ⟨_, _, _, _, _, rfl, _⟩ := h; rfl) fun cdv A outer s H vs Q E As Z hr hA hR g k => ?_
  have nd := sc_path_from.nd
  obtain ⟨n, its, rows, start, lims, rfl, hn, hlen, hl, hst, hlm, hits, rfl⟩ := hR
  obtain ⟨v0, v1, v2, v3, rfl, h0, h1, h2, h3⟩ := hA.inv4
  refine ⟨_, (pss_cons (ps_par3 (i := 4) (j := 5) (l := 6) rfl nd rfl rfl rfl (by decide) (by decide) (by decide) rfl rfl rfl (pa_cons (pe_callH h_loads_of (hr.mono (by decide)) rfl (pa_cons (pe_fldQ (K := c.K) rfl (pv 0) rfl) (pa_cons (pv 1) pa_nil))) (pa_cons (pe_disp (pps_cons (pv 2) pe_non pps_nil) rfl rfl (by simp) (by decide)) (pa_cons (pe_lst (pa_cons (pv 2) pa_nil)) pa_nil))) (by rfl))
    (pss_cons (ps_while PassesOwn.never (pt_cmpR (op_neDQ (K := c.K) rfl hr.units) (pv 6) (pe_lst pa_nil) (nomark _)) (pss_cons (ps_par (i := 7) (j := 6) rfl nd rfl rfl (by decide) rfl rfl (pa_cons (pe_ix (ix_listQ (K := c.K) rfl) (pv 6) pe_int (fun _ _ => rfl)) (pa_cons (pe_slice (sl_listQ (K := c.K) rfl) (pv 6) (po_some pe_int) po_none) pa_nil)) (by rfl))
    (pss_cons (ps_if (pt_cmpR op_lt (pe_ix (ix_listQ (K := c.K) rfl) (pv 4) (pv 7) (fun _ _ => rfl)) (pe_ix (ix_listQ (K := c.K) rfl) (pv 3) (pv 7) (fun _ _ => rfl)) (nomark _)) (pss_one (ps_ret (pe_callH h_steps_to (hr.mono (by decide)) rfl (pa_cons (pv 5) (pa_cons (pv 7) pa_nil))))) pss_nil)
    (pss_one (ps_for PassesOwn.never rfl (pi_enumQ (K := c.K) rfl (by rfl) Bt.benumerate (pa_cons (pv 1) pa_nil)) (pg_tupQ (K := c.K) (n := 2) rfl rfl (pgs_cons (pg_name (i := 8) nd rfl (Or.inl rfl)) (pgs_cons (pg_name (i := 9) nd rfl (Or.inl rfl)) pgs_nil))) (pss_one (ps_for PassesOwn.never rfl (pi_tupQ (K := c.K) rfl (pe_ifExp (pt_cmpR (op_inQ (K := c.K) rfl) (pv 7) (pv 9) rfl) (pe_ix (ix_tupQ (K := c.K) rfl) (pe_ix (ix_tupQ (K := c.K) rfl) (pe_fldQ (K := c.K) rfl (pv 0) rfl) (pv 8) (fun _ _ => rfl)) pe_int (fun _ _ => rfl)) (pe_tup pa_nil))) (pg_name (i := 10) nd rfl (Or.inl rfl)) (pss_one (ps_if (PW.pt (pw_and (pt_cmpR (op_niQ (K := c.K) rfl) (pv 10) (pv 9) rfl) (pw_and1 (pt_cmp (pc_dnotin (hu_of hr) (pv 10) (pv 5)))))) (pss_cons (ps_dput (hu_of hr) (pv 5) (pv 10) (pe_tup (pa_cons (pv 8) (pa_cons (pv 7) pa_nil))) rfl)
    (pss_one (ps_expr (pe_appendQ (K := c.K) rfl (pv 6) (pa_cons (pv 10) pa_nil))))) pss_nil)))))))))
    (pss_one (ps_ret pe_non)))), ?_⟩
  have hlo : (loadsOf n rows).length = n := by unfold loadsOf; rw [List.length_map, List.length_range]
  refine q_par3 g (Pp := LN (loadsOf n rows)) (R := FrS H (DI [(start, none)])) (Z := FrS H (LN [start])) (ea_cons (ev_call (ea_cons (ev_servers C (ev_var rfl h0)) (ea_cons (ev_var rfl h1) ea_nil)) ⟨_, _, rfl, by omega, by omega, rfl⟩) (ea_cons (ef_disp (ev_var rfl h2) ev_c).frs (ea_cons (ef_lst (Ps := [I (start : Int)]) (ea_cons (ev_var rfl h2) ea_nil) (by simp)).frs ea_nil))) fun v4 v5 v6 H1 g1 h4 h5 h6 => ?_
  obtain ⟨⟨d, rfl, hd⟩, d', e', nd0⟩ := h5
  obtain rfl : d = d' := V.ref.inj e'
  obtain ⟨h6, qa, rfl, nq⟩ := h6
  refine q_while (c := c) (fun m σ' H' => ∃ (fd : FD) (q : List Nat) (qa : Addr) (u7 u8 u9 u10 : Option V), m = (n - fd.length) + q.length ∧ (n - fd.length) + q.length ≤ n ∧ Tree n rows start fd ∧ DIat (c := c) d fd H' ∧ (LN (c := c) q).p (.ref qa) H' ∧ H qa = none ∧ (∀ s ∈ q, s ∈ fd.map (·.1)) ∧ Gr c H H' ∧ (LN (c := c) (loadsOf n rows)).p v4 H' ∧
    ((fd = [(start, none)] ∧ q = [start]) ∨ ¬ (loadsOf n rows)[start]?.getD 0 < lims[start]?.getD 0) ∧ σ' = [some v0, some v1, some v2, some v3, some v4, some (.ref d), some (.ref qa), u7, u8, u9, u10]) _ ⟨[(start, none)], [start], qa, none, none, none, none, rfl, (by simp; omega), .base, hd, h6, nq, fun s hs => by simpa using hs, g1, h4, .inl ⟨rfl, rfl⟩, rfl⟩ ?_
  rintro m σ' H' ⟨fd, q, qa, u7, u8, u9, u10, rfl, hM, hT, hD, hQ, nq, hsub, gp, hL, hcase, rfl⟩
  have hself := gp.self
  refine ⟨!decide (q = []), et_test (ev_op (rv_neLN (m := [])) (ev_var rfl hQ) (ef_lst ea_nil (by simp)).ev), hself, fun hb H2 g2 => ?_, fun hb H2 g2 => ?_⟩
  case refine_2 =>
    have hq : q = [] := by
      cases q with
      | nil => rfl
      | cons a q => exact absurd hb (by simp)
    refine s_ret g2 (P := Nn) ev_c fun v H3 g3 e3 => k v H3 ((gp.trans g2).trans g3) (.inl ⟨e3, ?_⟩)
    rcases hcase with ⟨_, z⟩ | z
    · rw [hq] at z; cases z
    · exact z
  obtain ⟨sv, q', rfl⟩ : ∃ sv q', q = sv :: q' := by
    cases q with
    | nil => exact absurd hb (by simp)
    | cons a q => exact ⟨a, q, rfl⟩
  have hsv : sv ∈ fd.map (·.1) := hsub sv (List.mem_cons_self ..)
  have hsvn : sv < n := hT.lt hst sv hsv
  have hfdl := hT.len hst
  have gp2 := gp.trans g2
  have hQ2 := (LN (sv :: q')).st g2 hQ
  have hD2 : DIat (c := c) d fd H2 := by
    obtain ⟨kvs, a1, a2, a3⟩ := hD
    exact ⟨kvs, g2.ext _ _ a1 fun ps z => (by cases z), a2, a3.gr g2⟩
  have hL2 := (LN (loadsOf n rows)).st g2 hL
  refine ⟨fun σ2 H3 => ∃ (fd' : FD) (q2 : List Nat) (qa : Addr) (u7 u8 u9 u10 : Option V), (n - fd'.length) + q2.length < (n - fd.length) + (sv :: q').length ∧ Tree n rows start fd' ∧ DIat (c := c) d fd' H3 ∧ (LN (c := c) q2).p (.ref qa) H3 ∧ H qa = none ∧ (∀ s ∈ q2, s ∈ fd'.map (·.1)) ∧ Gr c H H3 ∧ (LN (c := c) (loadsOf n rows)).p v4 H3 ∧
    (¬ (loadsOf n rows)[start]?.getD 0 < lims[start]?.getD 0) ∧ σ2 = [some v0, some v1, some v2, some v3, some v4, some (.ref d), some (.ref qa), u7, u8, u9, u10], fun σ2 H3 ⟨fd', q2, qa, u7, u8, u9, u10, b1, b2, b3, b4, b5, b6, b7, b8, b9, b10⟩ => ⟨_, b1, fd', q2, qa, u7, u8, u9, u10, rfl, Nat.le_trans (Nat.le_of_lt b1) hM, b2, b3, b4, b5, b6, b7, b8, .inr b9, b10⟩, ?_⟩
  show tSeq _ _ _ _ _
  obtain ⟨cnt, hcnt⟩ : ∃ cnt, (loadsOf n rows)[sv]? = some cnt := ⟨_, List.getElem?_eq_getElem (by omega)⟩
  obtain ⟨lim, hlim⟩ : ∃ lim, lims[sv]? = some lim := ⟨_, List.getElem?_eq_getElem (by omega)⟩
  refine q_par (H0 := H2) gp2.self (P := I (sv : Int)) (R := FrS H2 (LN q')) (ev_op (rv_ixL (i := 0) rfl) (ev_var rfl hQ2) ev_c) (ef_slFrom (n := 1) (ev_var rfl hQ2) (eo_some ev_c) eo_none).frs fun v7 v6 H3 g3 h7 h6 => ?_
  obtain rfl : v7 = _ := h7
  obtain ⟨h6, qb, rfl, nqb⟩ := h6
  have gp3 := gp2.trans g3
  have hL3 := (LN (loadsOf n rows)).st g3 hL2
  have hD3 : DIat (c := c) d fd H3 := by
    obtain ⟨kvs, a1, a2, a3⟩ := hD2
    exact ⟨kvs, g3.ext _ _ a1 fun ps z => (by cases z), a2, a3.gr g3⟩
  refine q_when (b := decide ((cnt : Int) < (lim : Int))) (H0 := H3) gp3.self (et_test (ev_op rv_I0 (ev_op (rv_ixL (i := sv) (by rw [List.getElem?_map, hcnt]; rfl)) (ev_var rfl hL3) (ev_var (P := I (sv : Int)) rfl rfl)) (ev_op (rv_ixL (i := sv) (by rw [List.getElem?_map, hlim]; rfl)) (ev_var rfl ((LN lims).st gp3 h3)) (ev_var (P := I (sv : Int)) rfl rfl)))) (fun hb2 H4 g4 => ?_) fun hb2 H4 g4 => ?_
  · obtain ⟨st, c1, c2, _, _, _, c6⟩ := hT.chain sv hsv
    refine s_ret (H0 := H4) (gp3.trans g4).self (ev_call (ea_cons (ev_var rfl (P := DI fd) ⟨d, rfl, ?_⟩) (ea_cons (ev_var (P := I (sv : Int)) rfl rfl) ea_nil)) ⟨_, _, _, rfl, c1, by omega, rfl⟩) fun v H5 g5 e5 => k v H5 ((gp3.trans g4).trans g5) (.inr ⟨st, c2, by omega, e5⟩)
    obtain ⟨kvs, a1, a2, a3⟩ := hD3
    exact ⟨kvs, g4.ext _ _ a1 fun ps z => (by cases z), a2, a3.gr g4⟩
  have gp4 := gp3.trans g4
  have hcase4 : ¬ (loadsOf n rows)[start]?.getD 0 < lims[start]?.getD 0 := by
    rcases hcase with ⟨_, z⟩ | z
    · obtain ⟨rfl, _⟩ := List.cons.inj z
      rw [hcnt, hlim]
      have := of_decide_eq_false hb2
      show ¬ cnt < lim
      omega
    · exact z
  have nq0 : H qb = none := gp2.free nqb
  have hne4 : ∀ a, v4 = .ref a → a ≠ qb := fun a e z => by
    obtain ⟨a4, _, e4, hh, _⟩ := hL2
    rw [e] at e4
    cases e4
    rw [z, nqb] at hh
    cases hh
  refine s_for rows.zipIdx (fun p => TupOf [I (p.2 : Int), S p.1]) gp4 (es_enum (F := S) (ev_var (P := Eqv v1) rfl rfl) h1) (fun i σ' H' => ∃ (fd' : FD) (q2 : List Nat) (u8 u9 u10 : Option V), (n - fd'.length) + q2.length = (n - fd.length) + q'.length ∧ Tree n rows start fd' ∧ DIat (c := c) d fd' H' ∧ (LN (c := c) q2).p (.ref qb) H' ∧
    (∀ s ∈ q2, s ∈ fd'.map (·.1)) ∧ sv ∈ fd'.map (·.1) ∧ Gr c H H' ∧ (LN (c := c) (loadsOf n rows)).p v4 H' ∧ σ' = [some v0, some v1, some v2, some v3, some v4, some (.ref d), some (.ref qb), some (.int (sv : Int)), u8, u9, u10])
    (fun H5 g5 => ⟨fd, q', u8, u9, u10, rfl, hT, DI_gr (g4.trans g5) hD3, (LN q').st (g4.trans g5) h6, fun s hs => hsub s (List.mem_cons_of_mem _ hs), hsv, gp4.trans g5, (LN _).st (g4.trans g5) hL3, rfl⟩)
    (fun _ _ _ ⟨_, _, _, _, _, _, _, _, _, _, _, p, _⟩ => p) ?_ ?_
  case refine_2 =>
    rintro σ' H5 ⟨fd', q2, u8, u9, u10, b1, b2, b3, b4, b5, b6, b7, b8, rfl⟩
    exact ⟨fd', q2, qb, _, u8, u9, u10, by rw [List.length_cons]; omega, b2, b3, b4, nq0, b5, b7, b8, hcase4, rfl⟩
  rintro i ⟨row, idx⟩ x σ' H5 hi ⟨fd', q2, u8, u9, u10, b1, b2, b3, b4, b5, b6, b7, b8, rfl⟩ H6 g6 hx
  obtain ⟨x1, x2, e1, e2, ht⟩ := tg_pair hx
  obtain rfl : x1 = _ := e1
  refine ht tg_name tg_name _ ?_
  have hrow : rows[idx]? = some row := by
    have := List.mem_of_getElem? hi
    exact (List.mem_zipIdx_iff_getElem?.mp this)
  have hidx : idx < its.length := by have := (List.getElem?_eq_some_iff.mp hrow).1; omega
  obtain ⟨it, hit⟩ : ∃ it, its[idx]? = some it := ⟨_, List.getElem?_eq_getElem hidx⟩
  have b76 := b7.trans g6
  show tFor _ _ _ _ _ _
  refine s_forT (if decide (sv ∈ row) then it.1 else []) (fun k : Nat => I (k : Int)) (H0 := H) b76 (ev_if (et_test (ev_op rv_inS (ev_var (P := I (sv : Int)) rfl rfl) (ev_var rfl e2))) (fun hb => ?_) fun hb => ?_)
    (fun H1 j σ' H' => (∃ (fd' : FD) (q2 : List Nat) (u10 : Option V), (n - fd'.length) + q2.length = (n - fd.length) + q'.length ∧ Tree n rows start fd' ∧ DIat (c := c) d fd' H' ∧ (LN (c := c) q2).p (.ref qb) H' ∧
    (∀ s ∈ q2, s ∈ fd'.map (·.1)) ∧ sv ∈ fd'.map (·.1) ∧ Gr c H H' ∧ (LN (c := c) (loadsOf n rows)).p v4 H' ∧ σ' = [some v0, some v1, some v2, some v3, some v4, some (.ref d), some (.ref qb), some (.int (sv : Int)), some (.int (idx : Int)), some x2, u10]) ∧ (S (c := c) row).p x2 H' ∧ Gt H1 H')
    (fun H7 g7 => ⟨⟨fd', q2, u10, b1, b2, DI_gr (g6.trans g7) b3, (LN _).st (g6.trans g7) b4, b5, b6, b76.trans g7, (LN _).st (g6.trans g7) b8, rfl⟩, (S row).st g7 e2, Gt.refl _⟩) (fun H1 j σ' H' _ ⟨⟨_, _, _, _, _, _, _, _, _, p, _⟩, _, gt⟩ => ⟨p, gt⟩) ?_ ?_
  · rw [if_pos hb]
    exact ev_op (rv_ixT (i := 0) rfl) (ev_op (rv_ixT (P := It1 it) (i := idx) (by rw [List.getElem?_map, hit]; rfl)) (ev_entries C (ev_var rfl ((Lay n its).st b76 h0))) (ev_var (P := I (idx : Int)) rfl rfl)) ev_c
  · rw [if_neg (by rw [hb]; decide)]
    exact (ef_tup ea_nil (by simp)).ev
  · rintro H7 j late x σ' H8 g7 hj ⟨⟨fd', q2, u10, b1, b2, b3, b4, b5, b6, b7, b8, rfl⟩, hr8, gt8⟩ hx8
    obtain rfl : x = _ := hx8
    have hsvr : sv ∈ row := by
      by_cases z : sv ∈ row
      · exact z
      · rw [if_neg (by simp [z])] at hj; cases hj
    have hlate : late ∈ it.1 := by
      rw [if_pos (by simp [hsvr])] at hj
      exact List.mem_of_getElem? hj
    show tIfS _ _ _ _ _ _
    refine s_when (b := (!decide (late ∈ row)) && !(fd'.lookup late).isSome) (H0 := H8) b7.self (et_and (et_test (ev_op rv_niS (ev_var (P := I (late : Int)) rfl rfl) (ev_var rfl hr8))) fun _ => et_B (ev_dnotin (ev_var (P := I (late : Int)) rfl rfl) (ev_var (P := DI fd') rfl ⟨d, rfl, b3⟩))) (fun hb9 H9 g9 => ?_) fun hb9 H9 g9 => ?_
    · rw [Bool.and_eq_true] at hb9
      have hnr : late ∉ row := by
        intro z
        rw [decide_eq_true z] at hb9
        exact absurd hb9.1 (by decide)
      have hnl : fd'.lookup late = none := by
        cases q : fd'.lookup late with
        | none => rfl
        | some o => rw [q] at hb9; exact absurd hb9.2 (by simp)
      have hnk : late ∉ fd'.map (·.1) := fun z => by
        obtain ⟨o, e⟩ := look_mem z
        rw [hnl] at e
        cases e
      have hT' : Tree n rows start (fd' ++ [(late, some (idx, sv))]) := .snoc b2 hnk b6 hrow hsvr hnr (hits it (List.mem_of_getElem? hit) late hlate)
      have hTl := hT'.len hst
      rw [List.length_append, List.length_singleton] at hTl
      have b79 := b7.trans g9
      refine q_dput (o := (idx, sv)) (H0 := H9) b79.self (DI_gr g9 b3) hnl (by omega) (ef_tup (ea_cons (ev_var (P := I (idx : Int)) rfl rfl) (ea_cons (ev_var (P := I (sv : Int)) rfl rfl) ea_nil)) (by simp)).ev (ev_var rfl rfl) (ev_var (P := I (late : Int)) rfl rfl) fun H10 kvs g10 hdk o' hD' => ?_
      have nd : H d = none := nd0
      have b710 := b79.trans g10
      have gM := b710.mut (o := o') nd hdk True.intro
      have hQ10 := L_keepD (o := o') hdk ((LN q2).st (g9.trans g10) b4)
      obtain ⟨qb', wq, eq, hqb, hqv⟩ := id hQ10
      obtain rfl : qb = qb' := V.ref.inj eq
      refine s_app (H0 := upd H10 d o') gM.self hqb (ev_var rfl rfl) (ev_var (P := I (late : Int)) rfl rfl) (by have := hqv.len; rw [List.length_map] at this; have h5 := b1; rw [List.length_cons] at hM; omega) fun v11 H11 g11 e11 => ?_
      obtain rfl : v11 = _ := e11
      have hqb11 := g11.lst hqb
      have gM2 := (gM.trans g11).mut (o := .lst (wq ++ [.int (late : Int)])) nq0 hqb11 True.intro
      have gt1 : Gt H7 (upd H11 qb (.lst (wq ++ [.int (late : Int)]))) := (((gt8.trans (g9.trans g10).gt).trans (Gt.mut hdk True.intro)).trans g11.gt).trans (Gt.mut hqb11 True.intro)
      refine ⟨⟨fd' ++ [(late, some (idx, sv))], q2 ++ [late], _, ?_, hT', DI_keepL hqb11 (DI_gr g11 hD'), ⟨qb, _, rfl, upd_same, ?_⟩, fun s hs => ?_, ?_, gM2, L_keepL hqb11 hne4 ((LN _).st g11 (L_keepD hdk ((LN _).st (g9.trans g10) b8))), rfl⟩, ?_, gt1⟩
      · rw [List.length_append, List.length_append, List.length_singleton, List.length_singleton]
        omega
      · rw [List.map_append]
        exact AllP.append (AllP.gt (TstL.st) (Gt.mut hqb11 True.intro) (hqv.gr g11)) ⟨rfl, True.intro⟩
      · rw [List.map_append]
        rcases List.mem_append.mp hs with hs | hs
        · exact List.mem_append_left _ (b5 s hs)
        · exact List.mem_append_right _ (by simpa using hs)
      · rw [List.map_append]; exact List.mem_append_left _ b6
      · exact Tst.st (((((g9.trans g10).gt).trans (Gt.mut hdk True.intro)).trans g11.gt).trans (Gt.mut hqb11 True.intro)) hr8
    · exact ⟨⟨fd', q2, some (.int (late : Int)), b1, b2, DI_gr g9 b3, (LN _).st g9 b4, b5, b6, b7.trans g9, (LN _).st g9 b8, rfl⟩, (S row).st g9 hr8, gt8.trans g9.gt⟩
  · rintro H7 σ' H8 g7 ⟨⟨fd', q2, u10, b1, b2, b3, b4, b5, b6, b7, b8, rfl⟩, hr8, gt8⟩
    exact ⟨fd', q2, _, _, u10, b1, b2, b3, b4, b5, b6, b7, b8, rfl⟩
end


section
open PySem PySem.Spec PyProof.Rows L2 LamX
variable {c : Cxt} {P : Program} {w : World} {mg : Str → Option Value} {base : Heap} {f : Addr} {fd : FuncData}
theorem allP_pt {H : Hp} : ∀ {Ps : List (SV c)} {vs : List V}, vs.length = Ps.length → (∀ (j : Nat) (P : SV c) (v : V), Ps[j]? = some P → vs[j]? = some v → P.p v H) → AllP Ps vs H
  | [], [], _, _ => True.intro
  | [], _ :: _, h, _ => by cases h
  | _ :: _, [], h, _ => by cases h
  | P :: Ps, v :: vs, h, k => ⟨k 0 P v rfl rfl, allP_pt (by simpa using h) fun j P v h1 h2 => k (j + 1) P v (by simpa using h1) (by simpa using h2)⟩
theorem AllP.pt {H : Hp} {Ps : List (SV c)} {vs : List V} (h : AllP Ps vs H) {j : Nat} {P : SV c} {v : V} (h1 : Ps[j]? = some P) (h2 : vs[j]? = some v) : P.p v H := by
  obtain ⟨u, e, hp⟩ := h.get h1
  rw [h2] at e
  cases e
  exact hp
theorem HT_ixN {n i : Nat} (h : i < n) : ixN n (i : Int) = some i := by
  unfold ixN
  rw [if_pos (by omega)]
  simp; omega
theorem allP_eqv {H : Hp} : ∀ {vs : List V}, AllP (c := c) (vs.map Eqv) vs H
  | [] => True.intro
  | _ :: _ => ⟨rfl, allP_eqv⟩
abbrev inv_ (r : List Nat) : List V := (r.map fun k : Nat => (k : Int)).map V.int
/-- the rows of the list at a: lists, none of them a itself -/
structure RowsAt (a : Addr) (ws : List V) (rows : List (List Nat)) (H : Hp) : Prop where
  len : ws.length = rows.length
  at_ : ∀ (j : Nat) (r : List Nat), rows[j]? = some r → ∃ b, ws[j]? = some (.ref b) ∧ b ≠ a ∧ H b = some (.lst (inv_ r))
theorem RowsAt.gr {a : Addr} {ws : List V} {rows : List (List Nat)} {H H' : Hp} (g : Gr c H H') (h : RowsAt a ws rows H) : RowsAt a ws rows H' := ⟨h.len, fun j r e => by
  obtain ⟨b, h1, h2, h3⟩ := h.at_ j r e
  exact ⟨b, h1, h2, g.lst h3⟩⟩
theorem RowsAt.all {a : Addr} {ws : List V} {rows : List (List Nat)} {H : Hp} (h : RowsAt a ws rows H) : AllP (c := c) (rows.map fun r => LN r) ws H := allP_pt (by rw [h.len, List.length_map]) fun j P v h1 h2 => by
  rw [List.getElem?_map] at h1
  cases q : rows[j]? with
  | none => rw [q] at h1; cases h1
  | some r =>
    rw [q] at h1
    cases h1
    obtain ⟨b, h3, _, h4⟩ := h.at_ j r q
    rw [h2] at h3
    cases h3
    exact ⟨b, _, rfl, h4, AllP.of_nats⟩
section
variable {σ σ2 : L2.St} {H H' H0 : Hp} {te : TE} {wi : TI} {g0 : TG} {vs : List Nat}
/-- a comprehension that makes lists -/
theorem ef_lcL {α : Type} (xs : List α) (F : α → SV c) (r : α → List Nat) (h : EvI c wi σ H (xs.map F)) (hn : xs.length ≤ 50000)
    (hb : ∀ a x Hc, a ∈ xs → Gr c H Hc → (F a).p x Hc → ∃ σ2, Tg g0 x (wipe σ vs) Hc σ2 ∧ wipe σ2 vs = wipe σ vs ∧ EvF c te σ2 Hc (LN (r a))) {H1 : Hp} {Q : VK} (g : Gr c H H1) (q : ∀ a ws H2, H1 a = none → Gr c H1 H2 → H2 a = some (.lst ws) → RowsAt a ws (xs.map r) H2 → Q (.ref a) H2) :
    tLc wi g0 tYes te vs σ H1 Q := h H1 g _ fun J G H2 g2 s kG => by
  intro Dl hD
  have hGr : Gr c H H2 := g.trans g2
  refine ⟨fun i m H' => m = xs.length - i ∧ i ≤ xs.length ∧ Gr c H2 H' ∧ ∃ acc, H' Dl = some (.lst acc) ∧ RowsAt Dl acc ((xs.take i).map r) H', ⟨xs.length, by simp, Nat.zero_le _, g2.new hD, [], upd_same, by simp, fun j r e => by simp at e⟩, ?_⟩
  rintro i m H' ⟨rfl, hi, gr, acc, hacc, hall⟩
  have hG : G H' := kG H' gr
  by_cases hlt : i < xs.length
  · refine .inr ⟨s.goes i H' (by rw [List.length_map]; exact hlt) hG, fun H'' => Gr c H2 H'' ∧ ∃ acc, H'' Dl = some (.lst acc) ∧ RowsAt Dl acc ((xs.take (i + 1)).map r) H'', fun H'' p => ⟨xs.length - (i + 1), by omega, rfl, hlt, p⟩, fun x H3 y => ?_⟩
    have hPi : (xs.map F)[i]? = some (F xs[i]) := by rw [List.getElem?_map, List.getElem?_eq_getElem hlt]; rfl
    obtain ⟨g3, hx⟩ := s.yields i H' x H3 _ hPi hG gr.self y
    have g03 : Gr c H2 H3 := gr.trans g3
    obtain ⟨σ2, ht, hw, hte⟩ := hb xs[i] x H3 (List.getElem_mem hlt) (hGr.trans g03) hx
    refine ht _ ⟨hw, ?_⟩
    show te σ2 H3 _
    refine hte H3 g3.self.self _ fun l H4 hl g4 hz => ?_
    have hacc3 : H3 Dl = some (.lst acc) := g3.lst hacc
    have hacc4 : H4 Dl = some (.lst acc) := g4.lst hacc3
    have hne : l ≠ Dl := fun z => by rw [z, hacc3] at hl; cases hl
    have hall4 := (hall.gr g3).gr g4
    have lacc := hall.len
    rw [List.length_map, List.length_take] at lacc
    refine ⟨acc, hacc4, sz_lt (by omega), (g03.trans g4).mut hD hacc4 True.intro, acc ++ [.ref l], upd_same, ?_⟩
    refine ⟨by rw [List.length_append, lacc, List.length_map, List.length_take]; simp; omega, fun j r' e => ?_⟩
    rw [List.take_add_one, List.getElem?_eq_getElem hlt, List.map_append] at e
    by_cases hj : j < ((xs.take i).map r).length
    · rw [List.getElem?_append_left hj] at e
      obtain ⟨b, h1, h2, h3⟩ := hall4.at_ j r' e
      rw [List.getElem?_append_left (by rw [hall.len]; exact hj)]
      exact ⟨b, h1, h2, by rw [upd_ne h2]; exact h3⟩
    · rw [List.getElem?_append_right (by omega)] at e
      have e0 : j = ((xs.take i).map r).length := by
        have := (List.getElem?_eq_some_iff.mp e).1
        simp at this
        simp at hj ⊢
        omega
      rw [e0, Nat.sub_self] at e
      have e : r xs[i] = r' := by simpa using e
      rw [List.getElem?_append_right (by rw [hall.len, e0]; exact Nat.le_refl _), hall.len, e0, Nat.sub_self]
      obtain ⟨b', us, eb, h1, h2⟩ := hz
      cases eb
      rw [h2.nats] at h1
      exact ⟨l, rfl, hne, by rw [upd_ne hne, ← e]; exact h1⟩
  · have e : i = xs.length := by omega
    subst e
    rw [List.take_of_length_le (Nat.le_refl _)] at hall
    exact .inl ⟨by have := s.stops H' hG; rw [List.length_map] at this; exact this, q Dl acc H' (g2.free hD) (g2.trans gr) hacc hall⟩
end
theorem q_asgRaw {σ : L2.St} {H : Hp} {te : TE} {g0 : TG} {tz : TS} {D : Ends} (h : te σ H fun v H1 => g0 v σ H1 (tz D)) : tSeq (tAsg te g0) tz D σ H := h
/-! sorted rows -/
def PermT (r : List Nat) : SV c := ⟨fun v H => ∃ r' : List Nat, r'.Perm r ∧ (S (c := c) r').p v H, fun {v H0 H1} g h => by
  obtain ⟨r', h1, h2⟩ := h
  exact ⟨r', h1, (S r').st g h2⟩⟩
instance {r : List Nat} : Tst (PermT (c := c) r) := ⟨fun g h => by
  obtain ⟨r', h1, h2⟩ := h
  exact ⟨r', h1, Tst.st g h2⟩⟩
def LPerm (r : List Nat) : SV c := ⟨fun v H => ∃ r' : List Nat, r'.Perm r ∧ (LN (c := c) r').p v H, fun {v H0 H1} g h => by
  obtain ⟨r', h1, h2⟩ := h
  exact ⟨r', h1, (LN r').st g h2⟩⟩
theorem toNat_cast (r : List Nat) : (r.map fun k : Nat => (k : Int)).map Int.toNat = r := by
  induction r with
  | nil => rfl
  | cons a r ih => rw [List.map_cons, List.map_cons, ih]; rfl
theorem perm_cast {ms : List Int} {r : List Nat} (h : ms.Perm (r.map fun k : Nat => (k : Int))) : ∃ r' : List Nat, r'.Perm r ∧ ms = r'.map fun k : Nat => (k : Int) := by
  refine ⟨ms.map Int.toNat, ?_, ?_⟩
  · have := h.map Int.toNat
    rw [toNat_cast] at this
    exact this
  · rw [List.map_map]
    refine (List.map_id ms).symm.trans (List.map_congr_left fun x hx => ?_)
    obtain ⟨k, _, e⟩ := List.mem_map.mp (h.mem_iff.mp hx)
    show x = ((x.toNat : Nat) : Int)
    omega
theorem rf_sortedN {r : List Nat} (h0 : r.length < 64) : RCF c (rSorted c.K) [LN r] (LPerm r) := by
  rw [LN_LI]
  refine rf_sorted (by rw [List.length_map]; exact h0) fun ms hp _ a H h => ?_
  obtain ⟨r', h1, rfl⟩ := perm_cast hp
  exact ⟨r', h1, by rw [LN_LI]; exact h⟩
theorem rf_tupleP {r : List Nat} : RCF c (fun xs H Q => ∃ p ys, xs = [.ref p] ∧ ((SqL c.K H p ys ∧ ∀ l, H l = none → Q (.ref l) (upd H l (.tup ys))) ∨ (SqT c.K H p ys ∧ Q (.ref p) H))) [LPerm r] (PermT r) := fun vs H g h Q q => by
  obtain ⟨v, rfl, r', h1, h2⟩ := h.inv1
  exact rf_tuple [v] H g ⟨h2, True.intro⟩ Q fun a H2 n g2 e => q a H2 n g2 ⟨r', h1, e⟩
theorem rows_perm {m : List (List Nat)} {v : V} {H : Hp} (h : (L (c := c) (m.map PermT)).p v H) : ∃ rows : List (List Nat), rows.length = m.length ∧ (∀ (j : Nat) (r r' : List Nat), rows[j]? = some r → m[j]? = some r' → r.Perm r') ∧ (CH (c := c) rows).p v H := by
  obtain ⟨a, vs, rfl, h1, h2⟩ := h
  have aux : ∀ {m : List (List Nat)} {vs : List V}, AllP (c := c) (m.map PermT) vs H → ∃ rows : List (List Nat), rows.length = m.length ∧ (∀ (j : Nat) (r r' : List Nat), rows[j]? = some r → m[j]? = some r' → r.Perm r') ∧ AllP (c := c) (rows.map S) vs H := by
    intro m
    induction m with
    | nil => intro vs h; exact ⟨[], rfl, fun j r r' e => (by simp at e), h⟩
    | cons x m ih =>
      intro vs h
      obtain ⟨v, ws, rfl, ⟨r, e1, e2⟩, h4⟩ := AllP.cons_inv h
      obtain ⟨rows, a1, a2, a3⟩ := ih h4
      refine ⟨r :: rows, by simp [a1], fun j r1 r2 h5 h6 => ?_, e2, a3⟩
      cases j with
      | zero => simp at h5 h6; rw [← h5, ← h6]; exact e1
      | succ j => exact a2 j r1 r2 (by simpa using h5) (by simpa using h6)
  obtain ⟨rows, a1, a2, a3⟩ := aux h2
  exact ⟨rows, a1, a2, a, vs, rfl, h1, a3⟩
theorem GoodP.take {n start : Nat} {rows : List (List Nat)} {st : List Step} (h : GoodP n rows start st) (i : Nat) : GoodP n rows start (st.take i) :=
  ⟨fun p hp => h.ok p (List.mem_of_mem_take hp), by rw [List.map_take]; exact h.olds.sublist (List.take_sublist ..), by rw [List.map_take]; exact h.news.sublist (List.take_sublist ..), fun z => h.start (by rw [List.map_take] at z; exact List.mem_of_mem_take z)⟩
theorem GoodR.le {n k : Nat} {rows : List (List Nat)} (h : GoodR n k rows) {r : List Nat} (hr : r ∈ rows) : r.length ≤ n := nodup_le (h.nd r hr) (h.lt r hr)
/-! moved -/
def R_moved (As : List (SV c)) (Z : SV c) : Prop := ∃ (n k start : Nat) (rows : List (List Nat)) (st : List Step), As = [CH rows, L (st.map Stp)] ∧ GoodR n k rows ∧ GoodP n rows start st ∧ n ≤ 50 ∧ k ≤ 1000 ∧ Z = L ((moveRows rows st).map PermT)
abbrev N_moved : List Str := ["choices", "steps", "found", "index", "old", "new", "row", "server"]
theorem sc_moved : FnScope N_moved ["choices", "steps"] (defScope s_moved) := ⟨rfl, rfl, rfl, by decide +kernel, rfl, by decide +kernel, by decide +kernel⟩
theorem ok_moved (F : FnP c.K "moved" "moved" s_moved f fd) (Bt : Bts c mg) (C : Cl c) (Il : IsL c)  : FnOk P w c.K mg base CX0 1 f fd ["choices", "steps"] (Pmf c R_moved) := by
  refine okPf F sc_moved (fun As Z h => by obtain ⟨_, _, _, _, _, rfl, _⟩ := h; rfl) fun cdv A outer s H vs Q E As Z hr hA hR g k => ?_
  have nd := sc_moved.nd
  obtain ⟨n, kk, start, rows, st, rfl, hR, hP, hn, hk, rfl⟩ := hR
  obtain ⟨v0, v1, rfl, h0, h1⟩ := hA.inv2
  have hrl := hR.len
  refine ⟨_, (pss_cons (ps_setLc (own := [("row", 6)]) (i := 2) rfl nd rfl rfl (sw_true rfl rfl rfl (by decide +kernel)) (pi_listQ (K := c.K) rfl (pv 0)) (blkOk_by (own := [("row", 6)]) (N := N_moved) (sc := defScope s_moved) (by decide +kernel)) (fun _ _ _ _ _ => (pg_name (i := 6) nd rfl (Or.inl rfl))) (fun _ _ _ _ _ => pts_nil) (fun _ _ _ _ _ => (pe_callTy (cl_listQ (K := c.K) rfl) (by rfl) Bt.blist (by decide +kernel) (pa_cons (pv 6) pa_nil))))
    (pss_cons (ps_for PassesOwn.never rfl (pi_listQ (K := c.K) rfl (pv 1)) (pg_tupQ (K := c.K) (n := 3) rfl rfl (pgs_cons (pg_name (i := 3) nd rfl (Or.inl rfl)) (pgs_cons (pg_name (i := 4) nd rfl (Or.inr rfl)) (pgs_cons (pg_name (i := 5) nd rfl (Or.inl rfl)) pgs_nil)))) (pss_cons (ps_asg (pe_lc (own := [("server", 7)]) rfl nd (pi_listQ (K := c.K) rfl (pe_ix (ix_listQ (K := c.K) rfl) (pv 2) (pv 3) (fun _ _ => rfl))) (blkOk_by (own := [("server", 7)]) (N := N_moved) (sc := defScope s_moved) (by decide +kernel)) (fun _ _ _ _ _ => (pg_name (i := 7) nd rfl (Or.inl rfl))) (fun _ _ _ _ _ => (pts_one (pt_cmpR op_ne (pv 7) (pv 4) (nomark _)))) (fun _ _ _ _ _ => (pv 7))) (pg_sub (pv 2) (pv 3) set_list))
    (pss_one (ps_expr (pe_appendQ (K := c.K) rfl (pe_ix (ix_listQ (K := c.K) rfl) (pv 2) (pv 3) (fun _ _ => rfl)) (pa_cons (pv 5) pa_nil))))))
    (pss_one (ps_ret (pe_lc (own := [("row", 6)]) rfl nd (pi_listQ (K := c.K) rfl (pv 2)) (blkOk_by (own := [("row", 6)]) (N := N_moved) (sc := defScope s_moved) (by decide +kernel)) (fun _ _ _ _ _ => (pg_name (i := 6) nd rfl (Or.inl rfl))) (fun _ _ _ _ _ => pts_nil) (fun _ _ _ _ _ => (pe_callTy (cl_tupleQ (K := c.K) rfl) (by rfl) Bt.btuple (by decide +kernel) (pa_cons (pe_callB (cr_sortedQ (K := c.K) rfl) (by rfl) Bt.bsorted (by decide +kernel) (pa_cons (pv 6) pa_nil)) pa_nil)))))))), ?_⟩
  refine q_asgRaw ?_
  refine ef_lcL rows S id (ei_list (ev_var rfl h0)) (by omega) ?hb g ?hq
  case hb => exact fun r x Hc hr gc hx => ⟨_, tg_name, rfl, ef_cb rf_list (ea_cons (ev_var rfl hx) ea_nil)⟩
  intro a ws H1 n1 g1 hws hrows
  rw [List.map_id] at hrows
  have hbound : ∀ (i j : Nat) (r : List Nat), (moveRows rows (st.take i))[j]? = some r → r.length ≤ 50 ∧ j < rows.length := fun i j r e => by
    obtain ⟨e1, e2⟩ := moveRows_ok hR (hP.take i)
    have hj : j < rows.length := by have := (List.getElem?_eq_some_iff.mp e).1; omega
    obtain ⟨_, _, e3, _⟩ := e2 j r rows[j] e (List.getElem?_eq_getElem hj)
    have := hR.le (List.getElem_mem hj)
    omega
  refine q_for st Stp g1 (es_list rfl h1) (fun i σ' H' => Gr c H H' ∧ (∃ ws, H' a = some (.lst ws) ∧ RowsAt a ws (moveRows rows (st.take i)) H') ∧ ∃ u3 u4 u5 u6 u7, σ' = [some v0, some v1, some (.ref a), u3, u4, u5, u6, u7]) (fun H2 g2 => ⟨g1.trans g2, ⟨ws, g2.lst hws, hrows.gr g2⟩, none, none, none, none, none, rfl⟩) (fun _ _ _ p => p.1) ?_ ?_
  · rintro i ⟨idx, old, new⟩ x σ' H2 hi ⟨gp, ⟨ws, hws, hrows⟩, u3, u4, u5, u6, u7, rfl⟩ H3 g3 hx
    obtain ⟨x1, x2, x3, e1, e2, e3, ht⟩ := tg_triple hx
    obtain rfl : x1 = _ := e1
    obtain rfl : x2 = _ := e2
    obtain rfl : x3 = _ := e3
    refine ht tg_name tg_name tg_name _ ?_
    have gp3 := gp.trans g3
    have hws3 := g3.lst hws
    have hrows3 := hrows.gr g3
    have eT : moveRows rows (st.take (i + 1)) = moveR (moveRows rows (st.take i)) (idx, old, new) := by
      unfold moveRows
      rw [List.take_add_one, hi, List.foldl_append]; rfl
    obtain ⟨hml, _⟩ := moveRows_ok hR (hP.take i)
    obtain ⟨row0, er0, _⟩ := hP.ok _ (List.mem_of_getElem? hi)
    have hidx : idx < (moveRows rows (st.take i)).length := by
      have : idx < rows.length := (List.getElem?_eq_some_iff.mp er0).1
      omega
    obtain ⟨row, hrow⟩ : ∃ row, (moveRows rows (st.take i))[idx]? = some row := ⟨_, List.getElem?_eq_getElem hidx⟩
    obtain ⟨hb1, hb2⟩ := hbound i idx row hrow
    generalize hM : moveRows rows (st.take i) = M at *
    have hLrows : (L (c := c) (M.map fun r => LN r)).p (.ref a) H3 := ⟨a, ws, rfl, hws3, hrows3.all⟩
    refine q_asgRaw ?_
    refine ef_lcm row (fun k : Nat => I (k : Int)) (fun k => !decide (k = old)) (fun k : Nat => I (k : Int)) (ei_list (ev_op (rv_ixL (P := LN row) (i := idx) (by rw [List.getElem?_map, hrow]; rfl)) (ev_var rfl hLrows) (ev_var (P := I (idx : Int)) rfl rfl))) (by omega) (fun d y Hd hd gd hy => ⟨_, tg_name, rfl, EvT.to (et_test (ev_op rv_neI (ev_var rfl hy) (ev_var (P := I (old : Int)) rfl rfl))) (by rw [dEq]), fun _ => ev_var rfl hy⟩) H3 gp3.self _ fun l H4 hl g4 hz => ?_
    have hws4 := g4.lst hws3
    have hrows4 := hrows3.gr g4
    have hwl : idx < ws.length := by rw [hrows.len]; exact hidx
    have hla : l ≠ a := fun z => by rw [z, hws3] at hl; cases hl
    obtain ⟨l', us, el, hls, hus⟩ := hz
    cases el
    rw [hus.nats] at hls
    refine ⟨_, rfl, _, rfl, a, ws, (idx : Int), idx, rfl, rfl, hws4, HT_ixN hwl, ?_⟩
    have gM : Gr c H (upd H4 a (.lst (ws.set idx (.ref l)))) := (gp3.trans g4).mut n1 hws4 True.intro
    have hl5 : upd H4 a (.lst (ws.set idx (.ref l))) l = some (.lst (inv_ (row.filter fun k => !decide (k = old)))) := by rw [upd_ne hla]; exact hls
    refine s_app (H0 := upd H4 a (.lst (ws.set idx (.ref l)))) gM.self hl5 (ev_op (rv_ixL (P := Eqv (.ref l)) (Ps := (ws.set idx (.ref l)).map Eqv) (i := idx) (by rw [List.getElem?_map, List.getElem?_set_self hwl]; rfl)) (ev_var rfl ⟨a, _, rfl, upd_same, allP_eqv⟩) (ev_var (P := I (idx : Int)) rfl rfl)) (ev_var (P := I (new : Int)) rfl rfl) (by rw [List.length_map, List.length_map]; have := List.length_filter_le (fun k => !decide (k = old)) row; omega) fun v6 H6 g6 e6 => ?_
    obtain rfl : v6 = _ := e6
    have hl6 := g6.lst hl5
    have ha6 : H6 a = some (.lst (ws.set idx (.ref l))) := g6.lst upd_same
    have nl : H l = none := gp3.free hl
    refine ⟨(gM.trans g6).mut nl hl6 True.intro, ⟨_, by rw [upd_ne hla.symm]; exact ha6, ?_⟩, _, _, _, u6, u7, rfl⟩
    rw [eT]
    refine ⟨?_, fun j r e => ?_⟩
    · unfold moveR
      rw [List.length_set, List.length_set]
      exact hrows.len
    · unfold moveR at e
      by_cases hj : idx = j
      · subst hj
        rw [List.getElem?_set_self hidx] at e
        have e := Option.some.inj e
        rw [hrow] at e
        refine ⟨l, List.getElem?_set_self hwl, hla, ?_⟩
        rw [upd_same, ← e]
        show some (HO.lst (inv_ (row.filter fun k => !decide (k = old)) ++ [V.int (new : Int)])) = some (HO.lst (inv_ (row.filter (fun k => !decide (k = old)) ++ [new])))
        rw [inv_, inv_, List.map_append, List.map_append]
        rfl
      · rw [List.getElem?_set_ne hj] at e
        obtain ⟨b, c1, c2, c3⟩ := hrows4.at_ j r e
        obtain ⟨b', c1', _, c3'⟩ := hrows3.at_ j r e
        rw [c1] at c1'
        cases c1'
        have hbl : b ≠ l := fun z => by rw [z, hl] at c3'; cases c3'
        exact ⟨b, by rw [List.getElem?_set_ne hj]; exact c1, c2, by rw [upd_ne hbl]; exact g6.lst (by rw [upd_ne c2]; exact c3)⟩
  · rintro σ' H2 ⟨gp, ⟨ws, hws, hrows⟩, u3, u4, u5, u6, u7, rfl⟩
    rw [List.take_of_length_le (Nat.le_refl _)] at hrows
    have hml := (moveRows_ok hR hP).1
    refine s_retF (H0 := H2) gp.self (P := L ((moveRows rows st).map PermT)) (ef_lcA (moveRows rows st) (fun r => LN r) PermT (ei_list (ev_var rfl ⟨a, ws, rfl, hws, hrows.all⟩)) (by omega) fun r x Hc hr gc hx => ?_) fun b H3 nb g3 e3 => k b H3 (gp.free nb) (gp.trans g3) e3
    have hb : r.length ≤ 50 := by
      obtain ⟨j, hj⟩ := List.mem_iff_getElem?.mp hr
      have := hbound st.length j r (by rw [List.take_of_length_le (Nat.le_refl _)]; exact hj)
      exact this.1
    exact ⟨_, tg_name, rfl, (ef_cb rf_tupleP (ea_cons (ef_cb (rf_sortedN (by omega)) (ea_cons (ev_var rfl hx) ea_nil)).ev ea_nil)).ev⟩
end


section
open PySem PySem.Spec PyProof.Rows L2 LamX
variable {c : Cxt} {P : Program} {w : World} {mg : Str → Option Value} {base : Heap} {f : Addr} {fd : FuncData}
theorem LN_app {r : List Nat} {k : Nat} : L (c := c) ((r.map fun k : Nat => I (k : Int)) ++ [I (k : Int)]) = LN (r ++ [k]) := by
  show _ = L ((r ++ [k]).map _)
  rw [List.map_append]
  rfl
theorem nodup_sub : ∀ {l m : List Nat}, l.Nodup → (∀ x ∈ l, x ∈ m) → l.length ≤ m.length
  | [], _, _, _ => Nat.zero_le _
  | a :: l, m, h, k => by
    obtain ⟨h1, h2⟩ := List.nodup_cons.mp h
    have ha := k a (List.mem_cons_self ..)
    have := nodup_sub (l := l) (m := m.erase a) h2 fun x hx => (List.mem_erase_of_ne (fun z : x = a => h1 (by rw [← z]; exact hx))).mpr (k x (List.mem_cons_of_mem _ hx))
    rw [List.length_erase_of_mem ha] at this
    have : 0 < m.length := List.length_pos_of_mem ha
    rw [List.length_cons]
    omega
/-- one more for the row idx, or None -/
def OneZ (n k : Nat) (rows : List (List Nat)) (idx : Nat) (must : Prop) : SV c := ⟨fun v H => (v = .non ∧ ¬ must) ∨ ∃ rows' : List (List Nat), GoodR n k rows' ∧ rows'.map List.length = (rows.map List.length).set idx ((rows[idx]?.getD []).length + 1) ∧ (CH (c := c) rows').p v H, fun {v H0 H1} g h => by
  rcases h with h | ⟨r, a, b, d⟩
  · exact .inl h
  · exact .inr ⟨r, a, b, (CH _).st g d⟩⟩
def R_with_one_more (As : List (SV c)) (Z : SV c) : Prop := ∃ (n : Nat) (its : List Itm) (rows : List (List Nat)) (idx : Nat) (lims : List Nat), As = [Lay n its, CH rows, I (idx : Int), LN lims] ∧ WfL n its ∧ GoodR n its.length rows ∧ idx < its.length ∧ lims.length = n ∧
  Z = OneZ n its.length rows idx ((∀ s, s < n → its.length ≤ lims[s]?.getD 0) ∧ (rows[idx]?.getD []).length < (its[idx]?.getD ([], 0)).1.length)
theorem loads_room {n : Nat} {rows : List (List Nat)} {idx s : Nat} {row : List Nat} (hs : s < n) (hr : rows[idx]? = some row) (h : s ∉ row) : (loadsOf n rows)[s]?.getD 0 < rows.length := by
  unfold loadsOf
  rw [List.getElem?_map, List.getElem?_range hs]
  show (rows.filter fun r => decide (s ∈ r)).length < rows.length
  refine Nat.lt_of_le_of_ne (List.length_filter_le _ _) fun e => ?_
  have := List.length_filter_eq_length_iff.mp e row (List.mem_of_getElem? hr)
  exact h (of_decide_eq_true this)
theorem map_len_set {rows rows' : List (List Nat)} {idx m : Nat} (hl : rows'.length = rows.length) (h : ∀ (j : Nat) (r r' : List Nat), rows[j]? = some r → rows'[j]? = some r' → r'.length = if j = idx then m else r.length) : rows'.map List.length = (rows.map List.length).set idx m := by
  refine List.ext_getElem? fun j => ?_
  rw [List.getElem?_map, List.getElem?_set, List.getElem?_map, List.length_map]
  by_cases hj : j < rows.length
  · have e1 : rows[j]? = some rows[j] := List.getElem?_eq_getElem hj
    have e2 : rows'[j]? = some (rows'[j]'(by omega)) := List.getElem?_eq_getElem (by omega)
    have := h j _ _ e1 e2
    rw [e1, e2]
    by_cases hi : idx = j
    · subst hi
      rw [if_pos rfl] at this
      rw [if_pos rfl, if_pos hj]
      simp [this]
    · rw [if_neg (fun z => hi z.symm)] at this
      rw [if_neg hi]
      simp [this]
  · have e1 : rows[j]? = none := List.getElem?_eq_none (by omega)
    have e2 : rows'[j]? = none := List.getElem?_eq_none (by omega)
    rw [e1, e2]
    by_cases hi : idx = j
    · rw [if_pos hi, if_neg (by omega)]; rfl
    · rw [if_neg hi]
abbrev N_with_one_more : List Str := ["layout", "choices", "index", "limits", "server", "steps", "found"]
theorem sc_with_one_more : FnScope N_with_one_more ["layout", "choices", "index", "limits"] (defScope s_with_one_more) := ⟨rfl, rfl, rfl, by decide +kernel, rfl, by decide +kernel, by decide +kernel⟩
theorem ok_with_one_more (F : FnP c.K "with_one_more" "with_one_more" s_with_one_more f fd) (Bt : Bts c mg) (C : Cl c) (Il : IsL c) (h_path_from : Has P w c.K mg base "path_from" ["layout", "choices", "start", "limits"] 2 (Pm c R_path_from)) (h_moved : Has P w c.K mg base "moved" ["choices", "steps"] 1 (Pmf c R_moved)) : FnOk P w c.K mg base CX0 3 f fd ["layout", "choices", "index", "limits"] (Pm c R_with_one_more) := by
  refine okP F sc_with_one_more (fun As Z h => by obtain ⟨_, _, _, _, _, rfl, _⟩ := h; rfl) fun cdv A outer s H vs Q E As Z hr hA hR g k => ?_
  have nd := sc_with_one_more.nd
  obtain ⟨n, its, rows, idx, lims, rfl, hw, hR, hidx, hlm, rfl⟩ := hR
  obtain ⟨v0, v1, v2, v3, rfl, h0, h1, h2, h3⟩ := hA.inv4
  have hhi := hw.hi
  have hle := hw.le
  have hrl := hR.len
  obtain rfl : v2 = _ := h2
  obtain ⟨it, hit⟩ : ∃ it, its[idx]? = some it := ⟨_, List.getElem?_eq_getElem hidx⟩
  obtain ⟨row, hrow⟩ : ∃ row, rows[idx]? = some row := ⟨_, List.getElem?_eq_getElem (by omega)⟩
  have hmi := List.mem_of_getElem? hit
  have hmr := List.mem_of_getElem? hrow
  obtain ⟨⟨hsrt, hlt⟩, hn1, hn2⟩ := hw.it it hmi
  refine ⟨_, (pss_cons (ps_for PassesOwn.never rfl (pi_tupQ (K := c.K) rfl (pe_ix (ix_tupQ (K := c.K) rfl) (pe_ix (ix_tupQ (K := c.K) rfl) (pe_fldQ (K := c.K) rfl (pv 0) rfl) (pv 2) (fun _ _ => rfl)) pe_int (fun _ _ => rfl))) (pg_name (i := 4) nd rfl (Or.inl rfl)) (pss_one (ps_if (pt_cmpR (op_niQ (K := c.K) rfl) (pv 4) (pe_ix (ix_listQ (K := c.K) rfl) (pv 1) (pv 2) (fun _ _ => rfl)) rfl) (pss_cons (ps_set (i := 5) nd rfl (Or.inl rfl) (pe_callH h_path_from (hr.mono (by decide)) rfl (pa_cons (pv 0) (pa_cons (pv 1) (pa_cons (pv 4) (pa_cons (pv 3) pa_nil))))))
    (pss_one (ps_if (pt_cmpR op_notN (pv 5) pe_non (nomark _)) (pss_cons (ps_set (i := 6) nd rfl (Or.inl rfl) (pe_callH h_moved (hr.mono (by decide)) rfl (pa_cons (pv 1) (pa_cons (pv 5) pa_nil))))
    (pss_cons (ps_asg (pe_callTy (cl_tupleQ (K := c.K) rfl) (by rfl) Bt.btuple (by decide +kernel) (pa_cons (pe_callB (cr_sortedQ (K := c.K) rfl) (by rfl) Bt.bsorted (by decide +kernel) (pa_cons (pe_lst (pa_starQ (K := c.K) rfl (pe_ix (ix_listQ (K := c.K) rfl) (pv 6) (pv 2) (fun _ _ => rfl)) (pa_cons (pv 4) pa_nil))) pa_nil)) pa_nil)) (pg_sub (pv 6) (pv 2) set_list))
    (pss_one (ps_ret (pv 6))))) pss_nil))) pss_nil)))
    (pss_one (ps_ret pe_non))), ?_⟩
  refine (show tFor _ _ _ _ _ _ from ?_)
  refine s_forT it.1 (fun k : Nat => I (k : Int)) (H0 := H) (D := { nx := tRet (tC V.non) { nx := fun x H' => Q V.non H', rt := Q }, rt := Q }) g (ev_op (rv_ixT (i := 0) rfl) (ev_op (rv_ixT (P := It1 it) (i := idx) (by rw [List.getElem?_map, hit]; rfl)) (ev_entries C (ev_var rfl h0)) (ev_var (P := I (idx : Int)) rfl rfl)) ev_c)
    (fun H1 i σ' H' => Gr c H H' ∧ Gt H1 H' ∧ ((∀ s, s < n → its.length ≤ lims[s]?.getD 0) → ∀ s ∈ it.1.take i, s ∈ row) ∧ ∃ u4 u5 u6, σ' = [some v0, some v1, some (.int (idx : Int)), some v3, u4, u5, u6]) (fun H1 g1 => ⟨g1, Gt.refl _, fun _ s hs => (by rw [List.take_zero] at hs; cases hs), none, none, none, rfl⟩) (fun H1 i σ' H' _ p => ⟨p.1, p.2.1⟩) ?_ ?_
  · rintro H1 i sv x σ' H2 g1 hi ⟨gp, gt, hall, u4, u5, u6, rfl⟩ hx
    obtain rfl : x = _ := hx
    show tIfS _ _ _ _ _ _
    have hsv : sv ∈ it.1 := List.mem_of_getElem? hi
    have hsvn := hlt sv hsv
    have hnext : sv ∈ row → ((∀ s, s < n → its.length ≤ lims[s]?.getD 0) → ∀ s ∈ it.1.take (i + 1), s ∈ row) := fun hin hbig s hs => by
      rw [List.take_add_one, hi] at hs
      rcases List.mem_append.mp hs with hs | hs
      · exact hall hbig s hs
      · have hs : s = sv := by simpa using hs
        rw [hs]; exact hin
    refine s_when (b := !decide (sv ∈ row)) (H0 := H2) gp.self (et_test (ev_op rv_niS (ev_var (P := I (sv : Int)) rfl rfl) (ev_op (rv_ixL (P := S row) (i := idx) (by rw [List.getElem?_map, hrow]; rfl)) (ev_var rfl ((CH rows).st gp h1)) (ev_var (P := I (idx : Int)) rfl rfl)))) (fun hb H3 g3 => ?_) fun hb H3 g3 => ⟨gp.trans g3, gt.trans g3.gt, hnext (by
      by_cases z : sv ∈ row
      · exact z
      · rw [decide_eq_false z] at hb; cases hb), some (.int (sv : Int)), u5, u6, rfl⟩
    have hnr : sv ∉ row := by
      intro z
      rw [decide_eq_true z] at hb
      cases hb
    have gp3 := gp.trans g3
    show tSeq _ _ _ _ _
    refine q_asg (H0 := H3) gp3.self (ev_call (ea_cons (ev_var rfl ((Lay n its).st gp3 h0)) (ea_cons (ev_var rfl ((CH rows).st gp3 h1)) (ea_cons (ev_var (P := I (sv : Int)) rfl rfl) (ea_cons (ev_var rfl ((LN lims).st gp3 h3)) ea_nil)))) ⟨n, its, rows, sv, lims, rfl, by omega, hrl, by omega, hsvn, hlm, fun it hit s hs => (hw.it it hit).1.2 s hs, rfl⟩) fun v5 H4 g4 h5 => ?_
    have gp4 := gp3.trans g4
    rcases h5 with ⟨rfl, hmust⟩ | ⟨st, hst1, hst2, hst3⟩
    · refine s_when (b := false) (H0 := H4) gp4.self (et_test (ev_op (rv_notN (R := Eqv .non) fun v H h => by (obtain rfl : v = _ := h); rfl) (ev_var rfl rfl) ev_c)) (fun z => by cases z) fun _ H5 g5 => ⟨gp4.trans g5, ((gt.trans g3.gt).trans g4.gt).trans g5.gt, fun hbig => ?_, some (.int (sv : Int)), some .non, u6, rfl⟩
      have h1 := loads_room hsvn hrow hnr
      have h2 := hbig sv hsvn
      exact absurd (by omega) hmust
    · refine s_when (b := true) (H0 := H4) gp4.self (et_test (ev_op (rv_notN (R := L (st.map Stp)) fun v H h => by obtain ⟨_, _, rfl, _⟩ := h; rfl) (ev_var rfl hst3) ev_c)) (fun _ H5 g5 => ?_) fun z => by cases z
      have gp5 := gp4.trans g5
      refine q_asgF (H0 := H5) gp5.self (ef_call (ea_cons (ev_var rfl ((CH rows).st gp5 h1)) (ea_cons (ev_var rfl ((L (st.map Stp)).st g5 hst3)) ea_nil)) ⟨n, its.length, sv, rows, st, rfl, hR, hst1, by omega, by omega, rfl⟩) fun a H6 n6 g6 h6 => ?_
      have gp6 := gp5.trans g6
      have nH : H a = none := gp5.free n6
      obtain ⟨rows2, hl2, hp2, hCH2⟩ := rows_perm h6
      obtain ⟨m1, m2⟩ := moveRows_ok hR hst1
      obtain ⟨row2, hrow2⟩ : ∃ row2, rows2[idx]? = some row2 := ⟨_, List.getElem?_eq_getElem (by omega)⟩
      have hrel : ∀ (j : Nat) (r r0 : List Nat), rows2[j]? = some r → rows[j]? = some r0 → r.Nodup ∧ (∀ s ∈ r, s < n) ∧ r.length = r0.length ∧ (sv ∉ r0 → sv ∉ r) := fun j r r0 e1 e2 => by
        obtain ⟨r1, e3⟩ : ∃ r1, (moveRows rows st)[j]? = some r1 := ⟨_, List.getElem?_eq_getElem (by have := (List.getElem?_eq_some_iff.mp e2).1; omega)⟩
        obtain ⟨c1, c2, c3, c4⟩ := m2 j r1 r0 e3 e2
        have hp := hp2 j r r1 e1 e3
        exact ⟨hp.nodup_iff.mpr c1, fun s hs => c2 s (hp.mem_iff.mp hs), hp.length_eq.trans c3, fun z1 z2 => c4 z1 (hp.mem_iff.mp z2)⟩
      obtain ⟨d1, d2, d3, d4⟩ := hrel idx row2 row hrow2 hrow
      have hlen2 : row2.length ≤ 6 := by have := nodup_le d1 d2; omega
      refine q_asgRaw ?_
      refine (ev_cb (RCF.rc rf_tupleP) (ea_cons (ef_cb (rf_sortedN (r := row2 ++ [sv]) (by rw [List.length_append, List.length_singleton]; omega)) (ea_cons (Ev.to (ef_lst (ea_starT (ev_op (rv_ixL (P := S row2) (i := idx) (by rw [List.getElem?_map, hrow2]; rfl)) (ev_var rfl hCH2) (ev_var (P := I (idx : Int)) rfl rfl)) (ea_cons (ev_var (P := I (sv : Int)) rfl rfl) ea_nil)) (by simp only [List.length_append, List.length_map, List.length_cons, List.length_nil]; omega)).ev (by rw [LN_app])) ea_nil)).ev ea_nil)) H6 gp6.self _ fun v7 H7 g7 h7 => ?_
      obtain ⟨row3, hp3, hS3⟩ := h7
      obtain ⟨a', us, ea, hus, huv⟩ := (CH rows2).st g7 hCH2
      obtain rfl : a = a' := V.ref.inj ea
      have hul := huv.len
      rw [List.length_map] at hul
      refine ⟨.ref a, rfl, .int (idx : Int), rfl, a, us, (idx : Int), idx, rfl, rfl, hus, HT_ixN (by omega), ?_⟩
      have gt7 := Gt.mut (o := .lst (us.set idx v7)) hus True.intro
      have gM := (gp6.trans g7).mut (o := .lst (us.set idx v7)) nH hus True.intro
      have e3 : (rows2.set idx row3).map (S (c := c)) = (rows2.map S).set idx (S row3) := by rw [List.map_set]
      refine s_ret (H0 := upd H7 a (.lst (us.set idx v7))) gM.self (P := CH (rows2.set idx row3)) (ev_var rfl ⟨a, us.set idx v7, rfl, upd_same, ?_⟩) fun v8 H8 g8 h8 => k v8 H8 (gM.trans g8) (.inr ⟨rows2.set idx row3, ⟨?_, ?_, ?_⟩, ?_, h8⟩)
      · rw [e3]
        exact AllP.set (Tst.st gt7 hS3) idx (huv.gt TstL.st gt7)
      · rw [List.length_set]; omega
      · intro r hr
        obtain ⟨j, hj⟩ := List.mem_iff_getElem?.mp hr
        rw [List.getElem?_set] at hj
        split at hj
        · split at hj
          · cases hj
            refine hp3.nodup_iff.mpr (List.nodup_append.mpr ⟨d1, by simp, fun x hx y hy => ?_⟩)
            have hy : y = sv := by simpa using hy
            rintro rfl
            rw [hy] at hx
            exact d4 hnr hx
          · cases hj
        · obtain ⟨r0, e0⟩ : ∃ r0, rows[j]? = some r0 := ⟨_, List.getElem?_eq_getElem (by have := (List.getElem?_eq_some_iff.mp hj).1; omega)⟩
          exact (hrel j r r0 hj e0).1
      · intro r hr
        obtain ⟨j, hj⟩ := List.mem_iff_getElem?.mp hr
        rw [List.getElem?_set] at hj
        split at hj
        · split at hj
          · cases hj
            intro s hs
            rcases List.mem_append.mp (hp3.mem_iff.mp hs) with hs | hs
            · exact d2 s hs
            · have hs : s = sv := by simpa using hs
              rw [hs]; exact hsvn
          · cases hj
        · obtain ⟨r0, e0⟩ : ∃ r0, rows[j]? = some r0 := ⟨_, List.getElem?_eq_getElem (by have := (List.getElem?_eq_some_iff.mp hj).1; omega)⟩
          exact (hrel j r r0 hj e0).2.1
      · refine map_len_set (by rw [List.length_set]; omega) fun j r r' e1 e2 => ?_
        rw [List.getElem?_set] at e2
        by_cases hj : idx = j
        · subst hj
          rw [if_pos rfl, if_pos (by omega)] at e2
          cases e2
          rw [if_pos rfl, hrow, hp3.length_eq, List.length_append, List.length_singleton, d3]
          rfl
        · rw [if_neg hj] at e2
          rw [if_neg (fun z => hj z.symm)]
          exact (hrel j r' r e2 e1).2.2.1
  · rintro H1 σ' H2 g1 ⟨gp, gt, hall, u4, u5, u6, rfl⟩
    show tRet (tC V.non) { nx := fun x H' => Q V.non H', rt := Q } [some v0, some v1, some (.int (idx : Int)), some v3, u4, u5, u6] H2
    refine s_ret (H0 := H2) gp.self (P := Nn) ev_c fun v H3 g3 e3 => k v H3 (gp.trans g3) (.inl ⟨e3, fun ⟨hbig, hshort⟩ => ?_⟩)
    rw [List.take_of_length_le (Nat.le_refl _)] at hall
    have hsub := hall hbig
    rw [hrow, hit] at hshort
    have hshort : row.length < it.1.length := hshort
    have hnd : it.1.Nodup := hsrt.imp fun h => Nat.ne_of_lt h
    have := nodup_sub hnd hsub
    omega
end


section
open PySem PySem.Spec PyProof.Rows L2 LamX
variable {c : Cxt} {P : Program} {w : World} {mg : Str → Option Value} {base : Heap} {f : Addr} {fd : FuncData}
theorem lay_entries (C : Cl c) {n : Nat} {its : List Itm} {v : V} {H : Hp} (h : (Lay (c := c) n its).p v H) : ∃ e, (Its' (c := c) its).p (.ref e) H ∧ ∀ {σ : L2.St} {i : Nat}, σ[i]? = some (some v) → Ev c (tFld c.K (tVar i) "entries") σ H (Eqv (.ref e)) := by
  obtain ⟨a, d, e, rfl, h1, h2⟩ := h
  exact ⟨e, h2, fun hs H1 g Q q => ⟨_, hs, a, c.cL, d, _, _, rfl, g.ins h1, C.cl, C.nE, pfL_entries _ _, q _ H1 g.self rfl⟩⟩
def FillZ (n : Nat) (its : List Itm) (lim : Nat) : SV c := ⟨fun v H => ∃ rows : List (List Nat), GoodR n its.length rows ∧ (its.length ≤ lim → rows.map List.length = its.map (·.2)) ∧ (CH (c := c) rows).p v H, fun {v H0 H1} g h => by
  obtain ⟨r, a, b, d⟩ := h
  exact ⟨r, a, b, (CH _).st g d⟩⟩
structure FCond (n : Nat) (its : List Itm) (lim i : Nat) (rows : List (List Nat)) : Prop where
  good : GoodR n its.length rows
  late : ∀ (j : Nat) (r : List Nat), rows[j]? = some r → i < j → r.length = 0
  done : its.length ≤ lim → ∀ (j : Nat) (r : List Nat) (it : Itm), rows[j]? = some r → its[j]? = some it → j < i → r.length = it.2
def LateZ (n : Nat) (its : List Itm) (lim i need : Nat) (rows : List (List Nat)) : SV c := ⟨fun v H => (v = .non ∧ (its.length ≤ lim → need ≤ (rows[i]?.getD []).length)) ∨ ∃ rows' : List (List Nat), GoodR n its.length rows' ∧ rows'.map List.length = (rows.map List.length).set i ((rows[i]?.getD []).length + 1) ∧ (rows[i]?.getD []).length < need ∧ (CH (c := c) rows').p v H, fun {v H0 H1} g h => by
  rcases h with h | ⟨r, a, b, d, e⟩
  · exact .inl h
  · exact .inr ⟨r, a, b, d, (CH _).st g e⟩⟩
def R_fill (As : List (SV c)) (Z : SV c) : Prop := ∃ (n : Nat) (its : List Itm) (lim : Nat), As = [Lay n its, LN (List.replicate n lim)] ∧ WfL n its ∧ Z = FillZ n its lim
abbrev N_fill : List Str := ["layout", "limits", "choices", "index", "holders", "need", "late", "item"]
theorem sc_fill : FnScope N_fill ["layout", "limits"] (defScope s_fill) := ⟨rfl, rfl, rfl, by decide +kernel, rfl, by decide +kernel, by decide +kernel⟩
theorem ok_fill (F : FnP c.K "fill" "fill" s_fill f fd) (Bt : Bts c mg) (C : Cl c) (Il : IsL c) (h_with_one_more : Has P w c.K mg base "with_one_more" ["layout", "choices", "index", "limits"] 3 (Pm c R_with_one_more)) : FnOk P w c.K mg base CX0 4 f fd ["layout", "limits"] (Pm c R_fill) := by
  refine okP F sc_fill (fun As Z h => by obtain ⟨_, _, _, rfl, _⟩ := h; rfl) fun cdv A outer s H vs Q E As Z hr hA hR g k => ?_
  have nd := sc_fill.nd
  obtain ⟨n, its, lim, rfl, hw, rfl⟩ := hR
  obtain ⟨v0, v1, rfl, h0, h1⟩ := hA.inv2
  have hhi := hw.hi
  have hle := hw.le
  obtain ⟨e, he1, he2⟩ := lay_entries C h0
  refine ⟨_, (pss_cons (ps_setLc (own := [("item", 7)]) (i := 2) rfl nd rfl rfl (sw_true rfl rfl rfl (by decide +kernel)) (pi_tupQ (K := c.K) rfl (pe_fldQ (K := c.K) rfl (pv 0) rfl)) (blkOk_by (own := [("item", 7)]) (N := N_fill) (sc := defScope s_fill) (by decide +kernel)) (fun _ _ _ _ _ => (pg_name (i := 7) nd rfl (Or.inl rfl))) (fun _ _ _ _ _ => pts_nil) (fun _ _ _ _ _ => (pe_tup pa_nil)))
    (pss_cons (ps_for PassesOwn.never rfl (pi_enumTQ (K := c.K) rfl (by rfl) Bt.benumerate (pa_cons (pe_fldQ (K := c.K) rfl (pv 0) rfl) pa_nil)) (pg_tupQ (K := c.K) (n := 2) rfl rfl (pgs_cons (pg_name (i := 3) nd rfl (Or.inl rfl)) (pgs_cons (pg_tupQ (K := c.K) (n := 2) rfl rfl (pgs_cons (pg_name (i := 4) nd rfl (Or.inl rfl)) (pgs_cons (pg_name (i := 5) nd rfl (Or.inl rfl)) pgs_nil))) pgs_nil))) (pss_cons (ps_set (i := 6) nd rfl (Or.inl rfl) (pv 2))
    (pss_one (ps_while PassesOwn.never (pt_cmpR op_notN (pv 6) pe_non (nomark _)) (pss_cons (ps_set (i := 2) nd rfl (Or.inl rfl) (pv 6))
    (pss_one (ps_set (i := 6) nd rfl (Or.inl rfl) (pe_ifExp (pt_cmpR op_lt (pe_callB (cl_lenQ (K := c.K) rfl) (by rfl) Bt.blen (by decide +kernel) (pa_cons (pe_ix (ix_listQ (K := c.K) rfl) (pv 2) (pv 3) (fun _ _ => rfl)) pa_nil)) (pv 5) (nomark _)) (pe_callH h_with_one_more (hr.mono (by decide)) rfl (pa_cons (pv 0) (pa_cons (pv 2) (pa_cons (pv 3) (pa_cons (pv 1) pa_nil))))) pe_non))))))))
    (pss_one (ps_ret (pv 2))))), ?_⟩
  refine q_asgF g (P := CH (its.map fun _ => [])) (EvF.imp (ef_lcA its It1 (fun _ => S []) (ei_tup (ev_entries C (ev_var rfl h0))) (by omega) fun a x Hc ha gc hx => ⟨_, tg_name, rfl, (ef_tup (Ps := []) ea_nil (by simp)).ev⟩) fun v H' h => ?_) fun a H1 n1 g1 h2 => ?_
  · show (L ((its.map fun _ => ([] : List Nat)).map S)).p v H'
    rw [List.map_map]
    exact h
  refine q_for its.zipIdx (fun p => TupOf [I (p.2 : Int), It1 p.1]) g1 (es_enumT (F := It1) (he2 rfl) he1) (fun i σ' H' => Gr c H H' ∧ ∃ (rows : List (List Nat)) (ch : V) (u3 u4 u5 u6 u7 : Option V), GoodR n its.length rows ∧ (∀ (j : Nat) (r : List Nat), rows[j]? = some r → i ≤ j → r.length = 0) ∧
    (its.length ≤ lim → ∀ (j : Nat) (r : List Nat) (it : Itm), rows[j]? = some r → its[j]? = some it → j < i → r.length = it.2) ∧ (CH (c := c) rows).p ch H' ∧ σ' = [some v0, some v1, some ch, u3, u4, u5, u6, u7])
    (fun H2 g2 => ⟨g1.trans g2, its.map fun _ => [], .ref a, none, none, none, none, none, ⟨by rw [List.length_map], fun r hr => ?_, fun r hr => ?_⟩, fun j r hj _ => ?_, fun _ j r it _ _ hj => absurd hj (Nat.not_lt_zero _), (CH _).st g2 h2, rfl⟩) (fun _ _ _ p => p.1) ?_ ?_
  · obtain ⟨_, _, rfl⟩ := List.mem_map.mp hr; exact .nil
  · obtain ⟨_, _, rfl⟩ := List.mem_map.mp hr; intro s hs; cases hs
  · obtain ⟨_, _, rfl⟩ := List.mem_map.mp (List.mem_of_getElem? hj); rfl
  · rintro i ⟨⟨holders, need⟩, idx⟩ x σ' H2 hi ⟨gp, rows, ch, u3, u4, u5, u6, u7, hR, hlate, hdone, hch, rfl⟩ H3 g3 hx
    obtain ⟨x1, x2, e1, e2, ht⟩ := tg_pair hx
    obtain ⟨x3, x4, e3, e4, ht2⟩ := tg_pair e2
    obtain rfl : x1 = _ := e1
    obtain rfl : x4 = _ := e4
    refine ht tg_name (ht2 tg_name tg_name) _ ?_
    have hidx : idx = i := by
      rw [List.getElem?_zipIdx] at hi
      cases q : its[i]? with
      | none => rw [q] at hi; cases hi
      | some t => rw [q] at hi; have := Option.some.inj hi; simpa using (congrArg Prod.snd this).symm
    subst hidx
    have hit : its[idx]? = some (holders, need) := List.mem_zipIdx_iff_getElem?.mp (List.mem_of_getElem? hi)
    have hil : idx < its.length := (List.getElem?_eq_some_iff.mp hit).1
    obtain ⟨_, hn1, hn2⟩ := hw.it _ (List.mem_of_getElem? hit)
    have gp3 := gp.trans g3
    have hch3 := (CH rows).st g3 hch
    show tSeq _ _ _ _ _
    refine q_asg (H0 := H3) gp3.self (P := CH rows) (ev_var rfl hch3) fun v6 H4 g4 h6 => ?_
    have gp4 := gp3.trans g4
    have hrow0 : ∀ r, rows[idx]? = some r → r.length = 0 := fun r hr => hlate idx r hr (Nat.le_refl _)
    refine s_while (c := c) (fun m σ' H' => Gr c H H' ∧ ∃ (ch late : V) (u7 : Option V), σ' = [some v0, some v1, some ch, some (.int (idx : Int)), some x3, some (.int (need : Int)), some late, u7] ∧
      ((∃ rowsL, FCond n its lim idx rowsL ∧ (CH (c := c) rowsL).p late H' ∧ (rowsL[idx]?.getD []).length ≤ need ∧ m = need - (rowsL[idx]?.getD []).length + 1) ∨
       (late = .non ∧ m = 0 ∧ ∃ rowsL, FCond n its lim idx rowsL ∧ (CH (c := c) rowsL).p ch H' ∧ (its.length ≤ lim → (rowsL[idx]?.getD []).length = need)))) (need + 1) ⟨gp4, ch, v6, u7, rfl, .inl ⟨rows, ⟨hR, fun j r hj hij => hlate j r hj (by omega), hdone⟩, h6, ?_, ?_⟩⟩ ?_
    · obtain ⟨r, hr⟩ : ∃ r, rows[idx]? = some r := ⟨_, List.getElem?_eq_getElem (by have := hR.len; omega)⟩
      have := hrow0 r hr
      rw [hr]
      show r.length ≤ need
      omega
    · obtain ⟨r, hr⟩ : ∃ r, rows[idx]? = some r := ⟨_, List.getElem?_eq_getElem (by have := hR.len; omega)⟩
      have := hrow0 r hr
      rw [hr]
      show need + 1 = need - r.length + 1
      omega
    · rintro m σ' H5 ⟨gp5, ch, late, u7, rfl, ⟨rowsL, hF, hlt, hnd, rfl⟩ | ⟨rfl, rfl, rowsL, hF, hcl, hfin⟩⟩
      · refine ⟨true, et_test (ev_op (rv_notN (R := CH rowsL) fun v H h => by obtain ⟨_, _, rfl, _⟩ := h; rfl) (ev_var rfl hlt) ev_c), gp5.self, fun _ H6 g6 => ?_, fun z => by cases z⟩
        refine ⟨fun σ2 H7 => Gr c H H7 ∧ ∃ (ch late : V) (u7 : Option V), σ2 = [some v0, some v1, some ch, some (.int (idx : Int)), some x3, some (.int (need : Int)), some late, u7] ∧ (CH (c := c) rowsL).p ch H7 ∧ (LateZ (c := c) n its lim idx need rowsL).p late H7, fun σ2 H7 ⟨gp7, ch, late, u7, hσ, hcl, hl⟩ => ?_, ?_⟩
        · rcases hl with ⟨rfl, hl⟩ | ⟨rows', c1, c2, c3, c4⟩
          · exact ⟨0, by omega, gp7, ch, .non, u7, hσ, .inr ⟨rfl, rfl, rowsL, hF, hcl, fun hb => Nat.le_antisymm hnd (hl hb)⟩⟩
          · have hlen : ∀ (j : Nat) (r : List Nat), rows'[j]? = some r → ∃ r0, rowsL[j]? = some r0 ∧ r.length = if idx = j then r0.length + 1 else r0.length := fun j r hj => by
              have h5 := congrArg (fun l => l[j]?) c2
              simp only [List.getElem?_map, hj, List.getElem?_set, List.length_map] at h5
              have hjl : j < rowsL.length := by
                have h6 := (List.getElem?_eq_some_iff.mp hj).1
                have h7 := congrArg List.length c2
                rw [List.length_map, List.length_set, List.length_map] at h7
                omega
              refine ⟨rowsL[j], List.getElem?_eq_getElem hjl, ?_⟩
              by_cases hi : idx = j
              · subst hi
                rw [if_pos rfl, if_pos hjl] at h5
                rw [if_pos rfl]
                rw [List.getElem?_eq_getElem hjl] at h5
                exact Option.some.inj h5
              · rw [if_neg hi] at h5 ⊢
                rw [List.getElem?_eq_getElem hjl] at h5
                exact Option.some.inj h5
            obtain ⟨r', hr'⟩ : ∃ r', rows'[idx]? = some r' := ⟨_, List.getElem?_eq_getElem (by have := c1.len; omega)⟩
            obtain ⟨r0, hr0, hl0⟩ := hlen idx r' hr'
            rw [if_pos rfl] at hl0
            have ec : (rowsL[idx]?.getD []).length = r0.length := by rw [hr0]; rfl
            have ed : (rows'[idx]?.getD []).length = r'.length := by rw [hr']; rfl
            refine ⟨need - (rows'[idx]?.getD []).length + 1, by omega, gp7, ch, late, u7, hσ, .inl ⟨rows', ⟨c1, fun j r hj hij => ?_, fun hb j r it hj hjt hij => ?_⟩, c4, by omega, rfl⟩⟩
            · obtain ⟨r1, h7, h8⟩ := hlen j r hj
              rw [if_neg (by omega)] at h8
              rw [h8]
              exact hF.late j r1 h7 hij
            · obtain ⟨r1, h7, h8⟩ := hlen j r hj
              rw [if_neg (by omega)] at h8
              rw [h8]
              exact hF.done hb j r1 it h7 hjt hij
        · have gp6 := gp5.trans g6
          show tSeq _ _ _ _ _
          refine q_asg (H0 := H6) gp6.self (P := CH rowsL) (ev_var rfl ((CH rowsL).st g6 hlt)) fun v2 H7 g7 h2 => ?_
          have gp7 := gp6.trans g7
          obtain ⟨row, hrow⟩ : ∃ row, rowsL[idx]? = some row := ⟨_, List.getElem?_eq_getElem (by have := hF.good.len; omega)⟩
          have er : (rowsL[idx]?.getD []).length = row.length := by rw [hrow]; rfl
          refine s_asg (H0 := H7) gp7.self (P := LateZ n its lim idx need rowsL) (ev_if (b := decide ((row.length : Int) < (need : Int))) (et_test (ev_op rv_I0 (Ev.to (ev_cb rc_lenT (ea_cons (ev_op (rv_ixL (P := S row) (i := idx) (by rw [List.getElem?_map, hrow]; rfl)) (ev_var rfl h2) (ev_var (P := I (idx : Int)) rfl rfl)) ea_nil)) (by rw [List.length_map])) (ev_var (P := I (need : Int)) rfl rfl))) (fun hb => ?_) fun hb => ?_) fun v6 H8 g8 h8 => ⟨gp7.trans g8, v2, v6, u7, rfl, (CH rowsL).st g8 h2, h8⟩
          · have hb := of_decide_eq_true hb
            refine Ev.imp (ev_call (ea_cons (ev_var rfl ((Lay n its).st gp7 h0)) (ea_cons (ev_var rfl h2) (ea_cons (ev_var (P := I (idx : Int)) rfl rfl) (ea_cons (ev_var rfl ((LN (List.replicate n lim)).st gp7 h1)) ea_nil)))) ⟨n, its, rowsL, idx, List.replicate n lim, rfl, hw, hF.good, hil, by simp, rfl⟩) fun v H' h => ?_
            rcases h with ⟨rfl, h⟩ | ⟨rows', d1, d2, d3⟩
            · refine .inl ⟨rfl, fun hbig => absurd ⟨fun s hs => ?_, ?_⟩ h⟩
              · rw [List.getElem?_replicate, if_pos hs]
                exact hbig
              · rw [hit]
                show _ < holders.length
                have : need ≤ holders.length := hn2
                omega
            · exact .inr ⟨rows', d1, d2, by omega, d3⟩
          · have hb := of_decide_eq_false hb
            exact Ev.imp (ev_c (v := .non)) fun v H' h => .inl ⟨h, fun _ => by omega⟩
      · refine ⟨false, et_test (ev_op (rv_notN (R := Eqv .non) fun v H h => by (obtain rfl : v = _ := h); rfl) (ev_var rfl rfl) ev_c), gp5.self, fun z => (by cases z), fun _ H6 g6 => ?_⟩
        refine ⟨gp5.trans g6, rowsL, ch, _, _, _, _, u7, hF.good, fun j r hj hij => hF.late j r hj (by omega), fun hb j r it hj hjt hij => ?_, (CH rowsL).st g6 hcl, rfl⟩
        by_cases hji : j = idx
        · subst hji
          have := hfin hb
          rw [hj] at this
          rw [hit] at hjt
          cases hjt
          exact this
        · exact hF.done hb j r it hj hjt (by omega)
  · rintro σ' H2 ⟨gp, rows, ch, u3, u4, u5, u6, u7, hR, hlate, hdone, hch, rfl⟩
    refine s_ret (H0 := H2) gp.self (P := CH rows) (ev_var rfl hch) fun v H3 g3 e3 => k v H3 (gp.trans g3) ⟨rows, hR, fun hb => ?_, e3⟩
    refine List.ext_getElem? fun j => ?_
    rw [List.getElem?_map, List.getElem?_map]
    have hrl := hR.len
    by_cases hj : j < its.length
    · have h1 : rows[j]? = some (rows[j]'(by omega)) := List.getElem?_eq_getElem (by omega)
      have h2 : its[j]? = some its[j] := List.getElem?_eq_getElem hj
      have := hdone hb j _ _ h1 h2 (by rw [List.length_zipIdx]; exact hj)
      rw [h1, h2]
      simp [this]
    · rw [List.getElem?_eq_none (by omega), List.getElem?_eq_none (by omega)]
      rfl
end


section
open PySem PySem.Spec PyProof.Rows L2 LamX
variable {c : Cxt} {P : Program} {w : World} {mg : Str → Option Value} {base : Heap} {f : Addr} {fd : FuncData}
def LeastZ (n : Nat) : SV c := ⟨fun v H => ∃ rows : List (List Nat), rows.length ≤ 10 ∧ (CH (c := c) rows).p v H, fun {v H0 H1} g h => by
  obtain ⟨r, a, d⟩ := h
  exact ⟨r, a, (CH _).st g d⟩⟩
def R_least_choices (As : List (SV c)) (Z : SV c) : Prop := ∃ (n : Nat) (its : List Itm), As = [Lay n its] ∧ WfL n its ∧ Z = LeastZ n
theorem rep_LN (n m : Nat) : L (c := c) (List.replicate n (I (m : Int))) = LN (List.replicate n m) := by
  show _ = L ((List.replicate n m).map _)
  rw [List.map_replicate]
abbrev N_least_choices : List Str := ["layout", "whole", "limit", "choices", "holders", "need"]
theorem sc_least_choices : FnScope N_least_choices ["layout"] (defScope s_least_choices) := ⟨rfl, rfl, rfl, by decide +kernel, rfl, by decide +kernel, by decide +kernel⟩
theorem ok_least_choices (F : FnP c.K "least_choices" "least_choices" s_least_choices f fd) (Bt : Bts c mg) (C : Cl c) (Il : IsL c) (h_fill : Has P w c.K mg base "fill" ["layout", "limits"] 4 (Pm c R_fill)) (h_count_readings : Has P w c.K mg base "count_readings" ["choices"] 1 (Pm c R_count_readings)) : FnOk P w c.K mg base CX0 5 f fd ["layout"] (Pm c R_least_choices) := by
  refine okP F sc_least_choices (fun As Z h => by obtain ⟨_, _, rfl, _⟩ := h; rfl) fun cdv A outer s H vs Q E As Z hr hA hR g k => ?_
  have nd := sc_least_choices.nd
  obtain ⟨n, its, rfl, hw, rfl⟩ := hR
  obtain ⟨v0, rfl, h0⟩ := hA.inv1
  have hhi := hw.hi
  have hle := hw.le
  refine ⟨_, (pss_cons (ps_par (i := 1) (j := 2) rfl nd rfl rfl (by decide) rfl rfl (pa_cons (pe_callB (cr_sumQ (K := c.K) rfl rfl) (by rfl) Bt.bsum (by decide +kernel) (pa_cons (pe_lc (own := [("holders", 4), ("need", 5)]) rfl nd (pi_tupQ (K := c.K) rfl (pe_fldQ (K := c.K) rfl (pv 0) rfl)) (blkOk_by (own := [("holders", 4), ("need", 5)]) (N := N_least_choices) (sc := defScope s_least_choices) (by decide +kernel)) (fun _ _ _ _ _ => (pg_tupQ (K := c.K) (n := 2) rfl rfl (pgs_cons (pg_name (i := 4) nd rfl (Or.inl rfl)) (pgs_cons (pg_name (i := 5) nd rfl (Or.inl rfl)) pgs_nil)))) (fun _ _ _ _ _ => pts_nil) (fun _ _ _ _ _ => (pv 5))) pa_nil)) (pa_cons pe_int pa_nil)) (by rfl))
    (pss_cons (ps_set (i := 3) nd rfl (Or.inl rfl) (pe_callH h_fill (hr.mono (by decide)) rfl (pa_cons (pv 0) (pa_cons (pe_op op_rep (pe_lst (pa_cons (pv 2) pa_nil)) (pe_fldQ (K := c.K) rfl (pv 0) rfl)) pa_nil))))
    (pss_cons (ps_while PassesOwn.never (pt_cmpR op_lt (pe_callH h_count_readings (hr.mono (by decide)) rfl (pa_cons (pv 3) pa_nil)) (pv 1) (nomark _)) (pss_cons (ps_aug (i := 2) nd rfl (Or.inl rfl) pe_int ip_add)
    (pss_one (ps_set (i := 3) nd rfl (Or.inl rfl) (pe_callH h_fill (hr.mono (by decide)) rfl (pa_cons (pv 0) (pa_cons (pe_op op_rep (pe_lst (pa_cons (pv 2) pa_nil)) (pe_fldQ (K := c.K) rfl (pv 0) rfl)) pa_nil)))))))
    (pss_one (ps_ret (pv 3)))))), ?_⟩
  have hfill : ∀ (σ : L2.St) (Hc : Hp) (lim : Nat), Gr c H Hc → σ[0]? = some (some v0) → σ[2]? = some (some (.int (lim : Int))) → Ev c (tCall (Pm c R_fill) [] E0 (tCons (tVar 0) (tCons (tOp rRep (tLst (tCons (tVar 2) tNil)) (tFld c.K (tVar 0) "servers")) tNil))) σ Hc (FillZ n its lim) := fun σ Hc lim gc s0 s2 =>
    ev_call (ea_cons (ev_var s0 ((Lay n its).st gc h0)) (ea_cons (Ev.to (ef_op (rf_rep (k := n) (by omega)) (ef_lst (ea_cons (ev_var (P := I (lim : Int)) s2 rfl) ea_nil) (by simp)).ev (ev_servers C (ev_var s0 ((Lay n its).st gc h0)))).ev (rep_LN n lim)) ea_nil)) ⟨n, its, lim, rfl, hw, rfl⟩
  refine q_par g (P := I (((its.map (·.2)).sum : Nat) : Int)) (R := I ((1 : Nat) : Int)) (Ev.to (ev_cb rc_sum (ea_cons (Ev.to (ef_lcA its It1 (fun it => I ((it.2 : Nat) : Int)) (ei_tup (ev_entries C (ev_var rfl h0))) (by omega) fun a x Hc ha gc hx => ?_).ev (LI_map _ _)) ea_nil)) (congrArg (fun i : Int => I i) (sum_cast _ _))) ev_c fun v1 v2 H1 g1 h1 h2 => ?_
  · obtain ⟨x1, x2, e1, e2, ht⟩ := tg_pair hx
    exact ⟨_, ht tg_name tg_name, rfl, ev_var rfl e2⟩
  obtain rfl : v1 = _ := h1
  obtain rfl : v2 = _ := h2
  refine q_asg g1.self (hfill _ H1 1 g1 rfl rfl) fun v3 H2 g2 h3 => ?_
  have g12 := g1.trans g2
  refine q_while (c := c) (fun m σ' H' => Gr c H H' ∧ ∃ (lim : Nat) (ch : V) (u4 u5 : Option V), m = its.length - lim ∧ (FillZ n its lim).p ch H' ∧ σ' = [some v0, some (.int ((its.map (·.2)).sum : Nat)), some (.int (lim : Int)), some ch, u4, u5]) (its.length - 1) ⟨g12, 1, v3, none, none, rfl, h3, rfl⟩ ?_
  rintro m σ' H' ⟨gp, lim, ch, u4, u5, rfl, ⟨rows, hR, hbig, hch⟩, rfl⟩
  have hrl := hR.len
  refine ⟨decide ((((rows.map List.length).sum : Nat) : Int) < (((its.map (·.2)).sum : Nat) : Int)), et_test (ev_op rv_I0 (ev_call (ea_cons (ev_var rfl hch) ea_nil) ⟨_, rfl, by omega, rfl⟩) (ev_var rfl rfl)), gp.self, fun hb H3 g3 => ?_, fun hb H3 g3 => ?_⟩
  · have hb := of_decide_eq_true hb
    have hlt : lim < its.length := by
      refine Nat.lt_of_not_le fun z => ?_
      rw [hbig z] at hb
      omega
    refine ⟨fun σ2 H4 => Gr c H H4 ∧ ∃ (ch : V) (u4 u5 : Option V), (FillZ n its (lim + 1)).p ch H4 ∧ σ2 = [some v0, some (.int ((its.map (·.2)).sum : Nat)), some (.int ((lim + 1 : Nat) : Int)), some ch, u4, u5], fun σ2 H4 ⟨gp4, ch, u4, u5, c1, c2⟩ => ⟨its.length - (lim + 1), by omega, gp4, lim + 1, ch, u4, u5, rfl, c1, c2⟩, ?_⟩
    have gp3 := gp.trans g3
    show tSeq _ _ _ _ _
    refine q_aug (H0 := H3) gp3.self rfl (P := I (lim : Int)) rfl (R := I 1) ev_c rv_ipI fun v4 H4 g4 e4 => ?_
    obtain rfl : v4 = _ := e4
    have gp4 := gp3.trans g4
    exact s_asg gp4.self (hfill _ H4 (lim + 1) gp4 rfl rfl) fun v5 H5 g5 e5 => ⟨gp4.trans g5, v5, u4, u5, e5, rfl⟩
  · exact s_ret g3 (P := CH rows) (ev_var rfl hch) fun v H4 g4 e4 => k v H4 ((gp.trans g3).trans g4) ⟨rows, by omega, e4⟩
/-! load_of -/
def LenL (n : Nat) : SV c := ⟨fun v H => ∃ l : List Nat, l.length = n ∧ (LN (c := c) l).p v H, fun {v H0 H1} g h => by
  obtain ⟨r, a, d⟩ := h
  exact ⟨r, a, (LN _).st g d⟩⟩
theorem ev_callX {σ : L2.St} {H : Hp} {Rl : List (SV c) → SV c → Prop} {E : XK} {ta : TA} {As : List (SV c)} {Pp : SV c} (h : EvA c ta σ H As) (hr : ∀ vs H', AllP As vs H' → ∃ As' P', AllP As' vs H' ∧ Rl As' P' ∧ ∀ v H', P'.p v H' → Pp.p v H') : Ev c (tCall (Pm c Rl) [] E ta) σ H Pp := fun H1 g Q q =>
  h H1 g _ fun vs H2 g2 e2 => by
    obtain ⟨As', P', a1, a2, a3⟩ := hr vs H2 e2
    exact ⟨As', P', by rw [List.append_nil]; exact a1, a2, g2.t1, fun v H' g' hp => q v H' (g2.trans g') (a3 v H' hp)⟩
theorem rc_maxL {n : Nat} (h0 : 0 < n) : RC c (rMax c.K) [LenL n] AnyI := fun vs H g h Q q => by
  obtain ⟨v, rfl, l, h1, h2⟩ := h.inv1
  rw [LN_LI] at h2
  exact rc_max (by rw [List.length_map]; omega) [v] H g ⟨h2, True.intro⟩ Q q
def R_load_of (As : List (SV c)) (Z : SV c) : Prop := ∃ (n : Nat) (its : List Itm), As = [Lay n its] ∧ WfL n its ∧ Z = AnyI
abbrev N_load_of : List Str := ["layout"]
theorem sc_load_of : FnScope N_load_of ["layout"] (defScope s_load_of) := ⟨rfl, rfl, rfl, by decide +kernel, rfl, by decide +kernel, by decide +kernel⟩
theorem ok_load_of (F : FnP c.K "load_of" "load_of" s_load_of f fd) (Bt : Bts c mg) (C : Cl c) (Il : IsL c) (h_loads_of : Has P w c.K mg base "loads_of" ["servers", "choices"] 1 (Pm c R_loads_of)) (h_least_choices : Has P w c.K mg base "least_choices" ["layout"] 5 (Pm c R_least_choices)) : FnOk P w c.K mg base CX0 6 f fd ["layout"] (Pm c R_load_of) := by
  refine okP F sc_load_of (fun As Z h => by obtain ⟨_, _, rfl, _⟩ := h; rfl) fun cdv A outer s H vs Q E As Z hr hA hR g k => ?_
  have nd := sc_load_of.nd
  obtain ⟨n, its, rfl, hw, rfl⟩ := hR
  obtain ⟨v0, rfl, h0⟩ := hA.inv1
  have hhi := hw.hi
  have hlo := hw.lo
  refine ⟨_, (pss_one (ps_ret (pe_callB (cr_maxQ (K := c.K) rfl rfl) (by rfl) Bt.bmax (by decide +kernel) (pa_cons (pe_callH h_loads_of (hr.mono (by decide)) rfl (pa_cons (pe_fldQ (K := c.K) rfl (pv 0) rfl) (pa_cons (pe_callH h_least_choices (hr.mono (by decide)) rfl (pa_cons (pv 0) pa_nil)) pa_nil))) pa_nil)))), ?_⟩
  refine s_ret g (ev_cb (rc_maxL (n := n) (by omega)) (ea_cons (ev_callX (As := [I (n : Int), LeastZ n]) (ea_cons (ev_servers C (ev_var rfl h0)) (ea_cons (ev_call (ea_cons (ev_var rfl h0) ea_nil) ⟨_, _, rfl, hw, rfl⟩) ea_nil)) fun vs H' hA => ?_) ea_nil)) k
  obtain ⟨v, u, rfl, h1, rows, h2, h3⟩ := hA.inv2
  exact ⟨[I (n : Int), CH rows], LN (loadsOf n rows), ⟨h1, h3, True.intro⟩, ⟨n, rows, rfl, by omega, by omega, rfl⟩, fun v H' hp => ⟨_, by unfold loadsOf; rw [List.length_map, List.length_range], hp⟩⟩
/-! after, load_after -/
def aft (dn : List Nat) (it : Itm) : Itm := (it.1.filter fun k => !decide (k ∈ dn), it.2)
def afterIts (its : List Itm) (dn : List Nat) : List Itm := its.map (aft dn)
def R_after (As : List (SV c)) (Z : SV c) : Prop := ∃ (n : Nat) (its : List Itm) (dn : List Nat), As = [Lay n its, S dn] ∧ (WfL n its ∧ WfL n (afterIts its dn)) ∧ Z = Lay n (afterIts its dn)
abbrev N_after : List Str := ["layout", "down", "rows", "holders", "need", "one"]
theorem sc_after : FnScope N_after ["layout", "down"] (defScope s_after) := ⟨rfl, rfl, rfl, by decide +kernel, rfl, by decide +kernel, by decide +kernel⟩
theorem ok_after (F : FnP c.K "after" "after" s_after f fd) (Bt : Bts c mg) (C : Cl c) (Il : IsL c) (h_Layout : HasC P w c.K mg base "Layout" c.cL ["self", "servers", "items"] 4 (PmI c c.cL R_Layout_init)) : FnOk P w c.K mg base CX0 6 f fd ["layout", "down"] (Pm c R_after) := by
  refine okP F sc_after (fun As Z h => by obtain ⟨_, _, _, rfl, _⟩ := h; rfl) fun cdv A outer s H vs Q E As Z hr hA hR g k => ?_
  have nd := sc_after.nd
  obtain ⟨n, its, dn, rfl, ⟨hw, hw2⟩, rfl⟩ := hR
  obtain ⟨v0, v1, rfl, h0, h1⟩ := hA.inv2
  have hle := hw.le
  have hhi := hw.hi
  refine ⟨_, (pss_cons (ps_setLc (own := [("holders", 3), ("need", 4)]) (i := 2) rfl nd rfl rfl (sw_true rfl rfl rfl (by decide +kernel)) (pi_tupQ (K := c.K) rfl (pe_fldQ (K := c.K) rfl (pv 0) rfl)) (blkOk_by (own := [("holders", 3), ("need", 4)]) (N := N_after) (sc := defScope s_after) (by decide +kernel)) (fun _ _ _ _ _ => (pg_tupQ (K := c.K) (n := 2) rfl rfl (pgs_cons (pg_name (i := 3) nd rfl (Or.inl rfl)) (pgs_cons (pg_name (i := 4) nd rfl (Or.inl rfl)) pgs_nil)))) (fun _ _ _ _ _ => pts_nil) (fun _ _ _ _ _ => (pe_tup (pa_cons (pe_callTy (cl_tupleQ (K := c.K) rfl) (by rfl) Bt.btuple (by decide +kernel) (pa_cons (pe_lc (own := [("one", 5)]) rfl nd (pi_tupQ (K := c.K) rfl (pv 3)) (by exact blkOk_by (by rfl)) (fun _ _ _ _ _ => (pg_name (i := 5) nd rfl (Or.inl rfl))) (fun _ _ _ _ _ => (pts_one (pt_cmpR (op_niQ (K := c.K) rfl) (pv 5) (pv 1) rfl))) (fun _ _ _ _ _ => (pv 5))) pa_nil)) (pa_cons (pv 4) pa_nil)))))
    (pss_one (ps_ret (pe_makeH h_Layout (hr.mono (by decide)) rfl (pa_cons (pe_fldQ (K := c.K) rfl (pv 0) rfl) (pa_cons (pv 2) pa_nil)))))), ?_⟩
  refine q_asgF g (P := LIt (afterIts its dn)) (EvF.imp (ef_lcA its It1 (fun it => It1 (aft dn it)) (ei_tup (ev_entries C (ev_var rfl h0))) (by omega) fun a x Hc ha gc hx => ?_) fun v H' h => ?_) fun a H1 n1 g1 h2 => ?_
  · obtain ⟨x1, x2, e1, e2, ht⟩ := tg_pair hx
    have hl := (hw.it a ha).1.len
    refine ⟨_, ht tg_name tg_name, rfl, (ef_tup (Ps := [S (aft dn a).1, I (a.2 : Int)]) (ea_cons (ef_cb rf_tuple (ea_cons (ef_lcm a.1 (fun k : Nat => I (k : Int)) (fun k => !decide (k ∈ dn)) (fun k : Nat => I (k : Int)) (ei_tup (ev_var rfl e1)) (by omega) fun b y Hd hb gd hy => ?_).ev ea_nil)).ev (ea_cons (ev_var rfl e2) ea_nil)) (by simp)).ev⟩
    exact ⟨_, tg_name, rfl, et_test (ev_op rv_niS (ev_var rfl hy) (ev_var rfl ((S dn).st (gc.trans gd) h1))), fun _ => ev_var rfl hy⟩
  · show (L ((its.map (aft dn)).map It1)).p v H'
    rw [List.map_map]
    exact h
  · exact s_ret g1.self (ev_make (ea_cons (ev_servers C (ev_var rfl ((Lay n its).st g1 h0))) (ea_cons (ev_var rfl h2) ea_nil)) ⟨_, _, rfl, hw2, rfl⟩).ev fun v H2 g2 e2 => k v H2 (g1.trans g2) e2
theorem common_others {n : Nat} {s dn : List Nat} (h : ∀ k ∈ s, k < n) : common s (othersOf n dn) = s.filter fun k => !decide (k ∈ dn) := by
  unfold common
  refine List.filter_congr fun k hk => ?_
  unfold othersOf
  have : (k ∈ (List.range n).filter fun k => !decide (k ∈ dn)) ↔ ¬ k ∈ dn := by
    rw [List.mem_filter, List.mem_range]
    constructor
    · rintro ⟨_, h2⟩; simpa using h2
    · intro h2; exact ⟨h k hk, by simpa using h2⟩
  by_cases hd : k ∈ dn
  · rw [decide_eq_true hd, decide_eq_false (fun z => this.mp z hd)]; rfl
  · rw [decide_eq_false hd, decide_eq_true (this.mpr hd)]; rfl
theorem zipIdx_filter_all {α : Type} {f : α → Bool} {xs : List α} (h : (xs.zipIdx.filter fun p => f p.1).length = xs.length) : ∀ x ∈ xs, f x = true := by
  intro x hx
  rw [← List.length_zipIdx (l := xs) (i := 0)] at h
  have := List.length_filter_eq_length_iff.mp h
  obtain ⟨i, hi⟩ := List.mem_iff_getElem?.mp hx
  exact this (x, i) (List.mem_zipIdx_iff_getElem?.mpr hi)
theorem keeping_iff {its : List Itm} {up : List Nat} : keeping its up = true ↔ ∀ it ∈ its, it.2 ≤ (common it.1 up).length := by
  unfold keeping readable
  rw [decide_eq_true_iff, List.length_map]
  constructor
  · intro h it hit
    exact of_decide_eq_true (zipIdx_filter_all (f := fun it => decide (it.2 ≤ (common it.1 up).length)) h it hit)
  · intro h
    rw [← List.length_zipIdx (l := its) (i := 0), List.length_filter_eq_length_iff]
    intro p hp
    exact decide_eq_true (h _ (mem_zipIdx_fst hp))
theorem wf_after {n : Nat} {its : List Itm} {dn : List Nat} (hw : WfL n its) (h : losing n its dn = false) : WfL n (afterIts its dn) := by
  have hk : keeping its (othersOf n dn) = true := by
    unfold losing at h
    cases q : keeping its (othersOf n dn) with
    | true => rfl
    | false => rw [q] at h; cases h
  have hk := keeping_iff.mp hk
  refine ⟨hw.lo, hw.hi, by unfold afterIts; rw [List.length_map]; exact hw.ne, by unfold afterIts; rw [List.length_map]; exact hw.le, fun it hit => ?_⟩
  obtain ⟨it0, h0, rfl⟩ := List.mem_map.mp hit
  obtain ⟨⟨w1, w2⟩, w3, w4⟩ := hw.it it0 h0
  have := hk it0 h0
  rw [common_others w2] at this
  exact ⟨⟨w1.filter _, fun k hk => w2 k (List.mem_filter.mp hk).1⟩, w3, this⟩
def LoadZ (b : Bool) : SV c := if b then Nn else AnyI
def R_load_after (As : List (SV c)) (Z : SV c) : Prop := ∃ (n : Nat) (its : List Itm) (dn : List Nat), As = [Lay n its, S dn] ∧ WfL n its ∧ WfS n dn ∧ Z = LoadZ (losing n its dn)
abbrev N_load_after : List Str := ["layout", "down"]
theorem sc_load_after : FnScope N_load_after ["layout", "down"] (defScope s_load_after) := ⟨rfl, rfl, rfl, by decide +kernel, rfl, by decide +kernel, by decide +kernel⟩
theorem ok_load_after (F : FnP c.K "load_after" "load_after" s_load_after f fd) (Bt : Bts c mg) (C : Cl c) (Il : IsL c) (h_check_layout : Has P w c.K mg base "check_layout" ["layout"] 1 (Pm c R_check_layout)) (h_check_set : Has P w c.K mg base "check_set" ["layout", "servers"] 3 (Pm c R_check_set)) (h_is_losing : Has P w c.K mg base "is_losing" ["layout", "down"] 6 (Pm c R_is_losing)) (h_load_of : Has P w c.K mg base "load_of" ["layout"] 6 (Pm c R_load_of)) (h_after : Has P w c.K mg base "after" ["layout", "down"] 6 (Pm c R_after)) : FnOk P w c.K mg base CX0 7 f fd ["layout", "down"] (Pm c R_load_after) := by
  refine okP F sc_load_after (fun As Z h => by obtain ⟨_, _, _, rfl, _⟩ := h; rfl) fun cdv A outer s H vs Q E As Z hr hA hR g k => ?_
  have nd := sc_load_after.nd
  obtain ⟨n, its, dn, rfl, hw, hs, rfl⟩ := hR
  obtain ⟨v0, v1, rfl, h0, h1⟩ := hA.inv2
  have hhi := hw.hi
  refine ⟨_, (pss_cons (ps_expr (pe_callH h_check_layout (hr.mono (by decide)) rfl (pa_cons (pv 0) pa_nil)))
    (pss_cons (ps_expr (pe_callH h_check_set (hr.mono (by decide)) rfl (pa_cons (pv 0) (pa_cons (pv 1) pa_nil))))
    (pss_one (ps_ret (pe_ifExp (pt_val (pe_callH h_is_losing (hr.mono (by decide)) rfl (pa_cons (pv 0) (pa_cons (pv 1) pa_nil)))) pe_non (pe_callH h_load_of (hr.mono (by decide)) rfl (pa_cons (pe_callH h_after (hr.mono (by decide)) rfl (pa_cons (pv 0) (pa_cons (pv 1) pa_nil))) pa_nil))))))), ?_⟩
  refine q_drop g (ev_call (ea_cons (ev_var rfl h0) ea_nil) ⟨_, _, rfl, True.intro, rfl⟩) fun H1 g1 => ?_
  refine q_drop g1 (ev_call (ea_cons (ev_var rfl h0) (ea_cons (ev_var rfl h1) ea_nil)) ⟨_, _, _, rfl, hs, by omega, rfl⟩) fun H2 g2 => ?_
  refine s_retG (g1.trans g2) (ev_if (et_B (ev_call (ea_cons (ev_var rfl h0) (ea_cons (ev_var rfl h1) ea_nil)) ⟨_, _, _, rfl, hw, rfl⟩)) (fun hb => ?_) fun hb => ?_) k
  · rw [hb]; exact ev_c
  · rw [hb]
    have hw2 := wf_after hw hb
    exact ev_call (ea_cons (ev_call (ea_cons (ev_var rfl h0) (ea_cons (ev_var rfl h1) ea_nil)) ⟨_, _, _, rfl, ⟨hw, hw2⟩, rfl⟩) ea_nil) ⟨_, _, rfl, hw2, rfl⟩
end


/-! dict comprehensions whose keys are tuples (after the library's rule for ints and texts) -/
section
open PySem PySem.Spec PyProof.Rows L2 LamX
abbrev KS (s : List Nat) : List Key := s.map fun k : Nat => (Sum.inl (k : Int) : Key)
theorem d_dictSetT {X : Cx} {pins : List (Addr × Obj)} {σ : L2.St} {H : Hp} {s : Shared} {E : Value → Shared → Prop} {D b : Addr} {kvs : List (List Key × V)} {k : List Key} {v : V} {u r : Value} {Q : Unit → Shared → Prop} (hu : X.A.units + 64 < cLine) (I : Inv X pins σ H s) (eb : H b = some (.tup (k.map kV))) (hD : H D = some (.dT kvs)) (hz : kvs.length < sizeLine)
    (ry : RelV (.ref b) u) (rv : RelV v r) (h : ∀ s', Inv X pins σ (upd H D (.dT (putK kvs k v))) s' → Q () s') : wpAny (model X.prog X.w) X.A (dictSet D u r) Q E s := by
  cases (show u = Value.ref b from ry)
  obtain ⟨z, hd, xs, rel, dd⟩ := dt_of I.hok hD
  have hzv : xs.length ≤ sizeLine := by rw [← Paired.length rel]; exact z
  have hl : (putK kvs k v).length ≤ sizeLine := by have := length_putK kvs k v; omega
  have hu' : (tupleKind (mixKind X.prog X.w)).room X.A := Nat.lt_of_le_of_lt (Nat.le_add_right _ 64) hu
  refine wpAny_dictSet_heap (hsz := hzv) hu' (key_of I.hok eb) dd fun h' dd' hs => h _ ?_
  obtain ⟨q, es, ep, hq, h2, h3, h4, _, h5⟩ := dd'
  refine d_write I (by rw [hD]; exact True.intro) hs ⟨q, hq⟩ ⟨hl, hd, _, (rel.put k eb rv).keeps fun c ys ec => ?_, q, es, ep, hq, h2, h3, h4, h5⟩
  rw [upd_ne (ne_of ec hD (fun z => nomatch z))]
  exact ec
section
variable {X : Cx}
def tDcT (wi : L2.TI) (g : TG) (tt : TT) (tk tv : TE) (vs : List Nat) : TE := fun σ H Q => wi σ H fun J H1 => ∀ D, H1 D = none → ∃ W : Nat → Nat → Hp → Prop, (∃ m, W 0 m (upd H1 D (.dT []))) ∧ ∀ i m H, W i m H →
  (J.stop i H ∧ Q (.ref D) H) ∨ (J.go i H ∧ ∃ Nx : Hp → Prop, (∀ H', Nx H' → ∃ m', m' < m ∧ W (i + 1) m' H') ∧ ∀ x H', J.yld i H x H' → g x (wipe σ vs) H' fun σ2 H2 => wipe σ2 vs = wipe σ vs ∧ tt σ2 H2 fun b H3 =>
    if b = true then tk σ2 H3 fun y H4 => tv σ2 H4 fun z H5 => ∃ kvs k p, y = .ref p ∧ H5 p = some (.tup (k.map kV)) ∧ H5 D = some (.dT kvs) ∧ kvs.length < sizeLine ∧ Nx (upd H5 D (.dT (putK kvs k z))) else Nx H3)
theorem dcT_core {pins : List (Addr × Obj)} {s : Shared} {σ : L2.St} {H : Hp} {Q : VK} {kx vx tg iter : Expr} {ifs : List Expr} {scope : Scope} {own : List (Str × Nat)} {pos pos' : Pos} {wi : L2.TI} {g : TG} {tt : TT} {tk tv : TE} {use : Option (Value → Sem Unit)} {Qf : Value → Shared → Prop}
    (hu : X.A.units + 64 < cLine) (hc : X.calm = true) (hN : X.N.Nodup) (I : Inv X pins σ H s) (hi : PI X tg iter wi) (ok : BlkOk X.N X.env.scope scope own)
    (hg : ∀ (s : Shared) (H : Hp) (C : Addr) (cl : List (Str × Addr)) (fp : List Addr), PG (X.blk s H scope (compEnvC scope cl C X.env) fp) tg g) (ht : ∀ (s : Shared) (H : Hp) (C : Addr) (cl : List (Str × Addr)) (fp : List Addr), PTs (X.blk s H scope (compEnvC scope cl C X.env) fp) ifs tt)
    (hk : ∀ (s : Shared) (H : Hp) (C : Addr) (cl : List (Str × Addr)) (fp : List Addr), PE (X.blk s H scope (compEnvC scope cl C X.env) fp) kx tk)
    (he : ∀ (s : Shared) (H : Hp) (C : Addr) (cl : List (Str × Addr)) (fp : List Addr), PE (X.blk s H scope (compEnvC scope cl C X.env) fp) vx tv) (hs : ∀ x, foldedSetIterable iter X.env x = pure x)
    (h : tDcT wi g tt tk tv (own.map (·.2)) σ H Q)
    (hRR : ∀ D C s' m H', Inv X pins σ H' s' → Q (.ref D) H' → s'.heap.Ns C m → FpOk X pins H' C → compPost (model X.prog X.w) X.A X.xe use Qf (.ref D) C (.ok .next) s') :
    wpAny (model X.prog X.w) X.A (comprehension (.DictComp kx vx [⟨tg, iter, ifs, 0⟩] scope pos) scope X.env pos' newDict false (eval iter X.env) use) Qf X.xe s := by
  have hfree : ∀ y ∈ scope.names, y.2 = .free → ∃ c, X.env.cells.lookup y.1 = some c := fun y hy e => by
    rcases ok.free y hy e with k | k
    · exact I.ok.has _ (.inl k)
    · exact I.ok.has _ (.inr k)
  refine wpAny_comprehension_free (use := use) rfl hs (closure_ok hfree) ok.kind (fun y hy e => by rw [ok.uniq y hy, e])
    (thn (hi.run pins s σ H _ I h) fun xv s1 hx => thn hx fun itv s2 h2 => ?_)
  obtain ⟨it, fp, tn, J, H2, e, I2, T, st2, f2, q⟩ := h2
  subst e
  refine wpAny_newObj_type (newEnv_comp ?_)
  generalize hD : s2.heap.objs.size = D
  have hDn : H2 D = none := I2.hok.fresh (Nat.le_of_eq hD)
  obtain ⟨W, ⟨m0, w0⟩, turn⟩ := q D hDn
  -- the new list
  generalize hs3 : ({ s2 with heap := s2.heap.push { cls := .type "dict", data := .dict #[] } } : Shared) = s3
  have I3 : Inv X pins σ (upd H2 D (.dT [])) s3 := by
    rw [← hs3]
    refine I2.laid (t' := s2.toks) (fun b o e => Heap.get?_push_of_some _ e) (Nat.le_of_eq hD) ?_
    rw [← hD]
    exact dt_empty s2.heap I2.big
  have h3 : s3.heap = s2.heap.push { cls := .type "dict", data := .dict #[] } := by rw [← hs3]
  have sz : ∀ b ∈ fp, b < s2.heap.objs.size := fun b hb => by
    obtain ⟨o, e, _⟩ := T.obj _ _ st2 b hb
    exact Heap.lt_size e
  have f3 : ∀ b ∈ fp, FpOk X pins (upd H2 D (.dT [])) b ∧ b < s3.heap.objs.size := fun b hb => by
    have hlt := sz b hb
    refine ⟨⟨?_, (f2 b hb).2⟩, by rw [h3, Heap.size_push]; exact Nat.lt_succ_of_lt hlt⟩
    rw [upd_ne (by rw [← hD]; exact Nat.ne_of_lt hlt)]
    exact (f2 b hb).1
  have st3 : tn 0 s3.heap := T.keep _ _ _ st2 fun b _ o e => by rw [h3]; exact Heap.get?_push_of_some _ e
  have I4 := block_start I3 ok hN f3
  have pg := hg s3 (upd H2 D (.dT [])) s3.heap.objs.size (cellsFrom (s3.heap.objs.size + 1) scope.names (cloFrom X.env.cells scope.names [])) fp
  have pt := ht s3 (upd H2 D (.dT [])) s3.heap.objs.size (cellsFrom (s3.heap.objs.size + 1) scope.names (cloFrom X.env.cells scope.names [])) fp
  have pk := hk s3 (upd H2 D (.dT [])) s3.heap.objs.size (cellsFrom (s3.heap.objs.size + 1) scope.names (cloFrom X.env.cells scope.names [])) fp
  have pe := he s3 (upd H2 D (.dT [])) s3.heap.objs.size (cellsFrom (s3.heap.objs.size + 1) scope.names (cloFrom X.env.cells scope.names [])) fp
  show codeAny _ _ (.compStart (.DictComp kx vx [⟨tg, iter, ifs, 0⟩] scope pos) 0 (.ref it) (.ref D) (compEnvC scope (cellsFrom (s3.heap.objs.size + 1) scope.names (cloFrom X.env.cells scope.names [])) s3.heap.objs.size X.env)) (compPost (model X.prog X.w) X.A X.xe use Qf (.ref D) s3.heap.objs.size) { s3 with heap := pushCells (s3.heap.push { cls := .type "dict", data := .dict #[] }) scope.names }
  have nfp : ∀ b ∈ fp, (upd H2 D (.dT [])) b = none := fun b hb => (f3 b hb).1.1
  generalize hce : compEnvC scope (cellsFrom (s3.heap.objs.size + 1) scope.names (cloFrom X.env.cells scope.names [])) s3.heap.objs.size X.env = ce at I4 pg pt pk pe ⊢
  have cL : ce.locals = s3.heap.objs.size := by subst hce; rfl
  generalize hH3 : upd H2 D (.dT []) = H3 at I3 I4 pg pt pk pe w0 nfp f3
  generalize hs4 : ({ s3 with heap := pushCells (s3.heap.push { cls := .type "dict", data := .dict #[] }) scope.names } : Shared) = s4 at I4 ⊢
  have st4 : tn 0 s4.heap := T.keep _ _ _ st3 fun b _ o e => by rw [← hs4]; exact pushCells_keeps _ _ _ _ (Heap.get?_push_of_some _ e)
  have stat : ∀ {σ' : L2.St} {H' : Hp} {s' : Shared}, Inv (X.blk s3 H3 scope ce fp) [] σ' H' s' → (∀ b ∈ fp, H' b = none) → ∀ b ∈ fp, FpOk (X.blk s3 H3 scope ce fp) [] H' b := fun {σ' H' s'} I' hn b hb =>
    ⟨hn b hb, (I'.ok.exf b hb).1, I'.ok.exfs b hb, .inl hb, fun x c e => (I'.ok.exf b hb).2 x c e, fun p hp => absurd (show p ∈ ([] : List (Addr × Obj)) ++ [] from hp) (by simp)⟩
  have loop : codeAny (model X.prog X.w) X.A (.compLoop (.DictComp kx vx [⟨tg, iter, ifs, 0⟩] scope pos) 0 (.ref it) (.ref D) ce) (compPost (model X.prog X.w) X.A X.xe use Qf (.ref D) s3.heap.objs.size) s4 := by
    refine L2.compLoop_anyD (fun n s' => ∃ i H', Inv (X.blk s3 H3 scope ce fp) [] (wipe σ (own.map (·.2))) H' s' ∧ tn i s'.heap ∧ (∀ b ∈ fp, H' b = none) ∧ W i n H') ?_ m0 ⟨0, H3, I4, st4, nfp, w0⟩
    rintro n s5 ⟨i, H5, I5, st5, n5, w5⟩
    rcases turn i n H5 w5 with ⟨stop, qq⟩ | ⟨go, Nx, hNx, step⟩
    · have td := T.done (X.blk s3 H3 scope ce fp) rfl rfl rfl hc i [] s5 _ H5 (fun _ _ => False) I5 (stat I5 n5) st5 stop
      refine thnF td fun r s6 ⟨hr, I6⟩ => ?_
      subst hr
      -- back in the def's context
      have I7 : Inv X pins σ H5 s6 := I3.call' (ch := fp) I6.os I6.base I6.hok I6.bare fun b hb => ⟨(f3 b hb).1.2.2.2.1, (f3 b hb).1.2.1, (f3 b hb).1.2.2.2.2.1, (f3 b hb).1.2.2.2.2.2⟩
      have nC : H5 s3.heap.objs.size = none := by
        have z : H5 ce.locals = none := I6.free
        rw [cL] at z
        exact z
      obtain ⟨m, hn, _⟩ := I6.loc
      have hn : s6.heap.Ns ce.locals m := hn
      rw [cL] at hn
      exact hRR D s3.heap.objs.size s6 m H5 I7 qq hn (I3.fpOk (Nat.le_refl _) nC)
    · have ti := T.item (X.blk s3 H3 scope ce fp) rfl rfl rfl hc i [] s5 _ H5 (fun _ _ => False) I5 (stat I5 n5) st5 go
      refine thnF ti fun r s6 ⟨u, hr, h6⟩ => ?_
      subst hr
      refine thnF h6 fun _ s7 ⟨x, H7, I7, r7, y7, st7, n7⟩ => ?_
      have I7' := I7.pinned (stat I7 n7) (T.obj _ _ st7)
      refine thnF (pg.run _ s7 _ H7 x u _ I7' r7 (step x H7 y7)) fun _ s8 ⟨σ8, H8, I8, hw8, q8⟩ => ?_
      refine thnF (pt.run _ s8 σ8 H8 _ I8 q8) fun b s9 ⟨H9, I9, q9⟩ => ?_
      -- the turn's end
      have fin : ∀ {s' : Shared} {H' : Hp}, Inv (X.blk s3 H3 scope ce fp) ([] ++ pinsAt fp s7.heap) σ8 H' s' → Nx H' → ∃ m, m < n ∧ ∃ i H', Inv (X.blk s3 H3 scope ce fp) [] (wipe σ (own.map (·.2))) H' s' ∧ tn i s'.heap ∧ (∀ b ∈ fp, H' b = none) ∧ W i m H' := fun {s' H'} I' nx => by
        obtain ⟨m', hm, w'⟩ := hNx H' nx
        have pin' : ∀ b ∈ fp, ∀ o, s7.heap.get? b = some o → s'.heap.get? b = some o ∧ H' b = none := fun b hb o e =>
          let z := I'.pin (b, o) (List.mem_append_right _ (List.mem_append_right _ (mem_pinsAt hb e)))
          ⟨z.1, z.2.1⟩
        have hl : (wipe σ (own.map (·.2))).length = σ8.length := by rw [← hw8, wipe_length]
        refine ⟨m', hm, i + 1, H', (I'.unpinned (pins := [])).weak hl (fun j v e => ?_), T.keep _ _ _ st7 fun b hb o e => (pin' b hb o e).1, fun b hb => ?_, w'⟩
        · rw [← hw8] at e
          exact (wipe_some e).1
        · obtain ⟨o, e, _⟩ := T.obj _ _ st7 b hb
          exact (pin' b hb o e).2
      cases b with
      | false =>
        simp only [Bool.false_eq_true, if_false] at q9 ⊢
        exact fin I9 q9
      | true =>
        simp only [if_true] at q9 ⊢
        refine thnF (pk.run _ s9 σ8 H9 _ I9 q9) fun z s10 ⟨yk, H10, I10, r10, q10⟩ => ?_
        refine thnF (pe.run _ s10 σ8 H10 _ I10 q10) fun z2 s11 ⟨yv, H11, I11, r11, kvs, k, b, ek, hb11, hD11, hz11, nx⟩ => ?_
        subst ek
        exact d_dictSetT (X := X.blk s3 H3 scope ce fp) hu I11 hb11 hD11 hz11 r10 r11 fun s12 I12 => fin I12 nx
  exact codeAny_compStart_dict loop (T.self X.A 0 _ _ _ st4 loop)
/-- as a value -/
theorem pe_dcT {kx vx tg iter : Expr} {ifs : List Expr} {scope : Scope} {own : List (Str × Nat)} {pos : Pos} {wi : L2.TI} {g : TG} {tt : TT} {tk tv : TE} (hu : X.A.units + 64 < cLine) (hc : X.calm = true) (hN : X.N.Nodup) (hi : PI X tg iter wi) (ok : BlkOk X.N X.env.scope scope own)
    (hg : ∀ (s : Shared) (H : Hp) (C : Addr) (cl : List (Str × Addr)) (fp : List Addr), PG (X.blk s H scope (compEnvC scope cl C X.env) fp) tg g) (ht : ∀ (s : Shared) (H : Hp) (C : Addr) (cl : List (Str × Addr)) (fp : List Addr), PTs (X.blk s H scope (compEnvC scope cl C X.env) fp) ifs tt)
    (hk : ∀ (s : Shared) (H : Hp) (C : Addr) (cl : List (Str × Addr)) (fp : List Addr), PE (X.blk s H scope (compEnvC scope cl C X.env) fp) kx tk)
    (he : ∀ (s : Shared) (H : Hp) (C : Addr) (cl : List (Str × Addr)) (fp : List Addr), PE (X.blk s H scope (compEnvC scope cl C X.env) fp) vx tv) (hs : ∀ x, foldedSetIterable iter X.env x = pure x := by intro _; rfl) :
    PE X (.DictComp kx vx [⟨tg, iter, ifs, 0⟩] scope pos) (tDcT wi g tt tk tv (own.map (·.2))) := by
  refine ⟨fun pins s σ H Q I h => ?_⟩
  rw [arm_eval_DictComp]
  refine dcT_core hu hc hN I hi ok hg ht hk he hs h fun D C s' m H' I' q hn f => ⟨m, hn, fun h'' sb => ?_⟩
  obtain ⟨f0, f1, f2, f3, f4, f5⟩ := f
  exact ⟨.ref D, H', I'.turned (t' := s'.toks) (fun b o hb e => (sb.2 b hb).trans e) f0 f1 f3 f4 f5, rfl, q⟩
end
variable {c : Cxt}
/-- a dict of n tuple keys -/
def DTn (n : Nat) : SV c := ⟨fun v H => ∃ a kvs, v = .ref a ∧ H a = some (.dT kvs) ∧ kvs.length = n, fun {v H0 H1} g h => by
  obtain ⟨a, kvs, e, h1, h2⟩ := h
  exact ⟨a, kvs, e, g.ext _ _ h1 fun ps z => (by cases z), h2⟩⟩
theorem KS_kV : ∀ s : List Nat, (KS s).map kV = (s.map fun k : Nat => (k : Int)).map V.int
  | [] => rfl
  | a :: s => by
    have := KS_kV s
    show V.int a :: _ = V.int a :: _
    rw [← this]
theorem KS_inj : ∀ {s t : List Nat}, KS s = KS t → s = t
  | [], [], _ => rfl
  | [], _ :: _, h => by cases h
  | _ :: _, [], h => by cases h
  | a :: s, b :: t, h => by
    obtain ⟨h1, h2⟩ := List.cons.inj h
    have h3 : (a : Int) = (b : Int) := Sum.inl.inj h1
    have h4 : KS s = KS t := h2
    have : a = b := by omega
    rw [this, KS_inj h4]
theorem valV_none {α : Type} [DecidableEq α] {k : α} : ∀ {kvs : List (α × V)}, k ∉ kvs.map (·.1) → valV kvs k = none
  | [], _ => rfl
  | p :: r, h => by
    rw [List.map_cons, List.mem_cons, not_or] at h
    rw [valV_neg (fun e => h.1 e.symm), valV_none h.2]
section
variable {σ σ2 : L2.St} {H H' H0 : Hp} {tk tv : TE} {tt : TT} {g0 : TG} {vs : List Nat} {wi : L2.TI}
theorem ev_dcT (xs : List (List Nat)) (nd : xs.Nodup) (h : EvI c wi σ H (xs.map ST)) (hn : xs.length ≤ 50000)
    (hb : ∀ a x Hc, a ∈ xs → Gr c H Hc → (ST (c := c) a).p x Hc → ∃ σ2, Tg g0 x (wipe σ vs) Hc σ2 ∧ wipe σ2 vs = wipe σ vs ∧ Ev c tk σ2 Hc (Eqv x) ∧ Ev c tv σ2 Hc AnyI) :
    Ev c (tDcT wi g0 tYes tk tv vs) σ H (DTn xs.length) := fun H1 g Q q => h H1 g _ fun J G H2 g2 s kG => by
  intro Dl hD
  have hGr : Gr c H H2 := g.trans g2
  refine ⟨fun i m H' => m = xs.length - i ∧ i ≤ xs.length ∧ Gr c H2 H' ∧ ∃ kvs, H' Dl = some (.dT kvs) ∧ kvs.map (·.1) = (xs.take i).map KS, ⟨xs.length, by simp, Nat.zero_le _, g2.new hD, [], upd_same, by simp⟩, ?_⟩
  rintro i m H' ⟨rfl, hi, gr, kvs, hacc, hkeys⟩
  have hG : G H' := kG H' gr
  by_cases hlt : i < xs.length
  · refine .inr ⟨s.goes i H' (by rw [List.length_map]; exact hlt) hG, fun H'' => Gr c H2 H'' ∧ ∃ kvs, H'' Dl = some (.dT kvs) ∧ kvs.map (·.1) = (xs.take (i + 1)).map KS, fun H'' p => ⟨xs.length - (i + 1), by omega, rfl, hlt, p⟩, fun x H3 y => ?_⟩
    have hPi : (xs.map (ST (c := c)))[i]? = some (ST xs[i]) := by rw [List.getElem?_map, List.getElem?_eq_getElem hlt]; rfl
    obtain ⟨g3, hx⟩ := s.yields i H' x H3 _ hPi hG gr.self y
    have g03 : Gr c H2 H3 := gr.trans g3
    obtain ⟨σ2, ht, hw, htk, htv⟩ := hb xs[i] x H3 (List.getElem_mem hlt) (hGr.trans g03) hx
    refine ht _ ⟨hw, ?_⟩
    show tk σ2 H3 _
    refine htk H3 g3.self.self _ fun y H4 g4 ey => htv H4 g4 _ fun z H5 g5 _ => ?_
    obtain rfl : y = x := ey
    have hacc5 : H5 Dl = some (.dT kvs) := g5.ext _ _ (g4.ext _ _ (g3.ext _ _ hacc fun ps z => by cases z) fun ps z => by cases z) fun ps z => by cases z
    obtain ⟨p, us, rfl, hp, hus⟩ := (ST xs[i]).st (g4.trans g5) hx
    have hkl := congrArg List.length hkeys
    rw [List.length_map, List.length_map, List.length_take] at hkl
    have hnew : valV kvs (KS xs[i]) = none := valV_none (by
      rw [hkeys]
      intro z
      obtain ⟨t, ht, e⟩ := List.mem_map.mp z
      have e := KS_inj e
      rw [e] at ht
      obtain ⟨j, hj, e2⟩ := List.mem_take_iff_getElem.mp ht
      have := (List.getElem_inj nd).mp e2
      omega)
    have ep : putK kvs (KS xs[i]) z = kvs ++ [(KS xs[i], z)] := by
      unfold putK
      rw [valV_any, hnew]
      rfl
    refine ⟨kvs, KS xs[i], p, rfl, by rw [hp, KS_kV, hus.nats], hacc5, sz_lt (by omega), ((g03.trans g4).trans g5).mut hD hacc5 True.intro, _, upd_same, ?_⟩
    rw [ep, List.map_append, hkeys, List.take_add_one, List.getElem?_eq_getElem hlt, List.map_append]
    rfl
  · have e : i = xs.length := by omega
    subst e
    have hkl := congrArg List.length hkeys
    rw [List.length_map, List.length_map, List.take_of_length_le (Nat.le_refl _)] at hkl
    exact .inl ⟨by have := s.stops H' hG; rw [List.length_map] at this; exact this, q _ H' (g2.trans gr) ⟨Dl, kvs, rfl, hacc, hkl⟩⟩
end
end


section
open PySem PySem.Spec PyProof.Rows L2 LamX
variable {c : Cxt} {P : Program} {w : World} {mg : Str → Option Value} {base : Heap} {f : Addr} {fd : FuncData}
theorem genS_nodup : ∀ n, (genS n).Nodup
  | 0 => by simp [genS]
  | n + 1 => by
    rw [genS, List.nodup_append]
    refine ⟨genS_nodup n, ?_, fun a ha b hb => ?_⟩
    · refine List.Pairwise.map _ (fun a b h => ?_) (genS_nodup n)
      intro z
      exact h (List.append_cancel_right z)
    · obtain ⟨t, _, rfl⟩ := List.mem_map.mp hb
      rintro rfl
      have := (genS_mem ha).2 n (List.mem_append_right _ (by simp))
      omega
theorem sets_nodup (n : Nat) : (sets n).Nodup := (sets_perm n).nodup_iff.mpr (genS_nodup n)
def keptAt (n : Nat) (its : List Itm) (k : Nat) : List (List Nat) := (sets n).filter fun s => decide (s.length = k) && !losing n its s
def R_loads_after (As : List (SV c)) (Z : SV c) : Prop := ∃ (n : Nat) (its : List Itm) (k : Nat), As = [Lay n its, I (k : Int)] ∧ WfL n its ∧ k ≤ n ∧ Z = DTn (keptAt n its k).length
abbrev N_loads_after : List Str := ["layout", "failures", "sets", "down"]
theorem sc_loads_after : FnScope N_loads_after ["layout", "failures"] (defScope s_loads_after) := ⟨rfl, rfl, rfl, by decide +kernel, rfl, by decide +kernel, by decide +kernel⟩
theorem ok_loads_after (F : FnP c.K "loads_after" "loads_after" s_loads_after f fd) (Bt : Bts c mg) (C : Cl c) (Il : IsL c) (h_check_layout : Has P w c.K mg base "check_layout" ["layout"] 1 (Pm c R_check_layout)) (h_is_number : Has P w c.K mg base "is_number" ["thing", "least", "most"] 1 (Pm c R_is_number)) (h_sets_of : Has P w c.K mg base "sets_of" ["servers"] 5 (Pm c R_sets_of)) (h_is_losing : Has P w c.K mg base "is_losing" ["layout", "down"] 6 (Pm c R_is_losing)) (h_load_of : Has P w c.K mg base "load_of" ["layout"] 6 (Pm c R_load_of)) (h_after : Has P w c.K mg base "after" ["layout", "down"] 6 (Pm c R_after)) : FnOk P w c.K mg base CX0 8 f fd ["layout", "failures"] (Pm c R_loads_after) := by
  refine okP F sc_loads_after (fun As Z h => by obtain ⟨_, _, _, rfl, _⟩ := h; rfl) fun cdv A outer s H vs Q E As Z hr hA hR g k => ?_
  have nd := sc_loads_after.nd
  obtain ⟨n, its, m, rfl, hw, hm, rfl⟩ := hR
  obtain ⟨v0, v1, rfl, h0, h1⟩ := hA.inv2
  have hhi := hw.hi
  have hz := sets_le hw.hi
  refine ⟨_, (pss_cons (ps_expr (pe_callH h_check_layout (hr.mono (by decide)) rfl (pa_cons (pv 0) pa_nil)))
    (pss_cons (ps_if (pt_not (pt_val (pe_callH h_is_number (hr.mono (by decide)) rfl (pa_cons (pv 1) (pa_cons pe_int (pa_cons (pe_fldQ (K := c.K) rfl (pv 0) rfl) pa_nil)))))) pss_never pss_nil)
    (pss_cons (ps_setLc (own := [("down", 3)]) (i := 2) rfl nd rfl rfl (sw_true rfl rfl rfl (by decide +kernel)) (pi_listQ (K := c.K) rfl (pe_callH h_sets_of (hr.mono (by decide)) rfl (pa_cons (pe_fldQ (K := c.K) rfl (pv 0) rfl) pa_nil))) (blkOk_by (own := [("down", 3)]) (N := N_loads_after) (sc := defScope s_loads_after) (by decide +kernel)) (fun _ _ _ _ _ => (pg_name (i := 3) nd rfl (Or.inl rfl))) (fun _ _ _ _ _ => (pts_one (PW.pt (pw_and (pt_cmpR op_eq (pe_callB (cl_lenQ (K := c.K) rfl) (by rfl) Bt.blen (by decide +kernel) (pa_cons (pv 3) pa_nil)) (pv 1) (nomark _)) (pw_and1 (pt_not (pt_val (pe_callH h_is_losing (hr.mono (by decide)) rfl (pa_cons (pv 0) (pa_cons (pv 3) pa_nil)))))))))) (fun _ _ _ _ _ => (pv 3)))
    (pss_one (ps_ret (pe_dcT (own := [("down", 3)]) hr.units rfl nd (pi_listQ (K := c.K) rfl (pv 2)) (blkOk_by (own := [("down", 3)]) (N := N_loads_after) (sc := defScope s_loads_after) (by decide +kernel)) (fun _ _ _ _ _ => (pg_name (i := 3) nd rfl (Or.inl rfl))) (fun _ _ _ _ _ => pts_nil) (fun _ _ _ _ _ => (pv 3)) (fun _ _ _ _ _ => (pe_callH h_load_of (hr.mono (by decide)) rfl (pa_cons (pe_callH h_after (hr.mono (by decide)) rfl (pa_cons (pv 0) (pa_cons (pv 3) pa_nil))) pa_nil))))))))), ?_⟩
  refine q_drop g (ev_call (ea_cons (ev_var rfl h0) ea_nil) ⟨_, _, rfl, True.intro, rfl⟩) fun H1 g1 => ?_
  refine q_no (H0 := H) g1 (EvT.to (et_not (et_B (ev_call (ea_cons (ev_var rfl h1) (ea_cons ev_c (ea_cons (ev_servers C (ev_var rfl h0)) ea_nil))) ⟨_, _, _, rfl, by omega, by omega, rfl⟩))) rfl) fun H2 g2 => ?_
  have g12 := g1.trans g2
  refine q_asg (H0 := H) g12 (P := LST (keptAt n its m)) (ef_lcm (sets n) ST (fun s => decide (s.length = m) && !losing n its s) ST (ei_list (ev_call (ea_cons (ev_servers C (ev_var rfl h0)) ea_nil) ⟨n, rfl, hhi, rfl⟩)) (by omega) fun a x Hc ha gc hx => ?_).ev fun v2 H3 g3 h2 => ?_
  · exact ⟨_, tg_name, rfl, et_and (EvT.to (et_test (ev_op rv_eqI (ev_cb rc_lenT (ea_cons (ev_var (P := S a) rfl (ST.s hx)) ea_nil)) (ev_var rfl ((I (m : Int)).st gc h1)))) (by rw [List.length_map, dEq])) fun _ => et_not (et_B (ev_call (ea_cons (ev_var rfl ((Lay n its).st gc h0)) (ea_cons (ev_var (P := S a) rfl (ST.s hx)) ea_nil)) ⟨_, _, _, rfl, hw, rfl⟩)), fun _ => ev_var rfl hx⟩
  have g13 := g12.trans g3
  have hkl : (keptAt n its m).length ≤ 64 := by
    have := List.length_filter_le (fun s => decide (s.length = m) && !losing n its s) (sets n)
    unfold keptAt
    omega
  refine s_ret (H0 := H3) g3.self.self (ev_dcT (keptAt n its m) ((sets_nodup n).filter _) (ei_list (ev_var rfl h2)) (by omega) fun a x Hc ha gc hx => ?_) fun v H4 g4 e4 => k v H4 (g13.trans g4) e4
  have hnl : losing n its a = false := by
    have := (List.mem_filter.mp ha).2
    rw [Bool.and_eq_true] at this
    cases q : losing n its a with
    | false => rfl
    | true => rw [q] at this; exact absurd this.2 (by decide)
  have hw2 := wf_after hw hnl
  exact ⟨_, tg_name, rfl, ev_var rfl rfl, ev_call (ea_cons (ev_call (ea_cons (ev_var rfl ((Lay n its).st (g13.trans gc) h0)) (ea_cons (ev_var (P := S a) rfl (ST.s hx)) ea_nil)) ⟨_, _, _, rfl, ⟨hw, hw2⟩, rfl⟩) ea_nil) ⟨_, _, rfl, hw2, rfl⟩⟩
end


/-! what the law draws, in plain Lean -/
section
def cellsOf (xs : List Int) : List Int := if xs = [] then [7] else xs.take 60
def cellAt (xs : List Int) (at_ : Nat) : Int := ((cellsOf xs)[at_ % (cellsOf xs).length]?.getD 0) + 31 * ((at_ : Int) / ((cellsOf xs).length : Int))
def mixAt (xs : List Int) (at_ : Nat) : Int := (cellAt xs at_ % 1000003 + 977 * (at_ : Int) + 13) * 48271 + cellAt xs at_ / 1000003 % 999983
def lawNum (xs : List Int) (at_ : Nat) : Int := mixAt xs at_ % 2147483647 * 65537 % 4294967291
theorem lawNum_nn (xs : List Int) (a : Nat) : 0 ≤ lawNum xs a := Int.emod_nonneg _ (by decide)
theorem cells_pos (xs : List Int) : 0 < (cellsOf xs).length := by
  unfold cellsOf
  split
  · decide
  · rename_i h
    rw [List.length_take]
    have : 0 < xs.length := List.length_pos_iff.mpr h
    omega
def hold0 (xs : List Int) (first n : Nat) : List Nat := (List.range n).filter fun s => decide (lawNum xs (first + s) % 2 = 0)
def hold (xs : List Int) (first n : Nat) : List Nat := if hold0 xs first n = [] then [(lawNum xs (first + 8) % (n : Int)).toNat] else hold0 xs first n
def lawNeed (xs : List Int) (first n : Nat) : Nat := if lawNum xs (first + 9) % 3 = 0 then (1 + lawNum xs (first + 9) / 3 % ((hold xs first n).length : Int)).toNat else 1
def lawItem (xs : List Int) (first n : Nat) : Itm := (hold xs first n, lawNeed xs first n)
def lawMany (xs : List Int) (at_ most : Nat) : Nat := (1 + lawNum xs at_ % (most : Int)).toNat
def lawItems (xs : List Int) (at_ n most : Nat) : List Itm := (List.range (lawMany xs at_ most)).map fun row => lawItem xs (at_ + 1 + 10 * row) n
theorem hold_pos (xs : List Int) (first n : Nat) : 0 < (hold xs first n).length := by
  unfold hold
  split
  · simp
  · rename_i h
    exact List.length_pos_iff.mpr h
theorem hold_wf {xs : List Int} {first n : Nat} (hn : 1 ≤ n) : WfS n (hold xs first n) := by
  unfold hold
  split
  · refine ⟨List.pairwise_singleton _ _, fun k hk => ?_⟩
    have hk : k = (lawNum xs (first + 8) % (n : Int)).toNat := by simpa using hk
    have h1 := Int.emod_nonneg (lawNum xs (first + 8)) (show (n : Int) ≠ 0 by omega)
    have h2 := Int.emod_lt_of_pos (lawNum xs (first + 8)) (show (0 : Int) < (n : Int) by omega)
    omega
  · exact ⟨List.Pairwise.filter _ List.pairwise_lt_range, fun k hk => List.mem_range.mp (List.mem_filter.mp hk).1⟩
theorem lawItem_wf {xs : List Int} {first n : Nat} (hn : 1 ≤ n) : WfI n (lawItem xs first n) := by
  have hp := hold_pos xs first n
  refine ⟨hold_wf hn, ?_, ?_⟩
  · show 1 ≤ lawNeed xs first n
    unfold lawNeed
    split
    · have h1 := Int.emod_nonneg (lawNum xs (first + 9) / 3) (show ((hold xs first n).length : Int) ≠ 0 by omega)
      omega
    · exact Nat.le_refl _
  · show lawNeed xs first n ≤ (hold xs first n).length
    unfold lawNeed
    split
    · have h1 := Int.emod_nonneg (lawNum xs (first + 9) / 3) (show ((hold xs first n).length : Int) ≠ 0 by omega)
      have h2 := Int.emod_lt_of_pos (lawNum xs (first + 9) / 3) (show (0 : Int) < ((hold xs first n).length : Int) by omega)
      omega
    · exact hp
theorem lawMany_bd {xs : List Int} {at_ most : Nat} (hm : 1 ≤ most) : 1 ≤ lawMany xs at_ most ∧ lawMany xs at_ most ≤ most := by
  unfold lawMany
  have h1 := Int.emod_nonneg (lawNum xs at_) (show (most : Int) ≠ 0 by omega)
  have h2 := Int.emod_lt_of_pos (lawNum xs at_) (show (0 : Int) < (most : Int) by omega)
  omega
theorem lawItems_wf {xs : List Int} {at_ n most : Nat} (h1 : 1 ≤ n) (h2 : n ≤ 6) (h3 : 1 ≤ most) (h4 : most ≤ 10) : WfL n (lawItems xs at_ n most) := by
  obtain ⟨a, b⟩ := lawMany_bd (xs := xs) (at_ := at_) h3
  refine ⟨h1, h2, ?_, ?_, fun it hit => ?_⟩
  · unfold lawItems; rw [List.length_map, List.length_range]; exact a
  · unfold lawItems; rw [List.length_map, List.length_range]; omega
  · obtain ⟨row, _, rfl⟩ := List.mem_map.mp hit
    exact lawItem_wf h1
def overI (m k : Nat) : Int := (List.range k).foldl (fun (a : Int) (j : Nat) => a * ((m : Int) - (j : Int)) / ((j : Int) + 1)) 1
def subStep (rows : List (List Nat)) (s : Nat) : List (List Nat) := rows ++ rows.map (· ++ [s])
def subsOf (h : List Nat) : List (List Nat) := h.foldl subStep [[]]
def plainOf (it : Itm) : List Itm := ((subsOf it.1).filter fun r => decide (((r.length : Nat) : Int) = (it.1.length : Int) - (it.2 : Int) + 1)).map fun r => (r, 1)
def lawPlain (its : List Itm) : List Itm := its.foldl (fun a it => a ++ plainOf it) []
theorem subs_len : ∀ (h : List Nat) (rows : List (List Nat)), (h.foldl subStep rows).length = rows.length * 2 ^ h.length
  | [], rows => by simp
  | a :: h, rows => by
    rw [List.foldl_cons, subs_len h, subStep, List.length_append, List.length_map, List.length_cons, Nat.pow_succ]
    rw [← Nat.mul_two, Nat.mul_assoc, Nat.mul_comm 2]
theorem subsOf_len (h : List Nat) : (subsOf h).length = 2 ^ h.length := by
  unfold subsOf
  rw [subs_len]
  simp
theorem subsOf_le {h : List Nat} (hl : h.length ≤ 6) : (subsOf h).length ≤ 64 := by
  rw [subsOf_len]
  exact Nat.pow_le_pow_right (by decide) hl
theorem plainOf_le {it : Itm} (hl : it.1.length ≤ 6) : (plainOf it).length ≤ 64 := by
  unfold plainOf
  rw [List.length_map]
  exact Nat.le_trans (List.length_filter_le _ _) (subsOf_le hl)
theorem plain_le : ∀ {its : List Itm} {a : List Itm}, (∀ it ∈ its, it.1.length ≤ 6) → (its.foldl (fun a it => a ++ plainOf it) a).length ≤ a.length + 64 * its.length
  | [], a, _ => by simp
  | it :: its, a, h => by
    have h1 := plain_le (its := its) (a := a ++ plainOf it) fun x hx => h x (List.mem_cons_of_mem _ hx)
    have h2 := plainOf_le (h it (List.mem_cons_self ..))
    rw [List.length_append] at h1
    rw [List.foldl_cons, List.length_cons]
    omega
theorem subs_rows : ∀ {h : List Nat} {rows : List (List Nat)} {m : Nat}, (∀ r ∈ rows, r.length ≤ m) → ∀ r ∈ h.foldl subStep rows, r.length ≤ m + h.length
  | [], _, _, hr, r, hm => by simpa using hr r hm
  | a :: h, rows, m, hr, r, hm => by
    have := subs_rows (h := h) (rows := subStep rows a) (m := m + 1) (fun r hr' => by
      unfold subStep at hr'
      rcases List.mem_append.mp hr' with hr' | hr'
      · have := hr r hr'; omega
      · obtain ⟨t, ht, rfl⟩ := List.mem_map.mp hr'
        have := hr t ht
        rw [List.length_append, List.length_singleton]
        omega) r hm
    rw [List.length_cons]
    omega
def lawCh (xs : List Int) (n : Nat) : List Nat := (List.range n).map fun a => (lawNum xs (90 + a) % 13).toNat
theorem lawCh_len (xs : List Int) (n : Nat) : (lawCh xs n).length = n := by unfold lawCh; rw [List.length_map, List.length_range]
theorem lawCh_le (xs : List Int) (n : Nat) : ∀ x ∈ lawCh xs n, x ≤ 12 := by
  intro x hx
  obtain ⟨a, _, rfl⟩ := List.mem_map.mp hx
  have h2 := Int.emod_lt_of_pos (lawNum xs (90 + a)) (show (0 : Int) < 13 by decide)
  omega
end


section
open PySem PySem.Spec PyProof.Rows L2 LamX
variable {c : Cxt} {P : Program} {w : World} {mg : Str → Option Value} {base : Heap} {f : Addr} {fd : FuncData}
abbrev Scr (xs : List Int) : SV c := LstOf (xs.map I)
def R_law_number (As : List (SV c)) (Z : SV c) : Prop := ∃ (xs : List Int) (a : Nat), As = [Scr xs, I (a : Int)] ∧ True ∧ Z = I (lawNum xs a)
abbrev N_law_number : List Str := ["_law_script", "_law_at", "_law_cells", "_law_cell", "_law_mixed"]
theorem sc_law_number : FnScope N_law_number ["_law_script", "_law_at"] (defScope s_law_number) := ⟨rfl, rfl, rfl, by decide +kernel, rfl, by decide +kernel, by decide +kernel⟩
theorem ok_law_number (F : FnP c.K "_law_number" "_law_number" s_law_number f fd) (Bt : Bts c mg) (C : Cl c) (Il : IsL c)  : FnOk P w c.K mg base CX0 1 f fd ["_law_script", "_law_at"] (Pm c R_law_number) := by
  refine okP F sc_law_number (fun As Z h => by obtain ⟨_, _, rfl, _⟩ := h; rfl) fun cdv A outer s H vs Q E As Z hr hA hR g k => ?_
  have nd := sc_law_number.nd
  obtain ⟨xs, a, rfl, -, rfl⟩ := hR
  obtain ⟨v0, v1, rfl, h0, h1⟩ := hA.inv2
  obtain rfl : v1 = _ := h1
  have hp := cells_pos xs
  refine ⟨_, (pss_cons (ps_set (i := 2) nd rfl (Or.inl rfl) (pe_ifExp (pt_cmpR (op_neDQ (K := c.K) rfl hr.units) (pv 0) (pe_lst pa_nil) (nomark _)) (pe_slice (sl_listQ (K := c.K) rfl) (pv 0) po_none (po_some pe_int)) (pe_lst (pa_cons pe_int pa_nil))))
    (pss_cons (ps_set (i := 3) nd rfl (Or.inl rfl) (pe_op op_add (pe_ix (ix_listQ (K := c.K) rfl) (pv 2) (pe_op op_mod (pv 1) (pe_callB (cl_lenQ (K := c.K) rfl) (by rfl) Bt.blen (by decide +kernel) (pa_cons (pv 2) pa_nil))) (fun _ _ => rfl)) (pe_op op_mul pe_int (pe_op op_fdiv (pv 1) (pe_callB (cl_lenQ (K := c.K) rfl) (by rfl) Bt.blen (by decide +kernel) (pa_cons (pv 2) pa_nil))))))
    (pss_cons (ps_set (i := 4) nd rfl (Or.inl rfl) (pe_op op_add (pe_op op_mul (pe_op op_add (pe_op op_add (pe_op op_mod (pe_callTy call_int1 (by rfl) Bt.bint (by decide +kernel) (pa_cons (pv 3) pa_nil)) pe_int) (pe_op op_mul pe_int (pv 1))) pe_int) pe_int) (pe_op op_mod (pe_callTy call_int1 (by rfl) Bt.bint (by decide +kernel) (pa_cons (pe_op op_fdiv (pv 3) pe_int) pa_nil)) pe_int)))
    (pss_one (ps_ret (pe_op op_mod (pe_op op_mul (pe_op op_mod (pv 4) pe_int) pe_int) pe_int)))))), ?_⟩
  refine q_asg g (P := LI (cellsOf xs)) (ev_if (et_test (ev_op (rv_neLI (m := [])) (ev_var rfl h0) (ef_lst ea_nil (by simp)).ev)) (fun hb => ?_) fun hb => ?_) fun v2 H1 g1 h2 => ?_
  · have hx : xs ≠ [] := by
      intro z
      rw [decide_eq_true z] at hb
      cases hb
    have e : cellsOf xs = xs.take 60 := by unfold cellsOf; rw [if_neg hx]
    rw [e]
    exact Ev.to (ef_slTo (n := 60) (ev_var rfl h0) eo_none (eo_some ev_c)).ev (by rw [← List.map_take])
  · have hx : xs = [] := by
      by_cases z : xs = []
      · exact z
      · rw [decide_eq_false z] at hb; cases hb
    have e : cellsOf xs = [7] := by unfold cellsOf; rw [if_pos hx]
    rw [e]
    exact (ef_lst (Ps := [I 7]) (ea_cons ev_c ea_nil) (by simp)).ev
  have hlen : (cellsOf xs).length ≤ 60 := by
    unfold cellsOf
    split
    · decide
    · exact List.length_take_le _ _
  obtain ⟨cl, hcl⟩ : ∃ cl, (cellsOf xs)[a % (cellsOf xs).length]? = some cl := ⟨_, List.getElem?_eq_getElem (Nat.mod_lt _ hp)⟩
  have hLen : ∀ {σ : L2.St} {H' : Hp}, σ[2]? = some (some v2) → Gr c H1 H' → Ev c (tCB (fun xs H Q => ∃ p ys, xs = [.ref p] ∧ (SqL c.K H p ys ∨ SqT c.K H p ys) ∧ Q (.int ys.length) H) (tCons (tVar 2) tNil)) σ H' (I ((cellsOf xs).length : Int)) := fun s g' => Ev.to (ev_cb rc_lenL (ea_cons (ev_var s ((LI _).st g' h2)) ea_nil)) (by rw [List.length_map])
  refine q_asg (H0 := H1) g1.self (P := I (cellAt xs a)) (Ev.to (ev_op rv_I0 (ev_op (rv_ixL (P := I cl) (i := a % (cellsOf xs).length) (by rw [List.getElem?_map, hcl]; rfl)) (ev_var rfl h2) (Ev.to (ev_op (rv_I (by omega)) (ev_var (P := I (a : Int)) rfl rfl) (hLen rfl g1.self)) (congrArg (fun i : Int => I i) (Int.natCast_emod a (cellsOf xs).length).symm))) (ev_op (rv_I (.inl ⟨by decide, by decide⟩)) ev_c (ev_op (rv_I ⟨by omega, by omega⟩) (ev_var (P := I (a : Int)) rfl rfl) (hLen rfl g1.self)))) (by unfold cellAt; rw [hcl]; rfl)) fun v3 H2 g2 h3 => ?_
  obtain rfl : v3 = _ := h3
  refine q_asg (H0 := H2) g2.self.self (P := I (mixAt xs a)) (ev_op rv_I0 (ev_op (rv_I (.inr ⟨by decide, by decide⟩)) (ev_op rv_I0 (ev_op rv_I0 (ev_op (rv_I (by decide)) (ev_cb rc_int (ea_cons (ev_var (P := I (cellAt xs a)) rfl rfl) ea_nil)) ev_c) (ev_op (rv_I (.inl ⟨by decide, by decide⟩)) ev_c (ev_var (P := I (a : Int)) rfl rfl))) ev_c) ev_c) (ev_op (rv_I (by decide)) (ev_cb rc_int (ea_cons (ev_op (rv_I ⟨by decide, by decide⟩) (ev_var (P := I (cellAt xs a)) rfl rfl) ev_c) ea_nil)) ev_c)) fun v4 H3 g3 h4 => ?_
  obtain rfl : v4 = _ := h4
  exact s_ret (H0 := H3) g3.self.self (P := I (lawNum xs a)) (ev_op (rv_I (by decide)) (ev_op (rv_I (.inr ⟨by decide, by decide⟩)) (ev_op (rv_I (by decide)) (ev_var (P := I (mixAt xs a)) rfl rfl) ev_c) ev_c) ev_c) fun v H4 g4 e4 => k v H4 (((g1.trans g2).trans g3).trans g4) e4
def R_law_items (As : List (SV c)) (Z : SV c) : Prop := ∃ (xs : List Int) (a n most : Nat), As = [Scr xs, I (a : Int), I (n : Int), I (most : Int)] ∧ (1 ≤ n ∧ n ≤ 6 ∧ 1 ≤ most ∧ most ≤ 10) ∧ Z = LIt (lawItems xs a n most)
abbrev N_law_items : List Str := ["_law_script", "_law_at", "_law_servers", "_law_most", "_law_found", "_law_row", "_law_first", "_law_holders", "_law_drawn", "_law_need", "_law_server"]
theorem sc_law_items : FnScope N_law_items ["_law_script", "_law_at", "_law_servers", "_law_most"] (defScope s_law_items) := ⟨rfl, rfl, rfl, by decide +kernel, rfl, by decide +kernel, by decide +kernel⟩
theorem ok_law_items (F : FnP c.K "_law_items" "_law_items" s_law_items f fd) (Bt : Bts c mg) (C : Cl c) (Il : IsL c) (h_law_number : Has P w c.K mg base "_law_number" ["_law_script", "_law_at"] 1 (Pm c R_law_number)) : FnOk P w c.K mg base CX0 2 f fd ["_law_script", "_law_at", "_law_servers", "_law_most"] (Pm c R_law_items) := by
  refine okP F sc_law_items (fun As Z h => by obtain ⟨_, _, _, _, rfl, _⟩ := h; rfl) fun cdv A outer s H vs Q E As Z hr hA hR g k => ?_
  have nd := sc_law_items.nd
  obtain ⟨xs, a, n, most, rfl, ⟨hn1, hn2, hm1, hm2⟩, rfl⟩ := hR
  obtain ⟨v0, v1, v2, v3, rfl, h0, h1, h2, h3⟩ := hA.inv4
  obtain rfl : v1 = _ := h1
  obtain rfl : v2 = _ := h2
  obtain rfl : v3 = _ := h3
  obtain ⟨hb1, hb2⟩ := lawMany_bd (xs := xs) (at_ := a) hm1
  have hnn := lawNum_nn xs a
  refine ⟨_, (pss_cons (ps_set (i := 4) nd rfl (Or.inl rfl) (pe_lst pa_nil))
    (pss_cons (ps_for PassesOwn.never rfl (pi_range1 (by rfl) Bt.brange (pa_cons (pe_op op_add pe_int (pe_op op_mod (pe_callTy call_int1 (by rfl) Bt.bint (by decide +kernel) (pa_cons (pe_callH h_law_number (hr.mono (by decide)) rfl (pa_cons (pv 0) (pa_cons (pv 1) pa_nil))) pa_nil)) (pv 3))) pa_nil)) (pg_name (i := 5) nd rfl (Or.inl rfl)) (pss_cons (ps_set (i := 6) nd rfl (Or.inr rfl) (pe_op op_add (pe_op op_add (pv 1) pe_int) (pe_op op_mul pe_int (pv 5))))
    (pss_cons (ps_setLc (own := [("_law_server", 10)]) (i := 7) rfl nd rfl rfl (sw_true rfl rfl rfl (by decide +kernel)) (pi_range1 (by rfl) Bt.brange (pa_cons (pv 2) pa_nil)) (blkOk_by (own := [("_law_server", 10)]) (N := N_law_items) (sc := defScope s_law_items) (by decide +kernel)) (fun _ _ _ _ _ => (pg_name (i := 10) nd rfl (Or.inl rfl))) (fun _ _ _ _ _ => (pts_one (pt_cmpR op_eq (pe_op op_mod (pe_callTy call_int1 (by rfl) Bt.bint (by decide +kernel) (pa_cons (pe_callH h_law_number (hr.mono (by decide)) rfl (pa_cons (pv 0) (pa_cons (pe_op op_add (pv 6) (pv 10)) pa_nil))) pa_nil)) pe_int) pe_int (nomark _)))) (fun _ _ _ _ _ => (pv 10)))
    (pss_cons (ps_set (i := 7) nd rfl (Or.inl rfl) (pe_ifExp (pt_cmpR (op_neDQ (K := c.K) rfl hr.units) (pv 7) (pe_lst pa_nil) (nomark _)) (pv 7) (pe_lst (pa_cons (pe_op op_mod (pe_callTy call_int1 (by rfl) Bt.bint (by decide +kernel) (pa_cons (pe_callH h_law_number (hr.mono (by decide)) rfl (pa_cons (pv 0) (pa_cons (pe_op op_add (pv 6) pe_int) pa_nil))) pa_nil)) (pv 2)) pa_nil))))
    (pss_cons (ps_set (i := 8) nd rfl (Or.inl rfl) (pe_callTy call_int1 (by rfl) Bt.bint (by decide +kernel) (pa_cons (pe_callH h_law_number (hr.mono (by decide)) rfl (pa_cons (pv 0) (pa_cons (pe_op op_add (pv 6) pe_int) pa_nil))) pa_nil)))
    (pss_cons (ps_set (i := 9) nd rfl (Or.inl rfl) (pe_ifExp (pt_cmpR op_eq (pe_op op_mod (pv 8) pe_int) pe_int (nomark _)) (pe_op op_add pe_int (pe_op op_mod (pe_op op_fdiv (pv 8) pe_int) (pe_callB (cl_lenQ (K := c.K) rfl) (by rfl) Bt.blen (by decide +kernel) (pa_cons (pv 7) pa_nil)))) pe_int))
    (pss_one (ps_expr (pe_appendQ (K := c.K) rfl (pv 4) (pa_cons (pe_tup (pa_cons (pe_callTy (cl_tupleQ (K := c.K) rfl) (by rfl) Bt.btuple (by decide +kernel) (pa_cons (pv 7) pa_nil)) (pa_cons (pv 9) pa_nil))) pa_nil))))))))))
    (pss_one (ps_ret (pv 4))))), ?_⟩
  have hnum : ∀ {σ : L2.St} {H' : Hp} {ta : TE} (b : Nat), σ[0]? = some (some v0) → Gr c H H' → Ev c ta σ H' (I (b : Int)) → Ev c (tCB (fun xs H Q => (∃ i, xs = [.int i] ∧ Q (.int i) H) ∨ ∃ k, xs = [.bl k] ∧ Q (.int (if k then 1 else 0)) H) (tCons (tCall (Pm c R_law_number) [] E0 (tCons (tVar 0) (tCons ta tNil))) tNil)) σ H' (I (lawNum xs b)) := fun b s g' ha =>
    ev_cb rc_int (ea_cons (ev_call (ea_cons (ev_var s ((Scr xs).st g' h0)) (ea_cons ha ea_nil)) ⟨_, _, rfl, True.intro, rfl⟩) ea_nil)
  refine q_asgF g (P := L []) (ef_lst ea_nil (by simp)) fun l H1 n1 g1 ⟨l', vs, el, e1, e2⟩ => ?_
  obtain rfl : l = l' := V.ref.inj el
  obtain rfl := e2.nil_inv
  refine q_for (List.range (lawMany xs a most)) (fun k : Nat => I (k : Int)) g1 (es_range1 (ea_cons (Ev.to (ev_op rv_I0 ev_c (ev_op (rv_I (by omega)) (hnum a rfl g (ev_var rfl rfl)) (ev_var (P := I (most : Int)) rfl rfl))) (congrArg (fun i : Int => I i) (show 1 + lawNum xs a % (most : Int) = ((lawMany xs a most : Nat) : Int) by
    unfold lawMany
    have h1 := Int.emod_nonneg (lawNum xs a) (show (most : Int) ≠ 0 by omega)
    omega))) ea_nil) (by omega)) (fun i σ' H' => Gr c H H' ∧ (∃ ws, H' l = some (.lst ws) ∧ AllP (c := c) (((List.range i).map fun row => lawItem xs (a + 1 + 10 * row) n).map It1) ws H') ∧ ∃ u5 u6 u7 u8 u9 u10, σ' = [some v0, some (.int (a : Int)), some (.int (n : Int)), some (.int (most : Int)), some (.ref l), u5, u6, u7, u8, u9, u10])
    (fun H2 g2 => ⟨g1.trans g2, ⟨[], g2.lst e1, True.intro⟩, none, none, none, none, none, none, rfl⟩) (fun _ _ _ p => p.1) ?_ ?_
  · rintro i row x σ' H2 hi ⟨gp, ⟨ws, hws, hall⟩, u5, u6, u7, u8, u9, u10, rfl⟩ H3 g3 hx
    obtain rfl : x = _ := hx
    have hrow : row = i := by
      obtain ⟨h1, h2⟩ := List.getElem?_eq_some_iff.mp hi
      rw [List.getElem_range] at h2
      exact h2.symm
    subst hrow
    have hrb : row < lawMany xs a most := by have := (List.getElem?_eq_some_iff.mp hi).1; rw [List.length_range] at this; exact this
    have gp3 := gp.trans g3
    generalize hF : a + 1 + 10 * row = first
    show tSeq _ _ _ _ _
    refine q_asg (H0 := H3) gp3.self (P := I (first : Int)) (Ev.to (ev_op rv_I0 (ev_op rv_I0 (ev_var (P := I (a : Int)) rfl rfl) ev_c) (ev_op (rv_I (.inl ⟨by decide, by decide⟩)) ev_c (ev_var (P := I (row : Int)) rfl rfl))) (congrArg (fun i : Int => I i) (by omega))) fun v6 H4 g4 h6 => ?_
    obtain rfl : v6 = _ := h6
    have gp4 := gp3.trans g4
    refine q_asg (H0 := H4) gp4.self (P := LN (hold0 xs first n)) (ef_lcm (List.range n) (fun k : Nat => I (k : Int)) (fun s => decide (lawNum xs (first + s) % 2 = 0)) (fun k : Nat => I (k : Int)) (es_range1 (ea_cons (ev_var (P := I (n : Int)) rfl rfl) ea_nil) (by omega)).i (by rw [List.length_range]; omega) fun s y Hc hs gc hy => ?_).ev fun v7 H5 g5 h7 => ?_
    · obtain rfl : y = _ := hy
      exact ⟨_, tg_name, rfl, et_test (ev_op rv_eqI (ev_op (rv_I (by decide)) (hnum (first + s) rfl (gp4.trans gc) (Ev.to (ev_op rv_I0 (ev_var (P := I (first : Int)) rfl rfl) (ev_var (P := I (s : Int)) rfl rfl)) (congrArg (fun i : Int => I i) (by omega)))) ev_c) ev_c), fun _ => ev_var rfl rfl⟩
    have gp5 := gp4.trans g5
    refine q_asg (H0 := H5) gp5.self (P := LN (hold xs first n)) (ev_if (et_test (ev_op (rv_neLN (m := [])) (ev_var rfl h7) (ef_lst ea_nil (by simp)).ev)) (fun hb => ?_) fun hb => ?_) fun v7' H6 g6 h7' => ?_
    · have hx : hold0 xs first n ≠ [] := by
        intro z
        rw [decide_eq_true z] at hb
        cases hb
      have e : hold xs first n = hold0 xs first n := by unfold hold; rw [if_neg hx]
      rw [e]
      exact ev_var rfl h7
    · have hx : hold0 xs first n = [] := by
        by_cases z : hold0 xs first n = []
        · exact z
        · rw [decide_eq_false z] at hb; cases hb
      have e : hold xs first n = [(lawNum xs (first + 8) % (n : Int)).toNat] := by unfold hold; rw [if_pos hx]
      rw [e]
      refine (ef_lst (Ps := [I (((lawNum xs (first + 8) % (n : Int)).toNat : Nat) : Int)]) (ea_cons (Ev.to (ev_op (rv_I (by omega)) (hnum (first + 8) rfl gp5 (Ev.to (ev_op rv_I0 (ev_var (P := I (first : Int)) rfl rfl) ev_c) (congrArg (fun i : Int => I i) (by omega)))) (ev_var (P := I (n : Int)) rfl rfl)) (congrArg (fun i : Int => I i) ?_)) ea_nil) (by simp)).ev
      have h1 := Int.emod_nonneg (lawNum xs (first + 8)) (show (n : Int) ≠ 0 by omega)
      omega
    have gp6 := gp5.trans g6
    have hpos := hold_pos xs first n
    have hlen := (hold_wf (xs := xs) (first := first) hn1).len
    refine q_asg (H0 := H6) gp6.self (P := I (lawNum xs (first + 9))) (hnum (first + 9) rfl gp6 (Ev.to (ev_op rv_I0 (ev_var (P := I (first : Int)) rfl rfl) ev_c) (congrArg (fun i : Int => I i) (by omega)))) fun v8 H7 g7 h8 => ?_
    obtain rfl : v8 = _ := h8
    have gp7 := gp6.trans g7
    have h77 := (LN (hold xs first n)).st g7 h7'
    refine q_asg (H0 := H7) gp7.self (P := I ((lawNeed xs first n : Nat) : Int)) (ev_if (et_test (ev_op rv_eqI (ev_op (rv_I (by decide)) (ev_var (P := I (lawNum xs (first + 9))) rfl rfl) ev_c) ev_c)) (fun hb => ?_) fun hb => ?_) fun v9 H8 g8 h9 => ?_
    · have hb := of_decide_eq_true hb
      refine Ev.to (ev_op rv_I0 ev_c (ev_op (rv_I (j := ((hold xs first n).length : Int)) (by omega)) (ev_op (rv_I ⟨by decide, by decide⟩) (ev_var (P := I (lawNum xs (first + 9))) rfl rfl) ev_c) (Ev.to (ev_cb rc_lenL (ea_cons (ev_var rfl h77) ea_nil)) (by rw [List.length_map])))) (congrArg (fun i : Int => I i) ?_)
      unfold lawNeed
      rw [if_pos hb]
      have h1 := Int.emod_nonneg (lawNum xs (first + 9) / 3) (show ((hold xs first n).length : Int) ≠ 0 by omega)
      omega
    · have hb := of_decide_eq_false hb
      have e : lawNeed xs first n = 1 := by unfold lawNeed; rw [if_neg hb]
      rw [e]
      exact ev_c
    obtain rfl : v9 = _ := h9
    have gp8 := gp7.trans g8
    have hws8 := g8.lst (g7.lst (g6.lst (g5.lst (g4.lst (g3.lst hws)))))
    refine s_app (H0 := H8) (P := It1 (lawItem xs first n)) gp8.self hws8 (ev_var rfl rfl) (ef_tup (Ps := [S (hold xs first n), I ((lawNeed xs first n : Nat) : Int)]) (ea_cons (ef_cb rf_tuple (ea_cons (ev_var rfl ((LN _).st g8 h77)) ea_nil)).ev (ea_cons (ev_var (P := I ((lawNeed xs first n : Nat) : Int)) rfl rfl) ea_nil)) (by simp)).ev (by have := hall.len; rw [List.length_map, List.length_map, List.length_range] at this; omega) fun v10 H9 g9 e9 => ?_
    have hws9 := g9.lst hws8
    have gt := Gt.mut (o := .lst (ws ++ [v10])) hws9 True.intro
    refine ⟨(gp8.trans g9).mut n1 hws9 True.intro, ⟨_, upd_same, ?_⟩, _, _, _, _, _, u10, rfl⟩
    rw [List.range_succ, List.map_append, List.map_append]
    refine AllP.append (AllP.gt (TstL.st) gt (((((((hall.gr g3).gr g4).gr g5).gr g6).gr g7).gr g8).gr g9)) ⟨?_, True.intro⟩
    show (It1 (lawItem xs (a + 1 + 10 * row) n)).p _ _
    rw [hF]
    exact Tst.st gt e9
  · rintro σ' H2 ⟨gp, ⟨ws, hws, hall⟩, u5, u6, u7, u8, u9, u10, rfl⟩
    rw [List.length_range] at hall
    exact s_ret (H0 := H2) gp.self (P := LIt (lawItems xs a n most)) (ev_var rfl ⟨l, ws, rfl, hws, hall⟩) fun v H3 g3 e3 => k v H3 (gp.trans g3) e3
/-! law_over, law_plain -/
def R_law_over (As : List (SV c)) (Z : SV c) : Prop := ∃ (m k : Nat), As = [I (m : Int), I (k : Int)] ∧ (m ≤ 6 ∧ k ≤ m) ∧ Z = I (overI m k)
abbrev N_law_over : List Str := ["_law_many", "_law_some", "_law_found", "_law_step"]
theorem sc_law_over : FnScope N_law_over ["_law_many", "_law_some"] (defScope s_law_over) := ⟨rfl, rfl, rfl, by decide +kernel, rfl, by decide +kernel, by decide +kernel⟩
theorem ok_law_over (F : FnP c.K "_law_over" "_law_over" s_law_over f fd) (Bt : Bts c mg) (C : Cl c) (Il : IsL c)  : FnOk P w c.K mg base CX0 1 f fd ["_law_many", "_law_some"] (Pm c R_law_over) := by
  refine okP F sc_law_over (fun As Z h => by obtain ⟨_, _, rfl, _⟩ := h; rfl) fun cdv A outer s H vs Q E As Z hr hA hR g k => ?_
  have nd := sc_law_over.nd
  obtain ⟨m, kk, rfl, ⟨hm, hk⟩, rfl⟩ := hR
  obtain ⟨v0, v1, rfl, h0, h1⟩ := hA.inv2
  refine ⟨_, (pss_cons (ps_set (i := 2) nd rfl (Or.inl rfl) pe_int)
    (pss_cons (ps_for PassesOwn.never rfl (pi_range1 (by rfl) Bt.brange (pa_cons (pv 1) pa_nil)) (pg_name (i := 3) nd rfl (Or.inl rfl)) (pss_one (ps_set (i := 2) nd rfl (Or.inl rfl) (pe_op op_fdiv (pe_op op_mul (pv 2) (pe_op op_sub (pv 0) (pv 3))) (pe_op op_add (pv 3) pe_int)))))
    (pss_one (ps_ret (pv 2))))), ?_⟩
  refine q_asg g (P := I 1) ev_c fun v2 H1 g1 h2 => ?_
  obtain rfl : v2 = _ := h2
  refine q_forP (List.range kk) (fun k : Nat => I (k : Int)) g1 (es_range1 (ea_cons (ev_var rfl h1) ea_nil) (by omega)) (fun i σ' _ => ∃ u, σ' = [some v0, some v1, some (.int (overI m i)), u]) (fun H2 g2 => ⟨none, rfl⟩) ?_ ?_
  · rintro i j x σ' H' hi gp ⟨u, rfl⟩ H2 g2 hx
    obtain rfl : x = _ := hx
    have hj : j = i := by
      obtain ⟨h1, h2⟩ := List.getElem?_eq_some_iff.mp hi
      rw [List.getElem_range] at h2
      exact h2.symm
    subst hj
    have hjk : j < kk := by have := (List.getElem?_eq_some_iff.mp hi).1; rw [List.length_range] at this; exact this
    have gp2 := gp.trans g2
    show tAsg _ _ _ _ _
    refine s_asg (H0 := H2) gp2.self (P := I (overI m (j + 1))) (Ev.to (ev_op (rv_I ⟨by omega, by omega⟩) (ev_op (rv_I (.inr ⟨by omega, by omega⟩)) (ev_var (P := I (overI m j)) rfl rfl) (ev_op rv_I0 (ev_var rfl ((I (m : Int)).st gp2 h0)) (ev_var (P := I (j : Int)) rfl rfl))) (ev_op rv_I0 (ev_var (P := I (j : Int)) rfl rfl) ev_c)) ?_) fun v H3 g3 e3 => ⟨gp2.trans g3, some (.int (j : Int)), ?_⟩
    · unfold overI
      rw [List.range_succ, List.foldl_append]
      rfl
    · obtain rfl : v = _ := e3
      rfl
  · rintro σ' H' gp ⟨u, rfl⟩
    rw [List.length_range]
    exact s_retG gp (P := I (overI m kk)) (ev_var rfl rfl) k
theorem step_S (rows : List (List Nat)) (s : Nat) : L (c := c) (rows.map S ++ rows.map fun r => S (r ++ [s])) = LS (subStep rows s) := by
  show _ = L ((rows ++ rows.map (· ++ [s])).map S)
  rw [List.map_append, List.map_map]
  rfl
theorem plain_S (A : List Itm) (l : List (List Nat)) : L (c := c) (A.map It1 ++ l.map fun r => It1 (r, 1)) = LIt (A ++ l.map fun r => (r, 1)) := by
  show _ = L ((A ++ l.map fun r => (r, 1)).map It1)
  rw [List.map_append, List.map_map]
  rfl
def R_law_plain (As : List (SV c)) (Z : SV c) : Prop := ∃ (its : List Itm), As = [LIt its] ∧ (its.length ≤ 10 ∧ ∀ it ∈ its, it.1.length ≤ 6) ∧ Z = LIt (lawPlain its)
abbrev N_law_plain : List Str := ["_law_items_here", "_law_found", "_law_holders", "_law_need", "_law_rows", "_law_server", "_law_row"]
theorem sc_law_plain : FnScope N_law_plain ["_law_items_here"] (defScope s_law_plain) := ⟨rfl, rfl, rfl, by decide +kernel, rfl, by decide +kernel, by decide +kernel⟩
theorem ok_law_plain (F : FnP c.K "_law_plain" "_law_plain" s_law_plain f fd) (Bt : Bts c mg) (C : Cl c) (Il : IsL c)  : FnOk P w c.K mg base CX0 1 f fd ["_law_items_here"] (Pm c R_law_plain) := by
  refine okP F sc_law_plain (fun As Z h => by obtain ⟨_, rfl, _⟩ := h; rfl) fun cdv A outer s H vs Q E As Z hr hA hR g k => ?_
  have nd := sc_law_plain.nd
  obtain ⟨its, rfl, ⟨hl, hm⟩, rfl⟩ := hR
  obtain ⟨v0, rfl, h0⟩ := hA.inv1
  refine ⟨_, (pss_cons (ps_set (i := 1) nd rfl (Or.inl rfl) (pe_lst pa_nil))
    (pss_cons (ps_for PassesOwn.never rfl (pi_listQ (K := c.K) rfl (pv 0)) (pg_tupQ (K := c.K) (n := 2) rfl rfl (pgs_cons (pg_name (i := 2) nd rfl (Or.inr rfl)) (pgs_cons (pg_name (i := 3) nd rfl (Or.inr rfl)) pgs_nil))) (pss_cons (ps_set (i := 4) nd rfl (Or.inl rfl) (pe_lst (pa_cons (pe_tup pa_nil) pa_nil)))
    (pss_cons (ps_for PassesOwn.never rfl (pi_tupQ (K := c.K) rfl (pv 2)) (pg_name (i := 5) nd rfl (Or.inr rfl)) (pss_one (ps_set (i := 4) nd rfl (Or.inl rfl) (pe_op op_cat (pv 4) (pe_lc (own := [("_law_row", 6)]) rfl nd (pi_listQ (K := c.K) rfl (pv 4)) (blkOk_by (own := [("_law_row", 6)]) (N := N_law_plain) (sc := defScope s_law_plain) (by decide +kernel)) (fun _ _ _ _ _ => (pg_name (i := 6) nd rfl (Or.inl rfl))) (fun _ _ _ _ _ => pts_nil) (fun _ _ _ _ _ => (pe_op (op_catTQ (K := c.K) rfl) (pv 6) (pe_tup (pa_cons (pv 5) pa_nil)))))))))
    (pss_one (ps_set (i := 1) nd rfl (Or.inl rfl) (pe_op op_cat (pv 1) (pe_lc (own := [("_law_row", 6)]) rfl nd (pi_listQ (K := c.K) rfl (pv 4)) (blkOk_by (own := [("_law_row", 6)]) (N := N_law_plain) (sc := defScope s_law_plain) (by decide +kernel)) (fun _ _ _ _ _ => (pg_name (i := 6) nd rfl (Or.inl rfl))) (fun _ _ _ _ _ => (pts_one (pt_cmpR op_eq (pe_callB (cl_lenQ (K := c.K) rfl) (by rfl) Bt.blen (by decide +kernel) (pa_cons (pv 6) pa_nil)) (pe_op op_add (pe_op op_sub (pe_callB (cl_lenQ (K := c.K) rfl) (by rfl) Bt.blen (by decide +kernel) (pa_cons (pv 2) pa_nil)) (pv 3)) pe_int) (nomark _)))) (fun _ _ _ _ _ => (pe_tup (pa_cons (pv 6) (pa_cons pe_int pa_nil)))))))))))
    (pss_one (ps_ret (pv 1))))), ?_⟩
  refine q_asg g (P := LIt []) (ef_lst ea_nil (by simp)).ev fun v1 H1 g1 h1 => ?_
  refine q_for its It1 g1 (es_list rfl h0) (fun i σ' H' => Gr c H H' ∧ ∃ u1 u2 u3 u4 u5 u6, σ' = [some v0, some u1, u2, u3, u4, u5, u6] ∧ (LIt (c := c) ((its.take i).foldl (fun a it => a ++ plainOf it) [])).p u1 H') (fun H2 g2 => ⟨g1.trans g2, v1, none, none, none, none, none, rfl, (LIt []).st g2 h1⟩) (fun _ _ _ p => p.1) ?_ ?_
  · rintro i ⟨hs, need⟩ x σ' H2 hi ⟨gp, u1, u2, u3, u4, u5, u6, rfl, hf⟩ H3 g3 hx
    obtain ⟨x1, x2, e1, e2, ht⟩ := tg_pair hx
    refine ht tg_name tg_name _ ?_
    have gp3 := gp.trans g3
    have hlen : hs.length ≤ 6 := hm _ (List.mem_of_getElem? hi)
    have eT : (its.take (i + 1)).foldl (fun a it => a ++ plainOf it) [] = ((its.take i).foldl (fun a it => a ++ plainOf it) []) ++ plainOf (hs, need) := by
      rw [List.take_add_one, hi, List.foldl_append]; rfl
    have hfl : ((its.take i).foldl (fun a it => a ++ plainOf it) []).length ≤ 640 := by
      have := plain_le (its := its.take i) (a := []) fun it hit => hm it (List.mem_of_mem_take hit)
      rw [List.length_take, List.length_nil] at this
      omega
    show tSeq _ _ _ _ _
    refine q_asg (H0 := H3) gp3.self (P := LS [[]]) (ef_lst (Ps := [S []]) (ea_cons (ef_tup ea_nil (by simp)).ev ea_nil) (by simp)).ev fun v4 H4 g4 h4 => ?_
    have gp4 := gp3.trans g4
    have ee : ∃ v, (TupOf (c := c) (hs.map fun k : Nat => I (k : Int))).p v H4 ∧ Ev c (tVar 2) [some v0, some u1, some x1, some x2, some v4, u5, u6] H4 (Eqv v) := ⟨x1, (S hs).st g4 e1, ev_var rfl rfl⟩
    refine q_for hs (fun k : Nat => I (k : Int)) (H0 := H4) gp4.self (es_tupV (v := x1) (ev_var rfl rfl) ((S hs).st g4 e1)) (fun j σ' H' => Gr c H4 H' ∧ ∃ u4 u5 u6, σ' = [some v0, some u1, some x1, some x2, some u4, u5, u6] ∧ (LS (c := c) ((hs.take j).foldl subStep [[]])).p u4 H') (fun H5 g5 => ⟨g5, v4, u5, u6, rfl, (LS [[]]).st g5 h4⟩) (fun _ _ _ p => p.1) ?_ ?_
    · rintro j s y σ' H5 hj ⟨gq, u4, u5, u6, rfl, hr⟩ H6 g6 hy
      have gq6 := gq.trans g6
      have eT2 : (hs.take (j + 1)).foldl subStep [[]] = subStep ((hs.take j).foldl subStep [[]]) s := by
        rw [List.take_add_one, hj, List.foldl_append]; rfl
      have hjl : j < hs.length := (List.getElem?_eq_some_iff.mp hj).1
      have hrl : ((hs.take j).foldl subStep [[]]).length ≤ 64 := by
        rw [subs_len, List.length_take]
        simp only [List.length_cons, List.length_nil, Nat.zero_add, Nat.one_mul]
        exact Nat.pow_le_pow_right (n := 2) (j := 6) (by decide) (by omega)
      have hrs : ∀ r ∈ (hs.take j).foldl subStep [[]], r.length ≤ 6 := fun r hr => by
        have := subs_rows (h := hs.take j) (rows := [[]]) (m := 0) (fun r hr => by simp at hr; rw [hr]; simp) r hr
        rw [List.length_take] at this
        omega
      have hr6 := (LS _).st g6 hr
      show tAsg _ _ _ _ _
      refine s_asg (H0 := H6) gq6.self (P := LS (subStep ((hs.take j).foldl subStep [[]]) s)) (Ev.to (ef_op (rf_cat (by rw [List.length_map, List.length_map]; omega)) (ev_var rfl hr6) (ef_lcA ((hs.take j).foldl subStep [[]]) S (fun r => S (r ++ [s])) (ei_list (ev_var rfl hr6)) (by omega) fun r z Hc hr gc hz => ?_).ev).ev ?_) fun v H7 g7 h7 => ⟨gq6.trans g7, v, some y, u6, rfl, by rw [eT2]; exact h7⟩
      · refine ⟨_, tg_name, rfl, Ev.to (ev_op (rv_catT (by rw [List.length_map]; have := hrs r hr; simp; omega)) (ev_var rfl hz) (ef_tup (Ps := [I (s : Int)]) (ea_cons (ev_var rfl ((I (s : Int)).st gc hy)) ea_nil) (by simp)).ev) ?_⟩
        show _ = TupOf _
        rw [List.map_append]
        rfl
      · exact step_S _ s
    · rintro σ' H5 ⟨gq, u4, u5, u6, rfl, hr⟩
      rw [List.take_of_length_le (Nat.le_refl _)] at hr
      have gp5 := gp4.trans gq
      have hf5 := (LIt _).st ((g3.trans g4).trans gq) hf
      have hsl := subsOf_le hlen
      show tAsg _ _ _ _ _
      refine s_asg (H0 := H5) gp5.self (P := LIt (((its.take i).foldl (fun a it => a ++ plainOf it) []) ++ plainOf (hs, need))) (Ev.to (ef_op (rf_cat (Qs := (((subsOf hs).filter fun r => decide (((r.length : Nat) : Int) = (hs.length : Int) - (need : Int) + 1)).map fun r => It1 (r, 1))) (by rw [List.length_map, List.length_map]; have := List.length_filter_le (fun r : List Nat => decide (((r.length : Nat) : Int) = (hs.length : Int) - (need : Int) + 1)) (subsOf hs); omega)) (ev_var rfl hf5) (ef_lcm (subsOf hs) S (fun r => decide (((r.length : Nat) : Int) = (hs.length : Int) - (need : Int) + 1)) (fun r => It1 (r, 1)) (ei_list (ev_var rfl hr)) (by omega) fun r z Hc hr gc hz => ?_).ev).ev ?_) fun v H6 g6 h6 => ⟨gp5.trans g6, v, some x1, some x2, some u4, u5, u6, rfl, by rw [eT]; exact h6⟩
      · refine ⟨_, tg_name, rfl, EvT.to (et_test (ev_op rv_eqI (ev_cb rc_lenT (ea_cons (ev_var rfl hz) ea_nil)) (ev_op rv_I0 (ev_op rv_I0 (ev_cb rc_lenT (ea_cons (ev_var rfl ((S hs).st ((g4.trans gq).trans gc) e1)) ea_nil)) (ev_var rfl ((I (need : Int)).st ((g4.trans gq).trans gc) e2))) ev_c))) ?_, fun _ => (ef_tup (Ps := [S r, I ((1 : Nat) : Int)]) (ea_cons (ev_var rfl hz) (ea_cons ev_c ea_nil)) (by simp)).ev⟩
        rw [List.length_map, List.length_map]
      · exact plain_S _ _
  · rintro σ' H2 ⟨gp, u1, u2, u3, u4, u5, u6, rfl, hf⟩
    rw [List.take_of_length_le (Nat.le_refl _)] at hf
    exact s_ret (H0 := H2) gp.self (P := LIt (lawPlain its)) (ev_var rfl hf) fun v H3 g3 e3 => k v H3 (gp.trans g3) e3
end


section
def termOf (n ch size num : Nat) : Nat := (List.range n).foldl (fun t s => t * (if s < size then ch else 12 - ch)) num
def waysBy (n : Nat) (its : List Itm) (ch : Nat) : Nat := (countLosses n its).zipIdx.foldl (fun a p => a + termOf n ch p.2 p.1) 0
def sizesOf (n : Nat) (its : List Itm) : List Nat := ((countLosses n its).zipIdx.filter fun p => decide (0 < p.1)).map (·.2)
end


/-! sets of servers, in plain Lean -/
section
theorem sorted_ext : ∀ {l m : List Nat}, l.Pairwise (· < ·) → m.Pairwise (· < ·) → (∀ x, x ∈ l ↔ x ∈ m) → l = m
  | [], [], _, _, _ => rfl
  | [], b :: m, _, _, h => absurd ((h b).mpr (List.mem_cons_self ..)) (by simp)
  | a :: l, [], _, _, h => absurd ((h a).mp (List.mem_cons_self ..)) (by simp)
  | a :: l, b :: m, h1, h2, h => by
    obtain ⟨a1, a2⟩ := List.pairwise_cons.mp h1
    obtain ⟨b1, b2⟩ := List.pairwise_cons.mp h2
    have e : a = b := by
      rcases List.mem_cons.mp ((h a).mp (List.mem_cons_self ..)) with e | e
      · exact e
      · rcases List.mem_cons.mp ((h b).mpr (List.mem_cons_self ..)) with e' | e'
        · exact e'.symm
        · have := a1 b e'
          have := b1 a e
          omega
    subst e
    have := sorted_ext a2 b2 fun x => by
      constructor
      · intro hx
        rcases List.mem_cons.mp ((h x).mp (List.mem_cons_of_mem _ hx)) with e | e
        · have := a1 x hx; omega
        · exact e
      · intro hx
        rcases List.mem_cons.mp ((h x).mpr (List.mem_cons_of_mem _ hx)) with e | e
        · have := b1 x hx; omega
        · exact e
    rw [this]
theorem WfS.ext {n : Nat} {s t : List Nat} (hs : WfS n s) (ht : WfS n t) (h : ∀ x, x ∈ s ↔ x ∈ t) : s = t := sorted_ext hs.1 ht.1 h
theorem WfS.nodup {n : Nat} {s : List Nat} (h : WfS n s) : s.Nodup := h.1.imp fun h => Nat.ne_of_lt h
theorem wfS_filter {n : Nat} (p : Nat → Bool) : WfS n ((List.range n).filter p) := ⟨List.Pairwise.filter _ List.pairwise_lt_range, fun k hk => List.mem_range.mp (List.mem_filter.mp hk).1⟩
theorem mem_others {n : Nat} {s : List Nat} {x : Nat} : x ∈ othersOf n s ↔ x < n ∧ x ∉ s := by
  unfold othersOf
  rw [List.mem_filter, List.mem_range]
  constructor
  · rintro ⟨h1, h2⟩; exact ⟨h1, by simpa using h2⟩
  · rintro ⟨h1, h2⟩; exact ⟨h1, by simpa using h2⟩
theorem others_others {n : Nat} {s : List Nat} (h : WfS n s) : othersOf n (othersOf n s) = s := (wfS_others).ext h fun x => by
  rw [mem_others, mem_others]
  constructor
  · rintro ⟨h1, h2⟩
    by_cases hx : x ∈ s
    · exact hx
    · exact absurd ⟨h1, hx⟩ h2
  · intro hx
    exact ⟨h.2 x hx, fun z => z.2 hx⟩
/-- every set of servers is there -/
theorem gen_all : ∀ {n : Nat} {s : List Nat}, WfS n s → s ∈ genS n
  | 0, s, h => by
    cases s with
    | nil => simp [genS]
    | cons a s => exact absurd (h.2 a (List.mem_cons_self ..)) (by omega)
  | n + 1, s, h => by
    rw [genS, List.mem_append]
    by_cases hn : n ∈ s
    · right
      refine List.mem_map.mpr ⟨s.filter fun k => decide (k < n), gen_all ⟨h.1.filter _, fun k hk => of_decide_eq_true (List.mem_filter.mp hk).2⟩, ?_⟩
      refine sorted_ext (List.pairwise_append.mpr ⟨h.1.filter _, List.pairwise_singleton _ _, fun a ha b hb => ?_⟩) h.1 fun x => ?_
      · have := of_decide_eq_true (List.mem_filter.mp ha).2
        have hb : b = n := by simpa using hb
        omega
      · rw [List.mem_append, List.mem_filter]
        constructor
        · rintro (⟨h1, _⟩ | h1)
          · exact h1
          · have h1 : x = n := by simpa using h1
            rw [h1]; exact hn
        · intro hx
          have := h.2 x hx
          by_cases e : x = n
          · right; simp [e]
          · left; exact ⟨hx, decide_eq_true (by omega)⟩
    · left
      refine gen_all ⟨h.1, fun k hk => ?_⟩
      have := h.2 k hk
      have : k ≠ n := fun z => hn (z ▸ hk)
      omega
theorem sets_all {n : Nat} {s : List Nat} (h : WfS n s) : s ∈ sets n := (sets_perm n).mem_iff.mpr (gen_all h)
theorem isWithin_iff {a b : List Nat} : isWithin a b = true ↔ ∀ x ∈ a, x ∈ b := by
  unfold isWithin
  rw [List.all_eq_true]
  constructor
  · intro h x hx; exact of_decide_eq_true (h x hx)
  · intro h x hx; exact decide_eq_true (h x hx)
/-! ### losing -/
def kept (it : Itm) (d : List Nat) : Nat := (it.1.filter fun k => !decide (k ∈ d)).length
theorem losing_iff {n : Nat} {its : List Itm} (hw : WfL n its) {d : List Nat} : losing n its d = true ↔ ∃ it ∈ its, kept it d < it.2 := by
  have h : keeping its (othersOf n d) = true ↔ ∀ it ∈ its, it.2 ≤ kept it d := by
    rw [keeping_iff]
    constructor
    · intro h it hit
      have := h it hit
      rw [common_others (hw.it it hit).1.2] at this
      exact this
    · intro h it hit
      rw [common_others (hw.it it hit).1.2]
      exact h it hit
  unfold losing
  cases q : keeping its (othersOf n d) with
  | true =>
    have := h.mp q
    constructor
    · intro z; cases z
    · rintro ⟨it, hit, hlt⟩
      have := this it hit
      omega
  | false =>
    constructor
    · intro _
      refine Classical.byContradiction fun hn => ?_
      have := h.mpr fun it hit => Nat.le_of_not_lt fun z => hn ⟨it, hit, z⟩
      rw [this] at q
      cases q
    · intro _; rfl
theorem filter_mono {α : Type} {p q : α → Bool} (h : ∀ x, p x = true → q x = true) : ∀ l : List α, (l.filter p).length ≤ (l.filter q).length
  | [] => Nat.le_refl _
  | a :: l => by
    have ih := filter_mono h l
    by_cases hp : p a = true
    · rw [List.filter_cons_of_pos hp, List.filter_cons_of_pos (h a hp), List.length_cons, List.length_cons]
      omega
    · rw [List.filter_cons_of_neg hp]
      by_cases hq : q a = true
      · rw [List.filter_cons_of_pos hq, List.length_cons]
        omega
      · rw [List.filter_cons_of_neg hq]
        exact ih
theorem kept_mono {it : Itm} {d e : List Nat} (h : ∀ x ∈ d, x ∈ e) : kept it e ≤ kept it d := filter_mono (fun x hx => by
  have hx : x ∉ e := by simpa using hx
  have : x ∉ d := fun z => hx (h x z)
  simpa using this) _
theorem losing_mono {n : Nat} {its : List Itm} (hw : WfL n its) {d e : List Nat} (h : ∀ x ∈ d, x ∈ e) (hl : losing n its d = true) : losing n its e = true := by
  obtain ⟨it, hit, hlt⟩ := (losing_iff hw).mp hl
  exact (losing_iff hw).mpr ⟨it, hit, Nat.lt_of_le_of_lt (kept_mono h) hlt⟩
theorem keeping_mono {its : List Itm} {a b : List Nat} (h : ∀ x ∈ a, x ∈ b) (hk : keeping its a = true) : keeping its b = true := by
  rw [keeping_iff] at hk ⊢
  intro it hit
  refine Nat.le_trans (hk it hit) ?_
  unfold common
  exact filter_mono (fun x hx => decide_eq_true (h x (of_decide_eq_true hx))) _
/-! ### minimal -/
theorem min_grow : ∀ {ys found : List (List Nat)}, ∀ x ∈ found, x ∈ ys.foldl minStep found
  | [], _, x, h => h
  | y :: ys, found, x, h => min_grow (ys := ys) x (by
    unfold minStep
    split
    · exact h
    · exact List.mem_append_left _ h)
theorem within_refl (a : List Nat) : isWithin a a = true := isWithin_iff.mpr fun _ h => h
theorem within_trans {a b d : List Nat} (h : isWithin a b = true) (k : isWithin b d = true) : isWithin a d = true := isWithin_iff.mpr fun x hx => isWithin_iff.mp k x (isWithin_iff.mp h x hx)
theorem min_cover : ∀ {ys found : List (List Nat)}, ∀ s ∈ ys, ∃ o ∈ ys.foldl minStep found, isWithin o s = true
  | y :: ys, found, s, h => by
    rcases List.mem_cons.mp h with rfl | h
    · by_cases q : (found.any fun o => isWithin o s) = true
      · obtain ⟨o, ho, hw⟩ := List.any_eq_true.mp q
        exact ⟨o, min_grow (ys := s :: ys) o ho, hw⟩
      · refine ⟨s, ?_, within_refl s⟩
        rw [List.foldl_cons]
        refine min_grow s ?_
        unfold minStep
        rw [if_neg q]
        exact List.mem_append_right _ (by simp)
    · exact min_cover (ys := ys) s h
theorem minimal_cover {l : List (List Nat)} {s : List Nat} (h : s ∈ l) : ∃ o ∈ minimal l, isWithin o s = true := min_cover s h
theorem minimal_sub {l : List (List Nat)} : ∀ s ∈ minimal l, s ∈ l := fold_sub (found := []) (fun x hx => by cases hx) fun y hy => hy
/-- where a minimal one was taken -/
theorem min_from : ∀ {ys found : List (List Nat)} {o : List Nat}, o ∈ ys.foldl minStep found → o ∈ found ∨ ∃ a b, ys = a ++ o :: b ∧ ∀ p ∈ a.foldl minStep found, isWithin p o = false
  | [], _, _, h => .inl h
  | y :: ys, found, o, h => by
    rw [List.foldl_cons] at h
    rcases min_from (ys := ys) h with h | ⟨a, b, e, h⟩
    · unfold minStep at h
      split at h
      · exact .inl h
      · rename_i q
        rcases List.mem_append.mp h with h | h
        · exact .inl h
        · have h : o = y := by simpa using h
          subst h
          refine .inr ⟨[], ys, rfl, fun p hp => ?_⟩
          cases z : isWithin p o with
          | false => rfl
          | true => exact absurd (List.any_eq_true.mpr ⟨p, hp, z⟩) q
    · exact .inr ⟨y :: a, b, by rw [e]; rfl, h⟩
theorem minimal_first {l : List (List Nat)} {o : List Nat} (h : o ∈ minimal l) : ∃ a b, l = a ++ o :: b ∧ ∀ q ∈ a, isWithin q o = false := by
  rcases min_from h with h | ⟨a, b, e, h⟩
  · cases h
  · refine ⟨a, b, e, fun q hq => ?_⟩
    obtain ⟨p, hp, hpq⟩ := minimal_cover hq
    cases z : isWithin q o with
    | false => rfl
    | true => exact absurd (within_trans hpq z) (by rw [h p hp]; decide)
/-! ### counts -/
theorem counts_get {n : Nat} {its : List Itm} {k : Nat} (hk : k ≤ n) : (countLosses n its)[k]?.getD 0 = ((sets n).filter fun s => decide (s.length = k) && losing n its s).length := by
  unfold countLosses
  rw [List.getElem?_map, List.getElem?_range (by omega)]
  show (((sets n).filter (losing n its)).map List.length).count k = _
  rw [List.count_eq_countP, List.countP_map, List.countP_eq_length_filter, List.filter_filter]
  refine congrArg List.length (List.filter_congr fun s _ => ?_)
  show ((s.length == k) && losing n its s) = _
  rw [Bool.beq_eq_decide_eq]
theorem filter_split {α : Type} (p q : α → Bool) : ∀ l : List α, (l.filter fun x => p x && q x).length + (l.filter fun x => p x && !q x).length = (l.filter p).length
  | [] => rfl
  | a :: l => by
    have ih := filter_split p q l
    cases hp : p a <;> cases hq : q a <;> simp [List.filter_cons, hp, hq] <;> omega
theorem size_count : ∀ n, n ≤ 6 → ∀ k, k ≤ n → (((genS n).filter fun s => decide (s.length = k)).length : Int) = overI n k := by decide +kernel
theorem F9 {n : Nat} {its : List Itm} (hw : WfL n its) {k : Nat} (hk : k ≤ n) : ((keptAt n its k).length : Int) = overI n k - (((countLosses n its)[k]?.getD 0 : Nat) : Int) := by
  have h1 := filter_split (fun s : List Nat => decide (s.length = k)) (losing n its) (sets n)
  have h2 := size_count n hw.hi k hk
  have h3 : ((sets n).filter fun s => decide (s.length = k)).length = ((genS n).filter fun s => decide (s.length = k)).length := ((sets_perm n).filter _).length_eq
  rw [counts_get hk]
  unfold keptAt
  omega
end


section
theorem full_set : ∀ n, n ≤ 6 → (sets n).filter (fun s => decide (s.length = n)) = [List.range n] := by decide +kernel
theorem comb_self : ∀ n, n ≤ 6 → comb n n = 1 := by decide
theorem kept_full {n : Nat} {it : Itm} (h : ∀ k ∈ it.1, k < n) : kept it (List.range n) = 0 := by
  unfold kept
  rw [List.length_eq_zero_iff, List.filter_eq_nil_iff]
  intro x hx
  have : x ∈ List.range n := List.mem_range.mpr (h x hx)
  simp [h x hx]
theorem exists_item {n : Nat} {its : List Itm} (hw : WfL n its) : ∃ it, it ∈ its := by
  have := hw.ne
  cases its with
  | nil => simp at this
  | cons a l => exact ⟨a, List.mem_cons_self ..⟩
theorem F3 {n : Nat} {its : List Itm} (hw : WfL n its) : randomLoss n its n = (1, 1) := by
  obtain ⟨it, hit⟩ := exists_item hw
  have hl : losing n its (List.range n) = true := (losing_iff hw).mpr ⟨it, hit, by rw [kept_full (hw.it it hit).1.2]; exact (hw.it it hit).2.1⟩
  have hc : (countLosses n its)[n]?.getD 0 = 1 := by
    rw [counts_get (Nat.le_refl _)]
    have e : (sets n).filter (fun s => decide (s.length = n) && losing n its s) = ((sets n).filter fun s => decide (s.length = n)).filter (losing n its) := by
      rw [List.filter_filter]
      exact List.filter_congr fun s _ => Bool.and_comm _ _
    rw [e, full_set n hw.hi, List.filter_cons_of_pos hl]
    rfl
  unfold randomLoss
  rw [hc, comb_self n hw.hi]
  decide
/-! ### the least loss -/
theorem kept_add {it : Itm} {d : List Nat} : kept it d + (it.1.filter fun k => decide (k ∈ d)).length = it.1.length := by
  unfold kept
  have := filter_split (fun _ : Nat => true) (fun k => decide (k ∈ d)) it.1
  simp only [Bool.true_and] at this
  rw [List.filter_eq_self.mpr (fun _ _ => rfl)] at this
  omega
theorem inter_le {l d : List Nat} (nd : l.Nodup) : (l.filter fun k => decide (k ∈ d)).length ≤ d.length :=
  nodup_sub (nd.filter _) fun x hx => of_decide_eq_true (List.mem_filter.mp hx).2
theorem exists_least {its : List Itm} (h : its ≠ []) : ∃ it ∈ its, ∀ jt ∈ its, it.1.length - it.2 ≤ jt.1.length - jt.2 := by
  induction its with
  | nil => exact absurd rfl h
  | cons a l ih =>
    by_cases hl : l = []
    · subst hl
      exact ⟨a, List.mem_cons_self .., fun j hj => by rw [List.mem_singleton.mp hj]; exact Nat.le_refl _⟩
    · obtain ⟨b, hb, hm⟩ := ih hl
      by_cases hab : a.1.length - a.2 ≤ b.1.length - b.2
      · refine ⟨a, List.mem_cons_self .., fun j hj => ?_⟩
        rcases List.mem_cons.mp hj with rfl | hj
        · exact Nat.le_refl _
        · exact Nat.le_trans hab (hm j hj)
      · refine ⟨b, List.mem_cons_of_mem _ hb, fun j hj => ?_⟩
        rcases List.mem_cons.mp hj with rfl | hj
        · omega
        · exact hm j hj
theorem first_pos : ∀ {l : List Nat} {m off : Nat}, (∀ k, k < m → l[k]?.getD 0 = 0) → 0 < l[m]?.getD 0 → (((l.zipIdx off).filter fun p => decide (0 < p.1)).map (·.2))[0]? = some (off + m)
  | [], m, off, _, h => by simp at h
  | a :: l, 0, off, _, h => by
    have h : 0 < a := by simpa using h
    rw [List.zipIdx_cons, List.filter_cons_of_pos (by simpa using h)]
    simp
  | a :: l, m + 1, off, h0, h => by
    have ha : a = 0 := by simpa using h0 0 (by omega)
    rw [List.zipIdx_cons, List.filter_cons_of_neg (by simp [ha])]
    have := first_pos (l := l) (m := m) (off := off + 1) (fun k hk => by simpa using h0 (k + 1) (by omega)) (by simpa using h)
    rw [this]
    congr 1
    omega
theorem F8 {n : Nat} {its : List Itm} (hw : WfL n its) : ∃ least : Nat, least ∈ (minLosses n its).map List.length ∧ (∀ y ∈ (minLosses n its).map List.length, least ≤ y) ∧ ((least : Int) - 1) ∈ its.map spare ∧ (∀ y ∈ its.map spare, (least : Int) - 1 ≤ y) ∧ (sizesOf n its)[0]? = some least := by
  obtain ⟨it, hit, hmin⟩ := exists_least (its := its) (by
    intro z
    have := hw.ne
    rw [z] at this
    simp at this)
  obtain ⟨⟨w1, w2⟩, w3, w4⟩ := hw.it it hit
  generalize ht : it.1.length - it.2 = t at hmin
  have lo : ∀ d, losing n its d = true → t + 1 ≤ d.length := fun d hd => by
    obtain ⟨jt, hj, hlt⟩ := (losing_iff hw).mp hd
    have h1 := kept_add (it := jt) (d := d)
    have h2 := inter_le (l := jt.1) (d := d) (hw.it jt hj).1.nodup
    have h3 := hmin jt hj
    have h4 := (hw.it jt hj).2.2
    omega
  have hi : losing n its (it.1.take (t + 1)) = true := by
    refine (losing_iff hw).mpr ⟨it, hit, ?_⟩
    have h1 := kept_add (it := it) (d := it.1.take (t + 1))
    have h2 : (it.1.take (t + 1)).length ≤ (it.1.filter fun k => decide (k ∈ it.1.take (t + 1))).length := nodup_sub ((WfS.nodup ⟨w1, w2⟩).sublist (List.take_sublist ..)) fun x hx => List.mem_filter.mpr ⟨List.mem_of_mem_take hx, decide_eq_true hx⟩
    rw [List.length_take] at h2
    omega
  have hwt : WfS n (it.1.take (t + 1)) := ⟨w1.sublist (List.take_sublist ..), fun k hk => w2 k (List.mem_of_mem_take hk)⟩
  have hlen : (it.1.take (t + 1)).length = t + 1 := by rw [List.length_take]; omega
  have hmem : it.1.take (t + 1) ∈ (sets n).filter (losing n its) := List.mem_filter.mpr ⟨sets_all hwt, hi⟩
  obtain ⟨o, ho, how⟩ := minimal_cover hmem
  have hol := (List.mem_filter.mp (minimal_sub o ho))
  have holen : o.length = t + 1 := by
    have h1 := lo o hol.2
    have h2 := nodup_sub (sets_mem hol.1).nodup (isWithin_iff.mp how)
    omega
  refine ⟨t + 1, List.mem_map.mpr ⟨o, ho, holen⟩, fun y hy => ?_, List.mem_map.mpr ⟨it, hit, ?_⟩, fun y hy => ?_, ?_⟩
  · obtain ⟨d, hd, rfl⟩ := List.mem_map.mp hy
    exact lo d (List.mem_filter.mp (minimal_sub d hd)).2
  · unfold spare; omega
  · obtain ⟨jt, hj, rfl⟩ := List.mem_map.mp hy
    have h3 := hmin jt hj
    have h4 := (hw.it jt hj).2.2
    unfold spare
    omega
  · have htn : t + 1 ≤ n := by
      have := hwt.len
      omega
    have := first_pos (l := countLosses n its) (m := t + 1) (off := 0) (fun k hk => ?_) ?_
    · rw [Nat.zero_add] at this
      exact this
    · rw [counts_get (by omega), List.length_eq_zero_iff, List.filter_eq_nil_iff]
      intro s hs z
      rw [Bool.and_eq_true] at z
      have := lo s z.2
      have := of_decide_eq_true z.1
      omega
    · rw [counts_get htn]
      exact List.length_pos_of_mem (List.mem_filter.mpr ⟨sets_all hwt, by rw [hi, decide_eq_true hlen]; rfl⟩)
/-! ### the minimal losses of one server -/
theorem sets_split : ∀ n, n ≤ 6 → (sets n = [] :: ((List.range n).map (fun s => [s]) ++ (sets n).drop (n + 1)) ∧ ∀ s ∈ (sets n).drop (n + 1), 2 ≤ s.length) := by decide +kernel
theorem min_singles : ∀ (l found : List Nat), (found ++ l).Nodup → (l.map fun s => [s]).foldl minStep (found.map fun s => [s]) = (found ++ l).map fun s => [s]
  | [], found, _ => by simp
  | a :: l, found, nd => by
    have hno : ¬ ((found.map fun s => [s]).any fun o => isWithin o [a]) = true := by
      intro z
      obtain ⟨o, ho, hw⟩ := List.any_eq_true.mp z
      obtain ⟨b, hb, rfl⟩ := List.mem_map.mp ho
      have := isWithin_iff.mp hw b (by simp)
      have hba : b = a := by simpa using this
      subst hba
      exact (List.nodup_append.mp nd).2.2 b hb b (by simp) rfl
    rw [List.map_cons, List.foldl_cons]
    have e : minStep (found.map fun s => [s]) [a] = (found ++ [a]).map fun s => [s] := by
      unfold minStep
      rw [if_neg hno, List.map_append]
      rfl
    rw [e, min_singles l (found ++ [a]) (by rw [List.append_assoc]; exact nd), List.append_assoc]
    rfl
theorem min_long : ∀ {ys found : List (List Nat)}, (∀ s ∈ ys, 2 ≤ s.length) → (ys.foldl minStep found).filter (fun d => decide (d.length = 1)) = found.filter fun d => decide (d.length = 1)
  | [], _, _ => rfl
  | y :: ys, found, h => by
    rw [List.foldl_cons, min_long (ys := ys) fun s hs => h s (List.mem_cons_of_mem _ hs)]
    unfold minStep
    split
    · rfl
    · rw [List.filter_append]
      have : ¬ y.length = 1 := by
        have := h y (List.mem_cons_self ..)
        omega
      rw [List.filter_cons_of_neg (by simpa using this)]
      simp
theorem F7 {n : Nat} {its : List Itm} (hw : WfL n its) : (minLosses n its).filter (fun d => decide (d.length = 1)) = (essential n its).map fun s => [s] := by
  obtain ⟨e1, e2⟩ := sets_split n hw.hi
  have h0 : ¬ losing n its [] = true := by
    intro z
    obtain ⟨it, hit, hlt⟩ := (losing_iff hw).mp z
    have h1 := kept_add (it := it) (d := [])
    have h2 := inter_le (l := it.1) (d := []) (hw.it it hit).1.nodup
    have h4 := (hw.it it hit).2.2
    rw [List.length_nil] at h2
    omega
  unfold minLosses minimal
  rw [e1, List.filter_cons_of_neg h0, List.filter_append, List.foldl_append]
  have e3 : ((List.range n).map fun s => [s]).filter (losing n its) = (essential n its).map fun s => [s] := by
    rw [List.filter_map]
    rfl
  rw [e3, min_long (fun s hs => e2 s (List.mem_filter.mp hs).1)]
  have e4 := min_singles (essential n its) [] (by
    rw [List.nil_append]
    exact (List.nodup_range).filter _)
  rw [List.map_nil, List.nil_append] at e4
  rw [e4, List.filter_eq_self]
  intro d hd
  obtain ⟨s, _, rfl⟩ := List.mem_map.mp hd
  rfl
/-! ### shows -/
theorem F10s {n : Nat} {its : List Itm} (hw : WfL n its) : shows n its (minLosses n its) (minKeepers n its) = true := by
  unfold shows
  rw [Bool.and_eq_true, Bool.and_eq_true, List.all_eq_true, List.all_eq_true, List.all_eq_true]
  refine ⟨fun s hs => (List.mem_filter.mp (minimal_sub s hs)).2, fun s hs => (List.mem_filter.mp (minimal_sub s hs)).2, fun d hd => ?_⟩
  unfold settles
  rw [Bool.or_eq_true, List.any_eq_true, List.any_eq_true]
  by_cases hl : losing n its d = true
  · left
    obtain ⟨o, ho, how⟩ := minimal_cover (List.mem_filter.mpr ⟨hd, hl⟩)
    exact ⟨o, ho, how⟩
  · right
    have hk : keeping its (othersOf n d) = true := by
      unfold losing at hl
      cases q : keeping its (othersOf n d) with
      | true => rfl
      | false => rw [q] at hl; exact absurd rfl hl
    obtain ⟨o, ho, how⟩ := minimal_cover (List.mem_filter.mpr ⟨sets_all wfS_others, hk⟩)
    exact ⟨o, ho, how⟩
/-! ### plain copies -/
theorem subs_mem : ∀ {h : List Nat} {rows : List (List Nat)} {r : List Nat}, r ∈ h.foldl subStep rows ↔ ∃ p ∈ rows, ∃ q, q.Sublist h ∧ r = p ++ q
  | [], rows, r => by
    constructor
    · intro hr; exact ⟨r, hr, [], .slnil, by simp⟩
    · rintro ⟨p, hp, q, hq, rfl⟩
      rw [List.sublist_nil.mp hq, List.append_nil]; exact hp
  | a :: h, rows, r => by
    rw [List.foldl_cons, subs_mem (h := h)]
    constructor
    · rintro ⟨p, hp, q, hq, rfl⟩
      unfold subStep at hp
      rcases List.mem_append.mp hp with hp | hp
      · exact ⟨p, hp, q, hq.cons a, rfl⟩
      · obtain ⟨t, ht, rfl⟩ := List.mem_map.mp hp
        exact ⟨t, ht, a :: q, hq.cons_cons a, by simp⟩
    · rintro ⟨p, hp, q, hq, rfl⟩
      cases hq with
      | cons _ hq => exact ⟨p, List.mem_append_left _ hp, q, hq, rfl⟩
      | cons_cons _ hq => exact ⟨p ++ [a], List.mem_append_right _ (List.mem_map.mpr ⟨p, hp, rfl⟩), _, hq, by simp⟩
theorem subsOf_mem {h r : List Nat} : r ∈ subsOf h ↔ r.Sublist h := by
  unfold subsOf
  rw [subs_mem]
  constructor
  · rintro ⟨p, hp, q, hq, rfl⟩
    have hp : p = [] := by simpa using hp
    rw [hp, List.nil_append]; exact hq
  · intro hr; exact ⟨[], by simp, r, hr, by simp⟩
theorem plain_fold : ∀ {its acc : List Itm} {x : Itm}, x ∈ its.foldl (fun a it => a ++ plainOf it) acc ↔ x ∈ acc ∨ ∃ it ∈ its, x ∈ plainOf it
  | [], acc, x => by simp
  | it :: its, acc, x => by
    rw [List.foldl_cons, plain_fold (its := its), List.mem_append]
    constructor
    · rintro ((h | h) | ⟨jt, hj, h⟩)
      · exact .inl h
      · exact .inr ⟨it, List.mem_cons_self .., h⟩
      · exact .inr ⟨jt, List.mem_cons_of_mem _ hj, h⟩
    · rintro (h | ⟨jt, hj, h⟩)
      · exact .inl (.inl h)
      · rcases List.mem_cons.mp hj with rfl | hj
        · exact .inl (.inr h)
        · exact .inr ⟨jt, hj, h⟩
theorem plain_mem {its : List Itm} {x : Itm} : x ∈ lawPlain its ↔ ∃ it ∈ its, x.2 = 1 ∧ x.1.Sublist it.1 ∧ ((x.1.length : Nat) : Int) = (it.1.length : Int) - (it.2 : Int) + 1 := by
  unfold lawPlain
  rw [plain_fold]
  constructor
  · rintro (h | ⟨it, hit, h⟩)
    · cases h
    · unfold plainOf at h
      obtain ⟨r, hr, rfl⟩ := List.mem_map.mp h
      obtain ⟨h1, h2⟩ := List.mem_filter.mp hr
      exact ⟨it, hit, rfl, subsOf_mem.mp h1, of_decide_eq_true h2⟩
  · rintro ⟨it, hit, h1, h2, h3⟩
    refine .inr ⟨it, hit, ?_⟩
    unfold plainOf
    refine List.mem_map.mpr ⟨x.1, List.mem_filter.mpr ⟨subsOf_mem.mpr h2, decide_eq_true h3⟩, ?_⟩
    exact Prod.ext rfl h1.symm
theorem F10k {n : Nat} {its : List Itm} (hw : WfL n its) {up : List Nat} (hu : WfS n up) : keeping (lawPlain its) up = keeping its up := by
  refine Bool.eq_iff_iff.mpr ?_
  rw [keeping_iff, keeping_iff]
  have add : ∀ l : List Nat, (common l up).length + (l.filter fun k => !decide (k ∈ up)).length = l.length := fun l => by
    have := filter_split (fun _ : Nat => true) (fun k => decide (k ∈ up)) l
    simp only [Bool.true_and] at this
    rw [List.filter_eq_self.mpr (fun _ _ => rfl)] at this
    exact this
  constructor
  · intro h it hit
    refine Nat.le_of_not_lt fun hlt => ?_
    have h1 := add it.1
    have h4 := (hw.it it hit).2.2
    have hsub : ((it.1.filter fun k => !decide (k ∈ up)).take (it.1.length - it.2 + 1)).Sublist it.1 := (List.take_sublist ..).trans List.filter_sublist
    have := h (((it.1.filter fun k => !decide (k ∈ up)).take (it.1.length - it.2 + 1)), 1) (plain_mem.mpr ⟨it, hit, rfl, hsub, by rw [List.length_take]; omega⟩)
    have this : 1 ≤ (common ((it.1.filter fun k => !decide (k ∈ up)).take (it.1.length - it.2 + 1)) up).length := this
    obtain ⟨x, hx⟩ := List.exists_mem_of_length_pos (show 0 < _ from this)
    obtain ⟨hx1, hx2⟩ := List.mem_filter.mp hx
    have hx3 := (List.mem_filter.mp (List.mem_of_mem_take hx1)).2
    rw [hx2] at hx3
    cases hx3
  · intro h x hx
    obtain ⟨it, hit, e, hs, hl⟩ := plain_mem.mp hx
    have h0 := h it hit
    have h1 := add it.1
    have h2 := add x.1
    have h4 := (hw.it it hit).2.2
    have h5 : (x.1.filter fun k => !decide (k ∈ up)).length ≤ (it.1.filter fun k => !decide (k ∈ up)).length := (hs.filter _).length_le
    rw [e]
    omega
theorem F10w {n : Nat} {its : List Itm} (hw : WfL n its) (h : (lawPlain its).length ≤ 10) : WfL n (lawPlain its) := by
  obtain ⟨it, hit⟩ := exists_item hw
  obtain ⟨⟨w1, w2⟩, w3, w4⟩ := hw.it it hit
  refine ⟨hw.lo, hw.hi, ?_, h, fun x hx => ?_⟩
  · exact List.length_pos_of_mem (a := (it.1.take (it.1.length - it.2 + 1), 1)) (plain_mem.mpr ⟨it, hit, rfl, List.take_sublist .., by rw [List.length_take]; omega⟩)
  · obtain ⟨jt, hj, e, hs, hl⟩ := plain_mem.mp hx
    obtain ⟨⟨v1, v2⟩, v3, v4⟩ := hw.it jt hj
    exact ⟨⟨v1.sublist hs, fun k hk => v2 k (hs.subset hk)⟩, by omega, by omega⟩
end


section
theorem lowest_parts {a b : Int} (h : 0 < b) : ∃ g x y : Int, 0 < g ∧ a = g * x ∧ b = g * y ∧ lowest a b = (x, y) := by
  have hg : 0 < (Int.gcd a b : Int) := by
    have : 0 < Int.gcd a b := Int.gcd_pos_of_ne_zero_right _ (by omega)
    omega
  exact ⟨(Int.gcd a b : Int), a / (Int.gcd a b : Int), b / (Int.gcd a b : Int), hg, (Int.mul_ediv_cancel' (Int.gcd_dvd_left ..)).symm, (Int.mul_ediv_cancel' (Int.gcd_dvd_right ..)).symm, rfl⟩
theorem lowest_cross {a b a' b' : Int} (h : 0 < b) (h' : 0 < b') (hle : a * b' ≤ a' * b) : (lowest a b).1 * (lowest a' b').2 ≤ (lowest a' b').1 * (lowest a b).2 := by
  obtain ⟨g, x, y, hg, e1, e2, e3⟩ := lowest_parts (a := a) h
  obtain ⟨g', x', y', hg', e1', e2', e3'⟩ := lowest_parts (a := a') h'
  rw [e3, e3']
  show x * y' ≤ x' * y
  refine Int.le_of_mul_le_mul_left (a := g * g') ?_ (Int.mul_pos hg hg')
  have h1 : g * g' * (x * y') = a * b' := by rw [e1, e2']; simp only [Int.mul_assoc, Int.mul_left_comm]
  have h2 : g * g' * (x' * y) = a' * b := by rw [e1', e2]; simp only [Int.mul_assoc, Int.mul_left_comm]
  rw [h1, h2]
  exact hle
theorem lowest_same {a b : Int} (h : 0 < b) : (lowest a b).1 * b = (lowest a b).2 * a := by
  obtain ⟨g, x, y, hg, e1, e2, e3⟩ := lowest_parts (a := a) h
  rw [e3, e1, e2]
  show x * (g * y) = y * (g * x)
  simp only [Int.mul_left_comm, Int.mul_comm]
theorem lowest_zero {a b : Int} (h : 0 < b) : (lowest a b).1 = 0 ↔ a = 0 := by
  obtain ⟨g, x, y, hg, e1, e2, e3⟩ := lowest_parts (a := a) h
  rw [e3, e1]
  show x = 0 ↔ g * x = 0
  constructor
  · intro z; rw [z, Int.mul_zero]
  · intro z
    rcases Int.mul_eq_zero.mp z with z | z
    · omega
    · exact z
theorem sum_filter_mono {α : Type} {p q : α → Bool} (f : α → Nat) : ∀ {l : List α}, (∀ x ∈ l, p x = true → q x = true) → ((l.filter p).map f).sum ≤ ((l.filter q).map f).sum
  | [], _ => Nat.le_refl _
  | a :: l, h => by
    have ih := sum_filter_mono f (l := l) fun x hx => h x (List.mem_cons_of_mem _ hx)
    by_cases hp : p a = true
    · rw [List.filter_cons_of_pos hp, List.filter_cons_of_pos (h a (List.mem_cons_self ..) hp), List.map_cons, List.map_cons, List.sum_cons, List.sum_cons]
      omega
    · rw [List.filter_cons_of_neg hp]
      by_cases hq : q a = true
      · rw [List.filter_cons_of_pos hq, List.map_cons, List.sum_cons]
        omega
      · rw [List.filter_cons_of_neg hq]
        exact ih
theorem pow_pos12 (n : Nat) : (0 : Int) < ((12 ^ n : Nat) : Int) := by
  have : 0 < 12 ^ n := Nat.pow_pos (by decide)
  exact Int.natCast_pos.mpr this
theorem F11 {n : Nat} {its : List Itm} (hw : WfL n its) {i : Nat} (hi : i < its.length) {ch : List Nat} (hl : ch.length = n) (hch : ∀ x ∈ ch, x ≤ 12) : (itemChance n its i ch).1 * (lossChance n its ch).2 ≤ (lossChance n its ch).1 * (itemChance n its i ch).2 := by
  have hle : ways n ch (itemBad n its i) ≤ ways n ch (losing n its) := by
    refine sum_filter_mono _ fun s hs hb => ?_
    cases q : losing n its s with
    | true => rfl
    | false =>
      have hk : keeping its (othersOf n s) = true := by
        unfold losing at q
        cases z : keeping its (othersOf n s) with
        | true => rfl
        | false => rw [z] at q; cases q
      have hr : i ∈ readable its (othersOf n s) := by
        unfold readable
        have hg : its[i]? = some its[i] := List.getElem?_eq_getElem hi
        exact List.mem_map.mpr ⟨(its[i], i), List.mem_filter.mpr ⟨List.mem_zipIdx_iff_getElem?.mpr hg, decide_eq_true (keeping_iff.mp hk _ (List.getElem_mem hi))⟩, rfl⟩
      unfold itemBad at hb
      rw [decide_eq_true hr] at hb
      cases hb
  unfold itemChance lossChance chanceOf
  exact lowest_cross (pow_pos12 n) (pow_pos12 n) (Int.mul_le_mul_of_nonneg_right (by omega) (Int.le_of_lt (pow_pos12 n)))
/-! ### sums by size -/
def sumTo (m : Nat) (f : Nat → Nat) : Nat := (List.range m).foldl (fun a k => a + f k) 0
theorem sumTo_succ (m : Nat) (f : Nat → Nat) : sumTo (m + 1) f = sumTo m f + f m := by
  unfold sumTo
  rw [List.range_succ, List.foldl_append]; rfl
theorem sumTo_add (f g : Nat → Nat) : ∀ m, sumTo m (fun k => f k + g k) = sumTo m f + sumTo m g
  | 0 => rfl
  | m + 1 => by rw [sumTo_succ, sumTo_succ, sumTo_succ, sumTo_add f g m]; omega
theorem sumTo_zero : ∀ m, sumTo m (fun _ => 0) = 0
  | 0 => rfl
  | m + 1 => by rw [sumTo_succ, sumTo_zero m]
theorem sumTo_congr {f g : Nat → Nat} : ∀ {m}, (∀ k, k < m → f k = g k) → sumTo m f = sumTo m g
  | 0, _ => rfl
  | m + 1, h => by rw [sumTo_succ, sumTo_succ, sumTo_congr fun k hk => h k (by omega), h m (by omega)]
theorem sumTo_ind (f : Nat → Nat) {a : Nat} : ∀ m, sumTo m (fun k => if a = k then f k else 0) = if a < m then f a else 0
  | 0 => by simp [sumTo]
  | m + 1 => by
    rw [sumTo_succ, sumTo_ind f m]
    by_cases h1 : a < m
    · have h2 : ¬ a = m := by omega
      have h3 : a < m + 1 := by omega
      simp [h1, h2, h3]
    · by_cases h2 : a = m
      · subst h2
        simp
      · have h3 : ¬ a < m + 1 := by omega
        simp [h1, h2, h3]
theorem sum_by {f : Nat → Nat} {m : Nat} : ∀ {l : List Nat}, (∀ k ∈ l, k < m) → (l.map f).sum = sumTo m fun k => l.count k * f k
  | [], _ => by
    show 0 = _
    rw [← sumTo_zero m]
    exact sumTo_congr fun k _ => by simp
  | a :: l, h => by
    rw [List.map_cons, List.sum_cons, sum_by (l := l) fun k hk => h k (List.mem_cons_of_mem _ hk)]
    have e : sumTo m (fun k => (a :: l).count k * f k) = sumTo m (fun k => (if a = k then f k else 0) + l.count k * f k) := sumTo_congr fun k _ => by
      rw [List.count_cons]
      by_cases hk : a = k
      · subst hk; simp [Nat.add_mul]; omega
      · have : (a == k) = false := by simpa using hk
        simp [this, hk]
    rw [e, sumTo_add, sumTo_ind, if_pos (h a (List.mem_cons_self ..))]
theorem term_lin (n ch size num : Nat) : termOf n ch size num = num * termOf n ch size 1 := by
  have aux : ∀ i num, termOf i ch size num = num * termOf i ch size 1 := by
    intro i
    induction i with
    | zero => intro num; simp [termOf]
    | succ i ih =>
      intro num
      have st : ∀ num, termOf (i + 1) ch size num = termOf i ch size num * (if i < size then ch else 12 - ch) := fun num => by
        unfold termOf
        rw [List.range_succ, List.foldl_append]; rfl
      rw [st, st, ih num, Nat.mul_assoc]
  exact aux n num
theorem zip_fold (T : Nat → Nat → Nat) (cc : Nat → Nat) : ∀ m, (((List.range m).map cc).zipIdx).foldl (fun a p => a + T p.2 p.1) 0 = sumTo m fun k => T k (cc k)
  | 0 => rfl
  | m + 1 => by
    rw [sumTo_succ, List.range_succ, List.map_append, List.zipIdx_append, List.foldl_append, zip_fold T cc m]
    simp
theorem weight_rep : ∀ n, n ≤ 6 → ∀ ch, ch ≤ 12 → ∀ s ∈ sets n, weightOf (List.replicate n ch) s = termOf n ch s.length 1 := by decide +kernel
theorem ways_by {n : Nat} {its : List Itm} (hw : WfL n its) {ch : Nat} (hch : ch ≤ 12) : ways n (List.replicate n ch) (losing n its) = waysBy n its ch := by
  unfold ways waysBy countLosses
  rw [zip_fold (fun k num => termOf n ch k num)]
  have e1 : ((sets n).filter (losing n its)).map (weightOf (List.replicate n ch)) = (((sets n).filter (losing n its)).map List.length).map fun k => termOf n ch k 1 := by
    rw [List.map_map]
    exact List.map_congr_left fun s hs => weight_rep n hw.hi ch hch s (List.mem_filter.mp hs).1
  rw [e1, sum_by (m := n + 1) fun k hk => ?_]
  · exact sumTo_congr fun k _ => (term_lin n ch k _).symm
  · obtain ⟨s, hs, rfl⟩ := List.mem_map.mp hk
    have := (sets_mem (List.mem_filter.mp hs).1).len
    omega
theorem F1 {n : Nat} {its : List Itm} (hw : WfL n its) {ch : Nat} (hch : ch ≤ 12) : (lossChance n its (List.replicate n ch)).1 * ((12 ^ n : Nat) : Int) = (lossChance n its (List.replicate n ch)).2 * (waysBy n its ch : Int) := by
  unfold lossChance chanceOf
  rw [ways_by hw hch]
  exact lowest_same (pow_pos12 n)
/-! ### one more server fails -/
def ins (n x : Nat) (s : List Nat) : List Nat := (List.range n).filter fun k => decide (k = x) || decide (k ∈ s)
theorem mem_ins {n x y : Nat} {s : List Nat} : y ∈ ins n x s ↔ y < n ∧ (y = x ∨ y ∈ s) := by
  unfold ins
  rw [List.mem_filter, List.mem_range, Bool.or_eq_true, decide_eq_true_iff, decide_eq_true_iff]
theorem ins_wf {n x : Nat} {s : List Nat} : WfS n (ins n x s) := wfS_filter _
theorem ins_len {n x : Nat} {s : List Nat} (hs : WfS n s) (hx : x < n) (hn : x ∉ s) : (ins n x s).length = s.length + 1 := by
  have h1 := nodup_sub (l := ins n x s) (m := x :: s) ins_wf.nodup fun y hy => by
    rcases (mem_ins.mp hy).2 with e | e
    · rw [e]; exact List.mem_cons_self ..
    · exact List.mem_cons_of_mem _ e
  have h2 := nodup_sub (l := x :: s) (m := ins n x s) (List.nodup_cons.mpr ⟨hn, hs.nodup⟩) fun y hy => by
    rcases List.mem_cons.mp hy with e | e
    · rw [e]; exact mem_ins.mpr ⟨hx, .inl rfl⟩
    · exact mem_ins.mpr ⟨hs.2 y e, .inr e⟩
  rw [List.length_cons] at h1 h2
  omega
theorem ins_inj {n x : Nat} {s t : List Nat} (hs : WfS n s) (ht : WfS n t) (h1 : x ∉ s) (h2 : x ∉ t) (e : ins n x s = ins n x t) : s = t := hs.ext ht fun y => by
  have h := mem_ins (n := n) (x := x) (y := y) (s := s)
  have h' := mem_ins (n := n) (x := x) (y := y) (s := t)
  rw [e] at h
  constructor
  · intro hy
    rcases (h'.mp (h.mpr ⟨hs.2 y hy, .inr hy⟩)).2 with z | z
    · exact absurd (z ▸ hy) h1
    · exact z
  · intro hy
    rcases (h.mp (h'.mpr ⟨ht.2 y hy, .inr hy⟩)).2 with z | z
    · exact absurd (z ▸ hy) h2
    · exact z
theorem nodup_subG {α : Type} [BEq α] [LawfulBEq α] : ∀ {l m : List α}, l.Nodup → (∀ x ∈ l, x ∈ m) → l.length ≤ m.length
  | [], _, _, _ => Nat.zero_le _
  | a :: l, m, h, k => by
    obtain ⟨h1, h2⟩ := List.nodup_cons.mp h
    have ha := k a (List.mem_cons_self ..)
    have := nodup_subG (l := l) (m := m.erase a) h2 fun x hx => (List.mem_erase_of_ne (fun z : x = a => h1 (by rw [← z]; exact hx))).mpr (k x (List.mem_cons_of_mem _ hx))
    rw [List.length_erase_of_mem ha] at this
    have : 0 < m.length := List.length_pos_of_mem ha
    rw [List.length_cons]
    omega
theorem sum_mono {α : Type} {f g : α → Nat} : ∀ {l : List α}, (∀ x ∈ l, f x ≤ g x) → (l.map f).sum ≤ (l.map g).sum
  | [], _ => Nat.le_refl _
  | a :: l, h => by
    rw [List.map_cons, List.map_cons, List.sum_cons, List.sum_cons]
    have := h a (List.mem_cons_self ..)
    have := sum_mono (l := l) fun x hx => h x (List.mem_cons_of_mem _ hx)
    omega
theorem sum_const {α : Type} {f : α → Nat} {k : Nat} : ∀ {l : List α}, (∀ x ∈ l, f x = k) → (l.map f).sum = l.length * k
  | [], _ => by simp
  | a :: l, h => by
    rw [List.map_cons, List.sum_cons, h a (List.mem_cons_self ..), sum_const fun x hx => h x (List.mem_cons_of_mem _ hx), List.length_cons, Nat.add_mul]
    omega
theorem sum_addG {α : Type} (f g : α → Nat) : ∀ l : List α, (l.map fun x => f x + g x).sum = (l.map f).sum + (l.map g).sum
  | [] => rfl
  | a :: l => by
    rw [List.map_cons, List.map_cons, List.map_cons, List.sum_cons, List.sum_cons, List.sum_cons, sum_addG f g l]
    omega
theorem sum_bool {α : Type} (p : α → Bool) : ∀ l : List α, (l.map fun x => if p x = true then 1 else 0).sum = (l.filter p).length
  | [] => rfl
  | a :: l => by
    rw [List.map_cons, List.sum_cons, sum_bool p l]
    by_cases h : p a = true
    · rw [if_pos h, List.filter_cons_of_pos h, List.length_cons]; omega
    · rw [if_neg h, List.filter_cons_of_neg h]; omega
theorem dbl {α β : Type} (p : β → α → Bool) (X : List β) : ∀ A : List α, (X.map fun x => (A.filter fun s => p x s).length).sum = (A.map fun s => (X.filter fun x => p x s).length).sum
  | [] => by
    show (X.map fun _ => 0).sum = 0
    rw [sum_const (k := 0) fun x _ => rfl, Nat.mul_zero]
  | s :: A => by
    have e : (X.map fun x => ((s :: A).filter fun s => p x s).length) = X.map fun x => (if p x s = true then 1 else 0) + (A.filter fun s => p x s).length := List.map_congr_left fun x _ => by
      by_cases h : p x s = true
      · simp [List.filter_cons, h]; omega
      · simp [List.filter_cons, h]
    rw [e, sum_addG, dbl p X A, sum_bool, List.map_cons, List.sum_cons]
theorem out_len {n : Nat} {s : List Nat} (hs : WfS n s) : ((List.range n).filter fun x => !decide (x ∈ s)).length = n - s.length ∧ ((List.range n).filter fun x => decide (x ∈ s)).length = s.length := by
  have e : (List.range n).filter (fun x => decide (x ∈ s)) = s := (wfS_filter _).ext hs fun x => by
    rw [List.mem_filter, List.mem_range]
    constructor
    · rintro ⟨_, h⟩; exact of_decide_eq_true h
    · intro h; exact ⟨hs.2 x h, decide_eq_true h⟩
  have h := filter_split (fun _ : Nat => true) (fun x => decide (x ∈ s)) (List.range n)
  simp only [Bool.true_and] at h
  rw [List.filter_eq_self.mpr (fun _ _ => rfl), List.length_range, e] at h
  rw [e]
  exact ⟨by omega, rfl⟩
def losAt (n : Nat) (its : List Itm) (k : Nat) : List (List Nat) := (sets n).filter fun s => decide (s.length = k) && losing n its s
theorem losAt_mem {n : Nat} {its : List Itm} {k : Nat} {s : List Nat} : s ∈ losAt n its k ↔ WfS n s ∧ s.length = k ∧ losing n its s = true := by
  unfold losAt
  rw [List.mem_filter, Bool.and_eq_true, decide_eq_true_iff]
  exact ⟨fun h => ⟨sets_mem h.1, h.2⟩, fun h => ⟨sets_all h.1, h.2⟩⟩
theorem lym {n : Nat} {its : List Itm} (hw : WfL n its) {k : Nat} (hk : k < n) : (losAt n its k).length * (n - k) ≤ (losAt n its (k + 1)).length * (k + 1) := by
  have h1 : ((List.range n).map fun x => ((losAt n its k).filter fun s => !decide (x ∈ s)).length).sum = (losAt n its k).length * (n - k) := by
    rw [dbl (fun (x : Nat) (s : List Nat) => !decide (x ∈ s))]
    exact sum_const fun s hs => by
      obtain ⟨a, b, _⟩ := losAt_mem.mp hs
      rw [(out_len a).1, b]
  have h2 : ((List.range n).map fun x => ((losAt n its (k + 1)).filter fun s => decide (x ∈ s)).length).sum = (losAt n its (k + 1)).length * (k + 1) := by
    rw [dbl (fun (x : Nat) (s : List Nat) => decide (x ∈ s))]
    exact sum_const fun s hs => by
      obtain ⟨a, b, _⟩ := losAt_mem.mp hs
      rw [(out_len a).2, b]
  rw [← h1, ← h2]
  refine sum_mono fun x hx => ?_
  have hx := List.mem_range.mp hx
  have hnd : (losAt n its k).Nodup := (sets_nodup n).filter _
  have hm : (((losAt n its k).filter fun s => !decide (x ∈ s)).map (ins n x)).Nodup := by
    rw [List.nodup_iff_pairwise_ne, List.pairwise_map]
    have hp : ((losAt n its k).filter fun s => !decide (x ∈ s)).Pairwise (· ≠ ·) := hnd.filter _
    refine List.Pairwise.imp_of_mem (fun {a b} ha hb hab e => ?_) hp
    obtain ⟨a1, a2⟩ := List.mem_filter.mp ha
    obtain ⟨b1, b2⟩ := List.mem_filter.mp hb
    exact hab (ins_inj (losAt_mem.mp a1).1 (losAt_mem.mp b1).1 (by simpa using a2) (by simpa using b2) e)
  have := nodup_subG hm (m := (losAt n its (k + 1)).filter fun s => decide (x ∈ s)) fun t ht => by
    obtain ⟨s, hs, rfl⟩ := List.mem_map.mp ht
    obtain ⟨a1, a2⟩ := List.mem_filter.mp hs
    obtain ⟨c1, c2, c3⟩ := losAt_mem.mp a1
    have hxs : x ∉ s := by simpa using a2
    refine List.mem_filter.mpr ⟨losAt_mem.mpr ⟨ins_wf, by rw [ins_len c1 hx hxs, c2], losing_mono hw (fun y hy => mem_ins.mpr ⟨c1.2 y hy, .inr hy⟩) c3⟩, decide_eq_true (mem_ins.mpr ⟨hx, .inl rfl⟩)⟩
  rw [List.length_map] at this
  exact this
theorem comb_step : ∀ n, n ≤ 6 → ∀ k, k < n → comb n (k + 1) * (k + 1) = comb n k * (n - k) := by decide
theorem F2 {n : Nat} {its : List Itm} (hw : WfL n its) {k : Nat} (hk : k < n) : (randomLoss n its k).1 * (randomLoss n its (k + 1)).2 ≤ (randomLoss n its (k + 1)).1 * (randomLoss n its k).2 := by
  obtain ⟨a1, _⟩ := comb_pos n hw.hi k (by omega)
  obtain ⟨a2, _⟩ := comb_pos n hw.hi (k + 1) (by omega)
  have h1 := lym hw hk
  have h2 := comb_step n hw.hi k hk
  unfold randomLoss
  rw [counts_get (by omega), counts_get (by omega)]
  have h3 : (losAt n its k).length * comb n (k + 1) ≤ (losAt n its (k + 1)).length * comb n k := by
    refine Nat.le_of_mul_le_mul_right (?_ : _ * (k + 1) ≤ _ * (k + 1)) (by omega)
    rw [Nat.mul_assoc, h2, ← Nat.mul_assoc, Nat.mul_right_comm, Nat.mul_right_comm _ (comb n k)]
    exact Nat.mul_le_mul_right _ h1
  refine lowest_cross (by omega) (by omega) ?_
  unfold losAt at h3
  exact_mod_cast h3
end


section
def pr (f : Nat × Nat → Nat) : List (Nat × Nat) → Nat
  | [] => 1
  | p :: l => f p * pr f l
theorem pr_fold (f : Nat × Nat → Nat) : ∀ (l : List (Nat × Nat)) (a : Nat), l.foldl (fun a p => a * f p) a = a * pr f l
  | [], a => by simp [pr]
  | p :: l, a => by rw [List.foldl_cons, pr_fold f l, pr, Nat.mul_assoc]
theorem pr_map (f : Nat × Nat → Nat) (g : Nat × Nat → Nat × Nat) : ∀ l, pr f (l.map g) = pr (fun p => f (g p)) l
  | [] => rfl
  | p :: l => by rw [List.map_cons, pr, pr, pr_map f g l]
theorem pr_congr {f g : Nat × Nat → Nat} : ∀ {l}, (∀ p ∈ l, f p = g p) → pr f l = pr g l
  | [], _ => rfl
  | p :: l, h => by rw [pr, pr, h p (List.mem_cons_self ..), pr_congr fun q hq => h q (List.mem_cons_of_mem _ hq)]
theorem pr_pos {f : Nat × Nat → Nat} : ∀ {l}, (∀ p ∈ l, 0 < f p) → 0 < pr f l
  | [], _ => Nat.one_pos
  | p :: l, h => Nat.mul_pos (h p (List.mem_cons_self ..)) (pr_pos fun q hq => h q (List.mem_cons_of_mem _ hq))
theorem zip_map (g : Nat × Nat → Nat) : ∀ (l : List Nat) (off : Nat), ((l.zipIdx off).map g).zipIdx off = (l.zipIdx off).map fun p => (g p, p.2)
  | [], _ => rfl
  | a :: l, off => by
    rw [List.zipIdx_cons, List.map_cons, List.zipIdx_cons, zip_map g l (off + 1), List.map_cons]
theorem zip_ge : ∀ {l : List Nat} {off : Nat} {p : Nat × Nat}, p ∈ l.zipIdx off → off ≤ p.2 ∧ p.2 < off + l.length
  | [], _, _, h => by cases h
  | a :: l, off, p, h => by
    rw [List.zipIdx_cons] at h
    rcases List.mem_cons.mp h with rfl | h
    · exact ⟨Nat.le_refl _, by simp⟩
    · have := zip_ge h
      rw [List.length_cons]
      omega
/-- the chances of all but s -/
def restW (ch : List Nat) (s : Nat) (d : List Nat) : Nat := pr (fun p => if p.2 = s then 1 else if p.2 ∈ d then p.1 else 12 - p.1) ch.zipIdx
theorem rest_split (d : List Nat) (s v : Nat) : ∀ (l : List Nat) (off : Nat), off ≤ s → s < off + l.length →
    pr (fun p => if p.2 ∈ d then (if p.2 = s then v else p.1) else 12 - (if p.2 = s then v else p.1)) (l.zipIdx off) = (if s ∈ d then v else 12 - v) * pr (fun p => if p.2 = s then 1 else if p.2 ∈ d then p.1 else 12 - p.1) (l.zipIdx off)
  | [], off, h1, h2 => by simp at h2; omega
  | a :: l, off, h1, h2 => by
    rw [List.zipIdx_cons, pr, pr]
    by_cases e : off = s
    · subst e
      have e2 : pr (fun p => if p.2 ∈ d then (if p.2 = off then v else p.1) else 12 - (if p.2 = off then v else p.1)) (l.zipIdx (off + 1)) = pr (fun p => if p.2 = off then 1 else if p.2 ∈ d then p.1 else 12 - p.1) (l.zipIdx (off + 1)) := pr_congr fun p hp => by
        have := (zip_ge hp).1
        have hne : ¬ p.2 = off := by omega
        simp [hne]
      rw [e2]
      simp
    · have ih := rest_split d s v l (off + 1) (by omega) (by rw [List.length_cons] at h2; omega)
      rw [ih]
      simp only [e, if_false]
      rw [Nat.mul_left_comm]
theorem weight_with {ch : List Nat} {s v : Nat} (d : List Nat) (hs : s < ch.length) : weightOf (withChance ch s v) d = (if s ∈ d then v else 12 - v) * restW ch s d := by
  unfold weightOf withChance
  rw [zip_map, pr_fold (fun p => if p.2 ∈ d then p.1 else 12 - p.1), Nat.one_mul, pr_map]
  exact rest_split d s v ch 0 (Nat.zero_le _) (by omega)
theorem rest_ins {n : Nat} {ch : List Nat} {s : Nat} {d : List Nat} (hl : ch.length = n) : restW ch s (ins n s d) = restW ch s d := by
  unfold restW
  refine pr_congr fun p hp => ?_
  have := (zip_ge hp).2
  by_cases e : p.2 = s
  · simp [e]
  · have : (p.2 ∈ ins n s d) ↔ p.2 ∈ d := by
      rw [mem_ins]
      constructor
      · rintro ⟨_, z | z⟩
        · exact absurd z e
        · exact z
      · intro z; exact ⟨by omega, .inr z⟩
    simp only [e, if_false, this]
theorem rest_pos {n s : Nat} {d : List Nat} : 0 < restW (List.replicate n 6) s d := pr_pos fun p hp => by
  have : p.1 ∈ List.replicate n 6 := mem_zipIdx_fst hp
  have := List.eq_of_mem_replicate this
  split
  · decide
  · split <;> omega
/-! ### the sets with and without s -/
def without (n s : Nat) : List (List Nat) := (sets n).filter fun d => !decide (s ∈ d)
theorem without_mem {n s : Nat} {d : List Nat} : d ∈ without n s ↔ WfS n d ∧ s ∉ d := by
  unfold without
  rw [List.mem_filter]
  constructor
  · rintro ⟨h1, h2⟩; exact ⟨sets_mem h1, by simpa using h2⟩
  · rintro ⟨h1, h2⟩; exact ⟨sets_all h1, by simpa using h2⟩
theorem perm_sum {α : Type} (f : α → Nat) {l m : List α} (h : l.Perm m) : (l.map f).sum = (m.map f).sum := by
  induction h with
  | nil => rfl
  | cons x _ ih => rw [List.map_cons, List.map_cons, List.sum_cons, List.sum_cons, ih]
  | swap x y l => rw [List.map_cons, List.map_cons, List.map_cons, List.map_cons, List.sum_cons, List.sum_cons, List.sum_cons, List.sum_cons]; omega
  | trans _ _ ih1 ih2 => exact ih1.trans ih2
theorem sets_two {n s : Nat} (hs : s < n) : (sets n).Perm (without n s ++ (without n s).map (ins n s)) := by
  have hnd : (without n s).Nodup := (sets_nodup n).filter _
  have hm : ((without n s).map (ins n s)).Nodup := by
    rw [List.nodup_iff_pairwise_ne, List.pairwise_map]
    have hp : (without n s).Pairwise (· ≠ ·) := hnd
    refine List.Pairwise.imp_of_mem (fun {a b} ha hb hab e => ?_) hp
    exact hab (ins_inj (without_mem.mp ha).1 (without_mem.mp hb).1 (without_mem.mp ha).2 (without_mem.mp hb).2 e)
  refine (List.perm_ext_iff_of_nodup (sets_nodup n) ?_).mpr fun d => ?_
  · rw [List.nodup_append]
    refine ⟨hnd, hm, fun a ha b hb => ?_⟩
    obtain ⟨t, ht, rfl⟩ := List.mem_map.mp hb
    rintro rfl
    exact (without_mem.mp ha).2 (mem_ins.mpr ⟨hs, .inl rfl⟩)
  · rw [List.mem_append]
    constructor
    · intro hd
      have hd := sets_mem hd
      by_cases h : s ∈ d
      · right
        have hw : WfS n (d.filter fun k => !decide (k = s)) := ⟨hd.1.filter _, fun k hk => hd.2 k (List.mem_filter.mp hk).1⟩
        refine List.mem_map.mpr ⟨d.filter fun k => !decide (k = s), without_mem.mpr ⟨hw, fun z => ?_⟩, ins_wf.ext hd fun x => ?_⟩
        · have := (List.mem_filter.mp z).2
          simp at this
        · rw [mem_ins, List.mem_filter]
          constructor
          · rintro ⟨h1, h2 | h2⟩
            · rw [h2]; exact h
            · exact h2.1
          · intro hx
            refine ⟨hd.2 x hx, ?_⟩
            by_cases e : x = s
            · exact .inl e
            · exact .inr ⟨hx, by simpa using e⟩
      · exact .inl (without_mem.mpr ⟨hd, h⟩)
    · rintro (h | h)
      · exact sets_all (without_mem.mp h).1
      · obtain ⟨t, ht, rfl⟩ := List.mem_map.mp h
        exact sets_all ins_wf
theorem sum_filterG {α : Type} (p : α → Bool) (f : α → Nat) : ∀ l : List α, ((l.filter p).map f).sum = (l.map fun x => if p x = true then f x else 0).sum
  | [] => rfl
  | a :: l => by
    rw [List.map_cons, List.sum_cons, ← sum_filterG p f l]
    by_cases h : p a = true
    · rw [List.filter_cons_of_pos h, if_pos h, List.map_cons, List.sum_cons]
    · rw [List.filter_cons_of_neg h, if_neg h, Nat.zero_add]
theorem sum_congrG {α : Type} {f g : α → Nat} : ∀ {l : List α}, (∀ x ∈ l, f x = g x) → (l.map f).sum = (l.map g).sum
  | [], _ => rfl
  | a :: l, h => by
    rw [List.map_cons, List.map_cons, List.sum_cons, List.sum_cons, h a (List.mem_cons_self ..), sum_congrG fun x hx => h x (List.mem_cons_of_mem _ hx)]
theorem ways_two {n : Nat} {its : List Itm} {ch : List Nat} {s v : Nat} (hl : ch.length = n) (hs : s < n) : ways n (withChance ch s v) (losing n its) =
    ((without n s).map fun d => (if losing n its d = true then (12 - v) * restW ch s d else 0) + if losing n its (ins n s d) = true then v * restW ch s d else 0).sum := by
  unfold ways
  rw [sum_filterG, perm_sum _ (sets_two hs), List.map_append, List.sum_append, List.map_map, sum_addG]
  congr 1
  · refine sum_congrG fun d hd => ?_
    rw [weight_with d (by omega), if_neg (without_mem.mp hd).2]
  · refine sum_congrG fun d hd => ?_
    show (if losing n its (ins n s d) = true then weightOf (withChance ch s v) (ins n s d) else 0) = _
    rw [weight_with _ (by omega), if_pos (mem_ins.mpr ⟨hs, .inl rfl⟩), rest_ins hl]
theorem sum_eq_iff {α : Type} {f g : α → Nat} : ∀ {l : List α}, (∀ x ∈ l, f x ≤ g x) → ((l.map f).sum = (l.map g).sum ↔ ∀ x ∈ l, f x = g x)
  | [], _ => by simp
  | a :: l, h => by
    have h1 := h a (List.mem_cons_self ..)
    have h2 := sum_mono (l := l) fun x hx => h x (List.mem_cons_of_mem _ hx)
    have ih := sum_eq_iff (l := l) fun x hx => h x (List.mem_cons_of_mem _ hx)
    rw [List.map_cons, List.map_cons, List.sum_cons, List.sum_cons]
    constructor
    · intro e x hx
      rcases List.mem_cons.mp hx with rfl | hx
      · omega
      · exact ih.mp (by omega) x hx
    · intro e
      rw [e a (List.mem_cons_self ..), ih.mpr fun x hx => e x (List.mem_cons_of_mem _ hx)]
/-- no set that s turns into a loss -/
theorem imp_zero {n : Nat} {its : List Itm} (hw : WfL n its) {ch : List Nat} {s : Nat} (hl : ch.length = n) (hs : s < n) :
    (importance n its ch s).1 = 0 ↔ ∀ d ∈ without n s, losing n its (ins n s d) = true → losing n its d = false → restW ch s d = 0 := by
  have hN := pow_pos12 n
  have e12 := ways_two (n := n) (its := its) (ch := ch) (s := s) (v := 12) hl hs
  have e0 := ways_two (n := n) (its := its) (ch := ch) (s := s) (v := 0) hl hs
  have hz : ways n (withChance ch s 0) (losing n its) = ways n (withChance ch s 12) (losing n its) ↔ ∀ d ∈ without n s, losing n its (ins n s d) = true → losing n its d = false → restW ch s d = 0 := by
    rw [e0, e12, sum_eq_iff fun d hd => ?_]
    · refine forall_congr' fun d => forall_congr' fun hd => ?_
      have hm : losing n its d = true → losing n its (ins n s d) = true := losing_mono hw fun x hx => mem_ins.mpr ⟨(without_mem.mp hd).1.2 x hx, .inr hx⟩
      cases h1 : losing n its d with
      | true => rw [hm h1]; simp
      | false =>
        cases h2 : losing n its (ins n s d) with
        | true => simp; omega
        | false => simp
    · have hm : losing n its d = true → losing n its (ins n s d) = true := losing_mono hw fun x hx => mem_ins.mpr ⟨(without_mem.mp hd).1.2 x hx, .inr hx⟩
      cases h1 : losing n its d with
      | true => rw [hm h1]; simp
      | false =>
        cases h2 : losing n its (ins n s d) <;> simp
  rw [← hz]
  unfold importance lossChance chanceOf
  obtain ⟨g, x, y, hg, a1, a2, a3⟩ := lowest_parts (a := (ways n (withChance ch s 12) (losing n its) : Int)) hN
  obtain ⟨g', x', y', hg', b1, b2, b3⟩ := lowest_parts (a := (ways n (withChance ch s 0) (losing n its) : Int)) hN
  rw [a3, b3]
  have hy : 0 < y := by
    rcases Int.lt_trichotomy y 0 with h | h | h
    · have := Int.mul_neg_of_pos_of_neg hg h; omega
    · rw [h, Int.mul_zero] at a2; omega
    · exact h
  have hy' : 0 < y' := by
    rcases Int.lt_trichotomy y' 0 with h | h | h
    · have := Int.mul_neg_of_pos_of_neg hg' h; omega
    · rw [h, Int.mul_zero] at b2; omega
    · exact h
  rw [lowest_zero (Int.mul_pos hy hy')]
  show x * y' - x' * y = 0 ↔ _
  have h1 : g * g' * (x * y') = (ways n (withChance ch s 12) (losing n its) : Int) * ((12 ^ n : Nat) : Int) := by
    rw [a1]
    conv => rhs; rw [b2]
    simp only [Int.mul_assoc, Int.mul_left_comm]
  have h2 : g * g' * (x' * y) = (ways n (withChance ch s 0) (losing n its) : Int) * ((12 ^ n : Nat) : Int) := by
    rw [b1]
    conv => rhs; rw [a2]
    simp only [Int.mul_assoc, Int.mul_left_comm]
  constructor
  · intro e
    have e : x * y' = x' * y := by omega
    rw [e, h2] at h1
    have := Int.eq_of_mul_eq_mul_right (by omega) h1
    omega
  · intro e
    rw [e] at h2
    rw [← h2] at h1
    have := Int.eq_of_mul_eq_mul_left (show g * g' ≠ 0 from fun z => by have := Int.mul_pos hg hg'; omega) h1
    omega
theorem pivot_iff {n : Nat} {its : List Itm} (hw : WfL n its) {s : Nat} (hs : s < n) : (∃ d ∈ without n s, losing n its (ins n s d) = true ∧ losing n its d = false) ↔ ∃ o ∈ minKeepers n its, s ∈ o := by
  have kl : ∀ d, losing n its d = false ↔ keeping its (othersOf n d) = true := fun d => by
    unfold losing
    cases keeping its (othersOf n d) <;> simp
  constructor
  · rintro ⟨d, hd, h1, h2⟩
    obtain ⟨w1, w2⟩ := without_mem.mp hd
    obtain ⟨o, ho, how⟩ := minimal_cover (List.mem_filter.mpr ⟨sets_all (wfS_others (n := n) (s := d)), (kl d).mp h2⟩)
    refine ⟨o, ho, Classical.byContradiction fun hso => ?_⟩
    have hk : keeping its (othersOf n (ins n s d)) = true := keeping_mono (fun x hx => by
      have h3 := mem_others.mp (isWithin_iff.mp how x hx)
      refine mem_others.mpr ⟨h3.1, fun z => ?_⟩
      rcases (mem_ins.mp z).2 with z | z
      · rw [z] at hx; exact hso hx
      · exact h3.2 z) (List.mem_filter.mp (minimal_sub o ho)).2
    rw [(kl _).mpr hk] at h1
    cases h1
  · rintro ⟨o, ho, hso⟩
    obtain ⟨o1, o2⟩ := List.mem_filter.mp (minimal_sub o ho)
    have hwo := sets_mem o1
    refine ⟨othersOf n o, without_mem.mpr ⟨wfS_others, fun z => (mem_others.mp z).2 hso⟩, ?_, ?_⟩
    · cases q : losing n its (ins n s (othersOf n o)) with
      | true => rfl
      | false =>
        exfalso
        have hk := (kl _).mp q
        have hmem : ∀ x, x ∈ othersOf n (ins n s (othersOf n o)) ↔ x ∈ o ∧ x ≠ s := fun x => by
          rw [mem_others, mem_ins, mem_others]
          constructor
          · rintro ⟨h1, h2⟩
            refine ⟨Classical.byContradiction fun z => h2 ⟨h1, .inr ⟨h1, z⟩⟩, fun z => h2 ⟨h1, .inl z⟩⟩
          · rintro ⟨h1, h2⟩
            refine ⟨hwo.2 x h1, ?_⟩
            rintro ⟨_, z | z⟩
            · exact h2 z
            · exact z.2 h1
        have hqL : othersOf n (ins n s (othersOf n o)) ∈ (sets n).filter (keeping its) := List.mem_filter.mpr ⟨sets_all wfS_others, hk⟩
        have hlt : (othersOf n (ins n s (othersOf n o))).length < o.length := by
          have := nodup_sub (l := s :: othersOf n (ins n s (othersOf n o))) (m := o) (List.nodup_cons.mpr ⟨fun z => ((hmem s).mp z).2 rfl, (wfS_others (n := n)).nodup⟩) fun x hx => by
            rcases List.mem_cons.mp hx with rfl | hx
            · exact hso
            · exact ((hmem x).mp hx).1
          rw [List.length_cons] at this
          omega
        obtain ⟨a, b, e, hno⟩ := minimal_first ho
        have hsort : ((sets n).filter (keeping its)).Pairwise (fun x y => leS x y = true) := (srtS_sorted _).filter _
        rw [e] at hqL hsort
        rcases List.mem_append.mp hqL with h | h
        · have := hno _ h
          rw [isWithin_iff.mpr fun x hx => ((hmem x).mp hx).1] at this
          cases this
        · rcases List.mem_cons.mp h with h | h
          · rw [h] at hlt; exact Nat.lt_irrefl _ hlt
          · have hp := (List.pairwise_cons.mp (List.pairwise_append.mp hsort).2.1).1 _ h
            rcases leS_iff.mp hp with z | ⟨z, _⟩ <;> omega
    · rw [kl, others_others hwo]
      exact o2
theorem useless_iff {n : Nat} {its : List Itm} {s : Nat} (hs : s < n) : s ∈ useless n its ↔ ¬ ∃ o ∈ minKeepers n its, s ∈ o := by
  unfold useless
  rw [List.mem_filter, List.mem_range]
  constructor
  · rintro ⟨_, h⟩ ⟨o, ho, hso⟩
    have : ((minKeepers n its).any fun k => decide (s ∈ k)) = true := List.any_eq_true.mpr ⟨o, ho, decide_eq_true hso⟩
    rw [this] at h
    cases h
  · intro h
    refine ⟨hs, ?_⟩
    cases q : (minKeepers n its).any fun k => decide (s ∈ k) with
    | false => rfl
    | true =>
      obtain ⟨o, ho, hso⟩ := List.any_eq_true.mp q
      exact absurd ⟨o, ho, of_decide_eq_true hso⟩ h
theorem F4 {n : Nat} {its : List Itm} (hw : WfL n its) {s : Nat} (hs : s < n) : (importance n its (List.replicate n 6) s).1 = 0 ↔ s ∈ useless n its := by
  rw [imp_zero hw (by rw [List.length_replicate]) hs, useless_iff hs, ← pivot_iff hw hs]
  constructor
  · rintro h ⟨d, hd, h1, h2⟩
    have := h d hd h1 h2
    have := rest_pos (n := n) (s := s) (d := d)
    omega
  · intro h d hd h1 h2
    exact absurd ⟨d, hd, h1, h2⟩ h
theorem F5 {n : Nat} {its : List Itm} (hw : WfL n its) {s : Nat} (hs : s < n) {ch : List Nat} (hl : ch.length = n) (hch : ∀ x ∈ ch, x ≤ 12) (hu : s ∈ useless n its) : (importance n its ch s).1 = 0 := by
  rw [imp_zero hw hl hs]
  intro d hd h1 h2
  exact absurd ((pivot_iff hw hs).mp ⟨d, hd, h1, h2⟩) ((useless_iff hs).mp hu)
end


section
open PySem PySem.Spec PyProof.Rows L2 LamX
variable {c : Cxt} {P : Program} {w : World} {mg : Str → Option Value} {base : Heap} {f : Addr} {fd : FuncData}
theorem eqv_FrL (a b : Int × Int) : PyData.eqv (.tuple [.int a.1, .int a.2]) (.tuple [.int b.1, .int b.2]) = decide (a = b) := by
  show PyData.eqvAll ([a.1, a.2].map PyData.int) ([b.1, b.2].map PyData.int) = _
  rw [eqvAll_map (d := PyData.int) eqv_int]
  refine decide_eq_decide.mpr ⟨fun h => ?_, fun h => by rw [h]⟩
  obtain ⟨h1, h2⟩ := List.cons.inj h
  obtain ⟨h3, _⟩ := List.cons.inj h2
  exact Prod.ext h1 h3
theorem Fr_TI (p : Int × Int) : Fr (c := c) p = TI' [p.1, p.2] := rfl
theorem rv_eqFr {a b : Int × Int} : RV c (rEqD c.K) (Fr a) (Fr b) (B (decide (a = b))) := by
  have h := rv_eqTI (c := c) (l := [a.1, a.2]) (m := [b.1, b.2])
  have e : decide ([a.1, a.2] = [b.1, b.2]) = decide (a = b) := decide_eq_decide.mpr ⟨fun h => by
    obtain ⟨h1, h2⟩ := List.cons.inj h
    obtain ⟨h3, _⟩ := List.cons.inj h2
    exact Prod.ext h1 h3, fun h => by rw [h]⟩
  rw [e] at h
  exact h
theorem rv_neFr {a b : Int × Int} : RV c (rNeD c.K) (Fr a) (Fr b) (B (!decide (a = b))) := by
  have h := rv_neTI (c := c) (l := [a.1, a.2]) (m := [b.1, b.2])
  have e : decide ([a.1, a.2] = [b.1, b.2]) = decide (a = b) := decide_eq_decide.mpr ⟨fun h => by
    obtain ⟨h1, h2⟩ := List.cons.inj h
    obtain ⟨h3, _⟩ := List.cons.inj h2
    exact Prod.ext h1 h3, fun h => by rw [h]⟩
  rw [e] at h
  exact h
/-- a power loop -/
theorem term_step (n ch size num i : Nat) : termOf (i + 1) ch size num = termOf i ch size num * (if i < size then ch else 12 - ch) := by
  unfold termOf
  rw [List.range_succ, List.foldl_append]; rfl
theorem counts_le {n : Nat} {its : List Itm} (h : n ≤ 6) {k : Nat} (hk : k ∈ countLosses n its) : k ≤ 64 := by
  unfold countLosses at hk
  obtain ⟨j, _, rfl⟩ := List.mem_map.mp hk
  refine Nat.le_trans List.count_le_length ?_
  rw [List.length_map]
  have := List.length_filter_le (losing n its) (sets n)
  have := sets_le h
  omega
theorem term_le {n ch size num : Nat} (hn : n ≤ 6) (hc : ch ≤ 12) (hnum : num ≤ 64) : termOf n ch size num ≤ 64 * 12 ^ 6 := by
  have aux : ∀ i, termOf i ch size num ≤ 64 * 12 ^ i := by
    intro i
    induction i with
    | zero => simpa [termOf] using hnum
    | succ i ih =>
      rw [term_step i ch size num i, Nat.pow_succ, ← Nat.mul_assoc]
      refine Nat.mul_le_mul ih ?_
      split <;> omega
  exact Nat.le_trans (aux n) (Nat.mul_le_mul_left _ (Nat.pow_le_pow_right (by decide) hn))
theorem q_forT {σ : L2.St} {H H0 : Hp} {tl : TE} {D : Ends} {tw tz : TS} {g0 : TG} {α : Type} (xs : List α) (F : α → SV c) [hT : ∀ x, Tst (F x)] (g : Gr c H0 H) (h : Ev c tl σ H (TupOf (xs.map F))) (Pv : Hp → Nat → L2.St → Hp → Prop) (h0 : ∀ H1, Gr c H H1 → Pv H1 0 σ H1) (hG : ∀ H1 i σ' H', Gr c H H1 → Pv H1 i σ' H' → Gr c H0 H' ∧ Gt H1 H')
    (hs : ∀ H1 i a x σ' H', Gr c H H1 → xs[i]? = some a → Pv H1 i σ' H' → (F a).p x H' → g0 x σ' H' fun σ2 H3 => tw { D with nx := Pv H1 (i + 1), ct := Pv H1 (i + 1), bk := tz D } σ2 H3)
    (hd : ∀ H1 σ' H', Gr c H H1 → Pv H1 xs.length σ' H' → tz D σ' H') : tSeq (tFor (iTup c.K tl) g0 tw) tz D σ H := s_forT (D := { D with nx := tz D }) xs F g h Pv h0 hG hs hd
theorem ev_un1 {σ : L2.St} {H : Hp} {i : Int} : Ev c (tUn (rU fun i => .int (-i)) (tC (.int i))) σ H (I (-i)) := fun H1 g Q q => ⟨i, rfl, q _ H1 g.self rfl⟩
theorem zip_succ {m : Nat} {p : Nat × Nat} (h : p ∈ (List.range (m + 1)).zip ((List.range (m + 1)).drop 1)) : ∃ i, i < m ∧ p.1 = i ∧ p.2 = i + 1 := by
  obtain ⟨i, hi⟩ := List.mem_iff_getElem?.mp h
  obtain ⟨h1, h2⟩ := List.getElem?_zip_eq_some.mp hi
  rw [List.getElem?_drop] at h2
  obtain ⟨a1, a2⟩ := List.getElem?_eq_some_iff.mp h1
  obtain ⟨b1, b2⟩ := List.getElem?_eq_some_iff.mp h2
  rw [List.getElem_range] at a2 b2
  rw [List.length_range] at a1 b1
  exact ⟨i, by omega, by omega, by omega⟩
theorem cmulR {i : Int} {m : Nat} (h : m ≤ 2985984) : CMul i (m : Int) := .inr ⟨by omega, by omega⟩
def R_law_sizes_right (As : List (SV c)) (Z : SV c) : Prop := ∃ (n : Nat) (its : List Itm), As = [Lay n its] ∧ WfL n its ∧ Z = B true
abbrev N_law_sizes_right : List Str := ["_law_layout", "_law_servers", "_law_counts", "_law_chance", "_law_parts", "_law_whole", "_law_ways", "_law_server", "_law_size", "_law_number_here", "_law_above", "_law_below", "_law_term", "_law_one", "_law_other"]
theorem sc_law_sizes_right : FnScope N_law_sizes_right ["_law_layout"] (defScope s_law_sizes_right) := ⟨rfl, rfl, rfl, by decide +kernel, rfl, by decide +kernel, by decide +kernel⟩
theorem ok_law_sizes_right (F : FnP c.K "_law_sizes_right" "_law_sizes_right" s_law_sizes_right f fd) (Bt : Bts c mg) (C : Cl c) (Il : IsL c) (h_count_losses : Has P w c.K mg base "count_losses" ["layout"] 7 (Pm c R_count_losses)) (h_loss_chance : Has P w c.K mg base "loss_chance" ["layout", "chances"] 9 (Pm c R_loss_chance)) (h_random_loss : Has P w c.K mg base "random_loss" ["layout", "failures"] 8 (Pm c R_random_loss)) : FnOk P w c.K mg base CX0 10 f fd ["_law_layout"] (Pm c R_law_sizes_right) := by
  refine okP F sc_law_sizes_right (fun As Z h => by obtain ⟨_, _, rfl, _⟩ := h; rfl) fun cdv A outer s H vs Q E As Z hr hA hR g k => ?_
  have nd := sc_law_sizes_right.nd
  obtain ⟨n, its, rfl, hw, rfl⟩ := hR
  obtain ⟨v0, rfl, h0⟩ := hA.inv1
  have hhi := hw.hi
  have hlo := hw.lo
  have hcl := counts_len n its
  have h126 : (12 : Nat) ^ 6 = 2985984 := by decide
  have h12n : 12 ^ n ≤ 12 ^ 6 := Nat.pow_le_pow_right (by decide) hhi
  refine ⟨_, (pss_cons (ps_par (i := 1) (j := 2) rfl nd rfl rfl (by decide) rfl rfl (pa_cons (pe_fldQ (K := c.K) rfl (pv 0) rfl) (pa_cons (pe_callH h_count_losses (hr.mono (by decide)) rfl (pa_cons (pv 0) pa_nil)) pa_nil)) (by rfl))
    (pss_cons (ps_for PassesOwn.never rfl (pi_tupQ (K := c.K) rfl (pe_tup (pa_cons pe_int (pa_cons pe_int (pa_cons pe_int (pa_cons pe_int pa_nil)))))) (pg_name (i := 3) nd rfl (Or.inl rfl)) (pss_cons (ps_asg (pe_tup (pa_cons pe_int (pa_cons pe_int pa_nil))) (pg_tupQ (K := c.K) (n := 2) rfl rfl (pgs_cons (pg_name (i := 5) nd rfl (Or.inl rfl)) (pgs_cons (pg_name (i := 6) nd rfl (Or.inl rfl)) pgs_nil))))
    (pss_cons (ps_for PassesOwn.never rfl (pi_range1 (by rfl) Bt.brange (pa_cons (pv 1) pa_nil)) (pg_name (i := 7) nd rfl (Or.inl rfl)) (pss_one (ps_set (i := 5) nd rfl (Or.inl rfl) (pe_op op_mul (pv 5) pe_int))))
    (pss_cons (ps_for PassesOwn.never rfl (pi_enumTQ (K := c.K) rfl (by rfl) Bt.benumerate (pa_cons (pv 2) pa_nil)) (pg_tupQ (K := c.K) (n := 2) rfl rfl (pgs_cons (pg_name (i := 8) nd rfl (Or.inl rfl)) (pgs_cons (pg_name (i := 9) nd rfl (Or.inl rfl)) pgs_nil))) (pss_cons (ps_set (i := 12) nd rfl (Or.inl rfl) (pv 9))
    (pss_cons (ps_for PassesOwn.never rfl (pi_range1 (by rfl) Bt.brange (pa_cons (pv 1) pa_nil)) (pg_name (i := 7) nd rfl (Or.inl rfl)) (pss_one (ps_set (i := 12) nd rfl (Or.inl rfl) (pe_op op_mul (pv 12) (pe_ifExp (pt_cmpR op_lt (pv 7) (pv 8) (nomark _)) (pv 3) (pe_op op_sub pe_int (pv 3)))))))
    (pss_one (ps_set (i := 6) nd rfl (Or.inl rfl) (pe_op op_add (pv 6) (pv 12)))))))
    (pss_cons (ps_asg (pe_callH h_loss_chance (hr.mono (by decide)) rfl (pa_cons (pv 0) (pa_cons (pe_op (op_repTQ (K := c.K) rfl) (pe_tup (pa_cons (pv 3) pa_nil)) (pv 1)) pa_nil))) (pg_tupQ (K := c.K) (n := 2) rfl rfl (pgs_cons (pg_name (i := 10) nd rfl (Or.inl rfl)) (pgs_cons (pg_name (i := 11) nd rfl (Or.inl rfl)) pgs_nil))))
    (pss_one (ps_if (pt_cmpR op_ne (pe_op op_mul (pv 10) (pv 5)) (pe_op op_mul (pv 11) (pv 6)) (nomark _)) (pss_one (ps_ret pe_bl)) pss_nil)))))))
    (pss_cons (ps_setLc (own := [("_law_size", 8)]) (i := 4) rfl nd rfl rfl (sw_true rfl rfl rfl (by decide +kernel)) (pi_range1 (by rfl) Bt.brange (pa_cons (pe_op op_add (pv 1) pe_int) pa_nil)) (blkOk_by (own := [("_law_size", 8)]) (N := N_law_sizes_right) (sc := defScope s_law_sizes_right) (by decide +kernel)) (fun _ _ _ _ _ => (pg_name (i := 8) nd rfl (Or.inl rfl))) (fun _ _ _ _ _ => pts_nil) (fun _ _ _ _ _ => (pe_callH h_random_loss (hr.mono (by decide)) rfl (pa_cons (pv 0) (pa_cons (pv 8) pa_nil)))))
    (pss_cons (ps_if (pt_val (pe_callB (cr_anyQ (K := c.K) rfl rfl) (by rfl) Bt.bany (by decide +kernel) (pa_cons (pe_lc (own := [("_law_one", 13), ("_law_other", 14)]) rfl nd (pi_zipQ (K := c.K) rfl (by rfl) Bt.bzip (pa_cons (pv 4) (pa_cons (pe_slice (sl_listQ (K := c.K) rfl) (pv 4) (po_some pe_int) po_none) pa_nil))) (blkOk_by (own := [("_law_one", 13), ("_law_other", 14)]) (N := N_law_sizes_right) (sc := defScope s_law_sizes_right) (by decide +kernel)) (fun _ _ _ _ _ => (pg_tupQ (K := c.K) (n := 2) rfl rfl (pgs_cons (pg_name (i := 13) nd rfl (Or.inl rfl)) (pgs_cons (pg_name (i := 14) nd rfl (Or.inl rfl)) pgs_nil)))) (fun _ _ _ _ _ => pts_nil) (fun _ _ _ _ _ => (pe_cmpR op_gt (pe_op op_mul (pe_ix (ix_tupQ (K := c.K) rfl) (pv 13) pe_int (fun _ _ => rfl)) (pe_ix (ix_tupQ (K := c.K) rfl) (pv 14) pe_int (fun _ _ => rfl))) (pe_op op_mul (pe_ix (ix_tupQ (K := c.K) rfl) (pv 14) pe_int (fun _ _ => rfl)) (pe_ix (ix_tupQ (K := c.K) rfl) (pv 13) pe_int (fun _ _ => rfl))) (nomark _)))) pa_nil))) (pss_one (ps_ret pe_bl)) pss_nil)
    (pss_one (ps_ret (pe_cmpR (op_eqDQ (K := c.K) rfl hr.units) (pe_ix (ix_listQ (K := c.K) rfl) (pv 4) (pe_un un_neg pe_int) (fun _ _ => rfl)) (pe_tup (pa_cons pe_int (pa_cons pe_int pa_nil))) (nomark _)))))))), ?_⟩
  refine q_par g (P := I (n : Int)) (R := S (countLosses n its)) (ev_servers C (ev_var rfl h0)) (ev_call (ea_cons (ev_var rfl h0) ea_nil) ⟨_, _, rfl, hw, rfl⟩) fun v1 v2 H1 g1 h1 h2 => ?_
  obtain rfl : v1 = _ := h1
  refine q_forT [0, 3, 6, 12] (fun k : Nat => I (k : Int)) (H0 := H) g1 (ef_tup (Ps := [I ((0 : Nat) : Int), I ((3 : Nat) : Int), I ((6 : Nat) : Int), I ((12 : Nat) : Int)]) (ea_cons ev_c (ea_cons ev_c (ea_cons ev_c (ea_cons ev_c ea_nil)))) (by simp)).ev
    (fun Hx i σ' H' => Gr c H H' ∧ Gt Hx H' ∧ ∃ u3 u4 u5 u6 u7 u8 u9 u10 u11 u12 u13 u14, σ' = [some v0, some (.int (n : Int)), some v2, u3, u4, u5, u6, u7, u8, u9, u10, u11, u12, u13, u14] ∧ (S (c := c) (countLosses n its)).p v2 H') (fun Hx gx => ⟨g1.trans gx, Gt.refl _, none, none, none, none, none, none, none, none, none, none, none, none, rfl, (S _).st gx h2⟩) (fun Hx i σ' H' _ p => ⟨p.1, p.2.1⟩) ?_ ?_
  · rintro Hx i ch x σ' H2 gx hi ⟨gp, gt, u3, u4, u5, u6, u7, u8, u9, u10, u11, u12, u13, u14, rfl, hS⟩ hx
    obtain rfl : x = _ := hx
    have hch : ch ≤ 12 := by
      have := List.mem_of_getElem? hi
      simp at this
      omega
    show tSeq _ _ _ _ _
    refine q_asgT (H0 := H2) gp.self (P := TupOf [I ((1 : Nat) : Int), I ((0 : Nat) : Int)]) (ef_tup (Ps := [I ((1 : Nat) : Int), I ((0 : Nat) : Int)]) (ea_cons ev_c (ea_cons ev_c ea_nil)) (by simp)).ev fun v H3 g3 hv => ?_
    obtain ⟨v5, v6, h5, h6, ht⟩ := tg_pair hv
    obtain rfl : v5 = _ := h5
    obtain rfl : v6 = _ := h6
    refine ⟨_, ht tg_name tg_name, ?_⟩
    have gp3 := gp.trans g3
    have hS3 := (S _).st g3 hS
    refine q_forP (List.range n) (fun k : Nat => I (k : Int)) (H0 := H3) gp3.self (es_range1 (ea_cons (ev_var (P := I (n : Int)) rfl rfl) ea_nil) (by omega)) (fun i σ' _ => ∃ u7, σ' = [some v0, some (.int (n : Int)), some v2, some (.int (ch : Int)), u4, some (.int ((12 ^ i : Nat) : Int)), some (.int ((0 : Nat) : Int)), u7, u8, u9, u10, u11, u12, u13, u14]) (fun H4 g4 => ⟨u7, rfl⟩) ?_ ?_
    · rintro i a y σ' H4 hi gq ⟨u7, rfl⟩ H5 g5 hy
      show tAsg _ _ _ _ _
      refine s_asg (H0 := H5) g5.self.self (P := I ((12 ^ (i + 1) : Nat) : Int)) (Ev.to (ev_op (rv_I (.inr ⟨by decide, by decide⟩)) (ev_var (P := I ((12 ^ i : Nat) : Int)) rfl rfl) ev_c) (congrArg (fun i : Int => I i) (by rw [Nat.pow_succ, Int.natCast_mul]; rfl))) fun v H6 g6 e6 => ⟨(gq.trans g5).trans g6, some y, ?_⟩
      obtain rfl : v = _ := e6
      rfl
    · rintro σ' H4 gq ⟨u7, rfl⟩
      rw [List.length_range]
      have gp4 := gp3.trans gq
      have hS4 := (S _).st gq hS3
      refine q_forP (countLosses n its).zipIdx (fun p => TupOf [I (p.2 : Int), I (p.1 : Int)]) (H0 := H4) gp4.self (es_enumT (F := fun k : Nat => I (k : Int)) (ev_var (P := Eqv v2) rfl rfl) hS4) (fun i σ' _ => ∃ u7 u8 u9 u12, σ' = [some v0, some (.int (n : Int)), some v2, some (.int (ch : Int)), u4, some (.int ((12 ^ n : Nat) : Int)), some (.int (((((countLosses n its).zipIdx.take i).foldl (fun a p => a + termOf n ch p.2 p.1) 0 : Nat)) : Int)), u7, u8, u9, u10, u11, u12, u13, u14]) (fun H5 g5 => ⟨u7, u8, u9, u12, rfl⟩) ?_ ?_
      · rintro i ⟨num, size⟩ y σ' H5 hi gr ⟨u7, u8, u9, u12, rfl⟩ H6 g6 hy
        obtain ⟨x1, x2, e1, e2, ht⟩ := tg_pair hy
        obtain rfl : x1 = _ := e1
        obtain rfl : x2 = _ := e2
        refine ht tg_name tg_name _ ?_
        have eT : ((countLosses n its).zipIdx.take (i + 1)).foldl (fun a p => a + termOf n ch p.2 p.1) 0 = ((countLosses n its).zipIdx.take i).foldl (fun a p => a + termOf n ch p.2 p.1) 0 + termOf n ch size num := by
          rw [List.take_add_one, hi, List.foldl_append]; rfl
        rw [eT]
        generalize ((countLosses n its).zipIdx.take i).foldl (fun a p => a + termOf n ch p.2 p.1) 0 = acc
        have gr6 := gr.trans g6
        show tSeq _ _ _ _ _
        refine q_asg (H0 := H6) gr6.self (P := I (num : Int)) (ev_var rfl rfl) fun v12 H7 g7 h12 => ?_
        obtain rfl : v12 = _ := h12
        refine q_forP (List.range n) (fun k : Nat => I (k : Int)) (H0 := H7) g7.self.self (es_range1 (ea_cons (ev_var (P := I (n : Int)) rfl rfl) ea_nil) (by omega)) (fun j σ' _ => ∃ u7, σ' = [some v0, some (.int (n : Int)), some v2, some (.int (ch : Int)), u4, some (.int ((12 ^ n : Nat) : Int)), some (.int (acc : Int)), u7, some (.int (size : Int)), some (.int (num : Int)), u10, u11, some (.int ((termOf j ch size num : Nat) : Int)), u13, u14]) (fun H8 g8 => ⟨u7, rfl⟩) ?_ ?_
        · rintro j a z σ' H8 hj gs ⟨u7, rfl⟩ H9 g9 hz
          obtain rfl : z = _ := hz
          have hja : a = j := by
            obtain ⟨h1, h2⟩ := List.getElem?_eq_some_iff.mp hj
            rw [List.getElem_range] at h2
            exact h2.symm
          subst hja
          show tAsg _ _ _ _ _
          refine s_asg (H0 := H9) g9.self.self (P := I ((termOf (a + 1) ch size num : Nat) : Int)) (Ev.to (ev_op (rv_I (.inr ⟨?_, ?_⟩)) (ev_var (P := I ((termOf a ch size num : Nat) : Int)) rfl rfl) (ev_if (P := I ((if a < size then ch else 12 - ch : Nat) : Int)) (et_test (ev_op rv_I0 (ev_var (P := I (a : Int)) rfl rfl) (ev_var (P := I (size : Int)) rfl rfl))) (fun hb => ?_) fun hb => ?_)) (congrArg (fun i : Int => I i) (by rw [term_step n ch size num a, Int.natCast_mul]))) fun v H10 g10 e10 => ⟨(gs.trans g9).trans g10, some (.int (a : Int)), ?_⟩
          · split <;> omega
          · split <;> omega
          · rw [if_pos (by have := of_decide_eq_true hb; omega)]
            exact ev_var rfl rfl
          · rw [if_neg (by have := of_decide_eq_false hb; omega)]
            exact Ev.to (ev_op rv_I0 ev_c (ev_var (P := I (ch : Int)) rfl rfl)) (congrArg (fun i : Int => I i) (by omega))
          · obtain rfl : v = _ := e10
            rfl
        · rintro σ' H8 gs ⟨u7, rfl⟩
          rw [List.length_range]
          show tAsg _ _ _ _ _
          refine s_asg (H0 := H8) gs.self (P := I ((acc + termOf n ch size num : Nat) : Int)) (Ev.to (ev_op rv_I0 (ev_var (P := I (acc : Int)) rfl rfl) (ev_var (P := I ((termOf n ch size num : Nat) : Int)) rfl rfl)) (congrArg (fun i : Int => I i) (Int.natCast_add _ _).symm)) fun v H9 g9 e9 => ⟨((gr6.trans g7).trans gs).trans g9, u7, some (.int (size : Int)), some (.int (num : Int)), some (.int ((termOf n ch size num : Nat) : Int)), ?_⟩
          obtain rfl : v = _ := e9
          rfl
      · rintro σ' H5 gr ⟨u7, u8, u9, u12, rfl⟩
        have eW : ((countLosses n its).zipIdx.take (countLosses n its).zipIdx.length).foldl (fun a p => a + termOf n ch p.2 p.1) 0 = waysBy n its ch := by
          rw [List.take_of_length_le (Nat.le_refl _)]
          rfl
        rw [eW]
        have gp5 := gp4.trans gr
        refine q_asgT (H0 := H5) gp5.self (P := Fr (lossChance n its (List.replicate n ch))) (ev_call (ea_cons (ev_var rfl ((Lay n its).st gp5 h0)) (ea_cons (P := S (List.replicate n ch)) (Ev.to (ev_op (rv_repT (P := I (ch : Int)) (k := n) (by omega) (by omega)) (ef_tup (Ps := [I (ch : Int)]) (ea_cons (ev_var rfl rfl) ea_nil) (by simp)).ev (ev_var (P := I (n : Int)) rfl rfl)) (by show _ = TupOf _; rw [List.map_replicate])) ea_nil)) ⟨_, _, _, rfl, hw, by rw [List.length_replicate], fun x hx => by rw [List.eq_of_mem_replicate hx]; exact hch, rfl⟩) fun v H6 g6 hv => ?_
        obtain ⟨x1, x2, e1, e2, ht⟩ := tg_pair hv
        obtain rfl : x1 = _ := e1
        obtain rfl : x2 = _ := e2
        refine ⟨_, ht tg_name tg_name, ?_⟩
        obtain ⟨c1, c2⟩ := chance_snd (n := n) (ch := List.replicate n ch) (f := losing n its) hhi
        have hF := F1 hw hch
        unfold lossChance at hF ⊢
        refine s_noN (H0 := H6) g6.self.self (EvT.to (et_test (ev_op rv_neI (ev_op (rv_I (cmulR (by omega))) (ev_var (P := I (chanceOf n (List.replicate n ch) (losing n its)).1) rfl rfl) (ev_var (P := I ((12 ^ n : Nat) : Int)) rfl rfl)) (ev_op (rv_I (.inl ⟨by omega, by omega⟩)) (ev_var (P := I (chanceOf n (List.replicate n ch) (losing n its)).2) rfl rfl) (ev_var (P := I (waysBy n its ch : Int)) rfl rfl)))) (by rw [decide_eq_true hF]; rfl)) fun H7 g7 => ⟨(gp5.trans g6).trans g7, (((((gt.trans g3.gt).trans gq.gt).trans gr.gt).trans g6.gt).trans g7.gt), some (.int (ch : Int)), u4, _, _, u7, u8, u9, _, _, u12, u13, u14, rfl, (S _).st ((gr.trans g6).trans g7) hS4⟩
  · rintro Hx σ' H2 gx ⟨gp, gt, u3, u4, u5, u6, u7, u8, u9, u10, u11, u12, u13, u14, rfl, hS⟩
    refine q_asg (H0 := H2) gp.self (P := L ((List.range (n + 1)).map fun k => Fr (randomLoss n its k))) (ef_lcA (List.range (n + 1)) (fun k : Nat => I (k : Int)) (fun k => Fr (randomLoss n its k)) (es_range1 (ea_cons (Ev.to (ev_op rv_I0 (ev_var (P := I (n : Int)) rfl rfl) ev_c) (by rfl)) ea_nil) (by omega)).i (by rw [List.length_range]; omega) fun m x Hc hm gc hx => ?_).ev fun v4 H3 g3 h4 => ?_
    · have hm := List.mem_range.mp hm
      exact ⟨_, tg_name, rfl, ev_call (ea_cons (ev_var rfl ((Lay n its).st (gp.trans gc) h0)) (ea_cons (ev_var rfl hx) ea_nil)) ⟨_, _, _, rfl, hw, by omega, rfl⟩⟩
    have gp3 := gp.trans g3
    have hsnd : ∀ m, m ≤ n → 0 < (randomLoss n its m).2 ∧ (randomLoss n its m).2 ≤ 720 := fun m hm => by
      obtain ⟨a, b⟩ := comb_pos n hhi m hm
      obtain ⟨e, f⟩ := lowest_snd (a := (((countLosses n its)[m]?.getD 0 : Nat) : Int)) (b := (comb n m : Int)) (by omega)
      exact ⟨e, by unfold randomLoss; omega⟩
    refine q_no (H0 := H3) gp3.self (EvT.to (et_B (ev_cb rc_any (ea_cons (Ev.to (ef_lcA ((List.range (n + 1)).zip ((List.range (n + 1)).drop 1)) (fun p => TupOf [Fr (randomLoss n its p.1), Fr (randomLoss n its p.2)]) (fun _ => B false) (ei_zip (F := fun k => Fr (randomLoss n its k)) (G := fun k => Fr (randomLoss n its k)) (ea_cons (ev_var rfl h4) (ea_cons (Ev.to (ef_slFrom (n := 1) (ev_var rfl h4) (eo_some ev_c) eo_none).ev (by rw [← List.map_drop])) ea_nil))) (by rw [List.length_zip, List.length_range]; omega) fun p x Hc hp gc hx => ?_).ev (LB_map _ _)) ea_nil))) (by rw [anyB]; simp)) fun H4 g4 => ?_
    · obtain ⟨m, hm, e1, e2⟩ := zip_succ hp
      obtain ⟨x1, x2, f1, f2, ht⟩ := tg_pair hx
      have hF := F2 hw hm
      rw [e1] at f1
      rw [e2] at f2
      obtain ⟨b1, b2⟩ := hsnd m (by omega)
      obtain ⟨b3, b4⟩ := hsnd (m + 1) (by omega)
      exact ⟨_, ht tg_name tg_name, rfl, Ev.to (ev_op rv_I0 (ev_op (rv_I (.inr ⟨by omega, by omega⟩)) (ev_op (rv_ixT (i := 0) rfl) (ev_var rfl f1) ev_c) (ev_op (rv_ixT (i := 1) rfl) (ev_var rfl f2) ev_c)) (ev_op (rv_I (.inr ⟨by omega, by omega⟩)) (ev_op (rv_ixT (i := 0) rfl) (ev_var rfl f2) ev_c) (ev_op (rv_ixT (i := 1) rfl) (ev_var rfl f1) ev_c))) (congrArg (fun b : Bool => B b) (decide_eq_false (by omega)))⟩
    · have h44 := (L _).st g4 h4
      refine s_ret (H0 := H4) (gp3.trans g4).self (P := B true) (Ev.to (ev_op rv_eqFr (ev_op (rv_lastL (P := Fr (randomLoss n its n)) (by rw [List.length_map, List.length_range, List.getElem?_map, Nat.add_sub_cancel, List.getElem?_range (by omega)]; rfl)) (ev_var rfl h44) (ev_un1 (i := 1))) (ef_tup (Ps := [I ((1, 1) : Int × Int).1, I ((1, 1) : Int × Int).2]) (ea_cons ev_c (ea_cons ev_c ea_nil)) (by simp)).ev) (by rw [F3 hw]; rfl)) fun v H5 g5 e5 => k v H5 ((gp3.trans g4).trans g5) e5
end


section
open PySem PySem.Spec PyProof.Rows L2 LamX
variable {c : Cxt} {P : Program} {w : World} {mg : Str → Option Value} {base : Heap} {f : Addr} {fd : FuncData}
theorem rv_isN {R : SV c} {b : Bool} (hR : ∀ v H, R.p v H → decide (v = .non) = b) : RV c (fun x y H Q => y = .non ∧ Q (.bl (decide (x = .non))) H) R Nn (B b) := fun x y H g e1 e2 Q q => by
  refine ⟨e2, ?_⟩
  rw [hR x H e1]
  exact q _ H g rfl
theorem loadZ_non {b : Bool} : ∀ v H, (LoadZ (c := c) b).p v H → decide (v = .non) = b := fun v H h => by
  cases b with
  | true =>
    have e : v = .non := h
    rw [e]; rfl
  | false =>
    obtain ⟨i, rfl⟩ := h
    rfl
theorem imp_get {n : Nat} {its : List Itm} {ch : List Nat} {s : Nat} (h : s < n) : ((importances n its ch).map (Fr (c := c)))[s]? = some (Fr (importance n its ch s)) := by
  unfold importances
  rw [List.map_map, List.getElem?_map, List.getElem?_range h]
  rfl
theorem essential_iff {n : Nat} {its : List Itm} {s : Nat} (h : s < n) : decide (s ∈ essential n its) = losing n its [s] := by
  unfold essential
  cases q : losing n its [s] with
  | true => exact decide_eq_true (List.mem_filter.mpr ⟨List.mem_range.mpr h, q⟩)
  | false => exact decide_eq_false fun z => by rw [(List.mem_filter.mp z).2] at q; cases q
def R_law_servers_right (As : List (SV c)) (Z : SV c) : Prop := ∃ (n : Nat) (its : List Itm) (ch : List Nat), As = [Lay n its, S ch] ∧ (WfL n its ∧ ch.length = n ∧ ∀ x ∈ ch, x ≤ 12) ∧ Z = B true
abbrev N_law_servers_right : List Str := ["_law_layout", "_law_chances", "_law_found", "_law_even", "_law_server", "_law_is_useless", "_law_down"]
theorem sc_law_servers_right : FnScope N_law_servers_right ["_law_layout", "_law_chances"] (defScope s_law_servers_right) := ⟨rfl, rfl, rfl, by decide +kernel, rfl, by decide +kernel, by decide +kernel⟩
theorem ok_law_servers_right (F : FnP c.K "_law_servers_right" "_law_servers_right" s_law_servers_right f fd) (Bt : Bts c mg) (C : Cl c) (Il : IsL c) (h_importances : Has P w c.K mg base "importances" ["layout", "chances"] 10 (Pm c R_importances)) (h_useless : Has P w c.K mg base "useless" ["layout"] 7 (Pm c R_useless)) (h_load_after : Has P w c.K mg base "load_after" ["layout", "down"] 7 (Pm c R_load_after)) (h_essential : Has P w c.K mg base "essential" ["layout"] 7 (Pm c R_essential)) (h_minimal_losses : Has P w c.K mg base "minimal_losses" ["layout"] 7 (Pm c R_minimal_losses)) : FnOk P w c.K mg base CX0 11 f fd ["_law_layout", "_law_chances"] (Pm c R_law_servers_right) := by
  refine okP F sc_law_servers_right (fun As Z h => by obtain ⟨_, _, _, rfl, _⟩ := h; rfl) fun cdv A outer s H vs Q E As Z hr hA hR g k => ?_
  have nd := sc_law_servers_right.nd
  obtain ⟨n, its, ch, rfl, ⟨hw, hcl, hch⟩, rfl⟩ := hR
  obtain ⟨v0, v1, rfl, h0, h1⟩ := hA.inv2
  have hhi := hw.hi
  have hlo := hw.lo
  refine ⟨_, (pss_cons (ps_par (i := 2) (j := 3) rfl nd rfl rfl (by decide) rfl rfl (pa_cons (pe_callH h_importances (hr.mono (by decide)) rfl (pa_cons (pv 0) (pa_cons (pv 1) pa_nil))) (pa_cons (pe_callH h_importances (hr.mono (by decide)) rfl (pa_cons (pv 0) (pa_cons (pe_op (op_repTQ (K := c.K) rfl) (pe_tup (pa_cons pe_int pa_nil)) (pe_fldQ (K := c.K) rfl (pv 0) rfl)) pa_nil))) pa_nil)) (by rfl))
    (pss_cons (ps_for PassesOwn.never rfl (pi_range1 (by rfl) Bt.brange (pa_cons (pe_fldQ (K := c.K) rfl (pv 0) rfl) pa_nil)) (pg_name (i := 4) nd rfl (Or.inl rfl)) (pss_cons (ps_set (i := 5) nd rfl (Or.inl rfl) (pe_cmpR (op_inQ (K := c.K) rfl) (pv 4) (pe_callH h_useless (hr.mono (by decide)) rfl (pa_cons (pv 0) pa_nil)) rfl))
    (pss_cons (ps_if (PW.pt (pw_or (pt_cmpR op_ne (pe_cmpR op_eq (pe_ix (ix_tupQ (K := c.K) rfl) (pe_ix (ix_tupQ (K := c.K) rfl) (pv 3) (pv 4) (fun _ _ => rfl)) pe_int (fun _ _ => rfl)) pe_int (nomark _)) (pv 5) (nomark _)) (pw_or1 (PW.pt (pw_and (pt_val (pv 5)) (pw_and1 (pt_cmpR op_ne (pe_ix (ix_tupQ (K := c.K) rfl) (pe_ix (ix_tupQ (K := c.K) rfl) (pv 2) (pv 4) (fun _ _ => rfl)) pe_int (fun _ _ => rfl)) pe_int (nomark _)))))))) (pss_one (ps_ret pe_bl)) pss_nil)
    (pss_one (ps_if (pt_cmpR op_ne (pe_cmpR op_isN (pe_callH h_load_after (hr.mono (by decide)) rfl (pa_cons (pv 0) (pa_cons (pe_tup (pa_cons (pv 4) pa_nil)) pa_nil))) pe_non (nomark _)) (pe_cmpR (op_inQ (K := c.K) rfl) (pv 4) (pe_callH h_essential (hr.mono (by decide)) rfl (pa_cons (pv 0) pa_nil)) rfl) (nomark _)) (pss_one (ps_ret pe_bl)) pss_nil)))))
    (pss_one (ps_ret (pe_cmpR (op_eqDQ (K := c.K) rfl hr.units) (pe_lc (own := [("_law_down", 6)]) rfl nd (pi_listQ (K := c.K) rfl (pe_callH h_minimal_losses (hr.mono (by decide)) rfl (pa_cons (pv 0) pa_nil))) (blkOk_by (own := [("_law_down", 6)]) (N := N_law_servers_right) (sc := defScope s_law_servers_right) (by decide +kernel)) (fun _ _ _ _ _ => (pg_name (i := 6) nd rfl (Or.inl rfl))) (fun _ _ _ _ _ => (pts_one (pt_cmpR op_eq (pe_callB (cl_lenQ (K := c.K) rfl) (by rfl) Bt.blen (by decide +kernel) (pa_cons (pv 6) pa_nil)) pe_int (nomark _)))) (fun _ _ _ _ _ => (pv 6))) (pe_lc (own := [("_law_server", 4)]) rfl nd (pi_listQ (K := c.K) rfl (pe_callH h_essential (hr.mono (by decide)) rfl (pa_cons (pv 0) pa_nil))) (blkOk_by (own := [("_law_server", 4)]) (N := N_law_servers_right) (sc := defScope s_law_servers_right) (by decide +kernel)) (fun _ _ _ _ _ => (pg_name (i := 4) nd rfl (Or.inl rfl))) (fun _ _ _ _ _ => pts_nil) (fun _ _ _ _ _ => (pe_tup (pa_cons (pv 4) pa_nil)))) (nomark _)))))), ?_⟩
  refine q_par g (P := TupOf ((importances n its ch).map Fr)) (R := TupOf ((importances n its (List.replicate n 6)).map Fr)) (ev_call (ea_cons (ev_var rfl h0) (ea_cons (ev_var rfl h1) ea_nil)) ⟨_, _, _, rfl, hw, hcl, hch, rfl⟩) (ev_call (ea_cons (ev_var rfl h0) (ea_cons (P := S (List.replicate n 6)) (Ev.to (ev_op (rv_repT (P := I ((6 : Nat) : Int)) (k := n) (by omega) (by omega)) (ef_tup (Ps := [I ((6 : Nat) : Int)]) (ea_cons ev_c ea_nil) (by simp)).ev (ev_servers C (ev_var rfl h0))) (by show _ = TupOf _; rw [List.map_replicate])) ea_nil)) ⟨_, _, _, rfl, hw, by rw [List.length_replicate], fun x hx => by rw [List.eq_of_mem_replicate hx]; decide, rfl⟩) fun v2 v3 H1 g1 h2 h3 => ?_
  refine q_forP (List.range n) (fun k : Nat => I (k : Int)) (H0 := H1) g1.self (es_range1 (ea_cons (ev_servers C (ev_var rfl ((Lay n its).st g1 h0))) ea_nil) (by omega)) (fun i σ' _ => ∃ u4 u5 u6, σ' = [some v0, some v1, some v2, some v3, u4, u5, u6]) (fun H2 g2 => ⟨none, none, none, rfl⟩) ?_ ?_
  · rintro i s x σ' H2 hi gp ⟨u4, u5, u6, rfl⟩ H3 g3 hx
    obtain rfl : x = _ := hx
    have hs : s < n := List.mem_range.mp (List.mem_of_getElem? hi)
    have gp3 := (g1.trans gp).trans g3
    have gq3 := gp.trans g3
    show tSeq _ _ _ _ _
    refine q_asg (H0 := H3) gp3.self (P := B (decide (s ∈ useless n its))) (ev_op rv_inLN (ev_var (P := I (s : Int)) rfl rfl) (ev_call (ea_cons (ev_var rfl ((Lay n its).st gp3 h0)) ea_nil) ⟨_, _, rfl, hw, rfl⟩)) fun v5 H4 g4 h5 => ?_
    obtain rfl : v5 = _ := h5
    have gp4 := gp3.trans g4
    have gq4 := gq3.trans g4
    have hF4 := F4 hw hs
    refine q_no (H0 := H4) gp4.self (EvT.to (et_or (a := false) (b := decide (s ∈ useless n its) && false) (EvT.to (et_test (ev_op rv_neB (ev_op rv_eqI (ev_op (rv_ixT (i := 0) rfl) (ev_op (rv_ixT (P := Fr (importance n its (List.replicate n 6) s)) (i := s) (imp_get hs)) (ev_var rfl ((TupOf _).st gq4 h3)) (ev_var (P := I (s : Int)) rfl rfl)) ev_c) ev_c) (ev_var (P := B (decide (s ∈ useless n its))) rfl rfl))) ?_) fun _ => et_and (et_B (ev_var (P := B (decide (s ∈ useless n its))) rfl rfl)) fun hu => EvT.to (et_test (ev_op rv_neI (ev_op (rv_ixT (i := 0) rfl) (ev_op (rv_ixT (P := Fr (importance n its ch s)) (i := s) (imp_get hs)) (ev_var rfl ((TupOf _).st gq4 h2)) (ev_var (P := I (s : Int)) rfl rfl)) ev_c) ev_c)) ?_) (by simp)) fun H5 g5 => ?_
    · have e : decide ((importance n its (List.replicate n 6) s).1 = 0) = decide (s ∈ useless n its) := decide_eq_decide.mpr hF4
      rw [e, decide_eq_true rfl]
      rfl
    · rw [decide_eq_true (F5 hw hs hcl hch (of_decide_eq_true hu))]
      rfl
    · have gp5 := gp4.trans g5
      refine s_noN (H0 := H5) gp5.self (EvT.to (et_test (ev_op rv_neB (ev_op (rv_isN (R := LoadZ (losing n its [s])) loadZ_non) (ev_call (ea_cons (ev_var rfl ((Lay n its).st gp5 h0)) (ea_cons (P := S [s]) (ef_tup (Ps := [I (s : Int)]) (ea_cons (ev_var (P := I (s : Int)) rfl rfl) ea_nil) (by simp)).ev ea_nil)) ⟨_, _, _, rfl, hw, ⟨List.pairwise_singleton _ _, fun k hk => by simp at hk; omega⟩, rfl⟩) ev_c) (ev_op rv_inLN (ev_var (P := I (s : Int)) rfl rfl) (ev_call (ea_cons (ev_var rfl ((Lay n its).st gp5 h0)) ea_nil) ⟨_, _, rfl, hw, rfl⟩)))) (by rw [essential_iff hs, decide_eq_true rfl]; rfl)) fun H6 g6 => ⟨(gq4.trans g5).trans g6, _, _, u6, rfl⟩
  · rintro σ' H2 gp ⟨u4, u5, u6, rfl⟩
    have gp2 := g1.trans gp
    have hl := minL_len (its := its) hhi
    have hel : (essential n its).length ≤ n := by
      have := List.length_filter_le (fun s => losing n its [s]) (List.range n)
      rw [List.length_range] at this
      exact this
    refine s_ret (H0 := H2) gp2.self (P := B true) (Ev.to (ev_op (rv_eqLS (l := (minLosses n its).filter fun d => decide (d.length = 1)) (m := (essential n its).map fun s => [s])) (ef_lcm (minLosses n its) S (fun d => decide (d.length = 1)) S (ei_list (ev_call (ea_cons (ev_var rfl ((Lay n its).st gp2 h0)) ea_nil) ⟨_, _, rfl, hw, rfl⟩)) (by omega) fun d x Hc hd gc hx => ?_).ev (Ev.to (ef_lcA (essential n its) (fun k : Nat => I (k : Int)) (fun s => S [s]) (ei_list (ev_call (ea_cons (ev_var rfl ((Lay n its).st gp2 h0)) ea_nil) ⟨_, _, rfl, hw, rfl⟩)) (by omega) fun s x Hc hs gc hx => ?_).ev (LS_map _ _))) (by rw [decide_eq_true (F7 hw)])) fun v H3 g3 e3 => k v H3 (gp2.trans g3) e3
    · exact ⟨_, tg_name, rfl, EvT.to (et_test (ev_op rv_eqI (ev_cb rc_lenT (ea_cons (ev_var rfl hx) ea_nil)) (ev_c (v := .int ((1 : Nat) : Int))))) (by rw [List.length_map, dEq]), fun _ => ev_var rfl hx⟩
    · exact ⟨_, tg_name, rfl, (ef_tup (Ps := [I (s : Int)]) (ea_cons (ev_var rfl hx) ea_nil) (by simp)).ev⟩
end


section
open PySem PySem.Spec PyProof.Rows L2 LamX
variable {c : Cxt} {P : Program} {w : World} {mg : Str → Option Value} {base : Heap} {f : Addr} {fd : FuncData}
theorem minL_wf {n : Nat} {its : List Itm} : ∀ s ∈ minLosses n its, WfS n s := fun s hs => by
  have := fold_sub (l := (sets n).filter (losing n its)) (found := []) (fun x hx => by cases hx) (fun y hy => hy) s hs
  exact sets_mem (List.mem_filter.mp this).1
theorem minK_wf {n : Nat} {its : List Itm} : ∀ s ∈ minKeepers n its, WfS n s := fun s hs => by
  have := fold_sub (l := (sets n).filter (keeping its)) (found := []) (fun x hx => by cases hx) (fun y hy => hy) s hs
  exact sets_mem (List.mem_filter.mp this).1
theorem plain_losing {n : Nat} {its : List Itm} (hw : WfL n its) : losing n (lawPlain its) = losing n its := by
  funext d
  unfold losing
  rw [F10k hw wfS_others]
theorem plain_minL {n : Nat} {its : List Itm} (hw : WfL n its) : minLosses n (lawPlain its) = minLosses n its := by
  unfold minLosses
  rw [plain_losing hw]
theorem plain_minK {n : Nat} {its : List Itm} (hw : WfL n its) : minKeepers n (lawPlain its) = minKeepers n its := by
  unfold minKeepers
  rw [List.filter_congr fun s hs => F10k hw (sets_mem hs)]
theorem plain_counts {n : Nat} {its : List Itm} (hw : WfL n its) : countLosses n (lawPlain its) = countLosses n its := by
  unfold countLosses
  rw [plain_losing hw]
theorem plain_safe {n : Nat} {its : List Itm} (hw : WfL n its) : equallySafe n (lawPlain its) its = true := by
  unfold equallySafe levelDiff
  rw [plain_counts hw, List.all_eq_true]
  intro d hd
  obtain ⟨p, hp, rfl⟩ := List.mem_map.mp hd
  obtain ⟨i, hi⟩ := List.mem_iff_getElem?.mp hp
  obtain ⟨h1, h2⟩ := List.getElem?_zip_eq_some.mp hi
  rw [h1] at h2
  have := Option.some.inj h2
  exact decide_eq_true (by omega)
theorem plain_chance {n : Nat} {its : List Itm} {ch : List Nat} (hw : WfL n its) : lossChance n (lawPlain its) ch = lossChance n its ch := by
  unfold lossChance
  rw [plain_losing hw]
theorem plain_shows {n : Nat} {its : List Itm} (hw : WfL n its) : shows n (lawPlain its) (minLosses n its) (minKeepers n its) = true := by
  have h := F10s hw
  unfold shows at h ⊢
  rw [plain_losing hw]
  rw [Bool.and_eq_true, Bool.and_eq_true] at h ⊢
  refine ⟨h.1, ?_, h.2.2⟩
  have h2 := h.2.1
  rw [List.all_eq_true] at h2 ⊢
  intro s hs
  rw [F10k hw (minK_wf s hs)]
  exact h2 s hs
theorem q_whenS {σ : L2.St} {H H0 : Hp} {t : TT} {tu tz : TS} {D : Ends} {b : Bool} {i : Nat} (g : Gr c H0 H) (h : EvT c t σ H0 b) (h1 : b = true → ∀ H1, Gr c H H1 → (∀ u H2, Gr c H H2 → tz D (σ.set i u) H2) → tu { D with nx := tz D } σ H1)
    (k : ∀ u H2, Gr c H H2 → tz D (σ.set i u) H2) (hi : σ.set i none = σ) : tSeq (tIfS t tu tNext) tz D σ H := q_when g h (fun hb H1 g1 => h1 hb H1 g1 k) fun _ H1 g1 => by
  have := k none H1 g1
  rw [hi] at this
  exact this
theorem Ev_le {σ : L2.St} {H : Hp} {te : TE} {pl : List Itm} (h : Ev c te σ H (LIt pl)) : EvT c (tTest (tOp (rI0 fun i j => .bl (decide (i ≤ j))) (tCB (fun xs H Q => ∃ p ys, xs = [.ref p] ∧ (SqL c.K H p ys ∨ SqT c.K H p ys) ∧ Q (.int ys.length) H) (tCons te tNil)) (tC (.int 10)))) σ H (decide (((pl.length : Nat) : Int) ≤ 10)) :=
  EvT.to (et_test (ev_op rv_I0 (ev_cb rc_lenL (ea_cons h ea_nil)) ev_c)) (by rw [List.length_map])
def lawN (xs : List Int) : Nat := (1 + lawNum xs 0 % 6).toNat
theorem lawN_bd (xs : List Int) : 1 ≤ lawN xs ∧ lawN xs ≤ 6 := by
  unfold lawN
  have h1 := Int.emod_nonneg (lawNum xs 0) (show (6 : Int) ≠ 0 by decide)
  have h2 := Int.emod_lt_of_pos (lawNum xs 0) (show (0 : Int) < 6 by decide)
  omega
def R_law (As : List (SV c)) (Z : SV c) : Prop := ∃ xs : List Int, As = [Scr xs] ∧ True ∧ Z = B true
abbrev N_law : List Str := ["_law_script", "_law_servers", "_law_items_here", "_law_layout", "_law_chances", "_law_counts", "_law_least", "_law_sizes", "_law_size", "_law_plain_here", "_law_whole", "_law_index", "_law_late", "_law_part", "_law_number_here", "_law_at", "_law_down"]
theorem sc_law : FnScope N_law ["_law_script"] (defScope s_law) := ⟨rfl, rfl, rfl, by decide +kernel, rfl, by decide +kernel, by decide +kernel⟩
theorem ok_law (F : FnP c.K "law" "law" s_law f fd) (Bt : Bts c mg) (C : Cl c) (Il : IsL c) (h_law_number : Has P w c.K mg base "_law_number" ["_law_script", "_law_at"] 1 (Pm c R_law_number)) (h_law_items : Has P w c.K mg base "_law_items" ["_law_script", "_law_at", "_law_servers", "_law_most"] 2 (Pm c R_law_items)) (h_Layout : HasC P w c.K mg base "Layout" c.cL ["self", "servers", "items"] 4 (PmI c c.cL R_Layout_init)) (h_count_losses : Has P w c.K mg base "count_losses" ["layout"] 7 (Pm c R_count_losses)) (h_minimal_losses : Has P w c.K mg base "minimal_losses" ["layout"] 7 (Pm c R_minimal_losses)) (h_tolerance : Has P w c.K mg base "tolerance" ["layout"] 2 (Pm c R_tolerance)) (h_loads_after : Has P w c.K mg base "loads_after" ["layout", "failures"] 8 (Pm c R_loads_after)) (h_law_over : Has P w c.K mg base "_law_over" ["_law_many", "_law_some"] 1 (Pm c R_law_over)) (h_law_plain : Has P w c.K mg base "_law_plain" ["_law_items_here"] 1 (Pm c R_law_plain)) (h_minimal_keepers : Has P w c.K mg base "minimal_keepers" ["layout"] 6 (Pm c R_minimal_keepers)) (h_loss_chance : Has P w c.K mg base "loss_chance" ["layout", "chances"] 9 (Pm c R_loss_chance)) (h_equally_safe : Has P w c.K mg base "equally_safe" ["one", "other"] 9 (Pm c R_equally_safe)) (h_Dual_shows : HasM P w c.K mg base c.cD "shows" ["self", "layout"] 7 (Pm c R_Dual_shows)) (h_find_dual : Has P w c.K mg base "find_dual" ["layout"] 8 (Pm c R_find_dual)) (h_item_chance : Has P w c.K mg base "item_chance" ["layout", "index", "chances"] 9 (Pm c R_item_chance)) (h_law_servers_right : Has P w c.K mg base "_law_servers_right" ["_law_layout", "_law_chances"] 11 (Pm c R_law_servers_right)) (h_law_sizes_right : Has P w c.K mg base "_law_sizes_right" ["_law_layout"] 10 (Pm c R_law_sizes_right)) : FnOk P w c.K mg base CX0 12 f fd ["_law_script"] (Pm c R_law) := by
  refine okP F sc_law (fun As Z h => by obtain ⟨_, rfl, _⟩ := h; rfl) fun cdv A outer s H vs Q E As Z hr hA hR g k => ?_
  have nd := sc_law.nd
  obtain ⟨xs, rfl, -, rfl⟩ := hR
  obtain ⟨v0, rfl, h0⟩ := hA.inv1
  obtain ⟨hn1, hn2⟩ := lawN_bd xs
  generalize hnn : lawN xs = n at hn1 hn2
  have hnI : 1 + lawNum xs 0 % 6 = (n : Int) := by
    rw [← hnn]
    unfold lawN
    have h1 := Int.emod_nonneg (lawNum xs 0) (show (6 : Int) ≠ 0 by decide)
    omega
  have hw : WfL n (lawItems xs 1 n 8) := lawItems_wf hn1 hn2 (by decide) (by decide)
  generalize hits : lawItems xs 1 n 8 = its at hw
  have hcl := lawCh_len xs n
  have hch := lawCh_le xs n
  have hle := hw.le
  have hitl : ∀ it ∈ its, it.1.length ≤ 6 := fun it hit => by have := (hw.it it hit).1.len; omega
  obtain ⟨least, L1, L2', L3, L4, L5⟩ := F8 hw
  refine ⟨_, (pss_cons (ps_set (i := 1) nd rfl (Or.inl rfl) (pe_op op_add pe_int (pe_op op_mod (pe_callTy call_int1 (by rfl) Bt.bint (by decide +kernel) (pa_cons (pe_callH h_law_number (hr.mono (by decide)) rfl (pa_cons (pv 0) (pa_cons pe_int pa_nil))) pa_nil)) pe_int)))
    (pss_cons (ps_set (i := 2) nd rfl (Or.inl rfl) (pe_callH h_law_items (hr.mono (by decide)) rfl (pa_cons (pv 0) (pa_cons pe_int (pa_cons (pv 1) (pa_cons pe_int pa_nil))))))
    (pss_cons (ps_par (i := 3) (j := 4) rfl nd rfl rfl (by decide) rfl rfl (pa_cons (pe_makeH h_Layout (hr.mono (by decide)) rfl (pa_cons (pv 1) (pa_cons (pv 2) pa_nil))) (pa_cons (pe_callTy (cl_tupleQ (K := c.K) rfl) (by rfl) Bt.btuple (by decide +kernel) (pa_cons (pe_lc (own := [("_law_at", 15)]) rfl nd (pi_range1 (by rfl) Bt.brange (pa_cons (pv 1) pa_nil)) (blkOk_by (own := [("_law_at", 15)]) (N := N_law) (sc := defScope s_law) (by decide +kernel)) (fun _ _ _ _ _ => (pg_name (i := 15) nd rfl (Or.inl rfl))) (fun _ _ _ _ _ => pts_nil) (fun _ _ _ _ _ => (pe_op op_mod (pe_callTy call_int1 (by rfl) Bt.bint (by decide +kernel) (pa_cons (pe_callH h_law_number (hr.mono (by decide)) rfl (pa_cons (pv 0) (pa_cons (pe_op op_add pe_int (pv 15)) pa_nil))) pa_nil)) pe_int))) pa_nil)) pa_nil)) (by rfl))
    (pss_cons (ps_par (i := 5) (j := 6) rfl nd rfl rfl (by decide) rfl rfl (pa_cons (pe_callH h_count_losses (hr.mono (by decide)) rfl (pa_cons (pv 3) pa_nil)) (pa_cons (pe_callB (cr_minQ (K := c.K) rfl rfl) (by rfl) Bt.bmin (by decide +kernel) (pa_cons (pe_lc (own := [("_law_down", 16)]) rfl nd (pi_listQ (K := c.K) rfl (pe_callH h_minimal_losses (hr.mono (by decide)) rfl (pa_cons (pv 3) pa_nil))) (blkOk_by (own := [("_law_down", 16)]) (N := N_law) (sc := defScope s_law) (by decide +kernel)) (fun _ _ _ _ _ => (pg_name (i := 16) nd rfl (Or.inl rfl))) (fun _ _ _ _ _ => pts_nil) (fun _ _ _ _ _ => (pe_callB (cl_lenQ (K := c.K) rfl) (by rfl) Bt.blen (by decide +kernel) (pa_cons (pv 16) pa_nil)))) pa_nil)) pa_nil)) (by rfl))
    (pss_cons (ps_setLc (own := [("_law_size", 8), ("_law_number_here", 14)]) (i := 7) rfl nd rfl rfl (sw_true rfl rfl rfl (by decide +kernel)) (pi_enumTQ (K := c.K) rfl (by rfl) Bt.benumerate (pa_cons (pv 5) pa_nil)) (blkOk_by (own := [("_law_size", 8), ("_law_number_here", 14)]) (N := N_law) (sc := defScope s_law) (by decide +kernel)) (fun _ _ _ _ _ => (pg_tupQ (K := c.K) (n := 2) rfl rfl (pgs_cons (pg_name (i := 8) nd rfl (Or.inl rfl)) (pgs_cons (pg_name (i := 14) nd rfl (Or.inl rfl)) pgs_nil)))) (fun _ _ _ _ _ => (pts_one (pt_cmpR op_gt (pv 14) pe_int (nomark _)))) (fun _ _ _ _ _ => (pv 8)))
    (pss_cons (ps_if (PW.pt (pw_or (pt_cmpR op_ne (pe_callH h_tolerance (hr.mono (by decide)) rfl (pa_cons (pv 3) pa_nil)) (pe_op op_sub (pv 6) pe_int) (nomark _)) (pw_or1 (pt_cmpR op_ne (pe_ix (ix_listQ (K := c.K) rfl) (pv 7) pe_int (fun _ _ => rfl)) (pv 6) (nomark _))))) (pss_one (ps_ret pe_bl)) pss_nil)
    (pss_cons (ps_for PassesOwn.never rfl (pi_range1 (by rfl) Bt.brange (pa_cons (pe_op op_add (pv 1) pe_int) pa_nil)) (pg_name (i := 8) nd rfl (Or.inl rfl)) (pss_one (ps_if (pt_cmpR op_ne (pe_callB call_len_dT (by rfl) Bt.blen (by decide +kernel) (pa_cons (pe_callH h_loads_after (hr.mono (by decide)) rfl (pa_cons (pv 3) (pa_cons (pv 8) pa_nil))) pa_nil)) (pe_op op_sub (pe_callH h_law_over (hr.mono (by decide)) rfl (pa_cons (pv 1) (pa_cons (pv 8) pa_nil))) (pe_ix (ix_tupQ (K := c.K) rfl) (pv 5) (pv 8) (fun _ _ => rfl))) (nomark _)) (pss_one (ps_ret pe_bl)) pss_nil)))
    (pss_cons (ps_set (i := 9) nd rfl (Or.inl rfl) (pe_callH h_law_plain (hr.mono (by decide)) rfl (pa_cons (pv 2) pa_nil)))
    (pss_cons (ps_if (pt_cmpR op_le (pe_callB (cl_lenQ (K := c.K) rfl) (by rfl) Bt.blen (by decide +kernel) (pa_cons (pv 9) pa_nil)) pe_int (nomark _)) (pss_cons (ps_set (i := 12) nd rfl (Or.inl rfl) (pe_makeH h_Layout (hr.mono (by decide)) rfl (pa_cons (pv 1) (pa_cons (pv 9) pa_nil))))
    (pss_cons (ps_if (PW.pt (pw_or (pt_cmpR (op_neDQ (K := c.K) rfl hr.units) (pe_callH h_minimal_losses (hr.mono (by decide)) rfl (pa_cons (pv 12) pa_nil)) (pe_callH h_minimal_losses (hr.mono (by decide)) rfl (pa_cons (pv 3) pa_nil)) (nomark _)) (pw_or1 (pt_cmpR (op_neDQ (K := c.K) rfl hr.units) (pe_callH h_minimal_keepers (hr.mono (by decide)) rfl (pa_cons (pv 12) pa_nil)) (pe_callH h_minimal_keepers (hr.mono (by decide)) rfl (pa_cons (pv 3) pa_nil)) (nomark _))))) (pss_one (ps_ret pe_bl)) pss_nil)
    (pss_cons (ps_if (PW.pt (pw_or (pt_not (pt_val (pe_callH h_equally_safe (hr.mono (by decide)) rfl (pa_cons (pv 12) (pa_cons (pv 3) pa_nil))))) (pw_or1 (pt_cmpR (op_neDQ (K := c.K) rfl hr.units) (pe_callH h_loss_chance (hr.mono (by decide)) rfl (pa_cons (pv 12) (pa_cons (pv 4) pa_nil))) (pe_callH h_loss_chance (hr.mono (by decide)) rfl (pa_cons (pv 3) (pa_cons (pv 4) pa_nil))) (nomark _))))) (pss_one (ps_ret pe_bl)) pss_nil)
    (pss_one (ps_if (PW.pt (pw_or (pt_not (pt_val (pe_methH h_Dual_shows (hr.mono (by decide)) (pe_callH h_find_dual (hr.mono (by decide)) rfl (pa_cons (pv 3) pa_nil)) (pa_cons (pv 12) pa_nil)))) (pw_or1 (pt_cmpR op_ne (pe_callH h_tolerance (hr.mono (by decide)) rfl (pa_cons (pv 12) pa_nil)) (pe_callH h_tolerance (hr.mono (by decide)) rfl (pa_cons (pv 3) pa_nil)) (nomark _))))) (pss_one (ps_ret pe_bl)) pss_nil))))) pss_nil)
    (pss_cons (ps_set (i := 10) nd rfl (Or.inl rfl) (pe_callH h_loss_chance (hr.mono (by decide)) rfl (pa_cons (pv 3) (pa_cons (pv 4) pa_nil))))
    (pss_cons (ps_for PassesOwn.never rfl (pi_range1 (by rfl) Bt.brange (pa_cons (pe_callB (cl_lenQ (K := c.K) rfl) (by rfl) Bt.blen (by decide +kernel) (pa_cons (pv 2) pa_nil)) pa_nil)) (pg_name (i := 11) nd rfl (Or.inl rfl)) (pss_cons (ps_set (i := 13) nd rfl (Or.inl rfl) (pe_callH h_item_chance (hr.mono (by decide)) rfl (pa_cons (pv 3) (pa_cons (pv 11) (pa_cons (pv 4) pa_nil)))))
    (pss_one (ps_if (PW.pt (pw_or (pt_cmpR op_gt (pe_op op_mul (pe_ix (ix_tupQ (K := c.K) rfl) (pv 13) pe_int (fun _ _ => rfl)) (pe_ix (ix_tupQ (K := c.K) rfl) (pv 10) pe_int (fun _ _ => rfl))) (pe_op op_mul (pe_ix (ix_tupQ (K := c.K) rfl) (pv 10) pe_int (fun _ _ => rfl)) (pe_ix (ix_tupQ (K := c.K) rfl) (pv 13) pe_int (fun _ _ => rfl))) (nomark _)) (pw_or1 (pt_cmpR op_ne (pe_fldQ (K := c.K) rfl (pe_makeH h_Layout (hr.mono (by decide)) rfl (pa_cons (pv 1) (pa_cons (pe_lst (pa_cons (pe_ix (ix_listQ (K := c.K) rfl) (pv 2) (pv 11) (fun _ _ => rfl)) pa_nil)) pa_nil))) rfl) (pv 1) (nomark _))))) (pss_one (ps_ret pe_bl)) pss_nil))))
    (pss_one (ps_ret (pe_and (pe_callH h_law_sizes_right (hr.mono (by decide)) rfl (pa_cons (pv 3) pa_nil)) (pe_one (pe_callH h_law_servers_right (hr.mono (by decide)) rfl (pa_cons (pv 3) (pa_cons (pv 4) pa_nil)))))))))))))))))), ?_⟩
  have hnum : ∀ {σ : L2.St} {H' : Hp} {ta : TE} (b : Nat), σ[0]? = some (some v0) → Gr c H H' → Ev c ta σ H' (I (b : Int)) → Ev c (tCB (fun xs H Q => (∃ i, xs = [.int i] ∧ Q (.int i) H) ∨ ∃ k, xs = [.bl k] ∧ Q (.int (if k then 1 else 0)) H) (tCons (tCall (Pm c R_law_number) [] E0 (tCons (tVar 0) (tCons ta tNil))) tNil)) σ H' (I (lawNum xs b)) := fun b s g' ha =>
    ev_cb rc_int (ea_cons (ev_call (ea_cons (ev_var s ((Scr xs).st g' h0)) (ea_cons ha ea_nil)) ⟨_, _, rfl, True.intro, rfl⟩) ea_nil)
  refine q_asg g (P := I (n : Int)) (Ev.to (ev_op rv_I0 ev_c (ev_op (rv_I (by decide)) (hnum 0 rfl g ev_c) ev_c)) (congrArg (fun i : Int => I i) hnI)) fun v1 H1 g1 h1 => ?_
  obtain rfl : v1 = _ := h1
  refine q_asg (H0 := H1) g1.self (P := LIt its) (Ev.to (ev_call (ea_cons (ev_var rfl ((Scr xs).st g1 h0)) (ea_cons (P := I ((1 : Nat) : Int)) ev_c (ea_cons (ev_var (P := I (n : Int)) rfl rfl) (ea_cons (P := I ((8 : Nat) : Int)) ev_c ea_nil)))) ⟨xs, 1, n, 8, rfl, ⟨hn1, hn2, by decide, by decide⟩, rfl⟩) (by rw [hits])) fun v2 H2 g2 h2 => ?_
  have g02 := g1.trans g2
  refine q_par (H0 := H2) g02.self (P := Lay n its) (R := S (lawCh xs n)) (ev_make (ea_cons (ev_var (P := I (n : Int)) rfl rfl) (ea_cons (ev_var rfl h2) ea_nil)) ⟨_, _, rfl, hw, rfl⟩).ev (Ev.to (ef_cb rf_tuple (ea_cons (ef_lcA (List.range n) (fun k : Nat => I (k : Int)) (fun a => I (((lawNum xs (90 + a) % 13).toNat : Nat) : Int)) (es_range1 (ea_cons (ev_var (P := I (n : Int)) rfl rfl) ea_nil) (by omega)).i (by rw [List.length_range]; omega) fun a x Hc ha gc hx => ?_).ev ea_nil)).ev (by unfold lawCh S; rw [List.map_map]; rfl)) fun v3 v4 H3 g3 h3 h4 => ?_
  · refine ⟨_, tg_name, rfl, Ev.to (ev_op (rv_I (by decide)) (hnum (90 + a) rfl (g02.trans gc) (Ev.to (ev_op rv_I0 ev_c (ev_var rfl hx)) (congrArg (fun i : Int => I i) (by omega)))) ev_c) (congrArg (fun i : Int => I i) ?_)⟩
    have := Int.emod_nonneg (lawNum xs (90 + a)) (show (13 : Int) ≠ 0 by decide)
    omega
  have g23 := g3
  have h23 := (LIt its).st g3 h2
  have hml := minL_len (its := its) hn2
  refine q_par (H0 := H3) g3.self.self (P := S (countLosses n its)) (R := I (least : Int)) (ev_call (ea_cons (ev_var rfl h3) ea_nil) ⟨_, _, rfl, hw, rfl⟩) (ev_cb (rc_min (ns := (minLosses n its).map fun d => ((d.length : Nat) : Int)) ?_ ?_) (ea_cons (Ev.to (ef_lcA (minLosses n its) S (fun d => I ((d.length : Nat) : Int)) (ei_list (ev_call (ea_cons (ev_var rfl h3) ea_nil) ⟨_, _, rfl, hw, rfl⟩)) (by omega) fun d x Hc hd gc hx => ?_).ev (LI_map _ _)) ea_nil)) fun v5 v6 H4 g4 h5 h6 => ?_
  · obtain ⟨d, hd, e⟩ := List.mem_map.mp L1
    exact List.mem_map.mpr ⟨d, hd, by rw [e]⟩
  · intro y hy
    obtain ⟨d, hd, rfl⟩ := List.mem_map.mp hy
    have := L2' d.length (List.mem_map.mpr ⟨d, hd, rfl⟩)
    omega
  · exact ⟨_, tg_name, rfl, Ev.to (ev_cb rc_lenT (ea_cons (ev_var rfl hx) ea_nil)) (by rw [List.length_map])⟩
  obtain rfl : v6 = _ := h6
  have h34 := (Lay n its).st g4 h3
  have h44 := (S (lawCh xs n)).st g4 h4
  have h24 := (LIt its).st g4 h23
  refine q_asg (H0 := H4) g4.self.self (P := LN (sizesOf n its)) (Ev.to (ef_lcm (countLosses n its).zipIdx (fun p => TupOf [I (p.2 : Int), I (p.1 : Int)]) (fun p => decide (0 < p.1)) (fun p => I (p.2 : Int)) (ei_enumT (F := fun k : Nat => I (k : Int)) (ea_cons (ev_var rfl h5) ea_nil)) (by rw [List.length_zipIdx, counts_len]; omega) fun p x Hc hp gc hx => ?_).ev (LN_map _ _)) fun v7 H5 g5 h7 => ?_
  · obtain ⟨x1, x2, e1, e2, ht⟩ := tg_pair hx
    refine ⟨_, ht tg_name tg_name, rfl, EvT.to (et_test (ev_op rv_I0 (ev_var rfl e2) (ev_c (v := .int ((0 : Nat) : Int))))) ?_, fun _ => ev_var rfl e1⟩
    exact dLt
  have h35 := (Lay n its).st g5 h34
  have h45 := (S (lawCh xs n)).st g5 h44
  have h25 := (LIt its).st g5 h24
  have h55 := (S (countLosses n its)).st g5 h5
  refine q_no (H0 := H5) g5.self.self (EvT.to (et_or (a := false) (b := false) (EvT.to (et_test (ev_op rv_neI (ev_call (ea_cons (ev_var rfl h35) ea_nil) ⟨n, its, (least : Int) - 1, rfl, by omega, L3, L4, rfl⟩) (ev_op rv_I0 (ev_var (P := I (least : Int)) rfl rfl) ev_c))) (by rw [decide_eq_true rfl]; rfl)) fun _ => EvT.to (et_test (ev_op rv_neI (ev_op (rv_ixL (P := I (least : Int)) (i := 0) (by rw [List.getElem?_map, L5]; rfl)) (ev_var rfl h7) ev_c) (ev_var (P := I (least : Int)) rfl rfl))) (by rw [decide_eq_true rfl]; rfl)) rfl) fun H6 g6 => ?_
  have h36 := (Lay n its).st g6 h35
  have h46 := (S (lawCh xs n)).st g6 h45
  have h26 := (LIt its).st g6 h25
  have h56 := (S (countLosses n its)).st g6 h55
  have gp6 := (((g02.trans g3).trans g4).trans g5).trans g6
  refine q_forP (List.range (n + 1)) (fun k : Nat => I (k : Int)) (H0 := H6) gp6.self (es_range1 (ea_cons (Ev.to (ev_op rv_I0 (ev_var (P := I (n : Int)) rfl rfl) ev_c) (by rfl)) ea_nil) (by omega)) (fun i σ' _ => ∃ u8, σ' = [some v0, some (.int (n : Int)), some v2, some v3, some v4, some v5, some (.int (least : Int)), some v7, u8, none, none, none, none, none, none, none, none]) (fun H7 g7 => ⟨none, rfl⟩) ?_ ?_
  · rintro i m x σ' H7 hi gq ⟨u8, rfl⟩ H8 g8 hx
    obtain rfl : x = _ := hx
    have hm : m < n + 1 := List.mem_range.mp (List.mem_of_getElem? hi)
    have gq8 := gq.trans g8
    have hF9 := F9 hw (k := m) (by omega)
    have hg : (countLosses n its)[m]? = some ((countLosses n its)[m]?.getD 0) := by
      rw [List.getElem?_eq_getElem (by rw [counts_len]; omega)]
      rfl
    show tIfS _ _ _ _ _ _
    refine s_noN (H0 := H8) gq8.self.self (EvT.to (et_test (ev_op rv_neI (ev_cb (rc_lenD (Z := DTn (keptAt n its m).length) fun v H h => h) (ea_cons (ev_call (ea_cons (ev_var rfl ((Lay n its).st gq8 h36)) (ea_cons (ev_var (P := I (m : Int)) rfl rfl) ea_nil)) ⟨_, _, _, rfl, hw, by omega, rfl⟩) ea_nil)) (ev_op rv_I0 (ev_call (ea_cons (ev_var (P := I (n : Int)) rfl rfl) (ea_cons (ev_var (P := I (m : Int)) rfl rfl) ea_nil)) ⟨n, m, rfl, ⟨hn2, by omega⟩, rfl⟩) (ev_op (rv_ixT (P := I (((countLosses n its)[m]?.getD 0 : Nat) : Int)) (i := m) (by rw [List.getElem?_map, hg]; rfl)) (ev_var rfl ((S _).st gq8 h56)) (ev_var (P := I (m : Int)) rfl rfl))))) (by rw [decide_eq_true hF9]; rfl)) fun H9 g9 => ⟨gq8.trans g9, some (.int (m : Int)), rfl⟩
  rintro σ' H7 gq ⟨u8, rfl⟩
  have gp7 := gp6.trans gq
  have h37 := (Lay n its).st gq h36
  have h47 := (S (lawCh xs n)).st gq h46
  have h27 := (LIt its).st gq h26
  refine q_asg (H0 := H7) gp7.self (P := LIt (lawPlain its)) (ev_call (ea_cons (ev_var rfl h27) ea_nil) ⟨its, rfl, ⟨hle, hitl⟩, rfl⟩) fun v9 H8 g8 h9 => ?_
  have gp8 := gp7.trans g8
  have h38 := (Lay n its).st g8 h37
  have h48 := (S (lawCh xs n)).st g8 h47
  have h28 := (LIt its).st g8 h27
  refine q_whenS (i := 12) (b := decide ((((lawPlain its).length : Nat) : Int) ≤ 10)) (H0 := H8) gp8.self (Ev_le (ev_var rfl h9)) (fun hb H9 g9 tl => ?_) (fun u12 H9 g9 => ?_) rfl
  · have hb := of_decide_eq_true hb
    have hwl := F10w hw (by omega)
    generalize hpl : lawPlain its = pl at *
    have gp9 := gp8.trans g9
    have h39 := (Lay n its).st g9 h38
    have h49 := (S (lawCh xs n)).st g9 h48
    obtain ⟨l1, M1, M2, M3, M4, _⟩ := F8 hwl
    have hmL : minLosses n pl = minLosses n its := by rw [← hpl]; exact plain_minL hw
    have hmK : minKeepers n pl = minKeepers n its := by rw [← hpl]; exact plain_minK hw
    have hlc : lossChance n pl (lawCh xs n) = lossChance n its (lawCh xs n) := by rw [← hpl]; exact plain_chance hw
    have hll : l1 = least := by
      rw [hmL] at M1 M2
      exact Nat.le_antisymm (M2 _ L1) (L2' _ M1)
    subst hll
    show tSeq _ _ _ _ _
    refine q_asg (H0 := H9) gp9.self (P := Lay n pl) (ev_make (ea_cons (ev_var (P := I (n : Int)) rfl rfl) (ea_cons (ev_var rfl ((LIt pl).st g9 h9)) ea_nil)) ⟨_, _, rfl, hwl, rfl⟩).ev fun v12 H10 g10 h12 => ?_
    have h310 := (Lay n its).st g10 h39
    have h410 := (S (lawCh xs n)).st g10 h49
    refine q_no (H0 := H10) g10.self.self (EvT.to (et_or (a := false) (b := false) (EvT.to (et_test (ev_op (rv_neLS (l := minLosses n pl) (m := minLosses n its)) (ev_call (ea_cons (ev_var rfl h12) ea_nil) ⟨_, _, rfl, hwl, rfl⟩) (ev_call (ea_cons (ev_var rfl h310) ea_nil) ⟨_, _, rfl, hw, rfl⟩))) (by rw [decide_eq_true hmL]; rfl)) fun _ => EvT.to (et_test (ev_op (rv_neLS (l := minKeepers n pl) (m := minKeepers n its)) (ev_call (ea_cons (ev_var rfl h12) ea_nil) ⟨_, _, rfl, hwl, rfl⟩) (ev_call (ea_cons (ev_var rfl h310) ea_nil) ⟨_, _, rfl, hw, rfl⟩))) (by rw [decide_eq_true hmK]; rfl)) rfl) fun H11 g11 => ?_
    have h311 := (Lay n its).st g11 h310
    have h411 := (S (lawCh xs n)).st g11 h410
    have h1211 := (Lay n pl).st g11 h12
    refine q_no (H0 := H11) g11.self.self (EvT.to (et_or (a := false) (b := false) (EvT.to (et_not (et_B (ev_call (ea_cons (ev_var rfl h1211) (ea_cons (ev_var rfl h311) ea_nil)) ⟨n, pl, its, rfl, ⟨hwl, hw⟩, rfl⟩))) (by rw [← hpl, plain_safe hw]; rfl)) fun _ => EvT.to (et_test (ev_op (rv_neFr (a := lossChance n pl (lawCh xs n)) (b := lossChance n its (lawCh xs n))) (ev_call (ea_cons (ev_var rfl h1211) (ea_cons (ev_var rfl h411) ea_nil)) ⟨_, _, _, rfl, hwl, hcl, hch, rfl⟩) (ev_call (ea_cons (ev_var rfl h311) (ea_cons (ev_var rfl h411) ea_nil)) ⟨_, _, _, rfl, hw, hcl, hch, rfl⟩))) (by rw [decide_eq_true hlc]; rfl)) rfl) fun H12 g12 => ?_
    have h312 := (Lay n its).st g12 h311
    have h1212 := (Lay n pl).st g12 h1211
    have hmk := minK_len (its := its) hn2
    refine s_noN (H0 := H12) g12.self.self (EvT.to (et_or (a := false) (b := false) (EvT.to (et_not (et_B (ev_meth (Z := Du (minLosses n its) (minKeepers n its)) (ev_call (ea_cons (ev_var rfl h312) ea_nil) ⟨_, _, rfl, hw, rfl⟩) (fun v H' ⟨a, d, l, k, h, h1, _⟩ => ⟨a, d, _, h, h1, pfD_no _ _ (by decide +kernel) (by decide +kernel)⟩) (ea_cons (ev_var rfl h1212) ea_nil) ⟨_, _, _, _, rfl, hwl, by omega, by omega, minL_wf, minK_wf, rfl⟩))) (by rw [← hpl, plain_shows hw]; rfl)) fun _ => EvT.to (et_test (ev_op rv_neI (ev_call (ea_cons (ev_var rfl h1212) ea_nil) ⟨n, pl, (l1 : Int) - 1, rfl, by omega, M3, M4, rfl⟩) (ev_call (ea_cons (ev_var rfl h312) ea_nil) ⟨n, its, (l1 : Int) - 1, rfl, by omega, L3, L4, rfl⟩))) (by rw [decide_eq_true rfl]; rfl)) rfl) fun H13 g13 => ?_
    exact tl (some v12) H13 ((((g9.trans g10).trans g11).trans g12).trans g13)
  have gp9 := gp8.trans g9
  have h39 := (Lay n its).st g9 h38
  have h49 := (S (lawCh xs n)).st g9 h48
  have h29 := (LIt its).st g9 h28
  refine q_asg (H0 := H9) gp9.self (P := Fr (lossChance n its (lawCh xs n))) (ev_call (ea_cons (ev_var rfl h39) (ea_cons (ev_var rfl h49) ea_nil)) ⟨_, _, _, rfl, hw, hcl, hch, rfl⟩) fun v10 H10 g10 h10 => ?_
  have h310 := (Lay n its).st g10 h39
  have h410 := (S (lawCh xs n)).st g10 h49
  have h210 := (LIt its).st g10 h29
  refine q_forP (List.range its.length) (fun k : Nat => I (k : Int)) (H0 := H10) g10.self.self (es_range1 (ea_cons (Ev.to (ev_cb rc_lenL (ea_cons (ev_var rfl h210) ea_nil)) (by rw [List.length_map])) ea_nil) (by omega)) (fun i σ' _ => ∃ u11 u13, σ' = [some v0, some (.int (n : Int)), some v2, some v3, some v4, some v5, some (.int (least : Int)), some v7, u8, some v9, some v10, u11, u12, u13, none, none, none]) (fun H11 g11 => ⟨none, none, rfl⟩) ?_ ?_
  · rintro i idx x σ' H11 hi gq ⟨u11, u13, rfl⟩ H12 g12 hx
    obtain rfl : x = _ := hx
    have hidx : idx < its.length := List.mem_range.mp (List.mem_of_getElem? hi)
    have gq12 := gq.trans g12
    obtain ⟨it, hit⟩ : ∃ it, its[idx]? = some it := ⟨_, List.getElem?_eq_getElem hidx⟩
    have hmi := List.mem_of_getElem? hit
    show tSeq _ _ _ _ _
    refine q_asg (H0 := H12) g12.self.self (P := Fr (itemChance n its idx (lawCh xs n))) (ev_call (ea_cons (ev_var rfl ((Lay n its).st gq12 h310)) (ea_cons (ev_var (P := I (idx : Int)) rfl rfl) (ea_cons (ev_var rfl ((S (lawCh xs n)).st gq12 h410)) ea_nil))) ⟨_, _, _, _, rfl, hw, hidx, hcl, hch, rfl⟩) fun v13 H13 g13 h13 => ?_
    have gq13 := gq12.trans g13
    have hF := F11 hw hidx hcl hch
    have b1 := chance_snd (n := n) (ch := lawCh xs n) (f := losing n its) hn2
    have b2 := chance_snd (n := n) (ch := lawCh xs n) (f := itemBad n its idx) hn2
    have b1 : 0 < (lossChance n its (lawCh xs n)).2 ∧ (lossChance n its (lawCh xs n)).2 ≤ 2985984 := b1
    have b2 : 0 < (itemChance n its idx (lawCh xs n)).2 ∧ (itemChance n its idx (lawCh xs n)).2 ≤ 2985984 := b2
    have h1013 := (Fr (lossChance n its (lawCh xs n))).st gq13 h10
    have hw1 : WfL n [it] := ⟨hn1, hn2, by simp, by simp, fun t ht => by rw [List.mem_singleton.mp ht]; exact hw.it it hmi⟩
    refine s_noN (H0 := H13) g13.self.self (EvT.to (et_or (a := false) (b := false) (EvT.to (et_test (ev_op rv_I0 (ev_op (rv_I (.inr ⟨by omega, by omega⟩)) (ev_op (rv_ixT (i := 0) rfl) (ev_var rfl h13) ev_c) (ev_op (rv_ixT (i := 1) rfl) (ev_var rfl h1013) ev_c)) (ev_op (rv_I (.inr ⟨by omega, by omega⟩)) (ev_op (rv_ixT (i := 0) rfl) (ev_var rfl h1013) ev_c) (ev_op (rv_ixT (i := 1) rfl) (ev_var rfl h13) ev_c)))) (decide_eq_false (by omega))) fun _ => EvT.to (et_test (ev_op rv_neI (ev_servers (n := n) (its := [it]) C (ev_make (ea_cons (ev_var (P := I (n : Int)) rfl rfl) (ea_cons (P := LIt [it]) (ef_lst (Ps := [It1 it]) (ea_cons (ev_op (rv_ixL (P := It1 it) (i := idx) (by rw [List.getElem?_map, hit]; rfl)) (ev_var rfl ((LIt its).st gq13 h210)) (ev_var (P := I (idx : Int)) rfl rfl)) ea_nil) (by simp)).ev ea_nil)) ⟨_, _, rfl, hw1, rfl⟩).ev) (ev_var (P := I (n : Int)) rfl rfl))) (by rw [decide_eq_true rfl]; rfl)) rfl) fun H14 g14 => ⟨gq13.trans g14, some (.int (idx : Int)), some v13, rfl⟩
  · rintro σ' H11 gq ⟨u11, u13, rfl⟩
    have gp11 := (gp9.trans g10).trans gq
    refine s_ret (H0 := H11) gp11.self (P := B true) (Ev.to (ev_and (a := true) (b := true) (ev_call (ea_cons (ev_var rfl ((Lay n its).st gq h310)) ea_nil) ⟨_, _, rfl, hw, rfl⟩) fun _ => ev_call (ea_cons (ev_var rfl ((Lay n its).st gq h310)) (ea_cons (ev_var rfl ((S (lawCh xs n)).st gq h410)) ea_nil)) ⟨_, _, _, rfl, ⟨hw, hcl, hch⟩, rfl⟩) rfl) fun v H12 g12 e12 => k v H12 (gp11.trans g12) e12
end


section
open PySem PySem.Spec PyProof.Rows L2 LamX
def fn0 : List He.DefD := [d_is_number, d_is_set, d_is_item, d_Layout_init, d_Layout_len, d_Layout_readable, d_check_layout, d_check_set, d_check_index, d_common, d_others_of, d_sets_of, d_lowest, d_Dual_init, d_Dual_shows, d_Dual_settles, d_is_within, d_is_keeping, d_is_losing, d_minimal]
def fn1 : List He.DefD := [d_minimal_losses, d_minimal_keepers, d_find_dual, d_tolerance, d_count_losses, d_essential, d_useless, d_factorial, d_comb, d_check_chances, d_weight_of, d_power, d_chance_of, d_loss_chance, d_item_chance, d_with_chance, d_importances, d_random_loss, d_check_pair, d_level_differences]
def fn2 : List He.DefD := [d_equally_safe, d_loads_of, d_steps_to, d_path_from, d_moved, d_with_one_more, d_fill, d_count_readings, d_least_choices, d_load_of, d_after, d_load_after, d_loads_after, d_law_number, d_law_items, d_law_over, d_law_plain, d_law_sizes_right, d_law_servers_right, d_law]
def fn : List He.DefD := fn0 ++ fn1 ++ fn2
def fa0 : List He.Fa := [.glo "is_number", .glo "is_set", .glo "is_item", .glo "check_layout", .glo "check_set", .glo "check_index", .glo "common", .glo "others_of", .glo "sets_of", .glo "lowest", .glo "is_within", .glo "is_keeping", .glo "is_losing", .glo "minimal", .glo "minimal_losses", .glo "minimal_keepers", .glo "find_dual", .glo "tolerance", .glo "count_losses", .glo "essential"]
def fa1 : List He.Fa := [.glo "useless", .glo "factorial", .glo "comb", .glo "check_chances", .glo "weight_of", .glo "power", .glo "chance_of", .glo "loss_chance", .glo "item_chance", .glo "with_chance", .glo "importances", .glo "random_loss", .glo "check_pair", .glo "level_differences", .glo "equally_safe", .glo "loads_of", .glo "steps_to", .glo "path_from", .glo "moved", .glo "with_one_more"]
def fa2 : List He.Fa := [.glo "fill", .glo "count_readings", .glo "least_choices", .glo "load_of", .glo "after", .glo "load_after", .glo "loads_after", .glo "_law_number", .glo "_law_items", .glo "_law_over", .glo "_law_plain", .glo "_law_sizes_right", .glo "_law_servers_right", .glo "law", .glo "Layout", .glo "Dual", .free "isinstance", .free "int", .free "bool", .free "tuple"]
def fa3 : List He.Fa := [.free "list", .free "all", .free "any", .free "zip", .free "len", .free "enumerate", .free "range", .free "sorted", .free "abs", .free "sum", .free "min", .free "max", .int "MOST_SERVERS" 8, .int "MOST_ITEMS" 10, .int "WHOLE" 12, .cls "Layout", .cls "Dual", .noat "Layout" "servers", .noat "Layout" "entries", .noat "Dual" "losses"]
def fa4 : List He.Fa := [.noat "Dual" "keepers", .meth "Layout" "readable", .meth "Layout" "__len__", .meth "Dual" "shows", .meth "Dual" "settles", .mkr "Layout", .mkr "Dual"]
def fa : List He.Fa := fa0 ++ fa1 ++ fa2 ++ fa3 ++ fa4
def lo0 : List PySem.Str := ["_wall", "LotError", "BadServers", "BadItems", "BadLayout", "BadServer", "BadSet", "BadIndex", "BadChances", "MOST_SERVERS", "MOST_ITEMS", "is_number", "is_set", "is_item", "Layout", "check_layout", "check_server", "check_set", "check_index", "common"]
def lo1 : List PySem.Str := ["others_of", "sets_of", "lowest", "Dual", "is_within", "is_keeping", "is_losing", "minimal", "minimal_losses", "minimal_keepers", "find_dual", "tolerance", "count_losses", "essential", "useless", "factorial", "comb", "WHOLE", "check_chances", "weight_of"]
def lo2 : List PySem.Str := ["power", "chance_of", "loss_chance", "item_chance", "with_chance", "importances", "random_loss", "check_pair", "level_differences", "equally_safe", "loads_of", "steps_to", "path_from", "moved", "with_one_more", "fill", "count_readings", "least_choices", "load_of", "after"]
def lo3 : List PySem.Str := ["load_after", "loads_after", "_law_number", "_law_items", "_law_over", "_law_plain", "_law_sizes_right", "_law_servers_right"]
def loose : List PySem.Str := lo0 ++ lo1 ++ lo2 ++ lo3
def tf : List He.Defn := [("sets_of", none), ("loss_chance", none), ("item_chance", none)]
def ex (K : PySem.W.Frag) : Bool := He.eqO (PySem.W.findIn K (.ref (He.ga K "Layout")) "__class__") (some (some (.builtin "object.__class__"))) && (He.eqO (PySem.W.specialIn K (.builtin "object.__class__") "__get__") (some (some (.builtin "getset_descriptor.__get__"))) &&
  (decide (PySem.W.takesIn K (.builtin "object.__class__") = some true) && (decide (PySem.W.mroIn K (He.ga K "Layout") (.type "object") = some true) &&
  (decide ((He.cT K ("sets_of", none)).2 ≠ (He.cT K ("loss_chance", none)).2) && (decide ((He.cT K ("sets_of", none)).2 ≠ (He.cT K ("item_chance", none)).2) && decide ((He.cT K ("loss_chance", none)).2 ≠ (He.cT K ("item_chance", none)).2))))))
abbrev R : PySem.W.OpenRow := PySem.W.OpenLaw.row PySem.Challenge.rw_copylots_k37_whole_ties_losses
abbrev hk : PySem.W.Hook := He.hookX 5 fa fn [] tf ex
def ob (s : PySem.W.SharedT) : He.AlX := He.obsX 5 fa fn [] tf ex (HandSHeadRun.getT s)
theorem ob_eq (s : PySem.W.SharedT) : ob s = hk.obs s.abs := He.obsX_eq (HandSHeadRun.getT_eq s)
theorem run (w : World) : HandSHeadRun.RunEq R (PySem.W.view R.prog [77]) hk ob 8000 loose w := by
  intro os
  kernel_rfl
def qS : PySem.Str := "sets_of.<locals>.<lambda>"
def qL : PySem.Str := "loss_chance.<locals>.<lambda>"
def qI : PySem.Str := "item_chance.<locals>.<lambda>"
def cx (K : PySem.W.Frag) : Cxt := ⟨K, [((He.cT K ("sets_of", none)).2, "sets_of.<locals>.<lambda>"), ((He.cT K ("loss_chance", none)).2, "loss_chance.<locals>.<lambda>"), ((He.cT K ("item_chance", none)).2, "item_chance.<locals>.<lambda>")], He.ga K "Layout", He.ga K "Dual"⟩
theorem code_of {K : PySem.W.Frag} {x q : PySem.Str} {pa : Arguments} {bo : List Stmt} {sc : Scope} {p : He.Defn} {fd : FuncData} (F : FunD K x q pa bo sc [] [] (He.fAd K p) fd) : fd.code = .ref (He.cT K p).1 := by
  obtain ⟨oc, od, dV, kV, doc, pm, an, cdv, ct, osl, e, lk, hcd, _, _⟩ := F.ex
  obtain ⟨a, rfl⟩ := He.codeIn_ref hcd
  have e2 : fd.code = .ref a := by rw [e]
  rw [e2]
  exact congrArg Value.ref (He.codeOf_eq lk e2).symm
theorem facts {P : Program} {w : World} {K : PySem.W.Frag} {h : Heap} {mg : PySem.Str → Option Value} {fl : Addr} (X : K.In h) (G : h.Ns mainGlobals mg) (hfa : mg ("law" : PySem.Str) = some (.ref fl)) (c : He.SaysX fa fn [] tf ex w h K) :
    ∃ fd : FuncData, (∀ (s : Shared) (v : Value), BindsTo s fd ⟨[v], []⟩ [("_law_script", v)]) ∧ ∀ base : Heap, K.In base → base.Ns mainGlobals mg → (∀ p ∈ tf.map (He.cT K), TabB base mg p.1 p.2) → FnOk P w K mg base CX0 12 fl fd ["_law_script"] (Pm (cx K) R_law) := by
  obtain ⟨x1, c2⟩ := He.ba c.more
  obtain ⟨x2, c3⟩ := He.ba c2
  obtain ⟨x3, c4⟩ := He.ba c3
  obtain ⟨x4, c5⟩ := He.ba c4
  obtain ⟨x5, c6⟩ := He.ba c5
  obtain ⟨x6, x7⟩ := He.ba c6
  have n1 := of_decide_eq_true x5
  have n2 := of_decide_eq_true x6
  have n3 := of_decide_eq_true x7
  have CL : Cls (cx K).K (cx K).cL := He.cls_ok (c.t.d.fact 75 (f := .cls "Layout") rfl)
  have Cc : Cl (cx K) := ⟨CL, He.noat_ok (c.t.d.fact 77 (f := .noat "Layout" "servers") rfl), He.noat_ok (c.t.d.fact 78 (f := .noat "Layout" "entries") rfl), He.cls_ok (c.t.d.fact 76 (f := .cls "Dual") rfl), He.noat_ok (c.t.d.fact 79 (f := .noat "Dual" "losses") rfl), He.noat_ok (c.t.d.fact 80 (f := .noat "Dual" "keepers") rfl)⟩
  have Il : IsL (cx K) := ⟨CL, He.eqO_ok x1, He.eqO_ok x2, of_decide_eq_true x3, of_decide_eq_true x4⟩
  have Bt : Bts (cx K) mg := ⟨He.free_ok X G (c.t.d.fact 56 (f := .free "isinstance") rfl), He.free_ok X G (c.t.d.fact 57 (f := .free "int") rfl), He.free_ok X G (c.t.d.fact 58 (f := .free "bool") rfl), He.free_ok X G (c.t.d.fact 59 (f := .free "tuple") rfl), He.free_ok X G (c.t.d.fact 60 (f := .free "list") rfl), He.free_ok X G (c.t.d.fact 61 (f := .free "all") rfl), He.free_ok X G (c.t.d.fact 62 (f := .free "any") rfl), He.free_ok X G (c.t.d.fact 63 (f := .free "zip") rfl), He.free_ok X G (c.t.d.fact 64 (f := .free "len") rfl), He.free_ok X G (c.t.d.fact 65 (f := .free "enumerate") rfl), He.free_ok X G (c.t.d.fact 66 (f := .free "range") rfl), He.free_ok X G (c.t.d.fact 67 (f := .free "sorted") rfl), He.free_ok X G (c.t.d.fact 68 (f := .free "abs") rfl), He.free_ok X G (c.t.d.fact 69 (f := .free "sum") rfl), He.free_ok X G (c.t.d.fact 70 (f := .free "min") rfl), He.free_ok X G (c.t.d.fact 71 (f := .free "max") rfl), He.int_ok X G (c.t.d.fact 72 (f := .int "MOST_SERVERS" 8) rfl), He.int_ok X G (c.t.d.fact 73 (f := .int "MOST_ITEMS" 10) rfl), He.int_ok X G (c.t.d.fact 74 (f := .int "WHOLE" 12) rfl), He.glo_ok X G (c.t.d.fact 54 (f := .glo "Layout") rfl), He.glo_ok X G (c.t.d.fact 55 (f := .glo "Dual") rfl)⟩
  obtain ⟨fd_is_number, F_is_number⟩ := c.t.d.def_ 0 (d := d_is_number) rfl
  obtain ⟨fd_is_set, F_is_set⟩ := c.t.d.def_ 1 (d := d_is_set) rfl
  obtain ⟨fd_is_item, F_is_item⟩ := c.t.d.def_ 2 (d := d_is_item) rfl
  obtain ⟨fd_Layout_init, F_Layout_init⟩ := c.t.d.def_ 3 (d := d_Layout_init) rfl
  obtain ⟨fd_Layout_len, F_Layout_len⟩ := c.t.d.def_ 4 (d := d_Layout_len) rfl
  obtain ⟨fd_check_set, F_check_set⟩ := c.t.d.def_ 7 (d := d_check_set) rfl
  obtain ⟨fd_common, F_common⟩ := c.t.d.def_ 9 (d := d_common) rfl
  obtain ⟨fd_Layout_readable, F_Layout_readable⟩ := c.t.d.def_ 5 (d := d_Layout_readable) rfl
  obtain ⟨fd_check_layout, F_check_layout⟩ := c.t.d.def_ 6 (d := d_check_layout) rfl
  obtain ⟨fd_check_index, F_check_index⟩ := c.t.d.def_ 8 (d := d_check_index) rfl
  obtain ⟨fd_others_of, F_others_of⟩ := c.t.d.def_ 10 (d := d_others_of) rfl
  obtain ⟨fd_sets_of, F_sets_of⟩ := c.t.d.def_ 11 (d := d_sets_of) rfl
  obtain ⟨fd_lowest, F_lowest⟩ := c.t.d.def_ 12 (d := d_lowest) rfl
  obtain ⟨fd_Dual_init, F_Dual_init⟩ := c.t.d.def_ 13 (d := d_Dual_init) rfl
  obtain ⟨fd_is_keeping, F_is_keeping⟩ := c.t.d.def_ 17 (d := d_is_keeping) rfl
  obtain ⟨fd_is_losing, F_is_losing⟩ := c.t.d.def_ 18 (d := d_is_losing) rfl
  obtain ⟨fd_is_within, F_is_within⟩ := c.t.d.def_ 16 (d := d_is_within) rfl
  obtain ⟨fd_Dual_settles, F_Dual_settles⟩ := c.t.d.def_ 15 (d := d_Dual_settles) rfl
  obtain ⟨fd_Dual_shows, F_Dual_shows⟩ := c.t.d.def_ 14 (d := d_Dual_shows) rfl
  obtain ⟨fd_minimal, F_minimal⟩ := c.t.d.def_ 19 (d := d_minimal) rfl
  obtain ⟨fd_minimal_losses, F_minimal_losses⟩ := c.t.d.def_ 20 (d := d_minimal_losses) rfl
  obtain ⟨fd_minimal_keepers, F_minimal_keepers⟩ := c.t.d.def_ 21 (d := d_minimal_keepers) rfl
  obtain ⟨fd_find_dual, F_find_dual⟩ := c.t.d.def_ 22 (d := d_find_dual) rfl
  obtain ⟨fd_tolerance, F_tolerance⟩ := c.t.d.def_ 23 (d := d_tolerance) rfl
  obtain ⟨fd_count_losses, F_count_losses⟩ := c.t.d.def_ 24 (d := d_count_losses) rfl
  obtain ⟨fd_essential, F_essential⟩ := c.t.d.def_ 25 (d := d_essential) rfl
  obtain ⟨fd_useless, F_useless⟩ := c.t.d.def_ 26 (d := d_useless) rfl
  obtain ⟨fd_factorial, F_factorial⟩ := c.t.d.def_ 27 (d := d_factorial) rfl
  obtain ⟨fd_comb, F_comb⟩ := c.t.d.def_ 28 (d := d_comb) rfl
  obtain ⟨fd_check_chances, F_check_chances⟩ := c.t.d.def_ 29 (d := d_check_chances) rfl
  obtain ⟨fd_weight_of, F_weight_of⟩ := c.t.d.def_ 30 (d := d_weight_of) rfl
  obtain ⟨fd_power, F_power⟩ := c.t.d.def_ 31 (d := d_power) rfl
  obtain ⟨fd_chance_of, F_chance_of⟩ := c.t.d.def_ 32 (d := d_chance_of) rfl
  obtain ⟨fd_loss_chance, F_loss_chance⟩ := c.t.d.def_ 33 (d := d_loss_chance) rfl
  obtain ⟨fd_item_chance, F_item_chance⟩ := c.t.d.def_ 34 (d := d_item_chance) rfl
  obtain ⟨fd_with_chance, F_with_chance⟩ := c.t.d.def_ 35 (d := d_with_chance) rfl
  obtain ⟨fd_importances, F_importances⟩ := c.t.d.def_ 36 (d := d_importances) rfl
  obtain ⟨fd_random_loss, F_random_loss⟩ := c.t.d.def_ 37 (d := d_random_loss) rfl
  obtain ⟨fd_check_pair, F_check_pair⟩ := c.t.d.def_ 38 (d := d_check_pair) rfl
  obtain ⟨fd_level_differences, F_level_differences⟩ := c.t.d.def_ 39 (d := d_level_differences) rfl
  obtain ⟨fd_equally_safe, F_equally_safe⟩ := c.t.d.def_ 40 (d := d_equally_safe) rfl
  obtain ⟨fd_loads_of, F_loads_of⟩ := c.t.d.def_ 41 (d := d_loads_of) rfl
  obtain ⟨fd_steps_to, F_steps_to⟩ := c.t.d.def_ 42 (d := d_steps_to) rfl
  obtain ⟨fd_path_from, F_path_from⟩ := c.t.d.def_ 43 (d := d_path_from) rfl
  obtain ⟨fd_moved, F_moved⟩ := c.t.d.def_ 44 (d := d_moved) rfl
  obtain ⟨fd_with_one_more, F_with_one_more⟩ := c.t.d.def_ 45 (d := d_with_one_more) rfl
  obtain ⟨fd_fill, F_fill⟩ := c.t.d.def_ 46 (d := d_fill) rfl
  obtain ⟨fd_count_readings, F_count_readings⟩ := c.t.d.def_ 47 (d := d_count_readings) rfl
  obtain ⟨fd_least_choices, F_least_choices⟩ := c.t.d.def_ 48 (d := d_least_choices) rfl
  obtain ⟨fd_load_of, F_load_of⟩ := c.t.d.def_ 49 (d := d_load_of) rfl
  obtain ⟨fd_after, F_after⟩ := c.t.d.def_ 50 (d := d_after) rfl
  obtain ⟨fd_load_after, F_load_after⟩ := c.t.d.def_ 51 (d := d_load_after) rfl
  obtain ⟨fd_loads_after, F_loads_after⟩ := c.t.d.def_ 52 (d := d_loads_after) rfl
  obtain ⟨fd_law_number, F_law_number⟩ := c.t.d.def_ 53 (d := d_law_number) rfl
  obtain ⟨fd_law_items, F_law_items⟩ := c.t.d.def_ 54 (d := d_law_items) rfl
  obtain ⟨fd_law_over, F_law_over⟩ := c.t.d.def_ 55 (d := d_law_over) rfl
  obtain ⟨fd_law_plain, F_law_plain⟩ := c.t.d.def_ 56 (d := d_law_plain) rfl
  obtain ⟨fd_law_sizes_right, F_law_sizes_right⟩ := c.t.d.def_ 57 (d := d_law_sizes_right) rfl
  obtain ⟨fd_law_servers_right, F_law_servers_right⟩ := c.t.d.def_ 58 (d := d_law_servers_right) rfl
  obtain ⟨fd_law, F_law⟩ := c.t.d.def_ 59 (d := d_law) rfl
  have e := hfa.symm.trans (He.glo_ok X G (c.t.d.fact 53 (f := .glo "law") rfl))
  cases e
  refine ⟨fd_law, fun s v => FunD.bindsA (ps := ["_law_script"]) F_law (fun _ _ _ _ _ _ us hl => match us, hl with | [_], _ => rfl) s [v] rfl, fun base KB GB TB => ?_⟩
  have T1 : TabB base mg (He.cT K ("sets_of", none)).1 (He.cT K ("sets_of", none)).2 := TB _ (List.mem_map.mpr ⟨("sets_of", none), by simp [tf], rfl⟩)
  have T2 : TabB base mg (He.cT K ("loss_chance", none)).1 (He.cT K ("loss_chance", none)).2 := TB _ (List.mem_map.mpr ⟨("loss_chance", none), by simp [tf], rfl⟩)
  have T3 : TabB base mg (He.cT K ("item_chance", none)).1 (He.cT K ("item_chance", none)).2 := TB _ (List.mem_map.mpr ⟨("item_chance", none), by simp [tf], rfl⟩)
  have Lf_sets_of : LamF (cx K) base mg fd_sets_of "sets_of.<locals>.<lambda>" := ⟨_, _, code_of F_sets_of, T1, by simp [cx], fun p hp e => by
    simp only [cx, List.mem_cons, List.not_mem_nil, or_false] at hp
    rcases hp with rfl | rfl | rfl
    · rfl
    · exact absurd e.symm n1
    · exact absurd e.symm n2⟩
  have Lf_loss_chance : LamF (cx K) base mg fd_loss_chance "loss_chance.<locals>.<lambda>" := ⟨_, _, code_of F_loss_chance, T2, by simp [cx], fun p hp e => by
    simp only [cx, List.mem_cons, List.not_mem_nil, or_false] at hp
    rcases hp with rfl | rfl | rfl
    · exact absurd e n1
    · rfl
    · exact absurd e.symm n3⟩
  have Lf_item_chance : LamF (cx K) base mg fd_item_chance "item_chance.<locals>.<lambda>" := ⟨_, _, code_of F_item_chance, T3, by simp [cx], fun p hp e => by
    simp only [cx, List.mem_cons, List.not_mem_nil, or_false] at hp
    rcases hp with rfl | rfl | rfl
    · exact absurd e n2
    · exact absurd e n3
    · rfl⟩
  have h_is_number : Has P w (cx K).K mg base "is_number" ["thing", "least", "most"] 1 (Pm (cx K) R_is_number) := ⟨⟨_, fd_is_number, He.glo_ok X G (c.t.d.fact 0 (f := .glo "is_number") rfl), F_is_number.kp, (FunD.bindsN F_is_number fun _ _ _ _ _ _ us hl => match us, hl with | [_, _, _], _ => rfl), ok_is_number (c := cx K) (P := P) (w := w) (base := base) F_is_number Bt Cc Il ⟩⟩
  have h_is_set : Has P w (cx K).K mg base "is_set" ["thing", "servers"] 2 (Pm (cx K) R_is_set) := ⟨⟨_, fd_is_set, He.glo_ok X G (c.t.d.fact 1 (f := .glo "is_set") rfl), F_is_set.kp, (FunD.bindsN F_is_set fun _ _ _ _ _ _ us hl => match us, hl with | [_, _], _ => rfl), ok_is_set (c := cx K) (P := P) (w := w) (base := base) F_is_set Bt Cc Il h_is_number⟩⟩
  have h_is_item : Has P w (cx K).K mg base "is_item" ["thing", "servers"] 3 (Pm (cx K) R_is_item) := ⟨⟨_, fd_is_item, He.glo_ok X G (c.t.d.fact 2 (f := .glo "is_item") rfl), F_is_item.kp, (FunD.bindsN F_is_item fun _ _ _ _ _ _ us hl => match us, hl with | [_, _], _ => rfl), ok_is_item (c := cx K) (P := P) (w := w) (base := base) F_is_item Bt Cc Il h_is_set h_is_number⟩⟩
  have h_Layout : HasC P w (cx K).K mg base "Layout" (cx K).cL ["self", "servers", "items"] 4 (PmI (cx K) (cx K).cL R_Layout_init) := ⟨He.glo_ok X G (c.t.d.fact 54 (f := .glo "Layout") rfl), ⟨_, fd_Layout_init, He.mkr_ok (c.t.d.fact 85 (f := .mkr "Layout") rfl), (FunD.bindsN F_Layout_init fun _ _ _ _ _ _ us hl => match us, hl with | [_, _, _], _ => rfl), ok_Layout_init (c := cx K) (P := P) (w := w) (base := base) F_Layout_init Bt Cc Il h_is_number h_is_item⟩⟩
  have h_Layout_len : HasM P w (cx K).K mg base (cx K).cL "__len__" ["self"] 1 (Pm (cx K) R_Layout_len) := ⟨CL, ⟨_, fd_Layout_len, He.meth_ok (c.t.d.fact 82 (f := .meth "Layout" "__len__") rfl), (FunD.bindsN F_Layout_len fun _ _ _ _ _ _ us hl => match us, hl with | [_], _ => rfl), ok_Layout_len (c := cx K) (P := P) (w := w) (base := base) F_Layout_len Bt Cc Il ⟩⟩
  have h_check_set : Has P w (cx K).K mg base "check_set" ["layout", "servers"] 3 (Pm (cx K) R_check_set) := ⟨⟨_, fd_check_set, He.glo_ok X G (c.t.d.fact 4 (f := .glo "check_set") rfl), F_check_set.kp, (FunD.bindsN F_check_set fun _ _ _ _ _ _ us hl => match us, hl with | [_, _], _ => rfl), ok_check_set (c := cx K) (P := P) (w := w) (base := base) F_check_set Bt Cc Il h_is_set⟩⟩
  have h_common : Has P w (cx K).K mg base "common" ["one", "other"] 1 (Pm (cx K) R_common) := ⟨⟨_, fd_common, He.glo_ok X G (c.t.d.fact 6 (f := .glo "common") rfl), F_common.kp, (FunD.bindsN F_common fun _ _ _ _ _ _ us hl => match us, hl with | [_, _], _ => rfl), ok_common (c := cx K) (P := P) (w := w) (base := base) F_common Bt Cc Il ⟩⟩
  have h_Layout_readable : HasM P w (cx K).K mg base (cx K).cL "readable" ["self", "up"] 4 (Pm (cx K) R_Layout_readable) := ⟨CL, ⟨_, fd_Layout_readable, He.meth_ok (c.t.d.fact 81 (f := .meth "Layout" "readable") rfl), (FunD.bindsN F_Layout_readable fun _ _ _ _ _ _ us hl => match us, hl with | [_, _], _ => rfl), ok_Layout_readable (c := cx K) (P := P) (w := w) (base := base) F_Layout_readable Bt Cc Il h_check_set h_common⟩⟩
  have h_check_layout : Has P w (cx K).K mg base "check_layout" ["layout"] 1 (Pm (cx K) R_check_layout) := ⟨⟨_, fd_check_layout, He.glo_ok X G (c.t.d.fact 3 (f := .glo "check_layout") rfl), F_check_layout.kp, (FunD.bindsN F_check_layout fun _ _ _ _ _ _ us hl => match us, hl with | [_], _ => rfl), ok_check_layout (c := cx K) (P := P) (w := w) (base := base) F_check_layout Bt Cc Il ⟩⟩
  have h_check_index : Has P w (cx K).K mg base "check_index" ["layout", "index"] 3 (Pm (cx K) R_check_index) := ⟨⟨_, fd_check_index, He.glo_ok X G (c.t.d.fact 5 (f := .glo "check_index") rfl), F_check_index.kp, (FunD.bindsN F_check_index fun _ _ _ _ _ _ us hl => match us, hl with | [_, _], _ => rfl), ok_check_index (c := cx K) (P := P) (w := w) (base := base) F_check_index Bt Cc Il h_is_number h_Layout_len⟩⟩
  have h_others_of : Has P w (cx K).K mg base "others_of" ["servers", "some"] 1 (Pm (cx K) R_others_of) := ⟨⟨_, fd_others_of, He.glo_ok X G (c.t.d.fact 7 (f := .glo "others_of") rfl), F_others_of.kp, (FunD.bindsN F_others_of fun _ _ _ _ _ _ us hl => match us, hl with | [_, _], _ => rfl), ok_others_of (c := cx K) (P := P) (w := w) (base := base) F_others_of Bt Cc Il ⟩⟩
  have h_sets_of : Has P w (cx K).K mg base "sets_of" ["servers"] 5 (Pm (cx K) R_sets_of) := ⟨⟨_, fd_sets_of, He.glo_ok X G (c.t.d.fact 8 (f := .glo "sets_of") rfl), F_sets_of.kp, (FunD.bindsN F_sets_of fun _ _ _ _ _ _ us hl => match us, hl with | [_], _ => rfl), ok_sets_of (c := cx K) (P := P) (w := w) (base := base) F_sets_of Bt Cc Il Lf_sets_of ⟩⟩
  have h_lowest : Has P w (cx K).K mg base "lowest" ["numerator", "denominator"] 1 (Pm (cx K) R_lowest) := ⟨⟨_, fd_lowest, He.glo_ok X G (c.t.d.fact 9 (f := .glo "lowest") rfl), F_lowest.kp, (FunD.bindsN F_lowest fun _ _ _ _ _ _ us hl => match us, hl with | [_, _], _ => rfl), ok_lowest (c := cx K) (P := P) (w := w) (base := base) F_lowest Bt Cc Il ⟩⟩
  have h_Dual : HasC P w (cx K).K mg base "Dual" (cx K).cD ["self", "losses", "keepers"] 1 (PmI (cx K) (cx K).cD R_Dual_init) := ⟨He.glo_ok X G (c.t.d.fact 55 (f := .glo "Dual") rfl), ⟨_, fd_Dual_init, He.mkr_ok (c.t.d.fact 86 (f := .mkr "Dual") rfl), (FunD.bindsN F_Dual_init fun _ _ _ _ _ _ us hl => match us, hl with | [_, _, _], _ => rfl), ok_Dual_init (c := cx K) (P := P) (w := w) (base := base) F_Dual_init Bt Cc Il ⟩⟩
  have h_is_keeping : Has P w (cx K).K mg base "is_keeping" ["layout", "up"] 5 (Pm (cx K) R_is_keeping) := ⟨⟨_, fd_is_keeping, He.glo_ok X G (c.t.d.fact 11 (f := .glo "is_keeping") rfl), F_is_keeping.kp, (FunD.bindsN F_is_keeping fun _ _ _ _ _ _ us hl => match us, hl with | [_, _], _ => rfl), ok_is_keeping (c := cx K) (P := P) (w := w) (base := base) F_is_keeping Bt Cc Il h_Layout_readable h_Layout_len⟩⟩
  have h_is_losing : Has P w (cx K).K mg base "is_losing" ["layout", "down"] 6 (Pm (cx K) R_is_losing) := ⟨⟨_, fd_is_losing, He.glo_ok X G (c.t.d.fact 12 (f := .glo "is_losing") rfl), F_is_losing.kp, (FunD.bindsN F_is_losing fun _ _ _ _ _ _ us hl => match us, hl with | [_, _], _ => rfl), ok_is_losing (c := cx K) (P := P) (w := w) (base := base) F_is_losing Bt Cc Il h_is_keeping h_others_of⟩⟩
  have h_is_within : Has P w (cx K).K mg base "is_within" ["one", "other"] 1 (Pm (cx K) R_is_within) := ⟨⟨_, fd_is_within, He.glo_ok X G (c.t.d.fact 10 (f := .glo "is_within") rfl), F_is_within.kp, (FunD.bindsN F_is_within fun _ _ _ _ _ _ us hl => match us, hl with | [_, _], _ => rfl), ok_is_within (c := cx K) (P := P) (w := w) (base := base) F_is_within Bt Cc Il ⟩⟩
  have h_Dual_settles : HasM P w (cx K).K mg base (cx K).cD "settles" ["self", "layout", "down"] 2 (Pm (cx K) R_Dual_settles) := ⟨Cc.cd, ⟨_, fd_Dual_settles, He.meth_ok (c.t.d.fact 84 (f := .meth "Dual" "settles") rfl), (FunD.bindsN F_Dual_settles fun _ _ _ _ _ _ us hl => match us, hl with | [_, _, _], _ => rfl), ok_Dual_settles (c := cx K) (P := P) (w := w) (base := base) F_Dual_settles Bt Cc Il h_others_of h_is_within⟩⟩
  have h_Dual_shows : HasM P w (cx K).K mg base (cx K).cD "shows" ["self", "layout"] 7 (Pm (cx K) R_Dual_shows) := ⟨Cc.cd, ⟨_, fd_Dual_shows, He.meth_ok (c.t.d.fact 83 (f := .meth "Dual" "shows") rfl), (FunD.bindsN F_Dual_shows fun _ _ _ _ _ _ us hl => match us, hl with | [_, _], _ => rfl), ok_Dual_shows (c := cx K) (P := P) (w := w) (base := base) F_Dual_shows Bt Cc Il h_check_layout h_is_set h_is_losing h_is_keeping h_sets_of h_Dual_settles⟩⟩
  have h_minimal : Has P w (cx K).K mg base "minimal" ["sets"] 2 (Pm (cx K) R_minimal) := ⟨⟨_, fd_minimal, He.glo_ok X G (c.t.d.fact 13 (f := .glo "minimal") rfl), F_minimal.kp, (FunD.bindsN F_minimal fun _ _ _ _ _ _ us hl => match us, hl with | [_], _ => rfl), ok_minimal (c := cx K) (P := P) (w := w) (base := base) F_minimal Bt Cc Il h_is_within⟩⟩
  have h_minimal_losses : Has P w (cx K).K mg base "minimal_losses" ["layout"] 7 (Pm (cx K) R_minimal_losses) := ⟨⟨_, fd_minimal_losses, He.glo_ok X G (c.t.d.fact 14 (f := .glo "minimal_losses") rfl), F_minimal_losses.kp, (FunD.bindsN F_minimal_losses fun _ _ _ _ _ _ us hl => match us, hl with | [_], _ => rfl), ok_minimal_losses (c := cx K) (P := P) (w := w) (base := base) F_minimal_losses Bt Cc Il h_check_layout h_minimal h_sets_of h_is_losing⟩⟩
  have h_minimal_keepers : Has P w (cx K).K mg base "minimal_keepers" ["layout"] 6 (Pm (cx K) R_minimal_keepers) := ⟨⟨_, fd_minimal_keepers, He.glo_ok X G (c.t.d.fact 15 (f := .glo "minimal_keepers") rfl), F_minimal_keepers.kp, (FunD.bindsN F_minimal_keepers fun _ _ _ _ _ _ us hl => match us, hl with | [_], _ => rfl), ok_minimal_keepers (c := cx K) (P := P) (w := w) (base := base) F_minimal_keepers Bt Cc Il h_check_layout h_minimal h_sets_of h_is_keeping⟩⟩
  have h_find_dual : Has P w (cx K).K mg base "find_dual" ["layout"] 8 (Pm (cx K) R_find_dual) := ⟨⟨_, fd_find_dual, He.glo_ok X G (c.t.d.fact 16 (f := .glo "find_dual") rfl), F_find_dual.kp, (FunD.bindsN F_find_dual fun _ _ _ _ _ _ us hl => match us, hl with | [_], _ => rfl), ok_find_dual (c := cx K) (P := P) (w := w) (base := base) F_find_dual Bt Cc Il h_Dual h_minimal_losses h_minimal_keepers⟩⟩
  have h_tolerance : Has P w (cx K).K mg base "tolerance" ["layout"] 2 (Pm (cx K) R_tolerance) := ⟨⟨_, fd_tolerance, He.glo_ok X G (c.t.d.fact 17 (f := .glo "tolerance") rfl), F_tolerance.kp, (FunD.bindsN F_tolerance fun _ _ _ _ _ _ us hl => match us, hl with | [_], _ => rfl), ok_tolerance (c := cx K) (P := P) (w := w) (base := base) F_tolerance Bt Cc Il h_check_layout⟩⟩
  have h_count_losses : Has P w (cx K).K mg base "count_losses" ["layout"] 7 (Pm (cx K) R_count_losses) := ⟨⟨_, fd_count_losses, He.glo_ok X G (c.t.d.fact 18 (f := .glo "count_losses") rfl), F_count_losses.kp, (FunD.bindsN F_count_losses fun _ _ _ _ _ _ us hl => match us, hl with | [_], _ => rfl), ok_count_losses (c := cx K) (P := P) (w := w) (base := base) F_count_losses Bt Cc Il h_check_layout h_sets_of h_is_losing⟩⟩
  have h_essential : Has P w (cx K).K mg base "essential" ["layout"] 7 (Pm (cx K) R_essential) := ⟨⟨_, fd_essential, He.glo_ok X G (c.t.d.fact 19 (f := .glo "essential") rfl), F_essential.kp, (FunD.bindsN F_essential fun _ _ _ _ _ _ us hl => match us, hl with | [_], _ => rfl), ok_essential (c := cx K) (P := P) (w := w) (base := base) F_essential Bt Cc Il h_check_layout h_is_losing⟩⟩
  have h_useless : Has P w (cx K).K mg base "useless" ["layout"] 7 (Pm (cx K) R_useless) := ⟨⟨_, fd_useless, He.glo_ok X G (c.t.d.fact 20 (f := .glo "useless") rfl), F_useless.kp, (FunD.bindsN F_useless fun _ _ _ _ _ _ us hl => match us, hl with | [_], _ => rfl), ok_useless (c := cx K) (P := P) (w := w) (base := base) F_useless Bt Cc Il h_minimal_keepers⟩⟩
  have h_factorial : Has P w (cx K).K mg base "factorial" ["many"] 1 (Pm (cx K) R_factorial) := ⟨⟨_, fd_factorial, He.glo_ok X G (c.t.d.fact 21 (f := .glo "factorial") rfl), F_factorial.kp, (FunD.bindsN F_factorial fun _ _ _ _ _ _ us hl => match us, hl with | [_], _ => rfl), ok_factorial (c := cx K) (P := P) (w := w) (base := base) F_factorial Bt Cc Il ⟩⟩
  have h_comb : Has P w (cx K).K mg base "comb" ["many", "few"] 2 (Pm (cx K) R_comb) := ⟨⟨_, fd_comb, He.glo_ok X G (c.t.d.fact 22 (f := .glo "comb") rfl), F_comb.kp, (FunD.bindsN F_comb fun _ _ _ _ _ _ us hl => match us, hl with | [_, _], _ => rfl), ok_comb (c := cx K) (P := P) (w := w) (base := base) F_comb Bt Cc Il h_factorial⟩⟩
  have h_check_chances : Has P w (cx K).K mg base "check_chances" ["layout", "chances"] 2 (Pm (cx K) R_check_chances) := ⟨⟨_, fd_check_chances, He.glo_ok X G (c.t.d.fact 23 (f := .glo "check_chances") rfl), F_check_chances.kp, (FunD.bindsN F_check_chances fun _ _ _ _ _ _ us hl => match us, hl with | [_, _], _ => rfl), ok_check_chances (c := cx K) (P := P) (w := w) (base := base) F_check_chances Bt Cc Il h_is_number⟩⟩
  have h_weight_of : Has P w (cx K).K mg base "weight_of" ["chances", "down"] 1 (Pm (cx K) R_weight_of) := ⟨⟨_, fd_weight_of, He.glo_ok X G (c.t.d.fact 24 (f := .glo "weight_of") rfl), F_weight_of.kp, (FunD.bindsN F_weight_of fun _ _ _ _ _ _ us hl => match us, hl with | [_, _], _ => rfl), ok_weight_of (c := cx K) (P := P) (w := w) (base := base) F_weight_of Bt Cc Il ⟩⟩
  have h_power : Has P w (cx K).K mg base "power" ["base", "exponent"] 1 (Pm (cx K) R_power) := ⟨⟨_, fd_power, He.glo_ok X G (c.t.d.fact 25 (f := .glo "power") rfl), F_power.kp, (FunD.bindsN F_power fun _ _ _ _ _ _ us hl => match us, hl with | [_, _], _ => rfl), ok_power (c := cx K) (P := P) (w := w) (base := base) F_power Bt Cc Il ⟩⟩
  have h_chance_of : Has P w (cx K).K mg base "chance_of" ["layout", "chances", "is_bad"] 8 (Pm (cx K) (R_chance_of' P w mg base)) := ⟨⟨_, fd_chance_of, He.glo_ok X G (c.t.d.fact 26 (f := .glo "chance_of") rfl), F_chance_of.kp, (FunD.bindsN F_chance_of fun _ _ _ _ _ _ us hl => match us, hl with | [_, _, _], _ => rfl), ok_chance_of (c := cx K) (P := P) (w := w) (base := base) F_chance_of Bt Cc Il h_sets_of h_weight_of h_lowest h_power⟩⟩
  have h_loss_chance : Has P w (cx K).K mg base "loss_chance" ["layout", "chances"] 9 (Pm (cx K) R_loss_chance) := ⟨⟨_, fd_loss_chance, He.glo_ok X G (c.t.d.fact 27 (f := .glo "loss_chance") rfl), F_loss_chance.kp, (FunD.bindsN F_loss_chance fun _ _ _ _ _ _ us hl => match us, hl with | [_, _], _ => rfl), ok_loss_chance (c := cx K) (P := P) (w := w) (base := base) F_loss_chance Bt Cc Il Lf_loss_chance h_check_layout h_check_chances h_chance_of h_is_losing⟩⟩
  have h_item_chance : Has P w (cx K).K mg base "item_chance" ["layout", "index", "chances"] 9 (Pm (cx K) R_item_chance) := ⟨⟨_, fd_item_chance, He.glo_ok X G (c.t.d.fact 28 (f := .glo "item_chance") rfl), F_item_chance.kp, (FunD.bindsN F_item_chance fun _ _ _ _ _ _ us hl => match us, hl with | [_, _, _], _ => rfl), ok_item_chance (c := cx K) (P := P) (w := w) (base := base) F_item_chance Bt Cc Il Lf_item_chance h_check_layout h_check_index h_check_chances h_chance_of h_Layout_readable h_others_of⟩⟩
  have h_with_chance : Has P w (cx K).K mg base "with_chance" ["chances", "server", "chance"] 1 (Pm (cx K) R_with_chance) := ⟨⟨_, fd_with_chance, He.glo_ok X G (c.t.d.fact 29 (f := .glo "with_chance") rfl), F_with_chance.kp, (FunD.bindsN F_with_chance fun _ _ _ _ _ _ us hl => match us, hl with | [_, _, _], _ => rfl), ok_with_chance (c := cx K) (P := P) (w := w) (base := base) F_with_chance Bt Cc Il ⟩⟩
  have h_importances : Has P w (cx K).K mg base "importances" ["layout", "chances"] 10 (Pm (cx K) R_importances) := ⟨⟨_, fd_importances, He.glo_ok X G (c.t.d.fact 30 (f := .glo "importances") rfl), F_importances.kp, (FunD.bindsN F_importances fun _ _ _ _ _ _ us hl => match us, hl with | [_, _], _ => rfl), ok_importances (c := cx K) (P := P) (w := w) (base := base) F_importances Bt Cc Il h_check_layout h_check_chances h_loss_chance h_with_chance h_lowest⟩⟩
  have h_random_loss : Has P w (cx K).K mg base "random_loss" ["layout", "failures"] 8 (Pm (cx K) R_random_loss) := ⟨⟨_, fd_random_loss, He.glo_ok X G (c.t.d.fact 31 (f := .glo "random_loss") rfl), F_random_loss.kp, (FunD.bindsN F_random_loss fun _ _ _ _ _ _ us hl => match us, hl with | [_, _], _ => rfl), ok_random_loss (c := cx K) (P := P) (w := w) (base := base) F_random_loss Bt Cc Il h_check_layout h_is_number h_lowest h_count_losses h_comb⟩⟩
  have h_check_pair : Has P w (cx K).K mg base "check_pair" ["one", "other"] 2 (Pm (cx K) R_check_pair) := ⟨⟨_, fd_check_pair, He.glo_ok X G (c.t.d.fact 32 (f := .glo "check_pair") rfl), F_check_pair.kp, (FunD.bindsN F_check_pair fun _ _ _ _ _ _ us hl => match us, hl with | [_, _], _ => rfl), ok_check_pair (c := cx K) (P := P) (w := w) (base := base) F_check_pair Bt Cc Il h_check_layout⟩⟩
  have h_level_differences : Has P w (cx K).K mg base "level_differences" ["one", "other"] 8 (Pm (cx K) R_level_differences) := ⟨⟨_, fd_level_differences, He.glo_ok X G (c.t.d.fact 33 (f := .glo "level_differences") rfl), F_level_differences.kp, (FunD.bindsN F_level_differences fun _ _ _ _ _ _ us hl => match us, hl with | [_, _], _ => rfl), ok_level_differences (c := cx K) (P := P) (w := w) (base := base) F_level_differences Bt Cc Il h_check_pair h_count_losses⟩⟩
  have h_equally_safe : Has P w (cx K).K mg base "equally_safe" ["one", "other"] 9 (Pm (cx K) R_equally_safe) := ⟨⟨_, fd_equally_safe, He.glo_ok X G (c.t.d.fact 34 (f := .glo "equally_safe") rfl), F_equally_safe.kp, (FunD.bindsN F_equally_safe fun _ _ _ _ _ _ us hl => match us, hl with | [_, _], _ => rfl), ok_equally_safe (c := cx K) (P := P) (w := w) (base := base) F_equally_safe Bt Cc Il h_level_differences⟩⟩
  have h_loads_of : Has P w (cx K).K mg base "loads_of" ["servers", "choices"] 1 (Pm (cx K) R_loads_of) := ⟨⟨_, fd_loads_of, He.glo_ok X G (c.t.d.fact 35 (f := .glo "loads_of") rfl), F_loads_of.kp, (FunD.bindsN F_loads_of fun _ _ _ _ _ _ us hl => match us, hl with | [_, _], _ => rfl), ok_loads_of (c := cx K) (P := P) (w := w) (base := base) F_loads_of Bt Cc Il ⟩⟩
  have h_steps_to : Has P w (cx K).K mg base "steps_to" ["found", "server"] 1 (Pm (cx K) R_steps_to) := ⟨⟨_, fd_steps_to, He.glo_ok X G (c.t.d.fact 36 (f := .glo "steps_to") rfl), F_steps_to.kp, (FunD.bindsN F_steps_to fun _ _ _ _ _ _ us hl => match us, hl with | [_, _], _ => rfl), ok_steps_to (c := cx K) (P := P) (w := w) (base := base) F_steps_to Bt Cc Il ⟩⟩
  have h_path_from : Has P w (cx K).K mg base "path_from" ["layout", "choices", "start", "limits"] 2 (Pm (cx K) R_path_from) := ⟨⟨_, fd_path_from, He.glo_ok X G (c.t.d.fact 37 (f := .glo "path_from") rfl), F_path_from.kp, (FunD.bindsN F_path_from fun _ _ _ _ _ _ us hl => match us, hl with | [_, _, _, _], _ => rfl), ok_path_from (c := cx K) (P := P) (w := w) (base := base) F_path_from Bt Cc Il h_loads_of h_steps_to⟩⟩
  have h_moved : Has P w (cx K).K mg base "moved" ["choices", "steps"] 1 (Pmf (cx K) R_moved) := ⟨⟨_, fd_moved, He.glo_ok X G (c.t.d.fact 38 (f := .glo "moved") rfl), F_moved.kp, (FunD.bindsN F_moved fun _ _ _ _ _ _ us hl => match us, hl with | [_, _], _ => rfl), ok_moved (c := cx K) (P := P) (w := w) (base := base) F_moved Bt Cc Il ⟩⟩
  have h_with_one_more : Has P w (cx K).K mg base "with_one_more" ["layout", "choices", "index", "limits"] 3 (Pm (cx K) R_with_one_more) := ⟨⟨_, fd_with_one_more, He.glo_ok X G (c.t.d.fact 39 (f := .glo "with_one_more") rfl), F_with_one_more.kp, (FunD.bindsN F_with_one_more fun _ _ _ _ _ _ us hl => match us, hl with | [_, _, _, _], _ => rfl), ok_with_one_more (c := cx K) (P := P) (w := w) (base := base) F_with_one_more Bt Cc Il h_path_from h_moved⟩⟩
  have h_fill : Has P w (cx K).K mg base "fill" ["layout", "limits"] 4 (Pm (cx K) R_fill) := ⟨⟨_, fd_fill, He.glo_ok X G (c.t.d.fact 40 (f := .glo "fill") rfl), F_fill.kp, (FunD.bindsN F_fill fun _ _ _ _ _ _ us hl => match us, hl with | [_, _], _ => rfl), ok_fill (c := cx K) (P := P) (w := w) (base := base) F_fill Bt Cc Il h_with_one_more⟩⟩
  have h_count_readings : Has P w (cx K).K mg base "count_readings" ["choices"] 1 (Pm (cx K) R_count_readings) := ⟨⟨_, fd_count_readings, He.glo_ok X G (c.t.d.fact 41 (f := .glo "count_readings") rfl), F_count_readings.kp, (FunD.bindsN F_count_readings fun _ _ _ _ _ _ us hl => match us, hl with | [_], _ => rfl), ok_count_readings (c := cx K) (P := P) (w := w) (base := base) F_count_readings Bt Cc Il ⟩⟩
  have h_least_choices : Has P w (cx K).K mg base "least_choices" ["layout"] 5 (Pm (cx K) R_least_choices) := ⟨⟨_, fd_least_choices, He.glo_ok X G (c.t.d.fact 42 (f := .glo "least_choices") rfl), F_least_choices.kp, (FunD.bindsN F_least_choices fun _ _ _ _ _ _ us hl => match us, hl with | [_], _ => rfl), ok_least_choices (c := cx K) (P := P) (w := w) (base := base) F_least_choices Bt Cc Il h_fill h_count_readings⟩⟩
  have h_load_of : Has P w (cx K).K mg base "load_of" ["layout"] 6 (Pm (cx K) R_load_of) := ⟨⟨_, fd_load_of, He.glo_ok X G (c.t.d.fact 43 (f := .glo "load_of") rfl), F_load_of.kp, (FunD.bindsN F_load_of fun _ _ _ _ _ _ us hl => match us, hl with | [_], _ => rfl), ok_load_of (c := cx K) (P := P) (w := w) (base := base) F_load_of Bt Cc Il h_loads_of h_least_choices⟩⟩
  have h_after : Has P w (cx K).K mg base "after" ["layout", "down"] 6 (Pm (cx K) R_after) := ⟨⟨_, fd_after, He.glo_ok X G (c.t.d.fact 44 (f := .glo "after") rfl), F_after.kp, (FunD.bindsN F_after fun _ _ _ _ _ _ us hl => match us, hl with | [_, _], _ => rfl), ok_after (c := cx K) (P := P) (w := w) (base := base) F_after Bt Cc Il h_Layout⟩⟩
  have h_load_after : Has P w (cx K).K mg base "load_after" ["layout", "down"] 7 (Pm (cx K) R_load_after) := ⟨⟨_, fd_load_after, He.glo_ok X G (c.t.d.fact 45 (f := .glo "load_after") rfl), F_load_after.kp, (FunD.bindsN F_load_after fun _ _ _ _ _ _ us hl => match us, hl with | [_, _], _ => rfl), ok_load_after (c := cx K) (P := P) (w := w) (base := base) F_load_after Bt Cc Il h_check_layout h_check_set h_is_losing h_load_of h_after⟩⟩
  have h_loads_after : Has P w (cx K).K mg base "loads_after" ["layout", "failures"] 8 (Pm (cx K) R_loads_after) := ⟨⟨_, fd_loads_after, He.glo_ok X G (c.t.d.fact 46 (f := .glo "loads_after") rfl), F_loads_after.kp, (FunD.bindsN F_loads_after fun _ _ _ _ _ _ us hl => match us, hl with | [_, _], _ => rfl), ok_loads_after (c := cx K) (P := P) (w := w) (base := base) F_loads_after Bt Cc Il h_check_layout h_is_number h_sets_of h_is_losing h_load_of h_after⟩⟩
  have h_law_number : Has P w (cx K).K mg base "_law_number" ["_law_script", "_law_at"] 1 (Pm (cx K) R_law_number) := ⟨⟨_, fd_law_number, He.glo_ok X G (c.t.d.fact 47 (f := .glo "_law_number") rfl), F_law_number.kp, (FunD.bindsN F_law_number fun _ _ _ _ _ _ us hl => match us, hl with | [_, _], _ => rfl), ok_law_number (c := cx K) (P := P) (w := w) (base := base) F_law_number Bt Cc Il ⟩⟩
  have h_law_items : Has P w (cx K).K mg base "_law_items" ["_law_script", "_law_at", "_law_servers", "_law_most"] 2 (Pm (cx K) R_law_items) := ⟨⟨_, fd_law_items, He.glo_ok X G (c.t.d.fact 48 (f := .glo "_law_items") rfl), F_law_items.kp, (FunD.bindsN F_law_items fun _ _ _ _ _ _ us hl => match us, hl with | [_, _, _, _], _ => rfl), ok_law_items (c := cx K) (P := P) (w := w) (base := base) F_law_items Bt Cc Il h_law_number⟩⟩
  have h_law_over : Has P w (cx K).K mg base "_law_over" ["_law_many", "_law_some"] 1 (Pm (cx K) R_law_over) := ⟨⟨_, fd_law_over, He.glo_ok X G (c.t.d.fact 49 (f := .glo "_law_over") rfl), F_law_over.kp, (FunD.bindsN F_law_over fun _ _ _ _ _ _ us hl => match us, hl with | [_, _], _ => rfl), ok_law_over (c := cx K) (P := P) (w := w) (base := base) F_law_over Bt Cc Il ⟩⟩
  have h_law_plain : Has P w (cx K).K mg base "_law_plain" ["_law_items_here"] 1 (Pm (cx K) R_law_plain) := ⟨⟨_, fd_law_plain, He.glo_ok X G (c.t.d.fact 50 (f := .glo "_law_plain") rfl), F_law_plain.kp, (FunD.bindsN F_law_plain fun _ _ _ _ _ _ us hl => match us, hl with | [_], _ => rfl), ok_law_plain (c := cx K) (P := P) (w := w) (base := base) F_law_plain Bt Cc Il ⟩⟩
  have h_law_sizes_right : Has P w (cx K).K mg base "_law_sizes_right" ["_law_layout"] 10 (Pm (cx K) R_law_sizes_right) := ⟨⟨_, fd_law_sizes_right, He.glo_ok X G (c.t.d.fact 51 (f := .glo "_law_sizes_right") rfl), F_law_sizes_right.kp, (FunD.bindsN F_law_sizes_right fun _ _ _ _ _ _ us hl => match us, hl with | [_], _ => rfl), ok_law_sizes_right (c := cx K) (P := P) (w := w) (base := base) F_law_sizes_right Bt Cc Il h_count_losses h_loss_chance h_random_loss⟩⟩
  have h_law_servers_right : Has P w (cx K).K mg base "_law_servers_right" ["_law_layout", "_law_chances"] 11 (Pm (cx K) R_law_servers_right) := ⟨⟨_, fd_law_servers_right, He.glo_ok X G (c.t.d.fact 52 (f := .glo "_law_servers_right") rfl), F_law_servers_right.kp, (FunD.bindsN F_law_servers_right fun _ _ _ _ _ _ us hl => match us, hl with | [_, _], _ => rfl), ok_law_servers_right (c := cx K) (P := P) (w := w) (base := base) F_law_servers_right Bt Cc Il h_importances h_useless h_load_after h_essential h_minimal_losses⟩⟩
  exact ok_law (c := cx K) (P := P) (w := w) (base := base) F_law Bt Cc Il h_law_number h_law_items h_Layout h_count_losses h_minimal_losses h_tolerance h_loads_after h_law_over h_law_plain h_minimal_keepers h_loss_chance h_equally_safe h_Dual_shows h_find_dual h_item_chance h_law_servers_right h_law_sizes_right
theorem law_at {w : World} {K : PySem.W.Frag} {h : Heap} {mg : PySem.Str → Option Value} {fl : Addr} (X : K.In h) (G : h.Ns mainGlobals mg) (hfa : mg ("law" : PySem.Str) = some (.ref fl)) (c : He.SaysX fa fn [] tf ex w h K) :
    LawAtS PySem.Challenge.rw_copylots_k37_whole_ties_losses w K CX0 12 63 "_law_script" mg fl h := by
  obtain ⟨fd, hb, hF⟩ := facts (P := (PySem.Challenge.rw_copylots_k37_whole_ties_losses).prog) (w := w) X G hfa c
  refine ⟨fd, tf.map (He.cT K), Pm (cx K) R_law, fun p hp => ?_, fun p hp => ?_, fun p hp => ?_, hb, fun H a ns hl _ hH hS => ?_, hF⟩
  · obtain ⟨q, hq, rfl⟩ := List.mem_map.mp hp
    exact c.empty q hq
  · obtain ⟨q, hq, rfl⟩ := List.mem_map.mp hp
    exact c.out q hq
  · obtain ⟨q, hq, rfl⟩ := List.mem_map.mp hp
    exact PySem.W.codeHd_of_K X (c.hd q hq)
  · refine ⟨[Scr ns], B true, ⟨⟨a, _, rfl, hS, AllP.of_ints⟩, True.intro⟩, ⟨ns, rfl, True.intro, rfl⟩, fun p hp => ?_, fun v H' _ h => h⟩
    have hm : ∀ q ∈ tf, TabS H (He.cT K q).2 (q.1 ++ ".<locals>.<lambda>") := fun q hq => TabS.nil (hH _ (List.mem_map.mpr ⟨q, hq, rfl⟩))
    simp only [cx, List.mem_cons, List.not_mem_nil, or_false] at hp
    rcases hp with rfl | rfl | rfl
    · exact TabS.nil (hH _ (List.mem_map.mpr ⟨("sets_of", none), by simp [tf], rfl⟩))
    · exact TabS.nil (hH _ (List.mem_map.mpr ⟨("loss_chance", none), by simp [tf], rfl⟩))
    · exact TabS.nil (hH _ (List.mem_map.mpr ⟨("item_chance", none), by simp [tf], rfl⟩))
end
end K37
open PySem PySem.W PySem.Calls PyProof.Rows
theorem PySem.Challenge.cw_copylots_k37_whole_ties_losses_holds : PySem.Challenge.rw_copylots_k37_whole_ties_losses.Holds := by
  w_on; o_law
  refine HandSHeadRun.head_any (r := OpenLaw.row PySem.Challenge.rw_copylots_k37_whole_ties_losses) (q := view (OpenLaw.row PySem.Challenge.rw_copylots_k37_whole_ties_losses).prog [77]) (H := K37.hk) (ob := K37.ob) (M := 8000) (loose := K37.loose) (d := HandSHeadRun.topDef (OpenLaw.row PySem.Challenge.rw_copylots_k37_whole_ties_losses).prog 77) (kwd := []) K37.ob_eq
    (by kernel_rfl) (fun s => by kernel_rfl) K37.run (by kernel_rfl) (by kernel_rfl) (by kernel_rfl) (by rfl) (by first | assumption | decide +kernel) (by decide +kernel) ⟨rfl, rfl, rfl, rfl, rfl, by decide +kernel⟩ ?hw ?hc
  case hw => w_witness2
  case hc =>
    refine LamX.walk_ofTsE (l := PySem.Challenge.rw_copylots_k37_whole_ties_losses) (n := 63) (k := 12) (x := "_law_script") (CX := fun _ => L2.CX0) rfl (by decide) (by kernel_rfl) ⟨rfl, by decide, by decide⟩ ?F (fun _ _ _ _ _ z => z)
    intro w mg fa h Y G hmg0
    obtain ⟨K, KX, c⟩ := Y
    have hmg : mg ("law" : PySem.Str) = some (.ref fa) := by
      have e : (HandSHeadRun.topDef (OpenLaw.row PySem.Challenge.rw_copylots_k37_whole_ties_losses).prog 77).name = ("law" : PySem.Str) := by kernel_rfl
      rw [← e]
      exact hmg0
    exact ⟨K, KX, K37.law_at KX G hmg c⟩

