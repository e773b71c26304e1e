import PyProof.Rows.All
import Wide.All
import OpenK.AllK
import Wide.FinOn
import HandS.ForMost
import HandS.More
import HandS.Strs
import HandS.SortRule
import HandS.SortInts
import HandS.Style
import HandS.TupAny
import HandS.IsInst
import HandS.Deep
import HandS.Walk
import HandS.Conv
import PyProof.NeKinds
import HandS.SetFor
import HandS.Codes
import HandS.Dict
import HandS.Remove
import PyProof.TupleOfSeq
import PyProof.P3In
import KE.DataFind
import HandS.TupLe
import PySem.Challenge.RW_unpartedrows_k16_whole_visits
section
set_option autoImplicit false
/-! Graphs on the natural numbers: ways, models by intervals -/
namespace Gr
open Classical

/-- a way inside the set A, ends included -/
inductive Reach (adj : Nat → Nat → Prop) (A : Nat → Prop) : Nat → Nat → Prop
  | refl {x : Nat} : A x → Reach adj A x x
  | step {x y z : Nat} : Reach adj A x y → adj y z → A z → Reach adj A x z

section
variable {adj : Nat → Nat → Prop} {A B : Nat → Prop} {x y z : Nat}
theorem Reach.left (h : Reach adj A x y) : A x := by
  induction h with
  | refl h => exact h
  | step _ _ _ ih => exact ih
theorem Reach.right (h : Reach adj A x y) : A y := by
  cases h with
  | refl h => exact h
  | step _ _ h => exact h
theorem Reach.trans (h : Reach adj A x y) (k : Reach adj A y z) : Reach adj A x z := by
  induction k with
  | refl _ => exact h
  | step _ e a ih => exact .step ih e a
theorem Reach.one (a : A x) (e : adj x y) (b : A y) : Reach adj A x y := .step (.refl a) e b
theorem Reach.symm (sy : ∀ a b, adj a b → adj b a) (h : Reach adj A x y) : Reach adj A y x := by
  induction h with
  | refl a => exact .refl a
  | step h e a ih => exact (Reach.one a (sy _ _ e) h.right).trans ih
theorem Reach.mono (h : Reach adj A x y) (k : ∀ v, A v → B v) : Reach adj B x y := by
  induction h with
  | refl a => exact .refl (k _ a)
  | step _ e a ih => exact .step ih e (k _ a)
/-- the vertices of a way are reached themselves -/
theorem Reach.self (h : Reach adj A x y) : Reach adj (fun v => Reach adj A x v) x y := by
  induction h with
  | refl a => exact .refl (.refl a)
  | step h e a ih => exact .step ih e (.step h e a)
/-- a set that is closed under steps within A -/
theorem Reach.closed {C : Nat → Prop} (h : Reach adj A x y) (cx : C x) (k : ∀ a b, C a → adj a b → A b → C b) : C y := by
  induction h with
  | refl _ => exact cx
  | step _ e a ih => exact k _ _ ih e a
/-- the first step -/
theorem Reach.first (h : Reach adj A x y) : x = y ∨ ∃ z, adj x z ∧ Reach adj A z y := by
  induction h with
  | refl _ => exact .inl rfl
  | step h e a ih =>
    rcases ih with rfl | ⟨z, e1, h1⟩
    · exact .inr ⟨_, e, .refl a⟩
    · exact .inr ⟨z, e1, .step h1 e a⟩
end

/-- an induced way: neighbours in the list are adjacent, others are different and not adjacent -/
def Ind (adj : Nat → Nat → Prop) : List Nat → Prop
  | [] => True
  | x :: l => (match l with | [] => True | y :: r => adj x y ∧ ∀ z ∈ r, z ≠ x ∧ ¬ adj x z) ∧ Ind adj l

/-- a walk as a list -/
def Walk (adj : Nat → Nat → Prop) : List Nat → Prop
  | [] => True
  | x :: l => (match l with | [] => True | y :: _ => adj x y) ∧ Walk adj l

theorem walk_drop {adj : Nat → Nat → Prop} : ∀ (a b : List Nat), Walk adj (a ++ b) → Walk adj b
  | [], _, h => h
  | _ :: a, b, h => walk_drop a b h.2

theorem reach_walk {adj : Nat → Nat → Prop} {A : Nat → Prop} {x y : Nat} (h : Reach adj A x y) (sy : ∀ a b, adj a b → adj b a) :
    ∃ l, Walk adj (y :: l) ∧ (∀ v ∈ y :: l, A v) ∧ (y :: l).getLast? = some x := by
  induction h with
  | refl a => exact ⟨[], ⟨trivial, trivial⟩, by simpa using a, rfl⟩
  | step h e a ih =>
    rename_i y z
    obtain ⟨l, w, m, g⟩ := ih
    refine ⟨y :: l, ⟨sy _ _ e, w⟩, ?_, ?_⟩
    · intro v hv
      rcases List.mem_cons.mp hv with rfl | hv
      · exact a
      · exact m v hv
    · rw [List.getLast?_cons_cons]; exact g

theorem walk_reach {adj : Nat → Nat → Prop} {A : Nat → Prop} (sy : ∀ a b, adj a b → adj b a) : ∀ (l : List Nat) (x y : Nat), Walk adj (y :: l) → (∀ v ∈ y :: l, A v) → (y :: l).getLast? = some x → Reach adj A x y
  | [], x, y, _, m, g => by
    have e : y = x := by simpa using g
    subst e
    exact .refl (m _ (by simp))
  | z :: l, x, y, w, m, g => by
    rw [List.getLast?_cons_cons] at g
    have ih := walk_reach sy l x z w.2 (fun v hv => m v (List.mem_cons_of_mem _ hv)) g
    exact .step ih (sy _ _ w.1) (m y (by simp))

/-- a walk holds an induced one -/
theorem walk_ind {adj : Nat → Nat → Prop} : ∀ (n : Nat) (l : List Nat) (x y : Nat), l.length ≤ n → Walk adj (y :: l) → (y :: l).getLast? = some x →
    ∃ l', Ind adj (y :: l') ∧ (∀ v ∈ l', v ∈ l) ∧ (y :: l').getLast? = some x
  | n, [], x, y, _, _, g => ⟨[], ⟨trivial, trivial⟩, fun _ h => h, g⟩
  | 0, z :: l, x, y, hn, _, _ => by simp at hn
  | n + 1, z :: l, x, y, hn, w, g => by
    rw [List.getLast?_cons_cons] at g
    have hl : l.length ≤ n := by simpa using hn
    by_cases hc : ∃ v ∈ l, v = y ∨ adj y v
    · obtain ⟨v, hv, hv'⟩ := hc
      obtain ⟨a, b, rfl⟩ := List.append_of_mem hv
      have wb : Walk adj (v :: b) := walk_drop (z :: a) (v :: b) w.2
      have gb : (v :: b).getLast? = some x := by
        have e : (z :: (a ++ v :: b)) = (z :: a) ++ (v :: b) := rfl
        rw [e, List.getLast?_append] at g
        rw [← g]
        cases h : (v :: b).getLast? with
        | none => simp at h
        | some q => simp
      rcases hv' with rfl | e
      · obtain ⟨l', i, m, g'⟩ := walk_ind n b x v (by simp at hl; omega) wb gb
        exact ⟨l', i, fun u hu => by have := m u hu; simp [this], g'⟩
      · obtain ⟨l', i, m, g'⟩ := walk_ind n (v :: b) x y (by simp at hl ⊢; omega) ⟨e, wb⟩ (by rw [List.getLast?_cons_cons]; exact gb)
        exact ⟨l', i, fun u hu => by
          have := m u hu
          rcases List.mem_cons.mp this with rfl | h
          · simp
          · simp [h], g'⟩
    · obtain ⟨l', i, m, g'⟩ := walk_ind n l x z hl w.2 g
      exact ⟨z :: l', ⟨⟨w.1, fun u hu => ⟨fun e => hc ⟨u, m u hu, .inl e⟩, fun e => hc ⟨u, m u hu, .inr e⟩⟩⟩, i⟩, fun u hu => by
        rcases List.mem_cons.mp hu with rfl | hu
        · simp
        · simp [m u hu], by rw [List.getLast?_cons_cons]; exact g'⟩
/-- an induced way from y to x inside A -/
theorem reach_ind {adj : Nat → Nat → Prop} {A : Nat → Prop} {x y : Nat} (sy : ∀ a b, adj a b → adj b a) (h : Reach adj A x y) :
    ∃ l, Ind adj (y :: l) ∧ (∀ v ∈ y :: l, A v) ∧ (y :: l).getLast? = some x := by
  obtain ⟨l, w, m, g⟩ := reach_walk h sy
  obtain ⟨l', i, m', g'⟩ := walk_ind l.length l x y (Nat.le_refl _) w g
  exact ⟨l', i, fun v hv => by
    rcases List.mem_cons.mp hv with rfl | hv
    · exact m _ (by simp)
    · exact m v (by simp [m' v hv]), g'⟩
theorem ind_walk {adj : Nat → Nat → Prop} : ∀ l, Ind adj l → Walk adj l
  | [], _ => trivial
  | [_], _ => ⟨trivial, trivial⟩
  | _ :: y :: r, h => ⟨h.1.1, ind_walk (y :: r) h.2⟩
/-- no shut ring, as the program looks for it: of two neighbours x, y of v that did not meet no way leads from one to the other past v's neighbours -/
def NoRing (adj : Nat → Nat → Prop) : Prop := ∀ v x y, adj v x → adj v y → x ≠ y → ¬ adj x y → ¬ Reach adj (fun z => z = x ∨ z = y ∨ (z ≠ v ∧ ¬ adj v z)) x y
def off (adj : Nat → Nat → Prop) (c : Nat) : Nat → Prop := fun z => z ≠ c ∧ ¬ adj c z
def NoThree (adj : Nat → Nat → Prop) : Prop := ∀ a b c, ¬ (Reach adj (off adj c) a b ∧ Reach adj (off adj b) a c ∧ Reach adj (off adj a) b c)

section
variable {adj : Nat → Nat → Prop} (sy : ∀ a b, adj a b → adj b a) (ir : ∀ a, ¬ adj a a) (nr : NoRing adj)
include sy ir nr
/-- who is adjacent to both ends of an induced way is adjacent to all of it -/
theorem fan (t : Nat) : ∀ (l : List Nat) (x : Nat), Ind adj (x :: l) → adj t x → (∀ v ∈ x :: l, v ≠ t) → (∀ y, (x :: l).getLast? = some y → adj t y) → ∀ v ∈ x :: l, adj t v
  | [], x, _, tx, _, _, v, hv => by
    have e : v = x := by simpa using hv
    rw [e]; exact tx
  | z :: l, x, i, tx, ne, last, v, hv => by
    by_cases tz : adj t z
    · rcases List.mem_cons.mp hv with rfl | hv
      · exact tx
      · exact fan t l z i.2 tz (fun u hu => ne u (List.mem_cons_of_mem _ hu)) (fun y hy => last y (by rw [List.getLast?_cons_cons]; exact hy)) v hv
    · -- the first one behind z that t is adjacent to
      exfalso
      have key : ∀ (r : List Nat) (u : Nat), Walk adj (u :: r) → (∀ w ∈ u :: r, w ≠ t) → ¬ adj t u → (∀ y, (u :: r).getLast? = some y → adj t y) →
          ∃ y ∈ r, adj t y ∧ Reach adj (fun w => w = y ∨ (w ≠ t ∧ ¬ adj t w)) u y := by
        intro r
        induction r with
        | nil => intro u _ _ nu l; exact (nu (l u rfl)).elim
        | cons w r ih =>
          intro u wk ne nu l
          by_cases tw : adj t w
          · exact ⟨w, by simp, tw, Reach.one (.inr ⟨ne u (by simp), nu⟩) wk.1 (.inl rfl)⟩
          · obtain ⟨y, hy, ty, h⟩ := ih w wk.2 (fun q hq => ne q (List.mem_cons_of_mem _ hq)) tw (fun y hy => l y (by rw [List.getLast?_cons_cons]; exact hy))
            exact ⟨y, by simp [hy], ty, (Reach.one (.inr ⟨ne u (by simp), nu⟩) wk.1 h.left).trans h⟩
      obtain ⟨y, hy, ty, h⟩ := key l z (ind_walk _ i.2) (fun u hu => ne u (List.mem_cons_of_mem _ hu)) tz (fun y hy => last y (by rw [List.getLast?_cons_cons]; exact hy))
      have nxy := i.1.2 y hy
      refine nr t x y tx ty (fun e => nxy.1 e.symm) nxy.2 ?_
      have m := h.mono (B := fun z => z = x ∨ z = y ∨ (z ≠ t ∧ ¬ adj t z)) fun w hw => .inr hw
      exact (Reach.one (.inl rfl) i.1.1 m.left).trans m
end
end Gr
end
section
set_option autoImplicit false
set_option linter.all false
namespace Gr
open Classical
/-! Models by intervals, glued -/
structure Mdl (adj : Nat → Nat → Prop) (U : Nat → Prop) (lo hi : Nat → Int) : Prop where
  le : ∀ x, U x → lo x ≤ hi x
  iff : ∀ x y, U x → U y → x ≠ y → (adj x y ↔ lo x ≤ hi y ∧ lo y ≤ hi x)
def Model (adj : Nat → Nat → Prop) (U : Nat → Prop) : Prop := ∃ lo hi : Nat → Int, Mdl adj U lo hi
def EndM (adj : Nat → Nat → Prop) (A S : Nat → Prop) : Prop := ∃ lo hi : Nat → Int, Mdl adj (fun x => A x ∨ S x) lo hi ∧ (∀ a, A a → hi a < 0) ∧ ∀ s, S s → lo s ≤ 0 ∧ 0 ≤ hi s

theorem Mdl.mono {adj : Nat → Nat → Prop} {U W : Nat → Prop} {lo hi : Nat → Int} (h : Mdl adj U lo hi) (k : ∀ x, W x → U x) : Mdl adj W lo hi :=
  ⟨fun x hx => h.le x (k x hx), fun x y hx hy => h.iff x y (k x hx) (k y hy)⟩
theorem bounded (lo hi : Nat → Int) : ∀ N : Nat, ∃ M : Int, 0 ≤ M ∧ ∀ x, x < N → -M ≤ lo x ∧ hi x ≤ M ∧ -M ≤ hi x ∧ lo x ≤ M
  | 0 => ⟨0, by omega, fun x h => by omega⟩
  | N + 1 => by
    obtain ⟨M, h0, h⟩ := bounded lo hi N
    refine ⟨M + (lo N).natAbs + (hi N).natAbs, by omega, fun x hx => ?_⟩
    by_cases e : x = N
    · subst e; omega
    · have := h x (by omega); omega

section
variable {adj : Nat → Nat → Prop} (sy : ∀ a b, adj a b → adj b a) {A B S Z : Nat → Prop}
theorem Mdl.neg {U : Nat → Prop} {lo hi : Nat → Int} (h : Mdl adj U lo hi) : Mdl adj U (fun x => - hi x) (fun x => - lo x) :=
  ⟨fun x hx => by have := h.le x hx; show - hi x ≤ - lo x; omega, fun x y hx hy ne => by
    rw [h.iff x y hx hy ne]
    show _ ↔ - hi x ≤ - lo y ∧ - hi y ≤ - lo x
    constructor <;> (intro _; omega)⟩
theorem Mdl.shift {U : Nat → Prop} {lo hi : Nat → Int} (h : Mdl adj U lo hi) (c : Int) : Mdl adj U (fun x => lo x + c) (fun x => hi x + c) :=
  ⟨fun x hx => by have := h.le x hx; show lo x + c ≤ hi x + c; omega, fun x y hx hy ne => by
    rw [h.iff x y hx hy ne]
    show _ ↔ lo x + c ≤ hi y + c ∧ lo y + c ≤ hi x + c
    constructor <;> (intro _; omega)⟩
include sy
theorem glue (ha : EndM adj A S) (hb : EndM adj B S) (dAB : ∀ x, A x → ¬ B x) (dAS : ∀ x, A x → ¬ S x) (dBS : ∀ x, B x → ¬ S x) (no : ∀ a b, A a → B b → ¬ adj a b) : Model adj (fun x => A x ∨ B x ∨ S x) := by
  obtain ⟨l1, h1, m1, a1, s1⟩ := ha
  obtain ⟨l2, h2, m2, a2, s2⟩ := hb
  refine ⟨fun x => if B x then - h2 x else l1 x, fun x => if A x then h1 x else - l2 x, ?_, ?_⟩
  · intro x hx
    rcases hx with hx | hx | hx
    · have := m1.le x (.inl hx); simp [hx, dAB x hx]; exact this
    · have nA : ¬ A x := fun h => dAB x h hx
      have := m2.le x (.inl hx); simp only [hx, nA, if_true, if_false, false_iff, true_iff, not_and, and_true, true_and, false_and, and_false, reduceIte]; omega
    · have nA : ¬ A x := fun h => dAS x h hx
      have nB : ¬ B x := fun h => dBS x h hx
      have := s1 x hx; have := s2 x hx
      simp only [nA, nB, if_true, if_false, false_iff, true_iff, not_and, and_true, true_and, false_and, and_false, reduceIte]; omega
  · intro x y hx hy ne
    have sy' : adj x y ↔ adj y x := ⟨sy _ _, sy _ _⟩
    have fact : ∀ x, (A x ∨ B x ∨ S x) → (A x ∧ ¬ B x ∧ ¬ S x) ∨ (B x ∧ ¬ A x ∧ ¬ S x) ∨ (S x ∧ ¬ A x ∧ ¬ B x) := by
      intro x hx
      have := dAB x; have := dAS x; have := dBS x
      rcases hx with h | h | h
      · exact .inl ⟨h, dAB x h, dAS x h⟩
      · exact .inr (.inl ⟨h, fun k => dAB x k h, dBS x h⟩)
      · exact .inr (.inr ⟨h, fun k => dAS x k h, fun k => dBS x k h⟩)
    rcases fact x hx with ⟨x1, x2, x3⟩ | ⟨x1, x2, x3⟩ | ⟨x1, x2, x3⟩ <;> rcases fact y hy with ⟨y1, y2, y3⟩ | ⟨y1, y2, y3⟩ | ⟨y1, y2, y3⟩
    · have := m1.iff x y (.inl x1) (.inl y1) ne; simp [x1, x2, y1, y2, this]
    · have n := no x y x1 y1
      have := a1 x x1; have := a2 y y1
      simp only [x1, x2, y1, y2, n, if_true, if_false, false_iff, true_iff, not_and, and_true, true_and, false_and, and_false, reduceIte]; omega
    · rw [m1.iff x y (.inl x1) (.inr y1) ne]
      have := a1 x x1; have := s1 y y1; have := s2 y y1; have := m1.le x (.inl x1)
      simp only [x1, x2, y2, y3, if_true, if_false]; omega
    · have n : ¬ adj x y := fun h => no y x y1 x1 (sy _ _ h)
      have := a1 y y1; have := a2 x x1; have := m1.le y (.inl y1); have := m2.le x (.inl x1)
      simp only [x1, x2, y1, y2, n, if_true, if_false, false_iff, true_iff, not_and, and_true, true_and, false_and, and_false, reduceIte]; omega
    · rw [m2.iff x y (.inl x1) (.inl y1) ne]
      simp only [x1, x2, y1, y2, if_true, if_false]; omega
    · rw [m2.iff x y (.inl x1) (.inr y1) ne]
      have := a2 x x1; have := s1 y y1; have := s2 y y1; have := m2.le x (.inl x1)
      simp only [x1, x2, y2, y3, if_true, if_false]; omega
    · rw [m1.iff x y (.inr x1) (.inl y1) ne]
      have := a1 y y1; have := s1 x x1; have := s2 x x1; have := m1.le y (.inl y1)
      simp only [x2, x3, y1, y2, if_true, if_false]; omega
    · rw [m2.iff x y (.inr x1) (.inl y1) ne]
      have := a2 y y1; have := s1 x x1; have := s2 x x1; have := m2.le y (.inl y1)
      simp only [x2, x3, y1, y2, if_true, if_false]; omega
    · rw [m1.iff x y (.inr x1) (.inr y1) ne]
      have := s1 x x1; have := s2 x x1; have := s1 y y1; have := s2 y y1
      simp only [x2, x3, y2, y3, if_true, if_false]; omega
theorem bubble (N : Nat) (ha : EndM adj A S) (hz : Model adj Z) (zN : ∀ z, Z z → z < N) (dAZ : ∀ x, A x → ¬ Z x) (dAS : ∀ x, A x → ¬ S x) (dZS : ∀ x, Z x → ¬ S x)
    (no : ∀ a z, A a → Z z → ¬ adj a z) (all : ∀ z s, Z z → S s → adj z s) : EndM adj (fun x => A x ∨ Z x) S := by
  obtain ⟨l1, h1, m1, a1, s1⟩ := ha
  obtain ⟨l2, h2, m2⟩ := hz
  obtain ⟨M, hM, bM⟩ := bounded l2 h2 N
  refine ⟨fun x => if Z x then l2 x - M - 1 else l1 x - (2 * M + 2), fun x => if Z x then h2 x - M - 1 else if A x then h1 x - (2 * M + 2) else 0, ⟨?_, ?_⟩, ?_, ?_⟩
  · intro x hx
    rcases hx with (hx | hx) | hx
    · have := m1.le x (.inl hx); simp only [hx, dAZ x hx, if_true, if_false, false_iff, true_iff, not_and, and_true, true_and, false_and, and_false, reduceIte]; omega
    · have := m2.le x hx; simp only [hx, if_true, if_false, false_iff, true_iff, not_and, and_true, true_and, false_and, and_false, reduceIte]; omega
    · have nA : ¬ A x := fun h => dAS x h hx
      have nZ : ¬ Z x := fun h => dZS x h hx
      have := s1 x hx
      simp only [nA, nZ, if_true, if_false, false_iff, true_iff, not_and, and_true, true_and, false_and, and_false, reduceIte]; omega
  · intro x y hx hy ne
    have fact : ∀ x, ((A x ∨ Z x) ∨ S x) → (A x ∧ ¬ Z x ∧ ¬ S x) ∨ (Z x ∧ ¬ A x ∧ ¬ S x) ∨ (S x ∧ ¬ A x ∧ ¬ Z x) := by
      intro x hx
      rcases hx with (h | h) | h
      · exact .inl ⟨h, dAZ x h, dAS x h⟩
      · exact .inr (.inl ⟨h, fun k => dAZ x k h, dZS x h⟩)
      · exact .inr (.inr ⟨h, fun k => dAS x k h, fun k => dZS x k h⟩)
    rcases fact x hx with ⟨x1, x2, x3⟩ | ⟨x1, x2, x3⟩ | ⟨x1, x2, x3⟩ <;> rcases fact y hy with ⟨y1, y2, y3⟩ | ⟨y1, y2, y3⟩ | ⟨y1, y2, y3⟩
    · rw [m1.iff x y (.inl x1) (.inl y1) ne]; simp only [x1, x2, y1, y2, if_true, if_false]; omega
    · have n := no x y x1 y1
      have := a1 x x1; have := bM y (zN y y1)
      simp only [x1, x2, y1, y2, n, if_true, if_false, false_iff, true_iff, not_and, and_true, true_and, false_and, and_false, reduceIte]; omega
    · rw [m1.iff x y (.inl x1) (.inr y1) ne]
      have := a1 x x1; have := s1 y y1; have := m1.le x (.inl x1)
      simp only [x1, x2, y2, y3, if_true, if_false]; omega
    · have n : ¬ adj x y := fun h => no y x y1 x1 (sy _ _ h)
      have := a1 y y1; have := bM x (zN x x1)
      simp only [x1, x2, y1, y2, n, if_true, if_false, false_iff, true_iff, not_and, and_true, true_and, false_and, and_false, reduceIte]; omega
    · rw [m2.iff x y x1 y1 ne]
      simp only [x1, x2, y1, y2, if_true, if_false]; omega
    · have n := all x y x1 y1
      have := bM x (zN x x1); have := s1 y y1
      simp only [x1, x2, y2, y3, n, if_true, if_false, false_iff, true_iff, not_and, and_true, true_and, false_and, and_false, reduceIte]; omega
    · rw [m1.iff x y (.inr x1) (.inl y1) ne]
      have := a1 y y1; have := s1 x x1; have := m1.le y (.inl y1)
      simp only [x2, x3, y1, y2, if_true, if_false]; omega
    · have n := sy _ _ (all y x y1 x1)
      have := bM y (zN y y1); have := s1 x x1
      simp only [x2, x3, y1, y2, n, if_true, if_false, false_iff, true_iff, not_and, and_true, true_and, false_and, and_false, reduceIte]; omega
    · rw [m1.iff x y (.inr x1) (.inr y1) ne]
      have := s1 x x1; have := s1 y y1
      simp only [x2, x3, y2, y3, if_true, if_false]; omega
  · intro a ha
    rcases ha with h | h
    · have := a1 a h; simp only [h, dAZ a h, if_true, if_false, false_iff, true_iff, not_and, and_true, true_and, false_and, and_false, reduceIte]; omega
    · have := bM a (zN a h); simp only [h, if_true, if_false, false_iff, true_iff, not_and, and_true, true_and, false_and, and_false, reduceIte]; omega
  · intro s hs
    have nA : ¬ A s := fun h => dAS s h hs
    have nZ : ¬ Z s := fun h => dZS s h hs
    have := s1 s hs
    simp only [nA, nZ, if_true, if_false, false_iff, true_iff, not_and, and_true, true_and, false_and, and_false, reduceIte]; omega
theorem pend (N : Nat) (p : Nat) (ha : EndM adj A S) (aN : ∀ x, A x → x < N) (sN : ∀ x, S x → x < N) (pA : ¬ A p) (pS : ¬ S p) (dAS : ∀ x, A x → ¬ S x) (no : ∀ a, A a → ¬ adj a p) (all : ∀ a s, A a → S s → adj s p → adj a s) :
    EndM adj (fun x => A x ∨ x = p) S := by
  obtain ⟨l1, h1, m1, a1, s1⟩ := ha
  obtain ⟨M, hM, bM⟩ := bounded l1 h1 N
  refine ⟨fun x => if x = p then - M - 1 else if S x ∧ adj x p then - M - 1 else l1 x, fun x => if x = p then - M - 1 else h1 x, ⟨?_, ?_⟩, ?_, ?_⟩
  · intro x hx
    by_cases e : x = p
    · simp [e]
    · rcases hx with (h | h) | h
      · have := m1.le x (.inl h); simp only [e, dAS x h, if_true, if_false, false_iff, true_iff, not_and, and_true, true_and, false_and, and_false, reduceIte]; omega
      · exact (e h).elim
      · have := s1 x h; simp only [if_neg e]; split <;> omega
  · intro x y hx hy ne
    have fact : ∀ x, ((A x ∨ x = p) ∨ S x) → (A x ∧ x ≠ p ∧ ¬ S x) ∨ x = p ∨ (S x ∧ x ≠ p ∧ ¬ A x) := by
      intro x hx
      rcases hx with (h | h) | h
      · exact .inl ⟨h, fun e => pA (e ▸ h), dAS x h⟩
      · exact .inr (.inl h)
      · exact .inr (.inr ⟨h, fun e => pS (e ▸ h), fun k => dAS x k h⟩)
    rcases fact x hx with ⟨x1, x2, x3⟩ | rfl | ⟨x1, x2, x3⟩ <;> rcases fact y hy with ⟨y1, y2, y3⟩ | rfl | ⟨y1, y2, y3⟩
    · rw [m1.iff x y (.inl x1) (.inl y1) ne]; simp [x2, x3, y2, y3]
    · have n := no x x1
      have := bM x (aN x x1); have := m1.le x (.inl x1)
      simp only [x2, x3, n, if_true, if_false, false_iff, true_iff, not_and, and_true, true_and, false_and, and_false, reduceIte]; omega
    · rw [m1.iff x y (.inl x1) (.inr y1) ne]
      have := bM x (aN x x1); have := a1 x x1; have := s1 y y1; have := m1.le x (.inl x1)
      by_cases c : adj y p
      · have q := (m1.iff x y (.inl x1) (.inr y1) ne).mp (all x y x1 y1 c)
        simp only [x2, x3, y1, y2, c, if_true, if_false]; omega
      · simp [x2, x3, y1, y2, c]
    · have n : ¬ adj x y := fun h => no y y1 (sy _ _ h)
      have := bM y (aN y y1)
      simp only [y2, y3, n, if_true, if_false, false_iff, true_iff, not_and, and_true, true_and, false_and, and_false, reduceIte]; omega
    · exact (ne rfl).elim
    · have := bM y (sN y y1); have := s1 y y1
      by_cases c : adj y x
      · simp only [y1, y2, c, sy _ _ c, if_true, if_false, false_iff, true_iff, not_and, and_true, true_and, false_and, and_false, reduceIte]; omega
      · have c' : ¬ adj x y := fun h => c (sy _ _ h)
        simp only [y1, y2, c, c', if_true, if_false, false_iff, true_iff, not_and, and_true, true_and, false_and, and_false, reduceIte]; omega
    · rw [m1.iff x y (.inr x1) (.inl y1) ne]
      have := bM y (aN y y1); have := a1 y y1; have := s1 x x1; have := m1.le y (.inl y1)
      by_cases c : adj x p
      · have q := (m1.iff y x (.inl y1) (.inr x1) ne.symm).mp (all y x y1 x1 c)
        simp only [y2, y3, x1, x2, c, if_true, if_false]; omega
      · simp [y2, y3, x1, x2, c]
    · have := bM x (sN x x1); have := s1 x x1
      by_cases c : adj x y
      · simp only [x1, x2, c, if_true, if_false, false_iff, true_iff, not_and, and_true, true_and, false_and, and_false, reduceIte]; omega
      · simp only [x1, x2, c, if_true, if_false, false_iff, true_iff, not_and, and_true, true_and, false_and, and_false, reduceIte]; omega
    · rw [m1.iff x y (.inr x1) (.inr y1) ne]
      have := s1 x x1; have := s1 y y1
      simp only [x2, y2, if_false]
      constructor
      · intro _; constructor <;> (split <;> omega)
      · intro _; omega
  · intro a ha
    rcases ha with h | h
    · have := a1 a h
      have e : a ≠ p := fun e => pA (e ▸ h)
      simp only [e, if_true, if_false, false_iff, true_iff, not_and, and_true, true_and, false_and, and_false, reduceIte]; omega
    · simp only [h, if_true, if_false, false_iff, true_iff, not_and, and_true, true_and, false_and, and_false, reduceIte]; omega
  · intro s hs
    have e : s ≠ p := fun e => pS (e ▸ hs)
    have := s1 s hs
    simp only [e, if_false]
    constructor
    · split <;> omega
    · omega
/-- of a model with a vertex q behind S: S stands at the end -/
theorem endOf {F : Nat → Prop} {q f : Nat} (hm : Model adj (fun x => F x ∨ S x ∨ x = q)) (hf : F f) (con : ∀ x, F x → Reach adj F f x) (qF : ¬ F q) (qS : ¬ S q) (dFS : ∀ x, F x → ¬ S x) (qall : ∀ s, S s → adj q s) (no : ∀ x, F x → ¬ adj x q)
    (full : ∀ s, S s → ∃ x, F x ∧ adj s x) : EndM adj F S := by
  obtain ⟨lo, hi, m⟩ := hm
  -- the whole of F on one side: told for a model in which f lies left
  have key : ∀ lo hi : Nat → Int, Mdl adj (fun x => F x ∨ S x ∨ x = q) lo hi → hi f < lo q → EndM adj F S := by
    intro lo hi m hl
    have left : ∀ x, F x → F x ∧ hi x < lo q := by
      intro x hx
      refine (con x hx).closed (C := fun x => F x ∧ hi x < lo q) ⟨hf, hl⟩ ?_
      intro a b ca e fb
      refine ⟨fb, ?_⟩
      have nb := fun h => no b fb ((m.iff b q (.inl fb) (.inr (.inr rfl)) (fun z => qF (z ▸ fb))).mpr h)
      have lq := m.le q (.inr (.inr rfl))
      by_cases ab : a = b
      · rw [← ab]; exact ca.2
      · have h1 := ((m.iff a b (.inl ca.1) (.inl fb) ab).mp e).2
        have h2 := ca.2
        apply Classical.byContradiction
        intro h
        exact nb ⟨by omega, by omega⟩
    refine ⟨fun x => lo x + - lo q, fun x => hi x + - lo q, (m.shift (- lo q)).mono (fun x hx => hx.elim .inl fun h => .inr (.inl h)), fun a ha => ?_, fun s hs => ?_⟩
    · have := (left a ha).2; show hi a + - lo q < 0; omega
    · have h1 := (m.iff q s (.inr (.inr rfl)) (.inr (.inl hs)) (fun z => qS (z ▸ hs))).mp (qall s hs)
      obtain ⟨x, hx, e⟩ := full s hs
      have h2 := (m.iff s x (.inr (.inl hs)) (.inl hx) (fun z => dFS x hx (z ▸ hs))).mp e
      have h3 := (left x hx).2
      show lo s + - lo q ≤ 0 ∧ 0 ≤ hi s + - lo q
      omega
  have nf := fun h => no f hf ((m.iff f q (.inl hf) (.inr (.inr rfl)) (fun z => qF (z ▸ hf))).mpr h)
  by_cases c : hi f < lo q
  · exact key lo hi m c
  · refine key _ _ m.neg ?_
    show - lo f < - hi q
    apply Classical.byContradiction
    intro h
    exact nf ⟨by omega, by omega⟩
end
end Gr
end
section
set_option autoImplicit false
set_option linter.all false
namespace Gr
open Classical
noncomputable def card (U : Nat → Prop) : Nat → Nat
  | 0 => 0
  | N + 1 => card U N + if U N then 1 else 0
theorem card_le {W U : Nat → Prop} (k : ∀ x, W x → U x) : ∀ N, card W N ≤ card U N
  | 0 => Nat.le_refl _
  | N + 1 => by
    have := card_le k N
    show card W N + (if W N then 1 else 0) ≤ card U N + (if U N then 1 else 0)
    by_cases h : W N
    · rw [if_pos h, if_pos (k N h)]; omega
    · rw [if_neg h]; split <;> omega
theorem card_lt {W U : Nat → Prop} (k : ∀ x, W x → U x) {x : Nat} (ux : U x) (wx : ¬ W x) : ∀ N, x < N → card W N < card U N
  | 0, h => by omega
  | N + 1, h => by
    show card W N + (if W N then 1 else 0) < card U N + (if U N then 1 else 0)
    by_cases e : x = N
    · subst e
      have := card_le k x
      rw [if_neg wx, if_pos ux]; omega
    · have := card_lt k ux wx N (by omega)
      by_cases h : W N
      · rw [if_pos h, if_pos (k N h)]; omega
      · rw [if_neg h]; split <;> omega
theorem least {α : Type} (P : α → Prop) (f : α → Nat) (h : ∃ a, P a) : ∃ a, P a ∧ ∀ b, P b → f a ≤ f b := by
  obtain ⟨a, ha⟩ := h
  generalize hn : f a = n
  induction n using Nat.strongRecOn generalizing a with
  | ind n ih =>
    by_cases c : ∃ b, P b ∧ f b < f a
    · obtain ⟨b, hb, lt⟩ := c
      exact ih (f b) (hn ▸ lt) b hb rfl
    · refine ⟨a, ha, fun b hb => ?_⟩
      apply Classical.byContradiction
      intro z
      exact c ⟨b, hb, by omega⟩
/-- a property of at most two -/
theorem two (Q : Nat → Prop) (h : ∀ a b c, Q a → Q b → Q c → a ≠ b → a ≠ c → b ≠ c → False) :
    ∃ P1 P2 : Nat → Prop, (∀ x, Q x → P1 x ∨ P2 x) ∧ (∀ x, P1 x → Q x) ∧ (∀ x, P2 x → Q x) ∧ (∀ x y, P1 x → P1 y → x = y) ∧ (∀ x y, P2 x → P2 y → x = y) ∧ ∀ x, P1 x → ¬ P2 x := by
  by_cases c : ∃ a, Q a
  · obtain ⟨a, ha⟩ := c
    refine ⟨fun x => x = a, fun x => Q x ∧ x ≠ a, fun x hx => ?_, fun x e => e ▸ ha, fun x e => e.1, fun x y e f => e.trans f.symm, fun x y e f => ?_, fun x e f => f.2 e⟩
    · by_cases e : x = a
      · exact .inl e
      · exact .inr ⟨hx, e⟩
    · apply Classical.byContradiction
      intro z
      exact h a x y ha e.1 f.1 (Ne.symm e.2) (Ne.symm f.2) z
  · exact ⟨fun _ => False, fun _ => False, fun x hx => (c ⟨x, hx⟩).elim, fun _ e => e.elim, fun _ e => e.elim, fun _ _ e => e.elim, fun _ _ e => e.elim, fun _ e => e.elim⟩

def In (U S : Nat → Prop) : Nat → Prop := fun v => U v ∧ ¬ S v
def Full (adj : Nat → Nat → Prop) (U S : Nat → Prop) (x : Nat) : Prop := ∀ s, S s → ∃ z, Reach adj (In U S) x z ∧ adj s z
structure Sep (adj : Nat → Nat → Prop) (U S : Nat → Prop) : Prop where
  sub : ∀ s, S s → U s
  two : ∃ a b, In U S a ∧ In U S b ∧ ¬ Reach adj (In U S) a b ∧ Full adj U S a ∧ Full adj U S b
def NU (adj : Nat → Nat → Prop) (U : Nat → Prop) (p : Nat) : Nat → Prop := fun s => U s ∧ adj p s
structure Endv (adj : Nat → Nat → Prop) (U : Nat → Prop) (p : Nat) : Prop where
  mem : U p
  con : ∀ z z', U z → z ≠ p → ¬ adj p z → U z' → z' ≠ p → ¬ adj p z' → Reach adj (In U (NU adj U p)) z z'
  full : ∀ s, U s → adj p s → ∃ z, U z ∧ z ≠ p ∧ ¬ adj p z ∧ adj s z
  clq : ∀ s t, U s → adj p s → U t → adj p t → s ≠ t → adj s t

section
variable {adj : Nat → Nat → Prop} (sy : ∀ a b, adj a b → adj b a) (ir : ∀ a, ¬ adj a a) (nr : NoRing adj) (nt : NoThree adj) {N : Nat} {U S : Nat → Prop}
include sy
theorem apart {A : Nat → Prop} {x y z w : Nat} (hx : Reach adj A x z) (hy : Reach adj A y w) (h : ¬ Reach adj A x y) : z ≠ w ∧ ¬ adj z w :=
  ⟨fun e => h (hx.trans (e ▸ hy.symm sy)), fun e => h ((Reach.step hx e hy.right).trans (hy.symm sy))⟩
theorem Full.move {x y : Nat} (h : Full adj U S x) (r : Reach adj (In U S) x y) : Full adj U S y := fun s hs => by
  obtain ⟨z, hz, e⟩ := h s hs
  exact ⟨z, (r.symm sy).trans hz, e⟩
include ir nr
/-- a separator is a clique -/
theorem sep_clique (h : Sep adj U S) : ∀ s t, S s → S t → s ≠ t → adj s t := by
  intro s t hs ht ne
  apply Classical.byContradiction
  intro nst
  obtain ⟨a, b, ia, ib, nab, fa, fb⟩ := h.two
  obtain ⟨z1, r1, e1⟩ := fa s hs
  obtain ⟨z2, r2, e2⟩ := fa t ht
  obtain ⟨w1, q1, d1⟩ := fb s hs
  obtain ⟨w2, q2, d2⟩ := fb t ht
  have way : Reach adj (fun v => v = s ∨ v = t ∨ Reach adj (In U S) a v) t s := by
    have m : ∀ v, Reach adj (In U S) a v → v = s ∨ v = t ∨ Reach adj (In U S) a v := fun v hv => .inr (.inr hv)
    have p1 : Reach adj (fun v => v = s ∨ v = t ∨ Reach adj (In U S) a v) a z1 := r1.self.mono m
    have p2 : Reach adj (fun v => v = s ∨ v = t ∨ Reach adj (In U S) a v) a z2 := r2.self.mono m
    exact ((Reach.one (.inr (.inl rfl)) e2 (m _ r2)).trans (p2.symm sy)).trans (.step p1 (sy _ _ e1) (.inl rfl))
  obtain ⟨l, i, m, g⟩ := reach_ind sy way
  match l, i, m, g with
  | [], i, m, g => exact ne (by simpa using g)
  | [u], i, m, g =>
    have e : u = t := by simpa using g
    exact nst (e ▸ i.1.1)
  | u :: y :: r, i, m, g =>
    have su : adj s u := i.1.1
    have ut : u ≠ t := fun e => nst (e ▸ su)
    have us : u ≠ s := fun e => ir s (e ▸ su)
    have ua : Reach adj (In U S) a u := by
      rcases m u (by simp) with h | h | h
      · exact (us h).elim
      · exact (ut h).elim
      · exact h
    have sy' := i.1.2 y (by simp)
    have uy : adj u y := i.2.1.1
    have gy : (y :: r).getLast? = some t := by
      rw [List.getLast?_cons_cons, List.getLast?_cons_cons] at g; exact g
    have tin : t ∈ y :: r := List.mem_of_getLast? gy
    have offr : ∀ v ∈ r, v ≠ u ∧ ¬ adj u v := fun v hv => i.2.1.2 v hv
    refine nr u s y (sy _ _ su) uy (Ne.symm sy'.1) sy'.2 ?_
    have inR : ∀ v ∈ y :: r, v = s ∨ v = y ∨ (v ≠ u ∧ ¬ adj u v) := fun v hv => by
      rcases List.mem_cons.mp hv with h | h
      · exact .inr (.inl h)
      · exact .inr (.inr (offr v h))
    have back : Reach adj (fun v => v = s ∨ v = y ∨ (v ≠ u ∧ ¬ adj u v)) t y := walk_reach sy r t y (ind_walk _ i.2.2) inR gy
    have mb : ∀ v, Reach adj (In U S) b v → v = s ∨ v = y ∨ (v ≠ u ∧ ¬ adj u v) := fun v hv =>
      .inr (.inr ⟨Ne.symm (apart sy ua hv nab).1, (apart sy ua hv nab).2⟩)
    have p1 : Reach adj (fun v => v = s ∨ v = y ∨ (v ≠ u ∧ ¬ adj u v)) b w1 := q1.self.mono mb
    have p2 : Reach adj (fun v => v = s ∨ v = y ∨ (v ≠ u ∧ ¬ adj u v)) b w2 := q2.self.mono mb
    exact ((((Reach.one (.inl rfl) d1 (mb _ q1)).trans (p1.symm sy)).trans p2).trans (Reach.one (mb _ q2) (sy _ _ d2) (inR t tin))).trans back
/-- a full component has a vertex complete to S -/
theorem complete_vertex (clq : ∀ s t, S s → S t → s ≠ t → adj s t) (sN : ∀ s, S s → s < N) {f : Nat} (full : Full adj U S f) : ∀ (k d : Nat), Reach adj (In U S) f d → card S N - card (fun s => S s ∧ adj d s) N ≤ k →
    ∃ q, Reach adj (In U S) f q ∧ ∀ s, S s → adj q s := by
  intro k
  induction k with
  | zero =>
    intro d hd hk
    refine ⟨d, hd, fun s hs => ?_⟩
    apply Classical.byContradiction
    intro z
    have := card_lt (W := fun s => S s ∧ adj d s) (U := S) (fun x h => h.1) hs (fun h => z h.2) N (sN s hs)
    omega
  | succ k ih =>
    intro d hd hk
    by_cases c : ∀ s, S s → adj d s
    · exact ⟨d, hd, c⟩
    · obtain ⟨s, hc⟩ := Classical.not_forall.mp c
      obtain ⟨hs, nds⟩ := Classical.not_imp.mp hc
      obtain ⟨z, hz, e⟩ := full s hs
      have way : Reach adj (fun v => v = s ∨ Reach adj (In U S) f v) d s := by
        have h1 : Reach adj (fun v => v = s ∨ Reach adj (In U S) f v) f d := hd.self.mono fun v hv => .inr hv
        have h2 : Reach adj (fun v => v = s ∨ Reach adj (In U S) f v) f z := hz.self.mono fun v hv => .inr hv
        exact ((h1.symm sy).trans h2).trans (.step (.refl (.inr hz)) (sy _ _ e) (.inl rfl))
      obtain ⟨l, i, m, g⟩ := reach_ind sy way
      have nS : ∀ v, Reach adj (In U S) f v → ¬ S v := fun v hv => hv.right.2
      match l, i, m, g with
      | [], i, m, g =>
        have e : s = d := by simpa using g
        exact (nS d hd (e ▸ hs)).elim
      | w :: r, i, m, g =>
        have sw : adj s w := i.1.1
        have ws : w ≠ s := fun e => ir s (e ▸ sw)
        have hw : Reach adj (In U S) f w := by
          rcases m w (by simp) with h | h
          · exact (ws h).elim
          · exact h
        have more : ∀ t, S t ∧ adj d t → S t ∧ adj w t := by
          intro t ht
          have ts : t ≠ s := fun e => nds (e ▸ ht.2)
          refine ⟨ht.1, sy _ _ ?_⟩
          refine fan sy ir nr t (w :: r) s i (clq t s ht.1 hs ts) (fun v hv => ?_) (fun y hy => ?_) w (by simp)
          · rcases m v hv with h | h
            · rw [h]; exact Ne.symm ts
            · exact fun e => nS v h (e ▸ ht.1)
          · have e : y = d := by rw [g] at hy; exact (Option.some.inj hy).symm
            rw [e]; exact sy _ _ ht.2
        have lt := card_lt (W := fun t => S t ∧ adj d t) (U := fun t => S t ∧ adj w t) more ⟨hs, sy _ _ sw⟩ (fun h => nds h.2) N (sN s hs)
        have le := card_le (W := fun t => S t ∧ adj w t) (U := S) (fun x h => h.1) N
        exact ih w hw (by omega)
omit ir nr
/-- two vertices that are not adjacent have a separator between them -/
theorem min_sep {x y : Nat} (ux : U x) (uy : U y) (ne : x ≠ y) (na : ¬ adj x y) : ∃ S, Sep adj U S ∧ In U S x ∧ In U S y ∧ ¬ Reach adj (In U S) x y := by
  let A : Nat → Prop := fun v => U v ∧ v ≠ x ∧ ¬ adj x v
  let S : Nat → Prop := fun s => U s ∧ adj x s ∧ ∃ z, Reach adj A y z ∧ adj s z
  have ay : A y := ⟨uy, Ne.symm ne, na⟩
  have inx : In U S x := ⟨ux, fun h => by
    obtain ⟨_, _, z, hz, e⟩ := h
    exact hz.right.2.2 e⟩
  have iny : In U S y := ⟨uy, fun h => na h.2.1⟩
  have sub : ∀ v, A v → In U S v := fun v hv => ⟨hv.1, fun h => hv.2.2 h.2.1⟩
  have cl : ∀ z, Reach adj (In U S) y z → Reach adj A y z := fun z hz => by
    refine hz.closed (C := fun z => Reach adj A y z) (.refl ay) ?_
    intro a b ca e ib
    refine .step ca e ⟨ib.1, fun h => ?_, fun h => ?_⟩
    · subst h; exact ca.right.2.2 (sy _ _ e)
    · exact ib.2 ⟨ib.1, h, a, ca, sy _ _ e⟩
  have nxy : ¬ Reach adj (In U S) x y := fun h => (cl x (h.symm sy)).right.2.1 rfl
  refine ⟨S, ⟨fun s hs => hs.1, x, y, inx, iny, nxy, fun s hs => ⟨x, .refl inx, sy _ _ hs.2.1⟩, fun s hs => ?_⟩, inx, iny, nxy⟩
  obtain ⟨z, hz, e⟩ := hs.2.2
  exact ⟨z, hz.mono sub, e⟩
end
end Gr
end
section
set_option autoImplicit false
set_option linter.all false
namespace Gr
open Classical
section
variable {adj : Nat → Nat → Prop} (sy : ∀ a b, adj a b → adj b a) (ir : ∀ a, ¬ adj a a) (nr : NoRing adj) (nt : NoThree adj) {N : Nat} {U S : Nat → Prop}
include sy
/-! ### ways past a vertex c -/
theorem rt {x y c s : Nat} (fx : Full adj U S x) (fy : Full adj U S y) (hs : S s) (ix : In U S x) (iy : In U S y) (ic : In U S c) (xc : ¬ Reach adj (In U S) x c) (yc : ¬ Reach adj (In U S) y c) (cs : ¬ adj c s) : Reach adj (off adj c) x y := by
  have rc : Reach adj (In U S) c c := .refl ic
  have mx : ∀ v, Reach adj (In U S) x v → off adj c v := fun v hv => ⟨(apart sy hv rc xc).1, fun e => (apart sy hv rc xc).2 (sy _ _ e)⟩
  have my : ∀ v, Reach adj (In U S) y v → off adj c v := fun v hv => ⟨(apart sy hv rc yc).1, fun e => (apart sy hv rc yc).2 (sy _ _ e)⟩
  obtain ⟨z, hz, e⟩ := fx s hs
  obtain ⟨w, hw, d⟩ := fy s hs
  have os : off adj c s := ⟨fun h => ic.2 (h ▸ hs), cs⟩
  have p1 : Reach adj (off adj c) x z := hz.self.mono mx
  have p2 : Reach adj (off adj c) y w := hw.self.mono my
  exact ((p1.step (sy _ _ e) os).step d (my _ hw)).trans (p2.symm sy)
theorem rt2 {x p c s : Nat} (fx : Full adj U S x) (hs : S s) (ix : In U S x) (ic : In U S c) (xc : ¬ Reach adj (In U S) x c) (cs : ¬ adj c s) (sp : adj p s) (pc : off adj c p) : Reach adj (off adj c) x p := by
  have rc : Reach adj (In U S) c c := .refl ic
  have mx : ∀ v, Reach adj (In U S) x v → off adj c v := fun v hv => ⟨(apart sy hv rc xc).1, fun e => (apart sy hv rc xc).2 (sy _ _ e)⟩
  obtain ⟨z, hz, e⟩ := fx s hs
  have os : off adj c s := ⟨fun h => ic.2 (h ▸ hs), cs⟩
  have p1 : Reach adj (off adj c) x z := hz.self.mono mx
  exact (p1.step (sy _ _ e) os).step (sy _ _ sp) pc
theorem rt3 {p q c s t : Nat} (ps : adj p s) (qt : adj q t) (st : s ≠ t → adj s t) (op : off adj c p) (oq : off adj c q) (os : off adj c s) (ot : off adj c t) : Reach adj (off adj c) p q := by
  have h : Reach adj (off adj c) p s := Reach.one op ps os
  have h2 : Reach adj (off adj c) p t := by
    by_cases e : s = t
    · exact e ▸ h
    · exact h.step (st e) ot
  exact h2.step (sy _ _ qt) oq
include nt
/-- three full components that miss something of S -/
theorem at1 {y1 y2 y3 b1 b2 b3 : Nat} (f1 : Full adj U S y1) (f2 : Full adj U S y2) (f3 : Full adj U S y3) (i1 : In U S y1) (i2 : In U S y2) (i3 : In U S y3)
    (n12 : ¬ Reach adj (In U S) y1 y2) (n13 : ¬ Reach adj (In U S) y1 y3) (n23 : ¬ Reach adj (In U S) y2 y3) (s1 : S b1) (s2 : S b2) (s3 : S b3) (m1 : ¬ adj y1 b1) (m2 : ¬ adj y2 b2) (m3 : ¬ adj y3 b3) : False := by
  have sm : ∀ {a b}, ¬ Reach adj (In U S) a b → ¬ Reach adj (In U S) b a := fun h k => h (k.symm sy)
  exact nt y1 y2 y3 ⟨rt sy f1 f2 s3 i1 i2 i3 n13 n23 m3, rt sy f1 f3 s2 i1 i3 i2 n12 (sm n23) m2, rt sy f2 f3 s1 i2 i3 i1 (sm n12) (sm n13) m1⟩
/-- two full components that miss something of a small one's S -/
theorem at2 {y y' p b b' s0 : Nat} (f : Full adj U S y) (f' : Full adj U S y') (nf : ¬ Full adj U S p) (i : In U S y) (i' : In U S y') (ip : In U S p) (n : ¬ Reach adj (In U S) y y')
    (sb : S b) (pb : adj p b) (mb : ¬ adj y b) (sb' : S b') (pb' : adj p b') (mb' : ¬ adj y' b') (s0S : S s0) (m0 : ¬ adj p s0) : False := by
  have sm : ∀ {a b}, ¬ Reach adj (In U S) a b → ¬ Reach adj (In U S) b a := fun h k => h (k.symm sy)
  have n1 : ¬ Reach adj (In U S) y p := fun h => nf (f.move sy h)
  have n2 : ¬ Reach adj (In U S) y' p := fun h => nf (f'.move sy h)
  have offp : ∀ {c}, In U S c → ¬ Reach adj (In U S) c p → off adj c p := fun {c} ic h =>
    ⟨fun e => by subst e; exact h (.refl ip), fun e => h (Reach.one ic e ip)⟩
  exact nt y y' p ⟨rt sy f f' s0S i i' ip n1 n2 m0, rt2 sy f sb' i i' n mb' pb' (offp i' n2), rt2 sy f' sb i' i (sm n) mb pb (offp i n1)⟩
/-- three that hang on a clique, none behind the other -/
theorem at3 {p1 p2 p3 s12 s13 s21 s23 s31 s32 : Nat} (C : Nat → Prop) (clq : ∀ s t, C s → C t → s ≠ t → adj s t) (nC : ¬ C p1 ∧ ¬ C p2 ∧ ¬ C p3) (d12 : p1 ≠ p2) (d13 : p1 ≠ p3) (d23 : p2 ≠ p3) (n12 : ¬ adj p1 p2) (n13 : ¬ adj p1 p3) (n23 : ¬ adj p2 p3)
    (h12 : C s12 ∧ adj p1 s12 ∧ ¬ adj p2 s12) (h13 : C s13 ∧ adj p1 s13 ∧ ¬ adj p3 s13) (h21 : C s21 ∧ adj p2 s21 ∧ ¬ adj p1 s21) (h23 : C s23 ∧ adj p2 s23 ∧ ¬ adj p3 s23) (h31 : C s31 ∧ adj p3 s31 ∧ ¬ adj p1 s31) (h32 : C s32 ∧ adj p3 s32 ∧ ¬ adj p2 s32) : False := by
  have o : ∀ {c s}, ¬ C c → C s → ¬ adj c s → off adj c s := fun {c s} nc hs h => ⟨fun e => nc (e ▸ hs), h⟩
  exact nt p1 p2 p3 ⟨rt3 sy h13.2.1 h23.2.1 (clq _ _ h13.1 h23.1) ⟨d13, fun e => n13 (sy _ _ e)⟩ ⟨d23, fun e => n23 (sy _ _ e)⟩ (o nC.2.2 h13.1 h13.2.2) (o nC.2.2 h23.1 h23.2.2),
    rt3 sy h12.2.1 h32.2.1 (clq _ _ h12.1 h32.1) ⟨d12, fun e => n12 (sy _ _ e)⟩ ⟨Ne.symm d23, n23⟩ (o nC.2.1 h12.1 h12.2.2) (o nC.2.1 h32.1 h32.2.2),
    rt3 sy h21.2.1 h31.2.1 (clq _ _ h21.1 h31.1) ⟨Ne.symm d12, n12⟩ ⟨Ne.symm d13, n13⟩ (o nC.1 h21.1 h21.2.2) (o nC.1 h31.1 h31.2.2)⟩
include ir nr
/-- a full component that misses something of two small ones' S -/
theorem at4 (hS : Sep adj U S) {y y' p1 p2 b1 b2 s12 s21 : Nat} (f : Full adj U S y) (f' : Full adj U S y') (nf1 : ¬ Full adj U S p1) (nf2 : ¬ Full adj U S p2) (i : In U S y) (i' : In U S y') (ip1 : In U S p1) (ip2 : In U S p2) (r : Reach adj (In U S) y y')
    (n12 : ¬ Reach adj (In U S) p1 p2) (sb1 : S b1) (pb1 : adj p1 b1) (mb1 : ¬ adj y b1) (sb2 : S b2) (pb2 : adj p2 b2) (mb2 : ¬ adj y' b2)
    (h12 : S s12 ∧ adj p1 s12 ∧ ¬ adj p2 s12) (h21 : S s21 ∧ adj p2 s21 ∧ ¬ adj p1 s21) : False := by
  have sm : ∀ {a b}, ¬ Reach adj (In U S) a b → ¬ Reach adj (In U S) b a := fun h k => h (k.symm sy)
  have clq := sep_clique sy ir nr hS
  have offp : ∀ {c p}, In U S c → In U S p → ¬ Reach adj (In U S) c p → off adj c p := fun {c p} ic ip h =>
    ⟨fun e => by subst e; exact h (.refl ip), fun e => h (Reach.one ic e ip)⟩
  have offs : ∀ {c s}, In U S c → S s → ¬ adj c s → off adj c s := fun {c s} ic hs h => ⟨fun e => ic.2 (e ▸ hs), h⟩
  by_cases c : ∃ v c1 c2, Reach adj (In U S) y v ∧ S c1 ∧ adj p1 c1 ∧ ¬ adj v c1 ∧ S c2 ∧ adj p2 c2 ∧ ¬ adj v c2
  · obtain ⟨v, c1, c2, rv, sc1, pc1, mc1, sc2, pc2, mc2⟩ := c
    have fv := f.move sy rv
    have iv := rv.right
    have n1 : ¬ Reach adj (In U S) v p1 := fun h => nf1 (fv.move sy h)
    have n2 : ¬ Reach adj (In U S) v p2 := fun h => nf2 (fv.move sy h)
    exact nt v p1 p2 ⟨rt2 sy fv h12.1 iv ip2 n2 h12.2.2 h12.2.1 (offp ip2 ip1 (sm n12)), rt2 sy fv h21.1 iv ip1 n1 h21.2.2 h21.2.1 (offp ip1 ip2 n12),
      rt3 sy pc1 pc2 (clq _ _ sc1 sc2) (offp iv ip1 n1) (offp iv ip2 n2) (offs iv sc1 mc1) (offs iv sc2 mc2)⟩
  · have yb2 : adj y b2 := Classical.byContradiction fun h => c ⟨y, b1, b2, .refl i, sb1, pb1, mb1, sb2, pb2, h⟩
    have yb1 : adj y' b1 := Classical.byContradiction fun h => c ⟨y', b1, b2, r, sb1, pb1, h, sb2, pb2, mb2⟩
    have ne : y ≠ y' := fun e => mb2 (e ▸ yb2)
    have bb : b1 ≠ b2 := fun e => mb1 (e ▸ yb2)
    have na : ¬ adj y y' := fun h => by
      refine nr y y' b2 h yb2 (fun e => i'.2 (e ▸ sb2)) mb2 ?_
      have hb1 : b1 = y' ∨ b1 = b2 ∨ (b1 ≠ y ∧ ¬ adj y b1) := .inr (.inr ⟨fun e => i.2 (e ▸ sb1), mb1⟩)
      exact (Reach.one (.inl rfl) yb1 hb1).step (clq _ _ sb1 sb2 bb) (.inr (.inl rfl))
    obtain ⟨a, b, ia, ib, nab, fa, fb⟩ := hS.two
    have other : ∃ g, In U S g ∧ Full adj U S g ∧ ¬ Reach adj (In U S) y g := by
      by_cases h : Reach adj (In U S) y a
      · exact ⟨b, ib, fb, fun h2 => nab ((h.symm sy).trans h2)⟩
      · exact ⟨a, ia, fa, h⟩
    obtain ⟨g, ig, fg, ng⟩ := other
    have ng' : ¬ Reach adj (In U S) y' g := fun h => ng (r.trans h)
    have gv : ∀ {c}, In U S c → ¬ Reach adj (In U S) c g → ∀ v, Reach adj (In U S) g v → off adj c v := fun {c} ic h v hv =>
      ⟨fun e => h (e ▸ hv.symm sy), fun e => h ((Reach.one ic e hv.right).trans (hv.symm sy))⟩
    have way : ∀ {u c s}, In U S c → ¬ Reach adj (In U S) c g → off adj c u → adj u s → S s → ¬ adj c s → Reach adj (off adj c) u g := fun {u c s} ic h ou us hs cs => by
      obtain ⟨z, hz, e⟩ := fg s hs
      have p : Reach adj (off adj c) g z := hz.self.mono (gv ic h)
      exact ((Reach.one ou us (offs ic hs cs)).step e (gv ic h z hz)).trans (p.symm sy)
    refine nt y y' g ⟨?_, way i' ng' ⟨ne, fun e => na (sy _ _ e)⟩ yb2 sb2 mb2, way i ng ⟨Ne.symm ne, na⟩ yb1 sb1 mb1⟩
    exact r.self.mono fun v hv => ⟨fun e => ng (e ▸ hv), fun e => ng (hv.step (sy _ _ e) ig)⟩
end
end Gr
end
section
set_option autoImplicit false
set_option linter.all false
namespace Gr
open Classical
theorem endEmpty {adj : Nat → Nat → Prop} {S : Nat → Prop} (clq : ∀ s t, S s → S t → s ≠ t → adj s t) : EndM adj (fun _ => False) S :=
  ⟨fun _ => 0, fun _ => 0, ⟨fun _ _ => Int.le_refl _, fun x y hx hy ne => ⟨fun _ => ⟨Int.le_refl _, Int.le_refl _⟩, fun _ => clq x y (hx.resolve_left id) (hy.resolve_left id) ne⟩⟩, fun _ h => h.elim, fun _ _ => ⟨Int.le_refl _, Int.le_refl _⟩⟩
theorem endNoS {adj : Nat → Nat → Prop} {A : Nat → Prop} {N : Nat} (h : Model adj A) (aN : ∀ x, A x → x < N) : EndM adj A (fun _ => False) := by
  obtain ⟨lo, hi, m⟩ := h
  obtain ⟨M, hM, b⟩ := bounded lo hi N
  exact ⟨_, _, (m.shift (- M - 1)).mono fun x hx => hx.resolve_right id, fun a ha => by have := b a (aN a ha); show hi a + (-M - 1) < 0; omega, fun _ h => h.elim⟩
theorem EndM.congr {adj : Nat → Nat → Prop} {A B S T : Nat → Prop} (h : EndM adj A S) (e : ∀ x, B x → A x) (e2 : ∀ x, T x → S x) : EndM adj B T := by
  obtain ⟨lo, hi, m, a, s⟩ := h
  exact ⟨lo, hi, m.mono fun x hx => hx.elim (fun h => .inl (e x h)) fun h => .inr (e2 x h), fun x hx => a x (e x hx), fun x hx => s x (e2 x hx)⟩
section
variable {adj : Nat → Nat → Prop} (sy : ∀ a b, adj a b → adj b a) (ir : ∀ a, ¬ adj a a) (nr : NoRing adj) (nt : NoThree adj) {N : Nat} {U S : Nat → Prop}
include sy
/-- at most one vertex, hung at the end -/
theorem hang {A P : Nat → Prop} (ha : EndM adj A S) (aN : ∀ x, A x → x < N) (sN : ∀ x, S x → x < N) (pA : ∀ p, P p → ¬ A p) (pS : ∀ p, P p → ¬ S p) (one : ∀ p q, P p → P q → p = q) (dAS : ∀ x, A x → ¬ S x) (no : ∀ a p, A a → P p → ¬ adj a p)
    (all : ∀ a p s, A a → P p → S s → adj s p → adj a s) : EndM adj (fun x => A x ∨ P x) S := by
  by_cases c : ∃ p, P p
  · obtain ⟨p, hp⟩ := c
    refine (pend sy N p ha aN sN (pA p hp) (pS p hp) dAS (fun a h => no a p h hp) fun a s h1 h2 h3 => all a p s h1 hp h2 h3).congr (fun x hx => hx.elim .inl fun h => .inr (one x p h hp)) fun _ h => h
  · exact ha.congr (fun x hx => hx.elim id fun h => (c ⟨x, h⟩).elim) fun _ h => h
include ir nr nt
/-- no separator but those of end vertices -/
theorem case_end (hN : ∀ x, U x → x < N) (noF : ¬ ∃ S, Sep adj U S ∧ ∀ p, Endv adj U p → ¬ ∀ s, S s ↔ NU adj U p s) : Model adj U := by
  let C : Nat → Prop := fun x => U x ∧ ¬ Endv adj U x
  have clq : ∀ s t, C s → C t → s ≠ t → adj s t := by
    intro x y hx hy ne
    apply Classical.byContradiction
    intro na
    obtain ⟨S, hS, ix, iy, n⟩ := min_sep sy hx.1 hy.1 ne na
    refine noF ⟨S, hS, fun p hp e => ?_⟩
    have px : x ≠ p := fun h => hx.2 (h ▸ hp)
    have py : y ≠ p := fun h => hy.2 (h ▸ hp)
    have r := hp.con x y ix.1 px (fun h => ix.2 ((e x).mpr ⟨ix.1, h⟩)) iy.1 py (fun h => iy.2 ((e y).mpr ⟨iy.1, h⟩))
    exact n (r.mono fun v hv => ⟨hv.1, fun h => hv.2 ((e v).mp h)⟩)
  have ind : ∀ p q, Endv adj U p → Endv adj U q → ¬ adj p q := by
    intro p q hp hq e
    obtain ⟨z, uz, zp, npz, qz⟩ := hp.full q hq.mem e
    exact npz (hq.clq p z hp.mem (sy _ _ e) uz qz (Ne.symm zp))
  have inc : ∀ p q r, Endv adj U p → Endv adj U q → Endv adj U r → p ≠ q → p ≠ r → q ≠ r → ∃ s, C s ∧ adj p s ∧ ¬ adj q s := by
    intro p q r hp hq hr pq pr qr
    apply Classical.byContradiction
    intro c
    have h := hq.con p r hp.mem pq (ind q p hq hp) hr.mem (Ne.symm qr) (ind q r hq hr)
    rcases h.first with e | ⟨z, e, h2⟩
    · exact pr e
    · have iz := h2.left
      refine c ⟨z, ⟨iz.1, fun ez => ind p z hp ez e⟩, e, fun h3 => iz.2 ⟨iz.1, h3⟩⟩
  obtain ⟨P1, P2, cov, e1, e2, o1, o2, dj⟩ := two (Endv adj U) (by
    intro p q r hp hq hr pq pr qr
    obtain ⟨a, ha⟩ := inc p q r hp hq hr pq pr qr
    obtain ⟨b, hb⟩ := inc p r q hp hr hq pr pq (Ne.symm qr)
    obtain ⟨c, hc⟩ := inc q p r hq hp hr (Ne.symm pq) qr pr
    obtain ⟨d, hd⟩ := inc q r p hq hr hp qr (Ne.symm pq) (Ne.symm pr)
    obtain ⟨e, he⟩ := inc r p q hr hp hq (Ne.symm pr) (Ne.symm qr) pq
    obtain ⟨f, hf⟩ := inc r q p hr hq hp (Ne.symm qr) (Ne.symm pr) (Ne.symm pq)
    exact at3 sy nt C clq ⟨fun h => h.2 hp, fun h => h.2 hq, fun h => h.2 hr⟩ pq pr qr (ind p q hp hq) (ind p r hp hr) (ind q r hq hr) ha hb hc hd he hf)
  have side : ∀ P : Nat → Prop, (∀ x, P x → Endv adj U x) → (∀ x y, P x → P y → x = y) → EndM adj P C := fun P eP oP =>
    (hang sy (N := N) (A := fun _ => False) (P := P) (endEmpty clq) (fun _ h => h.elim) (fun x h => hN x h.1) (fun _ _ h => h) (fun p hp h => h.2 (eP p hp)) oP (fun _ h => h.elim) (fun _ _ h => h.elim) (fun _ _ _ h => h.elim)).congr (fun x h => .inr h) fun _ h => h
  obtain ⟨lo, hi, m⟩ := glue sy (side P1 e1 o1) (side P2 e2 o2) dj (fun x h k => k.2 (e1 x h)) (fun x h k => k.2 (e2 x h)) (fun a b ha hb => ind a b (e1 a ha) (e2 b hb))
  refine ⟨lo, hi, m.mono fun x hx => ?_⟩
  by_cases c : Endv adj U x
  · exact (cov x c).elim .inl fun h => .inr (.inl h)
  · exact .inr (.inr ⟨hx, c⟩)
/-- a separator of least size among those that are not of end vertices -/
theorem case_sep (hN : ∀ x, U x → x < N) (IH : ∀ W : Nat → Prop, (∀ x, W x → U x) → (∃ x, U x ∧ ¬ W x) → Model adj W) (hS : Sep adj U S) (sne : ∃ s, S s) (notE : ∀ p, Endv adj U p → ¬ ∀ s, S s ↔ NU adj U p s)
    (mn : ∀ T, (Sep adj U T ∧ ∀ p, Endv adj U p → ¬ ∀ s, T s ↔ NU adj U p s) → card S N ≤ card T N) : Model adj U := by
  have sm : ∀ {a b}, ¬ Reach adj (In U S) a b → ¬ Reach adj (In U S) b a := fun h k => h (k.symm sy)
  have clq := sep_clique sy ir nr hS
  have sN : ∀ s, S s → s < N := fun s hs => hN s (hS.sub s hs)
  obtain ⟨a0, b0, ia, ib, nab, fa, fb⟩ := hS.two
  -- components that are not full are single end vertices
  have nf : ∀ x, In U S x → ¬ Full adj U S x → Endv adj U x ∧ ∀ z, Reach adj (In U S) x z → z = x := by
    intro x ix nfx
    let T : Nat → Prop := fun s => S s ∧ ∃ z, Reach adj (In U S) x z ∧ adj s z
    have toT : ∀ v, In U S v → In U T v := fun v hv => ⟨hv.1, fun h => hv.2 h.1⟩
    have cl : ∀ v, Reach adj (In U T) x v → Reach adj (In U S) x v := fun v hv => by
      refine hv.closed (C := fun v => Reach adj (In U S) x v) (.refl ix) ?_
      intro a b ca e it
      refine .step ca e ⟨it.1, fun h => it.2 ⟨h, a, ca, sy _ _ e⟩⟩
    have nx0 : ¬ Reach adj (In U S) x a0 := fun h => nfx (fa.move sy (h.symm sy))
    have sepT : Sep adj U T := ⟨fun s hs => hS.sub s hs.1, x, a0, toT x ix, toT a0 ia, fun h => nx0 (cl a0 h), fun s hs => by
      obtain ⟨z, hz, e⟩ := hs.2
      exact ⟨z, hz.mono toT, e⟩, fun s hs => by
      obtain ⟨z, hz, e⟩ := fa s hs.1
      exact ⟨z, hz.mono toT, e⟩⟩
    obtain ⟨s0, hs0⟩ := Classical.not_forall.mp nfx
    obtain ⟨hs0, hs0'⟩ := Classical.not_imp.mp hs0
    have lt : card T N < card S N := card_lt (fun s hs => hs.1) hs0 (fun h => hs0' h.2) N (sN s0 hs0)
    have ex : ∃ p, Endv adj U p ∧ ∀ s, T s ↔ NU adj U p s := by
      apply Classical.byContradiction
      intro c
      have := mn T ⟨sepT, fun p hp h => c ⟨p, hp, h⟩⟩
      omega
    obtain ⟨p, hp, e⟩ := ex
    by_cases xp : x = p
    · subst xp
      refine ⟨hp, fun z hz => hz.closed (C := fun v => v = x) rfl ?_⟩
      intro a b ca ab ibb
      subst ca
      exact (ibb.2 ((e b).mpr ⟨ibb.1, ab⟩).1).elim
    · exfalso
      have npx : ¬ adj p x := fun h => ix.2 ((e x).mpr ⟨ix.1, h⟩).1
      have nps : ¬ adj p s0 := fun h => hs0' ((e s0).mpr ⟨hS.sub s0 hs0, h⟩).2
      have sp : s0 ≠ p := fun h => by
        subst h
        obtain ⟨z, hz, ez⟩ := fa s0 hs0
        exact hz.right.2 ((e z).mpr ⟨hz.right.1, ez⟩).1
      have r := hp.con x s0 ix.1 xp npx (hS.sub s0 hs0) sp nps
      exact (cl s0 (r.mono fun v hv => ⟨hv.1, fun h => hv.2 ((e v).mp h)⟩)).right.2 hs0
  have nbr : ∀ x, In U S x → ¬ Full adj U S x → ∀ z, U z → adj x z → S z := fun x ix nfx z uz e =>
    Classical.byContradiction fun h => by
      have q : z = x := (nf x ix nfx).2 z (Reach.one ix e ⟨uz, h⟩)
      subst q; exact ir _ e
  have incm : ∀ p q, In U S p → ¬ Full adj U S p → In U S q → ¬ Full adj U S q → p ≠ q → ∃ s, S s ∧ adj p s ∧ ¬ adj q s := by
    intro p q ip np iq nq pq
    apply Classical.byContradiction
    intro c
    have qa : a0 ≠ q := fun h => nq (h ▸ fa)
    have nqa : ¬ adj q a0 := fun h => ia.2 (nbr q iq nq a0 ia.1 h)
    have nqp : ¬ adj q p := fun h => ip.2 (nbr q iq nq p ip.1 h)
    have h := (nf q iq nq).1.con p a0 ip.1 pq nqp ia.1 qa nqa
    rcases h.first with e | ⟨z, e, h2⟩
    · exact np (e ▸ fa)
    · have iz := h2.left
      exact c ⟨z, nbr p ip np z iz.1 e, e, fun h3 => iz.2 ⟨iz.1, h3⟩⟩
  have nreach : ∀ p q, In U S p → ¬ Full adj U S p → p ≠ q → ¬ Reach adj (In U S) p q := fun p q ip np ne h => ne ((nf p ip np).2 q h).symm
  -- full components stand at an end
  have endFull : ∀ f, In U S f → Full adj U S f → EndM adj (fun z => Reach adj (In U S) f z) S := by
    intro f jf ff
    have other : ∃ g, In U S g ∧ Full adj U S g ∧ ¬ Reach adj (In U S) f g := by
      by_cases h : Reach adj (In U S) f a0
      · exact ⟨b0, ib, fb, fun h2 => nab ((h.symm sy).trans h2)⟩
      · exact ⟨a0, ia, fa, h⟩
    obtain ⟨g, ig, fg, ng⟩ := other
    obtain ⟨q, hq, allq⟩ := complete_vertex sy ir nr clq sN fg (card S N) g (.refl ig) (Nat.sub_le _ _)
    have nfq : ¬ Reach adj (In U S) f q := fun h => ng (h.trans (hq.symm sy))
    have iq := hq.right
    have nadj : ∀ z, Reach adj (In U S) f z → ¬ adj z q := fun z hz => (apart sy hz (.refl iq) nfq).2
    have small : ∃ u, U u ∧ ¬ ((fun z => Reach adj (In U S) f z) u ∨ S u ∨ u = q) := by
      apply Classical.byContradiction
      intro c
      have all : ∀ u, U u → Reach adj (In U S) f u ∨ S u ∨ u = q := fun u hu => Classical.byContradiction fun h => c ⟨u, hu, h⟩
      have nS : ∀ s, S s ↔ NU adj U q s := fun s => ⟨fun h => ⟨hS.sub s h, allq s h⟩, fun h => by
        rcases all s h.1 with h1 | h1 | h1
        · exact (nadj s h1 (sy _ _ h.2)).elim
        · exact h1
        · exact (ir q (h1 ▸ h.2)).elim⟩
      refine notE q ⟨iq.1, fun z z' uz zq nz uz' zq' nz' => ?_, fun s us e => ?_, fun s t us es ut et ne => clq s t ((nS s).mpr ⟨us, es⟩) ((nS t).mpr ⟨ut, et⟩) ne⟩ nS
      · have inC : ∀ z, U z → z ≠ q → ¬ adj q z → Reach adj (In U S) f z := fun z uz zq nz => by
          rcases all z uz with h1 | h1 | h1
          · exact h1
          · exact (nz (allq z h1)).elim
          · exact (zq h1).elim
        exact (((inC z uz zq nz).symm sy).trans (inC z' uz' zq' nz')).mono fun v hv => ⟨hv.1, fun h => hv.2 ((nS v).mpr h)⟩
      · obtain ⟨z, hz, ez⟩ := ff s ((nS s).mpr ⟨us, e⟩)
        exact ⟨z, hz.right.1, fun h => nfq (h ▸ hz), fun h => nadj z hz (sy _ _ h), ez⟩
    have md := IH (fun u => (fun z => Reach adj (In U S) f z) u ∨ S u ∨ u = q) (fun u hu => hu.elim (fun h => h.right.1) fun h => h.elim (hS.sub u) fun h => h ▸ iq.1) small
    exact endOf sy md (.refl jf) (fun x hx => hx.self) nfq iq.2 (fun x hx => hx.right.2) allq nadj fun s hs => ff s hs
  -- the two full components that miss something of S
  have full2 : ∃ F1 F2 : Nat → Prop, EndM adj F1 S ∧ EndM adj F2 S ∧ (∀ x, F1 x → In U S x ∧ Full adj U S x) ∧ (∀ x, F2 x → In U S x ∧ Full adj U S x) ∧ (∀ x y, F1 x → Reach adj (In U S) x y → F1 y) ∧ (∀ x y, F2 x → Reach adj (In U S) x y → F2 y) ∧
      (∀ x, F1 x → ¬ F2 x) ∧ (∀ x y, F1 x → F1 y → Reach adj (In U S) x y) ∧ (∀ x y, F2 x → F2 y → Reach adj (In U S) x y) ∧ ∀ y b, In U S y → Full adj U S y → S b → ¬ adj y b → F1 y ∨ F2 y := by
    let Iv : Nat → Prop := fun y => In U S y ∧ Full adj U S y ∧ ∃ b, S b ∧ ¬ adj y b
    let Cm : Nat → Nat → Prop := fun f z => Reach adj (In U S) f z
    have cIn : ∀ f, In U S f → Full adj U S f → ∀ x, Cm f x → In U S x ∧ Full adj U S x := fun f jf ff x hx => ⟨hx.right, ff.move sy hx⟩
    have cCl : ∀ f x y, Cm f x → Reach adj (In U S) x y → Cm f y := fun f x y h k => h.trans k
    have cOne : ∀ f x y, Cm f x → Cm f y → Reach adj (In U S) x y := fun f x y h k => (h.symm sy).trans k
    by_cases c1 : ∃ y, Iv y
    · obtain ⟨y1, h1⟩ := c1
      by_cases c2 : ∃ y, Iv y ∧ ¬ Cm y1 y
      · obtain ⟨y2, h2, n12⟩ := c2
        refine ⟨Cm y1, Cm y2, endFull y1 h1.1 h1.2.1, endFull y2 h2.1 h2.2.1, cIn y1 h1.1 h1.2.1, cIn y2 h2.1 h2.2.1, cCl y1, cCl y2, fun x hx hx2 => n12 (Reach.trans hx (hx2.symm sy)), cOne y1, cOne y2, fun y b iy fy sb mb => ?_⟩
        apply Classical.byContradiction
        intro c
        have c' := not_or.mp c
        obtain ⟨q1, s1, m1⟩ := h1.2.2
        obtain ⟨q2, s2, m2⟩ := h2.2.2
        exact at1 sy nt h1.2.1 h2.2.1 fy h1.1 h2.1 iy n12 c'.1 c'.2 s1 s2 sb m1 m2 mb
      · refine ⟨Cm y1, fun _ => False, endFull y1 h1.1 h1.2.1, endEmpty clq, cIn y1 h1.1 h1.2.1, fun _ h => h.elim, cCl y1, fun _ _ h => h.elim, fun _ _ h => h, cOne y1, fun _ _ h => h.elim, fun y b iy fy sb mb => .inl (Classical.byContradiction fun h => c2 ⟨y, ⟨iy, fy, b, sb, mb⟩, h⟩)⟩
    · exact ⟨fun _ => False, fun _ => False, endEmpty clq, endEmpty clq, fun _ h => h.elim, fun _ h => h.elim, fun _ _ h => h.elim, fun _ _ h => h.elim, fun _ _ h => h, fun _ _ h => h.elim, fun _ _ h => h.elim, fun y b iy fy sb mb => (c1 ⟨y, iy, fy, b, sb, mb⟩).elim⟩
  obtain ⟨F1, F2, m1, m2, in1, in2, cl1, cl2, dF, one1, one2, covF⟩ := full2
  -- the small components
  obtain ⟨P1, P2, covP, q1, q2, u1, u2, dP⟩ := two (fun x => In U S x ∧ ¬ Full adj U S x) (by
    intro p q r hp hq hr pq pr qr
    obtain ⟨a, ha⟩ := incm p q hp.1 hp.2 hq.1 hq.2 pq
    obtain ⟨b, hb⟩ := incm p r hp.1 hp.2 hr.1 hr.2 pr
    obtain ⟨c, hc⟩ := incm q p hq.1 hq.2 hp.1 hp.2 (Ne.symm pq)
    obtain ⟨d, hd⟩ := incm q r hq.1 hq.2 hr.1 hr.2 qr
    obtain ⟨e, he⟩ := incm r p hr.1 hr.2 hp.1 hp.2 (Ne.symm pr)
    obtain ⟨f, hf⟩ := incm r q hr.1 hr.2 hq.1 hq.2 (Ne.symm qr)
    exact at3 sy nt S clq ⟨hp.1.2, hq.1.2, hr.1.2⟩ pq pr qr (fun h => hq.1.2 (nbr p hp.1 hp.2 q hq.1.1 h)) (fun h => hr.1.2 (nbr p hp.1 hp.2 r hr.1.1 h)) (fun h => hr.1.2 (nbr q hq.1 hq.2 r hr.1.1 h)) ha hb hc hd he hf)
  let Cf : (Nat → Prop) → (Nat → Prop) → Prop := fun P F => ∃ p y b, P p ∧ F y ∧ S b ∧ adj p b ∧ ¬ adj y b
  have c2 : ∀ P, (∀ x, P x → In U S x ∧ ¬ Full adj U S x) → (∀ x y, P x → P y → x = y) → ¬ (Cf P F1 ∧ Cf P F2) := by
    intro P qP uP h
    obtain ⟨⟨p, y, b, hp, hy, sb, pb, mb⟩, ⟨p', y', b', hp', hy', sb', pb', mb'⟩⟩ := h
    have e := uP p p' hp hp'
    subst e
    obtain ⟨ip, nfp⟩ := qP p hp
    obtain ⟨s0, hs0⟩ := Classical.not_forall.mp nfp
    obtain ⟨hs0, hs0'⟩ := Classical.not_imp.mp hs0
    have m0 : ¬ adj p s0 := fun h => hs0' ⟨p, .refl ip, sy _ _ h⟩
    exact at2 sy nt (in1 y hy).2 (in2 y' hy').2 nfp (in1 y hy).1 (in2 y' hy').1 ip (fun h => dF y' (cl1 y y' hy h) hy') sb pb mb sb' pb' mb' hs0 m0
  have c4 : ∀ F : Nat → Prop, (∀ x, F x → In U S x ∧ Full adj U S x) → (∀ x y, F x → F y → Reach adj (In U S) x y) → ¬ (Cf P1 F ∧ Cf P2 F) := by
    intro F inF oneF h
    obtain ⟨⟨p, y, b, hp, hy, sb, pb, mb⟩, ⟨p', y', b', hp', hy', sb', pb', mb'⟩⟩ := h
    have ne : p ≠ p' := fun e => dP p hp (e ▸ hp')
    obtain ⟨ip, nfp⟩ := q1 p hp
    obtain ⟨ip', nfp'⟩ := q2 p' hp'
    obtain ⟨s, h1⟩ := incm p p' ip nfp ip' nfp' ne
    obtain ⟨t, h2⟩ := incm p' p ip' nfp' ip nfp (Ne.symm ne)
    exact at4 sy ir nr nt hS (inF y hy).2 (inF y' hy').2 nfp nfp' (inF y hy).1 (inF y' hy').1 ip ip' (oneF y y' hy hy') (nreach p p' ip nfp ne) sb pb mb sb' pb' mb' h1 h2
  -- put together, for one of the two ways to hang the small ones
  have fin : ∀ G1 G2 : Nat → Prop, EndM adj G1 S → EndM adj G2 S → (∀ x, G1 x → In U S x ∧ Full adj U S x) → (∀ x, G2 x → In U S x ∧ Full adj U S x) → (∀ x y, G1 x → Reach adj (In U S) x y → G1 y) → (∀ x y, G2 x → Reach adj (In U S) x y → G2 y) →
      (∀ x, G1 x → ¬ G2 x) → (∀ y b, In U S y → Full adj U S y → S b → ¬ adj y b → G1 y ∨ G2 y) → ¬ Cf P1 G1 → ¬ Cf P2 G2 → Model adj U := by
    intro G1 G2 m1 m2 in1 in2 cl1 cl2 dF covF k1 k2
    have pcl : ∀ p y, (In U S p ∧ ¬ Full adj U S p) → Reach adj (In U S) p y → y = p := fun p y hp h => (nf p hp.1 hp.2).2 y h
    have hung : ∀ (G P : Nat → Prop), EndM adj G S → (∀ x, G x → In U S x ∧ Full adj U S x) → (∀ x, P x → In U S x ∧ ¬ Full adj U S x) → (∀ x y, P x → P y → x = y) → ¬ Cf P G → EndM adj (fun x => G x ∨ P x) S := by
      intro G P mG inG inP oP k
      refine hang sy (N := N) mG (fun x hx => hN x (inG x hx).1.1) sN (fun p hp hg => (inP p hp).2 (inG p hg).2) (fun p hp => (inP p hp).1.2) oP (fun x hx => (inG x hx).1.2) (fun a p ha hp e => ?_) (fun a p s ha hp hs e => ?_)
      · have := pcl p a (inP p hp) (Reach.one (inP p hp).1 (sy _ _ e) (inG a ha).1)
        subst this
        exact (inP a hp).2 (inG a ha).2
      · exact Classical.byContradiction fun h => k ⟨p, a, s, hp, ha, hs, sy _ _ e, h⟩
    have L := hung G1 P1 m1 in1 q1 u1 k1
    have R := hung G2 P2 m2 in2 q2 u2 k2
    let Z : Nat → Prop := fun x => In U S x ∧ ¬ (G1 x ∨ P1 x) ∧ ¬ (G2 x ∨ P2 x)
    obtain ⟨s1, hs1⟩ := sne
    have mZ : Model adj Z := IH Z (fun x hx => hx.1.1) ⟨s1, hS.sub s1 hs1, fun h => h.1.2 hs1⟩
    have inL : ∀ x, G1 x ∨ P1 x → In U S x := fun x hx => hx.elim (fun h => (in1 x h).1) fun h => (q1 x h).1
    have inR : ∀ x, G2 x ∨ P2 x → In U S x := fun x hx => hx.elim (fun h => (in2 x h).1) fun h => (q2 x h).1
    have clL : ∀ x y, (G1 x ∨ P1 x) → adj x y → In U S y → (G1 y ∨ P1 y) := fun x y hx e iy => hx.elim (fun h => .inl (cl1 x y h (Reach.one (in1 x h).1 e iy))) fun h => by
      have := pcl x y (q1 x h) (Reach.one (q1 x h).1 e iy)
      subst this; exact .inr h
    have clR : ∀ x y, (G2 x ∨ P2 x) → adj x y → In U S y → (G2 y ∨ P2 y) := fun x y hx e iy => hx.elim (fun h => .inl (cl2 x y h (Reach.one (in2 x h).1 e iy))) fun h => by
      have := pcl x y (q2 x h) (Reach.one (q2 x h).1 e iy)
      subst this; exact .inr h
    have dLR : ∀ x, (G1 x ∨ P1 x) → ¬ (G2 x ∨ P2 x) := fun x hx hy => by
      rcases hx with hx | hx <;> rcases hy with hy | hy
      · exact dF x hx hy
      · exact (q2 x hy).2 (in1 x hx).2
      · exact (q1 x hx).2 (in2 x hy).2
      · exact dP x hx hy
    have B := bubble sy N L mZ (fun z hz => hN z hz.1.1) (fun x hx hz => hz.2.1 hx) (fun x hx => (inL x hx).2) (fun x hx => hx.1.2) (fun a z ha hz e => hz.2.1 (clL a z ha e hz.1)) (fun z s hz hs => Classical.byContradiction fun h => by
      have fz : Full adj U S z := Classical.byContradiction fun nfz => (covP z ⟨hz.1, nfz⟩).elim (fun h => hz.2.1 (.inr h)) fun h => hz.2.2 (.inr h)
      exact (covF z s hz.1 fz hs h).elim (fun h => hz.2.1 (.inl h)) fun h => hz.2.2 (.inl h))
    obtain ⟨lo, hi, m⟩ := glue sy B R (fun x hx hy => hx.elim (fun h => dLR x h hy) fun h => h.2.2 hy) (fun x hx => hx.elim (fun h => (inL x h).2) fun h => h.1.2) (fun x hx => (inR x hx).2)
      (fun a b ha hb e => by
        have ia : In U S a := ha.elim (inL a) fun h => h.1
        have h := clR b a hb (sy _ _ e) ia
        exact ha.elim (fun k => dLR a k h) fun k => k.2.2 h)
    refine ⟨lo, hi, m.mono fun x hx => ?_⟩
    by_cases hs : S x
    · exact .inr (.inr hs)
    · by_cases hl : G1 x ∨ P1 x
      · exact .inl (.inl hl)
      · by_cases hr : G2 x ∨ P2 x
        · exact .inr (.inl hr)
        · exact .inl (.inr ⟨⟨hx, hs⟩, hl, hr⟩)
  have nP1 := c2 P1 q1 u1
  have nP2 := c2 P2 q2 u2
  have nF1 := c4 F1 in1 one1
  have nF2 := c4 F2 in2 one2
  by_cases k : Cf P1 F1 ∨ Cf P2 F2
  · have k1 : ¬ Cf P1 F2 := fun h => k.elim (fun h2 => nP1 ⟨h2, h⟩) fun h2 => nF2 ⟨h, h2⟩
    have k2 : ¬ Cf P2 F1 := fun h => k.elim (fun h2 => nF1 ⟨h2, h⟩) fun h2 => nP2 ⟨h, h2⟩
    exact fin F2 F1 m2 m1 in2 in1 cl2 cl1 (fun x h h2 => dF x h2 h) (fun y b h1 h2 h3 h4 => (covF y b h1 h2 h3 h4).symm) k1 k2
  · have k' := not_or.mp k
    exact fin F1 F2 m1 m2 in1 in2 cl1 cl2 dF covF k'.1 k'.2
theorem step (hN : ∀ x, U x → x < N) (IH : ∀ W : Nat → Prop, (∀ x, W x → U x) → (∃ x, U x ∧ ¬ W x) → Model adj W) : Model adj U := by
  by_cases con : ∀ x y, U x → U y → Reach adj U x y
  · by_cases hF : ∃ S, Sep adj U S ∧ ∀ p, Endv adj U p → ¬ ∀ s, S s ↔ NU adj U p s
    · obtain ⟨S, ⟨hS, hE⟩, mn⟩ := least _ (fun S => card S N) hF
      refine case_sep sy ir nr nt hN IH hS ?_ hE mn
      apply Classical.byContradiction
      intro c
      obtain ⟨a, b, ia, ib, nab, _⟩ := hS.two
      exact nab ((con a b ia.1 ib.1).mono fun v hv => ⟨hv, fun h => c ⟨v, h⟩⟩)
    · exact case_end sy ir nr nt hN hF
  · obtain ⟨x, hx⟩ := Classical.not_forall.mp con
    obtain ⟨y, hy⟩ := Classical.not_forall.mp hx
    obtain ⟨ux, hy⟩ := Classical.not_imp.mp hy
    obtain ⟨uy, n⟩ := Classical.not_imp.mp hy
    have mA : Model adj (fun z => Reach adj U x z) := IH _ (fun z hz => hz.right) ⟨y, uy, n⟩
    have mB : Model adj (fun z => U z ∧ ¬ Reach adj U x z) := IH _ (fun z hz => hz.1) ⟨x, ux, fun h => h.2 (.refl ux)⟩
    obtain ⟨lo, hi, m⟩ := glue sy (S := fun _ => False) (endNoS (N := N) mA fun z hz => hN z hz.right) (endNoS (N := N) mB fun z hz => hN z hz.1) (fun z h k => k.2 h) (fun _ _ h => h) (fun _ _ h => h) (fun a b ha hb e => hb.2 (ha.step e hb.1))
    refine ⟨lo, hi, m.mono fun z hz => ?_⟩
    by_cases h : Reach adj U x z
    · exact .inl h
    · exact .inr (.inl ⟨hz, h⟩)
end
/-- the theorem: without shut rings and threes that avoid one another there are hours -/
theorem exists_model {adj : Nat → Nat → Prop} (sy : ∀ a b, adj a b → adj b a) (ir : ∀ a, ¬ adj a a) (nr : NoRing adj) (nt : NoThree adj) (N : Nat) : ∀ (k : Nat) (U : Nat → Prop), (∀ x, U x → x < N) → card U N ≤ k → Model adj U := by
  intro k
  induction k with
  | zero =>
    intro U hN hk
    refine step sy ir nr nt hN fun W hW hx => ?_
    obtain ⟨x, ux, wx⟩ := hx
    have := card_lt hW ux wx N (hN x ux)
    omega
  | succ k ih =>
    intro U hN hk
    refine step sy ir nr nt hN fun W hW hx => ?_
    obtain ⟨x, ux, wx⟩ := hx
    have := card_lt hW ux wx N (hN x ux)
    exact ih W (fun z hz => hN z (hW z hz)) (by omega)
end Gr
end
section
set_option autoImplicit false
set_option linter.all false
namespace Gr
section
variable {adj : Nat → Nat → Prop} (sy : ∀ a b, adj a b → adj b a) {U : Nat → Prop} (inU : ∀ a b, adj a b → U a) {lo hi : Nat → Int} (m : Mdl adj U lo hi)
include sy inU m
theorem Mdl.ne_of (ir : ∀ a, ¬ adj a a) {a b : Nat} (e : adj a b) : lo a ≤ hi b ∧ lo b ≤ hi a ∧ lo a ≤ hi a ∧ lo b ≤ hi b := by
  have h := (m.iff a b (inU a b e) (inU b a (sy _ _ e)) (fun h => ir a (h ▸ e))).mp e
  exact ⟨h.1, h.2, m.le a (inU a b e), m.le b (inU b a (sy _ _ e))⟩
theorem Mdl.off {a b : Nat} (ua : U a) (ub : U b) (ne : a ≠ b) (e : ¬ adj a b) : hi a < lo b ∨ hi b < lo a := by
  have h := fun k => e ((m.iff a b ua ub ne).mpr k)
  apply Classical.byContradiction
  intro c
  exact h ⟨by omega, by omega⟩
theorem Mdl.noRing (ir : ∀ a, ¬ adj a a) : NoRing adj := by
  have key : ∀ v x y, adj v x → adj v y → x ≠ y → ¬ adj x y → Reach adj (fun z => z = x ∨ z = y ∨ (z ≠ v ∧ ¬ adj v z)) x y → ¬ hi x < lo y := by
    intro v x y vx vy xy nxy h lt
    have f1 := m.ne_of sy inU ir vx
    have f2 := m.ne_of sy inU ir vy
    have q := h.closed (C := fun z => z = x ∨ (U z ∧ hi z < lo v)) (.inl rfl) (by
      intro a b ca e rb
      have g := m.ne_of sy inU ir e
      have ub := inU b a (sy _ _ e)
      rcases rb with rfl | rfl | rb
      · exact .inl rfl
      · rcases ca with rfl | ⟨ua, ca⟩
        · exact (nxy e).elim
        · omega
      · refine .inr ⟨ub, ?_⟩
        rcases m.off sy inU (inU v x vx) ub (Ne.symm rb.1) rb.2 with h | h
        · rcases ca with rfl | ⟨ua, ca⟩ <;> omega
        · exact h)
    rcases q with q | q
    · exact xy q.symm
    · omega
  intro v x y vx vy xy nxy h
  rcases m.off sy inU (inU x v (sy _ _ vx)) (inU y v (sy _ _ vy)) xy nxy with c | c
  · exact key v x y vx vy xy nxy h c
  · refine key v y x vy vx (Ne.symm xy) (fun e => nxy (sy _ _ e)) ?_ c
    exact (h.symm sy).mono fun z hz => hz.elim (fun h => .inr (.inl h)) fun h => h.elim .inl fun h => .inr (.inr h)
theorem Mdl.past (ir : ∀ a, ¬ adj a a) {c p q : Nat} (uc : U c) (h : Reach adj (Gr.off adj c) p q) (l : hi p < lo c) : hi q < lo c := by
  refine h.closed (C := fun z => hi z < lo c) l ?_
  intro a b ca e ob
  have g := m.ne_of sy inU ir e
  have := m.le c uc
  rcases m.off sy inU uc (inU b a (sy _ _ e)) (Ne.symm ob.1) ob.2 with h | h <;> omega
theorem Mdl.noThree (ir : ∀ a, ¬ adj a a) : NoThree adj := by
  rintro a b c ⟨h1, h2, h3⟩
  have ab : a ≠ b := h2.left.1
  have ac : a ≠ c := h1.left.1
  have bc : b ≠ c := h1.right.1
  have mem : ∀ {A : Nat → Prop} {x y : Nat}, Reach adj A x y → x ≠ y → U x := fun h ne => by
    rcases h.first with e | ⟨z, e, _⟩
    · exact (ne e).elim
    · exact inU _ _ e
  have ua := mem h1 ab
  have ub := mem h3 bc
  have uc := mem (h2.symm sy) (Ne.symm ac)
  have la := m.le a ua
  have lb := m.le b ub
  have lc := m.le c uc
  have o1 := m.off sy inU ua ub ab (h3.left.2)
  have o2 := m.off sy inU ua uc ac (h3.right.2)
  have o3 := m.off sy inU ub uc bc (h2.right.2)
  have p1 := m.past sy inU ir uc h1
  have p1' := m.past sy inU ir uc (h1.symm sy)
  have p2 := m.past sy inU ir ub h2
  have p2' := m.past sy inU ir ub (h2.symm sy)
  have p3 := m.past sy inU ir ua h3
  have p3' := m.past sy inU ir ua (h3.symm sy)
  omega
end
end Gr
end
section
set_option autoImplicit false
set_option linter.all false
/-! Trees of orders, as plain data -/
namespace Pq
inductive Tree where
  | th (a : Int)
  | any (ps : List Tree)
  | row (ps : List Tree)
deriving Inhabited
mutual
def listed : Tree → List Int
  | .th a => [a]
  | .any ps => listedL ps
  | .row ps => listedL ps
def listedL : List Tree → List Int
  | [] => []
  | p :: ps => listed p ++ listedL ps
end
mutual
def depth : Tree → Nat
  | .th _ => 0
  | .any ps => depthL ps + 1
  | .row ps => depthL ps + 1
def depthL : List Tree → Nat
  | [] => 0
  | p :: ps => max (depth p) (depthL ps)
end
theorem depth_mem {p : Tree} : ∀ {ps : List Tree}, p ∈ ps → depth p ≤ depthL ps
  | q :: ps, h => by
    rcases List.mem_cons.mp h with rfl | h
    · show depth p ≤ max (depth p) (depthL ps); omega
    · have := depth_mem h
      show depth p ≤ max (depth q) (depthL ps); omega
theorem depthL_le {n : Nat} : ∀ {ps : List Tree}, (∀ p ∈ ps, depth p ≤ n) → depthL ps ≤ n
  | [], _ => Nat.zero_le _
  | q :: ps, h => by
    have h1 := h q (by simp)
    have h2 := depthL_le (ps := ps) fun p hp => h p (by simp [hp])
    show max (depth q) (depthL ps) ≤ n; omega
theorem listedL_append : ∀ ps qs : List Tree, listedL (ps ++ qs) = listedL ps ++ listedL qs
  | [], _ => rfl
  | p :: ps, qs => by show listed p ++ listedL (ps ++ qs) = listed p ++ listedL ps ++ listedL qs; rw [listedL_append, List.append_assoc]
theorem mem_listedL {x : Int} : ∀ {ps : List Tree}, x ∈ listedL ps ↔ ∃ p ∈ ps, x ∈ listed p
  | [] => by simp [listedL]
  | p :: ps => by
    show x ∈ listed p ++ listedL ps ↔ _
    rw [List.mem_append, mem_listedL]; simp
theorem listedL_flat : ∀ ps : List Tree, listedL ps = (ps.map listed).flatten
  | [] => rfl
  | p :: ps => by show listed p ++ listedL ps = listed p ++ (ps.map listed).flatten; rw [listedL_flat ps]
theorem listedL_perm {ps qs : List Tree} (h : ps.Perm qs) : (listedL ps).Perm (listedL qs) := by
  induction h with
  | nil => exact .nil
  | cons x _ ih => exact ih.append_left (listed x)
  | swap x y l =>
    show (listed y ++ (listed x ++ listedL l)).Perm (listed x ++ (listed y ++ listedL l))
    rw [← List.append_assoc, ← List.append_assoc]
    exact List.Perm.append_right _ List.perm_append_comm
  | trans _ _ h1 h2 => exact h1.trans h2
inductive Wf : Tree → Prop where
  | th (a : Int) : Wf (.th a)
  | any {ps : List Tree} : 2 ≤ ps.length → (∀ p ∈ ps, Wf p) → Wf (.any ps)
  | row {ps : List Tree} : 3 ≤ ps.length → (∀ p ∈ ps, Wf p) → Wf (.row ps)
mutual
inductive Tells : Tree → List Int → Prop where
  | th (a : Int) : Tells (.th a) [a]
  | any {ps qs : List Tree} {o : List Int} : qs.Perm ps → Sq qs o → Tells (.any ps) o
  | row {ps : List Tree} {o : List Int} : Sq ps o → Tells (.row ps) o
  | rev {ps : List Tree} {o : List Int} : Sq ps.reverse o → Tells (.row ps) o
inductive Sq : List Tree → List Int → Prop where
  | nil : Sq [] []
  | cons {p : Tree} {ps : List Tree} {a b : List Int} : Tells p a → Sq ps b → Sq (p :: ps) (a ++ b)
end
theorem Sq.append {qs : List Tree} {b : List Int} (h2 : Sq qs b) : ∀ {ps : List Tree} {a : List Int}, Sq ps a → Sq (ps ++ qs) (a ++ b)
  | [], _, h => by cases h; exact h2
  | p :: ps, _, h => by
    cases h with
    | cons t s => rw [List.append_assoc]; exact .cons t (Sq.append h2 s)
theorem Sq.split {qs : List Tree} : ∀ {ps : List Tree} {o : List Int}, Sq (ps ++ qs) o → ∃ a b, o = a ++ b ∧ Sq ps a ∧ Sq qs b
  | [], o, h => ⟨[], o, rfl, .nil, h⟩
  | p :: ps, _, h => by
    cases h with
    | cons t s =>
      obtain ⟨a, b, e, h1, h2⟩ := Sq.split s
      exact ⟨_, b, by rw [e, List.append_assoc], .cons t h1, h2⟩
theorem Sq.one {p : Tree} {o : List Int} : Sq [p] o ↔ Tells p o := by
  constructor
  · intro h
    cases h with
    | cons t s => cases s; rw [List.append_nil]; exact t
  · intro h
    have := Sq.cons h .nil
    rwa [List.append_nil] at this
/-- what holds of trees by depth -/
theorem tree_ind {P : Tree → Prop} (h : ∀ t, (∀ ps p, (t = .any ps ∨ t = .row ps) → p ∈ ps → P p) → P t) : ∀ t, P t := by
  have key : ∀ n t, depth t ≤ n → P t := by
    intro n
    induction n with
    | zero =>
      intro t ht
      refine h t fun ps p e _ => ?_
      rcases e with rfl | rfl
      · exact absurd ht (by show ¬ (depthL ps + 1 ≤ 0); omega)
      · exact absurd ht (by show ¬ (depthL ps + 1 ≤ 0); omega)
    | succ n ih =>
      intro t ht
      refine h t fun ps p e hp => ih p ?_
      have := depth_mem hp
      rcases e with rfl | rfl
      · have : depthL ps + 1 ≤ n + 1 := ht
        omega
      · have : depthL ps + 1 ≤ n + 1 := ht
        omega
  exact fun t => key _ t (Nat.le_refl _)
theorem Sq.perm : ∀ {ps : List Tree} {o : List Int}, (∀ p ∈ ps, ∀ o, Tells p o → o.Perm (listed p)) → Sq ps o → o.Perm (listedL ps)
  | [], _, _, h => by cases h; exact .nil
  | p :: ps, _, k, h => by
    cases h with
    | cons t s => exact (k p (by simp) _ t).append (Sq.perm (fun q hq => k q (by simp [hq])) s)
theorem Tells.perm : ∀ t : Tree, ∀ o, Tells t o → o.Perm (listed t) := by
  refine tree_ind ?_
  intro t ih o h
  cases h with
  | th a => exact .refl _
  | any q s => exact (s.perm fun p hp => ih _ p (.inl rfl) (q.mem_iff.mp hp)).trans (listedL_perm q)
  | row s => exact s.perm fun p hp => ih _ p (.inr rfl) hp
  | rev s => exact (s.perm fun p hp => ih _ p (.inr rfl) (List.mem_reverse.mp hp)).trans (listedL_perm (List.reverse_perm _))
theorem Sq.perm' {ps : List Tree} {o : List Int} (h : Sq ps o) : o.Perm (listedL ps) := h.perm fun p _ => Tells.perm p
theorem Sq.self : ∀ {ps : List Tree}, (∀ p ∈ ps, Tells p (listed p)) → Sq ps (listedL ps)
  | [], _ => .nil
  | p :: ps, h => .cons (h p (by simp)) (Sq.self fun q hq => h q (by simp [hq]))
theorem tells_listed : ∀ t : Tree, Tells t (listed t) := by
  refine tree_ind ?_
  intro t ih
  cases t with
  | th a => exact .th a
  | any ps => exact .any (.refl _) (Sq.self fun p hp => ih ps p (.inl rfl) hp)
  | row ps => exact .row (Sq.self fun p hp => ih ps p (.inr rfl) hp)
theorem Sq.rev : ∀ {ps : List Tree} {o : List Int}, (∀ p ∈ ps, ∀ o, Tells p o → Tells p o.reverse) → Sq ps o → Sq ps.reverse o.reverse
  | [], _, _, h => by cases h; exact .nil
  | p :: ps, _, k, h => by
    cases h with
    | cons t s =>
      rw [List.reverse_cons, List.reverse_append]
      exact Sq.append (Sq.one.mpr (k p (by simp) _ t)) (Sq.rev (fun q hq => k q (by simp [hq])) s)
theorem Tells.reverse : ∀ t : Tree, ∀ o, Tells t o → Tells t o.reverse := by
  refine tree_ind ?_
  intro t ih o h
  cases h with
  | th a => exact .th a
  | @any ps qs o q s => exact .any ((List.reverse_perm qs).trans q) (s.rev fun p hp => ih _ p (.inl rfl) (q.mem_iff.mp hp))
  | row s => exact .rev (s.rev fun p hp => ih _ p (.inr rfl) hp)
  | rev s =>
    have := s.rev fun p hp => ih _ p (.inr rfl) (List.mem_reverse.mp hp)
    rw [List.reverse_reverse] at this
    exact .row this
theorem Sq.reverse {ps : List Tree} {o : List Int} (h : Sq ps o) : Sq ps.reverse o.reverse := h.rev fun p _ => Tells.reverse p
theorem Sq.reverse' {ps : List Tree} {o : List Int} (h : Sq ps.reverse o) : Sq ps o.reverse := by
  have := h.reverse
  rwa [List.reverse_reverse] at this
theorem Wf.listed_ne : ∀ t : Tree, Wf t → listed t ≠ [] := by
  refine tree_ind ?_
  intro t ih h
  have key : ∀ ps : List Tree, 2 ≤ ps.length → (∀ p ∈ ps, listed p ≠ []) → listedL ps ≠ [] := by
    intro ps hl hp e
    cases ps with
    | nil => simp at hl
    | cons p ps =>
      have : listed p ++ listedL ps = [] := e
      exact hp p (by simp) (List.append_eq_nil_iff.mp this).1
  cases h with
  | th a => simp [listed]
  | any h2 hp => exact key _ h2 fun p hm => ih _ p (.inl rfl) hm (hp p hm)
  | row h2 hp => exact key _ (by omega) fun p hm => ih _ p (.inr rfl) hm (hp p hm)
/-- the depth is less than the number of things -/
theorem Wf.depth_lt : ∀ t : Tree, Wf t → depth t < (listed t).length := by
  refine tree_ind ?_
  intro t ih h
  have key : ∀ ps : List Tree, (∀ p ∈ ps, depth p < (listed p).length) → ps ≠ [] → depthL ps + ps.length ≤ (listedL ps).length := by
    intro ps
    induction ps with
    | nil => intro _ h; exact (h rfl).elim
    | cons p ps ihp =>
      intro hp _
      have h1 := hp p (by simp)
      have e : (listedL (p :: ps)).length = (listed p).length + (listedL ps).length := by
        show (listed p ++ listedL ps).length = _
        rw [List.length_append]
      have e2 : depthL (p :: ps) = max (depth p) (depthL ps) := rfl
      by_cases c : ps = []
      · subst c; rw [e, e2]; simp [listedL, depthL]; omega
      · have := ihp (fun q hq => hp q (by simp [hq])) c
        rw [e, e2, List.length_cons]
        omega
  cases h with
  | th a => simp [listed, depth]
  | @any ps h2 hp =>
    have := key ps (fun p hm => ih _ p (.inl rfl) hm (hp p hm)) (fun e => by subst e; simp at h2)
    show depthL ps + 1 < (listedL ps).length; omega
  | @row ps h2 hp =>
    have := key ps (fun p hm => ih _ p (.inr rfl) hm (hp p hm)) (fun e => by subst e; simp at h2)
    show depthL ps + 1 < (listedL ps).length; omega
end Pq
end
section
set_option autoImplicit false
set_option linter.all false
namespace Pq
/-! ### the program's functions on trees -/
inductive Sh where
  | no | so | al
deriving DecidableEq, Inhabited
def Sh.rank : Sh → Int
  | .no => 0
  | .so => 1
  | .al => 2
def cnt (S : List Int) (t : Tree) : Nat := ((listed t).filter fun x => decide (x ∈ S)).length
def share (S : List Int) (t : Tree) : Sh := if cnt S t = 0 then .no else if cnt S t = (listed t).length then .al else .so
def withShare (S : List Int) (w : Sh) (ps : List Tree) : List Tree := ps.filter fun p => decide (share S p = w)
def makeAny (ps : List Tree) : Tree := match ps with
  | [p] => p
  | ps => .any ps
def makeRow (ps : List Tree) : Tree := if ps.length < 3 then makeAny ps else .row ps
def optAny (ps : List Tree) : List Tree := if ps = [] then [] else [makeAny ps]
def ascends (ss : List Sh) : Bool := decide ((ss.map Sh.rank).Pairwise (· ≤ ·)) && decide ((ss.map Sh.rank).count 1 < 2)
def splitAny (S : List Int) (f : Tree → Option (List Tree)) (ps : List Tree) : Option (List Tree) :=
  match withShare S .so ps with
  | [] => some (optAny (withShare S .no ps) ++ optAny (withShare S .al ps))
  | [m] => (f m).map fun l => optAny (withShare S .no ps) ++ l ++ optAny (withShare S .al ps)
  | _ => none
/-- the parts of a row, one after the other, those that are mixed split by f -/
def rowParts (S : List Int) (f : Tree → Option (List Tree)) : List Tree → Option (List Tree)
  | [] => some []
  | p :: ps => if share S p = .so then (f p).bind fun l => (rowParts S f ps).map (l ++ ·) else (rowParts S f ps).map (p :: ·)
def told (S : List Int) (ps : List Tree) : List Tree := if ascends (ps.map (share S)) then ps else ps.reverse
def splitRow (S : List Int) (f : Tree → Option (List Tree)) (ps : List Tree) : Option (List Tree) :=
  if ascends ((told S ps).map (share S)) then rowParts S f (told S ps) else none
def split (S : List Int) : Nat → Tree → Option (List Tree)
  | 0, _ => none
  | _ + 1, .th _ => none
  | k + 1, .any ps => splitAny S (split S k) ps
  | k + 1, .row ps => splitRow S (split S k) ps

theorem share_no {S : List Int} {t : Tree} : share S t = .no ↔ ∀ x ∈ listed t, x ∉ S := by
  have h : cnt S t = 0 ↔ ∀ x ∈ listed t, x ∉ S := by
    unfold cnt
    rw [List.length_eq_zero_iff, List.filter_eq_nil_iff]
    constructor
    · intro h x hx hs; exact h x hx (decide_eq_true hs)
    · intro h x hx hs; exact h x hx (of_decide_eq_true hs)
  rw [← h]
  unfold share
  by_cases c : cnt S t = 0
  · simp [c]
  · rw [if_neg c]
    constructor
    · intro e; split at e <;> cases e
    · intro e; exact (c e).elim
theorem share_al {S : List Int} {t : Tree} (ne : listed t ≠ []) : share S t = .al ↔ ∀ x ∈ listed t, x ∈ S := by
  have h : cnt S t = (listed t).length ↔ ∀ x ∈ listed t, x ∈ S := by
    unfold cnt
    rw [List.length_filter_eq_length_iff]
    constructor
    · intro h x hx; exact of_decide_eq_true (h x hx)
    · intro h x hx; exact decide_eq_true (h x hx)
  rw [← h]
  have hp : 0 < (listed t).length := List.length_pos_iff.mpr ne
  unfold share
  by_cases c : cnt S t = 0
  · rw [if_pos c]
    constructor
    · intro e; cases e
    · intro e; omega
  · rw [if_neg c]
    by_cases d : cnt S t = (listed t).length
    · simp [d]
    · rw [if_neg d]
      constructor
      · intro e; cases e
      · intro e; exact (d e).elim
theorem share_so {S : List Int} {t : Tree} (ne : listed t ≠ []) : share S t = .so ↔ (∃ x ∈ listed t, x ∈ S) ∧ ∃ x ∈ listed t, x ∉ S := by
  constructor
  · intro h
    refine ⟨Classical.byContradiction fun c => ?_, Classical.byContradiction fun c => ?_⟩
    · have : share S t = .no := share_no.mpr fun x hx hs => c ⟨x, hx, hs⟩
      rw [h] at this; cases this
    · have : share S t = .al := (share_al ne).mpr fun x hx => Classical.byContradiction fun hs => c ⟨x, hx, hs⟩
      rw [h] at this; cases this
  · intro ⟨⟨x, hx, hs⟩, y, hy, ns⟩
    cases e : share S t with
    | no => exact (share_no.mp e x hx hs).elim
    | al => exact (ns ((share_al ne).mp e y hy)).elim
    | so => rfl
/-! ### what make_any, make_row tell -/
theorem makeAny_tells {ps : List Tree} {o : List Int} : Tells (makeAny ps) o ↔ ∃ qs, qs.Perm ps ∧ Sq qs o := by
  match ps with
  | [] =>
    constructor
    · intro h; cases h with | any q s => exact ⟨_, q, s⟩
    · intro ⟨qs, q, s⟩; exact .any q s
  | [p] =>
    constructor
    · intro h; exact ⟨[p], .refl _, Sq.one.mpr h⟩
    · intro ⟨qs, q, s⟩
      have e := List.perm_singleton.mp q
      subst e
      exact Sq.one.mp s
  | p :: q :: r =>
    constructor
    · intro h; cases h with | any q s => exact ⟨_, q, s⟩
    · intro ⟨qs, q, s⟩; exact .any q s
theorem makeAny_wf {ps : List Tree} (ne : ps ≠ []) (h : ∀ p ∈ ps, Wf p) : Wf (makeAny ps) := by
  match ps, ne, h with
  | [p], _, h => exact h p (by simp)
  | p :: q :: r, _, h => exact .any (by simp) h
theorem makeAny_listed (ps : List Tree) : listed (makeAny ps) = listedL ps := by
  match ps with
  | [] => rfl
  | [p] => show listed p = listed p ++ []; rw [List.append_nil]
  | p :: q :: r => rfl
theorem optAny_sq {ps : List Tree} {o : List Int} : Sq (optAny ps) o ↔ ∃ qs, qs.Perm ps ∧ Sq qs o := by
  unfold optAny
  split
  · rename_i h
    subst h
    constructor
    · intro h; exact ⟨[], .refl _, h⟩
    · intro ⟨qs, q, s⟩
      have e := List.perm_nil.mp q
      subst e; exact s
  · rw [Sq.one]; exact makeAny_tells
theorem part3 (S : List Int) : ∀ ps : List Tree, ps.Perm (withShare S .no ps ++ withShare S .so ps ++ withShare S .al ps)
  | [] => .refl _
  | p :: ps => by
    have ih := part3 S ps
    cases e : share S p with
    | no =>
      have e1 : withShare S .no (p :: ps) = p :: withShare S .no ps := by simp [withShare, e]
      have e2 : withShare S .so (p :: ps) = withShare S .so ps := by simp [withShare, e]
      have e3 : withShare S .al (p :: ps) = withShare S .al ps := by simp [withShare, e]
      rw [e1, e2, e3]
      exact ih.cons p
    | so =>
      have e1 : withShare S .no (p :: ps) = withShare S .no ps := by simp [withShare, e]
      have e2 : withShare S .so (p :: ps) = p :: withShare S .so ps := by simp [withShare, e]
      have e3 : withShare S .al (p :: ps) = withShare S .al ps := by simp [withShare, e]
      rw [e1, e2, e3, List.append_assoc, List.cons_append]
      rw [List.append_assoc] at ih
      exact (ih.cons p).trans List.perm_middle.symm
    | al =>
      have e1 : withShare S .no (p :: ps) = withShare S .no ps := by simp [withShare, e]
      have e2 : withShare S .so (p :: ps) = withShare S .so ps := by simp [withShare, e]
      have e3 : withShare S .al (p :: ps) = p :: withShare S .al ps := by simp [withShare, e]
      rw [e1, e2, e3]
      exact (ih.cons p).trans List.perm_middle.symm
theorem mem_withShare {S : List Int} {w : Sh} {ps : List Tree} {p : Tree} : p ∈ withShare S w ps ↔ p ∈ ps ∧ share S p = w := by
  unfold withShare
  rw [List.mem_filter]
  simp
/-- parts of which the first have none of S, the last are full of it, at most one between is mixed -/
structure Cut (S : List Int) (A M B : List Tree) : Prop where
  a : ∀ p ∈ A, share S p = .no
  m : ∀ p ∈ M, share S p = .so
  one : M.length ≤ 1
  b : ∀ p ∈ B, share S p = .al
theorem Cut.ascends {S : List Int} {A M B : List Tree} (h : Cut S A M B) : ascends ((A ++ M ++ B).map (share S)) = true := by
  unfold Pq.ascends
  rw [Bool.and_eq_true]
  have ra : ∀ x ∈ (A.map (share S)).map Sh.rank, x = 0 := by
    intro x hx
    obtain ⟨s, hs, rfl⟩ := List.mem_map.mp hx
    obtain ⟨p, hp, rfl⟩ := List.mem_map.mp hs
    rw [h.a p hp]; rfl
  have rm : ∀ x ∈ (M.map (share S)).map Sh.rank, x = 1 := by
    intro x hx
    obtain ⟨s, hs, rfl⟩ := List.mem_map.mp hx
    obtain ⟨p, hp, rfl⟩ := List.mem_map.mp hs
    rw [h.m p hp]; rfl
  have rb : ∀ x ∈ (B.map (share S)).map Sh.rank, x = 2 := by
    intro x hx
    obtain ⟨s, hs, rfl⟩ := List.mem_map.mp hx
    obtain ⟨p, hp, rfl⟩ := List.mem_map.mp hs
    rw [h.b p hp]; rfl
  have pw : ∀ (c : Int) (l : List Int), (∀ x ∈ l, x = c) → l.Pairwise (· ≤ ·) := by
    intro c l hl
    refine List.pairwise_iff_forall_sublist.mpr ?_
    intro a b hab
    have := hl a (hab.subset (by simp))
    have := hl b (hab.subset (by simp))
    omega
  constructor
  · refine decide_eq_true ?_
    rw [List.map_append, List.map_append, List.map_append, List.map_append, List.pairwise_append]
    refine ⟨?_, pw 2 _ rb, ?_⟩
    · rw [List.pairwise_append]
      refine ⟨pw 0 _ ra, pw 1 _ rm, fun x hx y hy => ?_⟩
      have := ra x hx; have := rm y hy; omega
    · intro x hx y hy
      have := rb y hy
      rcases List.mem_append.mp hx with h | h
      · have := ra x h; omega
      · have := rm x h; omega
  · refine decide_eq_true ?_
    rw [List.map_append, List.map_append, List.map_append, List.map_append, List.count_append, List.count_append]
    have ca : ((A.map (share S)).map Sh.rank).count 1 = 0 := List.count_eq_zero.mpr fun h => by have := ra _ h; omega
    have cb : ((B.map (share S)).map Sh.rank).count 1 = 0 := List.count_eq_zero.mpr fun h => by have := rb _ h; omega
    have cm : ((M.map (share S)).map Sh.rank).count 1 ≤ M.length := by
      have := List.count_le_length (a := (1 : Int)) (l := (M.map (share S)).map Sh.rank)
      simpa using this
    have := h.one
    omega
theorem cut_of_ascends {S : List Int} : ∀ ps : List Tree, ascends (ps.map (share S)) = true → ∃ A M B, ps = A ++ M ++ B ∧ Cut S A M B
  | [], _ => ⟨[], [], [], rfl, ⟨fun _ h => by simp at h, fun _ h => by simp at h, by simp, fun _ h => by simp at h⟩⟩
  | p :: ps, h => by
    unfold ascends at h
    rw [Bool.and_eq_true] at h
    have h1 := of_decide_eq_true h.1
    have h2 := of_decide_eq_true h.2
    rw [List.map_cons, List.map_cons, List.pairwise_cons] at h1
    rw [List.map_cons, List.map_cons, List.count_cons] at h2
    obtain ⟨A, M, B, e, c⟩ := cut_of_ascends (S := S) ps (by
      unfold ascends
      rw [Bool.and_eq_true]
      exact ⟨decide_eq_true h1.2, decide_eq_true (by split at h2 <;> omega)⟩)
    have ge : ∀ q ∈ ps, (share S p).rank ≤ (share S q).rank := fun q hq => h1.1 _ (List.mem_map.mpr ⟨_, List.mem_map.mpr ⟨q, hq, rfl⟩, rfl⟩)
    cases e2 : share S p with
    | no => exact ⟨p :: A, M, B, by rw [e]; rfl, ⟨fun q hq => by
        rcases List.mem_cons.mp hq with rfl | hq
        · exact e2
        · exact c.a q hq, c.m, c.one, c.b⟩⟩
    | so =>
      have a0 : A = [] := by
        cases A with
        | nil => rfl
        | cons q A =>
          have := ge q (by rw [e]; simp)
          rw [e2, c.a q (by simp)] at this
          exact absurd this (by decide)
      have m0 : M = [] := by
        cases M with
        | nil => rfl
        | cons q M =>
          rw [e2] at h2
          have : 0 < ((ps.map (share S)).map Sh.rank).count 1 := List.count_pos_iff.mpr (List.mem_map.mpr ⟨.so, List.mem_map.mpr ⟨q, by rw [e]; simp, c.m q (by simp)⟩, rfl⟩)
          have e3 : (Sh.rank Sh.so == (1 : Int)) = true := rfl
          rw [e3, if_pos rfl] at h2
          omega
      subst a0; subst m0
      exact ⟨[], [p], B, by rw [e]; rfl, ⟨fun _ h => by simp at h, fun q hq => by rw [List.mem_singleton.mp hq]; exact e2, by simp, c.b⟩⟩
    | al =>
      have a0 : A = [] := by
        cases A with
        | nil => rfl
        | cons q A =>
          have := ge q (by rw [e]; simp)
          rw [e2, c.a q (by simp)] at this
          exact absurd this (by decide)
      have m0 : M = [] := by
        cases M with
        | nil => rfl
        | cons q M =>
          have := ge q (by rw [e]; simp)
          rw [e2, c.m q (by simp)] at this
          exact absurd this (by decide)
      subst a0; subst m0
      exact ⟨[], [], p :: B, by rw [e]; rfl, ⟨fun _ h => by simp at h, fun _ h => by simp at h, by simp, fun q hq => by
        rcases List.mem_cons.mp hq with rfl | hq
        · exact e2
        · exact c.b q hq⟩⟩
theorem rowParts_plain {S : List Int} {f : Tree → Option (List Tree)} {Q : List Tree} : ∀ {A : List Tree}, (∀ p ∈ A, share S p ≠ .so) → rowParts S f (A ++ Q) = (rowParts S f Q).map (A ++ ·)
  | [], _ => by cases e : rowParts S f Q <;> simp [e]
  | p :: A, h => by
    show (if share S p = .so then _ else (rowParts S f (A ++ Q)).map (p :: ·)) = _
    rw [if_neg (h p (by simp)), rowParts_plain fun q hq => h q (by simp [hq])]
    cases rowParts S f Q <;> rfl
theorem rowParts_cut {S : List Int} {f : Tree → Option (List Tree)} {A M B : List Tree} (c : Cut S A M B) : rowParts S f (A ++ M ++ B) =
    match M with
    | [] => some (A ++ B)
    | m :: _ => (f m).map fun l => A ++ l ++ B := by
  have hb : rowParts S f B = some B := by
    have := rowParts_plain (S := S) (f := f) (Q := []) (A := B) (fun p hp e => by rw [c.b p hp] at e; cases e)
    rw [List.append_nil] at this
    rw [this]; simp [rowParts]
  have ha : ∀ p ∈ A, share S p ≠ .so := fun p hp e => by rw [c.a p hp] at e; cases e
  rw [List.append_assoc, rowParts_plain ha]
  match M, c with
  | [], c => rw [List.nil_append, hb]; rfl
  | [m], c =>
    have e : rowParts S f ([m] ++ B) = (f m).bind fun l => (rowParts S f B).map (l ++ ·) := if_pos (c.m m (by simp))
    rw [e, hb]
    show Option.map (A ++ ·) ((f m).bind fun l => Option.map (l ++ ·) (some B)) = (f m).map fun l => A ++ l ++ B
    generalize f m = x
    cases x <;> simp
  | _ :: _ :: _, c => exact absurd c.one (by simp)
end Pq
end
section
set_option autoImplicit false
set_option linter.all false
namespace Pq
def Free (S o : List Int) : Prop := ∀ x ∈ o, x ∉ S
def Inn (S o : List Int) : Prop := ∀ x ∈ o, x ∈ S
theorem Free.append {S a b : List Int} : Free S (a ++ b) ↔ Free S a ∧ Free S b := by
  unfold Free
  constructor
  · intro h; exact ⟨fun x hx => h x (by simp [hx]), fun x hx => h x (by simp [hx])⟩
  · intro ⟨h, k⟩ x hx; exact (List.mem_append.mp hx).elim (h x) (k x)
theorem Inn.append {S a b : List Int} : Inn S (a ++ b) ↔ Inn S a ∧ Inn S b := by
  unfold Inn
  constructor
  · intro h; exact ⟨fun x hx => h x (by simp [hx]), fun x hx => h x (by simp [hx])⟩
  · intro ⟨h, k⟩ x hx; exact (List.mem_append.mp hx).elim (h x) (k x)
theorem Free.perm {S a b : List Int} (h : Free S a) (p : a.Perm b) : Free S b := fun x hx => h x (p.mem_iff.mpr hx)
theorem Inn.perm {S a b : List Int} (h : Inn S a) (p : a.Perm b) : Inn S b := fun x hx => h x (p.mem_iff.mpr hx)
theorem Free.reverse {S a : List Int} (h : Free S a) : Free S a.reverse := fun x hx => h x (List.mem_reverse.mp hx)
theorem Inn.reverse {S a : List Int} (h : Inn S a) : Inn S a.reverse := fun x hx => h x (List.mem_reverse.mp hx)
theorem Free.nil {S : List Int} : Free S [] := fun _ h => by simp at h
theorem Inn.nil {S : List Int} : Inn S [] := fun _ h => by simp at h
/-- all parts free, all parts full -/
theorem Sq.allNo {S : List Int} {ps : List Tree} {o : List Int} (h : Sq ps o) (k : Free S o) : ∀ p ∈ ps, share S p = .no := fun p hp => share_no.mpr fun x hx => (k.perm h.perm') x (mem_listedL.mpr ⟨p, hp, hx⟩)
theorem Sq.allAl {S : List Int} {ps : List Tree} {o : List Int} (h : Sq ps o) (ne : ∀ p ∈ ps, listed p ≠ []) (k : Inn S o) : ∀ p ∈ ps, share S p = .al := fun p hp => (share_al (ne p hp)).mpr fun x hx => (k.perm h.perm') x (mem_listedL.mpr ⟨p, hp, hx⟩)
theorem Sq.freeOf {S : List Int} {ps : List Tree} {o : List Int} (h : Sq ps o) (k : ∀ p ∈ ps, share S p = .no) : Free S o := by
  refine Free.perm (fun x hx => ?_) h.perm'.symm
  obtain ⟨p, hp, hx⟩ := mem_listedL.mp hx
  exact share_no.mp (k p hp) x hx
theorem Sq.innOf {S : List Int} {ps : List Tree} {o : List Int} (h : Sq ps o) (ne : ∀ p ∈ ps, listed p ≠ []) (k : ∀ p ∈ ps, share S p = .al) : Inn S o := by
  refine Inn.perm (fun x hx => ?_) h.perm'.symm
  obtain ⟨p, hp, hx⟩ := mem_listedL.mp hx
  exact (share_al (ne p hp)).mp (k p hp) x hx
theorem Tells.share_so {S : List Int} {t : Tree} {a b : List Int} (h : Tells t (a ++ b)) (na : a ≠ []) (nb : b ≠ []) (fa : Free S a) (ib : Inn S b) : share S t = .so := by
  have ne : listed t ≠ [] := fun e => by
    have := (Tells.perm t _ h).length_eq
    rw [e, List.length_append] at this
    have h1 := List.length_pos_iff.mpr na
    simp only [List.length_nil] at this; omega
  obtain ⟨x, hx⟩ := List.exists_mem_of_ne_nil a na
  obtain ⟨y, hy⟩ := List.exists_mem_of_ne_nil b nb
  exact (Pq.share_so ne).mpr ⟨⟨y, (Tells.perm t _ h).mem_iff.mp (by simp [hy]), ib y hy⟩, x, (Tells.perm t _ h).mem_iff.mp (by simp [hx]), fa x hx⟩
theorem seq_cut {S : List Int} : ∀ {qs : List Tree} {a b : List Int}, (∀ p ∈ qs, listed p ≠ []) → Sq qs (a ++ b) → Free S a → Inn S b →
    ∃ A M B, qs = A ++ M ++ B ∧ Cut S A M B ∧ ((M = [] ∧ Sq A a ∧ Sq B b) ∨ ∃ m a1 a2 b1 b2, M = [m] ∧ a = a1 ++ a2 ∧ b = b1 ++ b2 ∧ Sq A a1 ∧ Tells m (a2 ++ b1) ∧ Sq B b2)
  | [], a, b, _, h, _, _ => by
    generalize e : a ++ b = o at h
    cases h
    obtain ⟨rfl, rfl⟩ := List.append_eq_nil_iff.mp e
    exact ⟨[], [], [], rfl, ⟨fun _ h => by simp at h, fun _ h => by simp at h, by simp, fun _ h => by simp at h⟩, .inl ⟨rfl, .nil, .nil⟩⟩
  | p :: ps, a, b, ne, h, fa, ib => by
    generalize e : a ++ b = o at h
    cases h with
    | @cons _ _ c d t s =>
      have ne' : ∀ q ∈ ps, listed q ≠ [] := fun q hq => ne q (by simp [hq])
      -- p lies ahead of b
      have front : ∀ a', a = c ++ a' → d = a' ++ b → ∃ A M B, p :: ps = A ++ M ++ B ∧ Cut S A M B ∧ ((M = [] ∧ Sq A a ∧ Sq B b) ∨ ∃ m a1 a2 b1 b2, M = [m] ∧ a = a1 ++ a2 ∧ b = b1 ++ b2 ∧ Sq A a1 ∧ Tells m (a2 ++ b1) ∧ Sq B b2) := by
        intro a' e1 e2
        rw [e1] at fa
        have f := Free.append.mp fa
        rw [e2] at s
        obtain ⟨A, M, B, eq, cu, alt⟩ := seq_cut ne' s f.2 ib
        have sh : share S p = .no := share_no.mpr fun x hx => (f.1.perm (Tells.perm p _ t)) x hx
        refine ⟨p :: A, M, B, by rw [eq]; rfl, ⟨fun q hq => by
          rcases List.mem_cons.mp hq with rfl | hq
          · exact sh
          · exact cu.a q hq, cu.m, cu.one, cu.b⟩, ?_⟩
        rcases alt with ⟨m0, sA, sB⟩ | ⟨m, a1, a2, b1, b2, em, ea, eb, sA, tm, sB⟩
        · exact .inl ⟨m0, by rw [e1]; exact .cons t sA, sB⟩
        · exact .inr ⟨m, c ++ a1, a2, b1, b2, em, by rw [e1, ea, List.append_assoc], eb, .cons t sA, tm, sB⟩
      rcases List.append_eq_append_iff.mp e with ⟨a', e1, e2⟩ | ⟨c', e1, e2⟩
      · -- c = a ++ a', b = a' ++ d
        by_cases z : a' = []
        · subst z
          exact front [] (by simpa using e1.symm) (by simpa using e2.symm)
        · have ibd := ib
          rw [e2] at ibd
          have i2 := Inn.append.mp ibd
          have alB := s.allAl ne' i2.2
          by_cases za : a = []
          · subst za
            rw [List.nil_append] at e1
            have sh : share S p = .al := (share_al (ne p (by simp))).mpr fun x hx => (i2.1.perm (e1 ▸ Tells.perm p _ t)) x hx
            refine ⟨[], [], p :: ps, rfl, ⟨fun _ h => by simp at h, fun _ h => by simp at h, by simp, fun q hq => by
              rcases List.mem_cons.mp hq with rfl | hq
              · exact sh
              · exact alB q hq⟩, .inl ⟨rfl, .nil, ?_⟩⟩
            rw [e2, ← e1]; exact .cons t s
          · have sh : share S p = .so := Tells.share_so (e1 ▸ t) za z fa i2.1
            refine ⟨[], [p], ps, rfl, ⟨fun _ h => by simp at h, fun q hq => by rw [List.mem_singleton.mp hq]; exact sh, by simp, alB⟩, .inr ⟨p, [], a, a', d, rfl, rfl, e2, .nil, e1 ▸ t, s⟩⟩
      · exact front c' e1 e2
/-! ### split -/
/-- what a split list is -/
structure SplitOk (S : List Int) (p : Tree) (L : List Tree) : Prop where
  parts : ∃ E F, L = E ++ F ∧ E ≠ [] ∧ F ≠ [] ∧ (∀ e ∈ E, share S e = .no) ∧ ∀ f ∈ F, share S f = .al
  wf : ∀ e ∈ L, Wf e
  sound : ∀ o, Sq L o → Tells p o
theorem optAny_share {S : List Int} {w : Sh} {ps : List Tree} (hw : w ≠ .so) (wf : ∀ p ∈ ps, Wf p) : (∀ e ∈ optAny (withShare S w ps), share S e = w) ∧ (∀ e ∈ optAny (withShare S w ps), Wf e) := by
  unfold optAny
  split
  · exact ⟨fun _ h => by simp at h, fun _ h => by simp at h⟩
  · rename_i ne
    have wf' : ∀ p ∈ withShare S w ps, Wf p := fun p hp => wf p (mem_withShare.mp hp).1
    have wm := makeAny_wf ne wf'
    refine ⟨fun e he => ?_, fun e he => by rw [List.mem_singleton.mp he]; exact wm⟩
    rw [List.mem_singleton.mp he]
    have all : ∀ x ∈ listed (makeAny (withShare S w ps)), ∃ p, p ∈ ps ∧ share S p = w ∧ x ∈ listed p := fun x hx => by
      rw [makeAny_listed] at hx
      obtain ⟨p, hp, hx⟩ := mem_listedL.mp hx
      exact ⟨p, (mem_withShare.mp hp).1, (mem_withShare.mp hp).2, hx⟩
    cases w with
    | so => exact (hw rfl).elim
    | no =>
      exact share_no.mpr fun x hx => by
        obtain ⟨p, _, e, h⟩ := all x hx
        exact share_no.mp e x h
    | al =>
      exact (share_al (Wf.listed_ne _ wm)).mpr fun x hx => by
        obtain ⟨p, hp, e, h⟩ := all x hx
        exact (share_al (Wf.listed_ne _ (wf p hp))).mp e x h
theorem parts_of_so {S : List Int} {ps : List Tree} {t : Tree} (e : listed t = listedL ps) (wf : ∀ p ∈ ps, Wf p) (h : share S t = .so) :
    (∃ p ∈ ps, share S p ≠ .no) ∧ ∃ p ∈ ps, share S p ≠ .al := by
  have ne : listed t ≠ [] := fun e0 => by
    have : share S t = .no := share_no.mpr fun x hx => by rw [e0] at hx; simp at hx
    rw [this] at h; cases h
  obtain ⟨⟨x, hx, hs⟩, y, hy, ns⟩ := (share_so ne).mp h
  rw [e] at hx hy
  obtain ⟨p, hp, hx⟩ := mem_listedL.mp hx
  obtain ⟨q, hq, hy⟩ := mem_listedL.mp hy
  exact ⟨⟨p, hp, fun z => share_no.mp z x hx hs⟩, q, hq, fun z => ns ((share_al (Wf.listed_ne _ (wf q hq))).mp z y hy)⟩
theorem optAny_ne {ps : List Tree} (h : ps ≠ []) : optAny ps ≠ [] := by
  unfold optAny; rw [if_neg h]; simp
theorem withShare_ne {S : List Int} {w : Sh} {ps : List Tree} {p : Tree} (hp : p ∈ ps) (e : share S p = w) : withShare S w ps ≠ [] := fun h => by
  have := mem_withShare.mpr ⟨hp, e⟩
  rw [h] at this; simp at this
theorem Cut.sides {S : List Int} {ps : List Tree} {A M B : List Tree} (c : Cut S A M B) (q : (A ++ M ++ B).Perm ps) : A.Perm (withShare S .no ps) ∧ M.Perm (withShare S .so ps) ∧ B.Perm (withShare S .al ps) := by
  have f : ∀ (w : Sh) (l : List Tree), (∀ p ∈ l, share S p = w) → withShare S w l = l := fun w l h => by
    unfold withShare
    exact List.filter_eq_self.mpr fun p hp => decide_eq_true (h p hp)
  have g : ∀ (w v : Sh) (l : List Tree), v ≠ w → (∀ p ∈ l, share S p = v) → withShare S w l = [] := fun w v l ne h => by
    unfold withShare
    exact List.filter_eq_nil_iff.mpr fun p hp e => ne ((h p hp).symm.trans (of_decide_eq_true e))
  have ap : ∀ (w : Sh) (l r : List Tree), withShare S w (l ++ r) = withShare S w l ++ withShare S w r := fun w l r => List.filter_append _ _
  have pm : ∀ w : Sh, (withShare S w (A ++ M ++ B)).Perm (withShare S w ps) := fun w => q.filter _
  refine ⟨?_, ?_, ?_⟩
  · have := pm .no
    rw [ap, ap, f .no A c.a, g .no .so M (by decide) c.m, g .no .al B (by decide) c.b, List.append_nil, List.append_nil] at this
    exact this
  · have := pm .so
    rw [ap, ap, f .so M c.m, g .so .no A (by decide) c.a, g .so .al B (by decide) c.b, List.append_nil, List.nil_append] at this
    exact this
  · have := pm .al
    rw [ap, ap, f .al B c.b, g .al .no A (by decide) c.a, g .al .so M (by decide) c.m, List.nil_append, List.nil_append] at this
    exact this
theorem split_sound {S : List Int} : ∀ (k : Nat) (p : Tree) (L : List Tree), Wf p → share S p = .so → split S k p = some L → SplitOk S p L
  | 0, p, L, _, _, h => by simp [split] at h
  | k + 1, .th a, L, _, _, h => by simp [split] at h
  | k + 1, .any ps, L, wf, sh, h => by
    have hp : ∀ p ∈ ps, Wf p := by cases wf with | any _ h => exact h
    have h2 : splitAny S (split S k) ps = some L := h
    have p3 := part3 S ps
    obtain ⟨n1, w1⟩ := optAny_share (S := S) (w := .no) (ps := ps) (by decide) hp
    obtain ⟨n2, w2⟩ := optAny_share (S := S) (w := .al) (ps := ps) (by decide) hp
    obtain ⟨⟨q1, hq1, s1⟩, q2, hq2, s2⟩ := parts_of_so (t := .any ps) rfl hp sh
    unfold splitAny at h2
    cases em : withShare S .so ps with
    | nil =>
      rw [em] at h2 p3
      cases h2
      have nso : ∀ q ∈ ps, share S q ≠ .so := fun q hq e => withShare_ne hq e em
      refine ⟨⟨_, _, rfl, optAny_ne (withShare_ne hq2 ?_), optAny_ne (withShare_ne hq1 ?_), n1, n2⟩, fun e he => (List.mem_append.mp he).elim (w1 e) (w2 e), fun o ho => ?_⟩
      · have := nso q2 hq2
        cases e : share S q2 with
        | no => rfl
        | so => exact (this e).elim
        | al => exact (s2 e).elim
      · have := nso q1 hq1
        cases e : share S q1 with
        | al => rfl
        | so => exact (this e).elim
        | no => exact (s1 e).elim
      · obtain ⟨a, b, rfl, sa, sb⟩ := ho.split
        obtain ⟨qa, pa, sa⟩ := optAny_sq.mp sa
        obtain ⟨qb, pb, sb⟩ := optAny_sq.mp sb
        refine .any ?_ (sb.append sa)
        rw [List.append_nil] at p3
        exact (pa.append pb).trans p3.symm
    | cons m r =>
      cases r with
      | cons _ _ => rw [em] at h2; cases h2
      | nil =>
        rw [em] at h2 p3
        simp only [Option.map_eq_some_iff] at h2
        obtain ⟨l, hl, rfl⟩ := h2
        have hm := mem_withShare.mp (show m ∈ withShare S .so ps by rw [em]; simp)
        obtain ⟨⟨E, F, rfl, nE, nF, aE, aF⟩, wl, so⟩ := split_sound k m l (hp m hm.1) hm.2 hl
        refine ⟨⟨optAny (withShare S .no ps) ++ E, F ++ optAny (withShare S .al ps), by simp, by simp [nE], by simp [nF], fun e he => (List.mem_append.mp he).elim (n1 e) (aE e), fun e he => (List.mem_append.mp he).elim (aF e) (n2 e)⟩, fun e he => ?_, fun o ho => ?_⟩
        · rcases List.mem_append.mp he with he | he
          · exact (List.mem_append.mp he).elim (w1 e) (wl e)
          · exact w2 e he
        · obtain ⟨ab, c, rfl, sab, sc⟩ := ho.split
          obtain ⟨a, b, rfl, sa, sb⟩ := sab.split
          obtain ⟨qa, pa, sa⟩ := optAny_sq.mp sa
          obtain ⟨qc, pc, sc⟩ := optAny_sq.mp sc
          have tm := so _ sb
          refine .any ?_ ((sc.append ((Sq.one.mpr tm).append sa)))
          exact ((pa.append (.refl [m])).append pc).trans p3.symm
  | k + 1, .row ps, L, wf, sh, h => by
    have hp : ∀ p ∈ ps, Wf p := by cases wf with | row _ h => exact h
    have h2 : splitRow S (split S k) ps = some L := h
    unfold splitRow at h2
    split at h2
    · rename_i asc
      obtain ⟨A, M, B, e, c⟩ := cut_of_ascends _ asc
      have hq : ∀ q ∈ told S ps, q ∈ ps := fun q hq => by
        unfold told at hq; split at hq
        · exact hq
        · exact List.mem_reverse.mp hq
      have hq' : ∀ q ∈ ps, q ∈ told S ps := fun q hq => by
        unfold told; split
        · exact hq
        · exact List.mem_reverse.mpr hq
      have tells : ∀ o, Sq (told S ps) o → Tells (.row ps) o := fun o ho => by
        unfold told at ho; split at ho
        · exact .row ho
        · exact .rev ho
      obtain ⟨⟨q1, hq1, s1⟩, q2, hq2, s2⟩ := parts_of_so (t := .row ps) rfl hp sh
      have in1 := hq' q1 hq1
      have in2 := hq' q2 hq2
      rw [e] at in1 in2 h2 hq tells
      rw [rowParts_cut c] at h2
      match M, c, h2, in1, in2, hq, tells with
      | [], c, h2, in1, in2, hq, tells =>
        cases h2
        rw [List.append_nil] at in1 in2 hq tells
        refine ⟨⟨A, B, rfl, ?_, ?_, c.a, c.b⟩, fun x hx => hp x (hq x hx), tells⟩
        · rintro rfl; exact s2 (c.b q2 (by simpa using in2))
        · rintro rfl; exact s1 (c.a q1 (by simpa using in1))
      | [m], c, h2, in1, in2, hq, tells =>
        simp only [Option.map_eq_some_iff] at h2
        obtain ⟨l, hl, rfl⟩ := h2
        have hm : m ∈ ps := hq m (by simp)
        obtain ⟨⟨E, F, rfl, nE, nF, aE, aF⟩, wl, so⟩ := split_sound k m l (hp m hm) (c.m m (by simp)) hl
        refine ⟨⟨A ++ E, F ++ B, by simp, by simp [nE], by simp [nF], fun e he => (List.mem_append.mp he).elim (c.a e) (aE e), fun e he => (List.mem_append.mp he).elim (aF e) (c.b e)⟩, fun x hx => ?_, fun o ho => ?_⟩
        · rcases List.mem_append.mp hx with hx | hx
          · rcases List.mem_append.mp hx with hx | hx
            · exact hp x (hq x (by simp [hx]))
            · exact wl x hx
          · exact hp x (hq x (by simp [hx]))
        · obtain ⟨ab, cc, rfl, sab, sc⟩ := ho.split
          obtain ⟨a, b, rfl, sa, sb⟩ := sab.split
          exact tells _ (sc.append ((Sq.one.mpr (so _ sb)).append sa))
      | _ :: _ :: _, c, _, _, _, _, _ => exact absurd c.one (by simp)
    · cases h2
theorem perm_nil_or {M N : List Tree} (p : M.Perm N) (one : M.length ≤ 1) : N = M := by
  match M, one with
  | [], _ => exact List.nil_perm.mp p
  | [m], _ => exact List.singleton_perm.mp p |> Eq.symm
  | _ :: _ :: _, one => exact absurd one (by simp)
theorem split_complete {S : List Int} : ∀ (k : Nat) (p : Tree) (a b : List Int), depth p ≤ k → Wf p → share S p = .so → Tells p (a ++ b) → Free S a → Inn S b → ∃ L, split S k p = some L ∧ Sq L (a ++ b)
  | _, .th x, a, b, _, _, sh, _, _, _ => by
    exfalso
    obtain ⟨⟨y, hy, ys⟩, z, hz, zs⟩ := (share_so (by simp [listed])).mp sh
    have e1 : y = x := by simpa [listed] using hy
    have e2 : z = x := by simpa [listed] using hz
    subst e1; subst e2; exact zs ys
  | 0, .any ps, _, _, d, _, _, _, _, _ => absurd d (by show ¬ (depthL ps + 1 ≤ 0); omega)
  | 0, .row ps, _, _, d, _, _, _, _, _ => absurd d (by show ¬ (depthL ps + 1 ≤ 0); omega)
  | k + 1, .any ps, a, b, d, wf, sh, h, fa, ib => by
    have hp : ∀ p ∈ ps, Wf p := by cases wf with | any _ h => exact h
    generalize eo : a ++ b = o at h
    cases h with
    | @any _ qs _ q s =>
    subst eo
    have ne : ∀ p ∈ qs, listed p ≠ [] := fun p hq => Wf.listed_ne _ (hp p (q.mem_iff.mp hq))
    obtain ⟨A, M, B, e, c, alt⟩ := seq_cut ne s fa ib
    subst e
    obtain ⟨pA, pM, pB⟩ := c.sides q
    have eM := perm_nil_or pM c.one
    show ∃ L, splitAny S (split S k) ps = some L ∧ _
    unfold splitAny
    rw [eM]
    rcases alt with ⟨rfl, sA, sB⟩ | ⟨m, a1, a2, b1, b2, rfl, rfl, rfl, sA, tm, sB⟩
    · exact ⟨_, rfl, (optAny_sq.mpr ⟨B, pB, sB⟩).append (optAny_sq.mpr ⟨A, pA, sA⟩)⟩
    · have hm : m ∈ ps := (mem_withShare.mp (show m ∈ withShare S .so ps by rw [eM]; simp)).1
      have dm := depth_mem hm
      have dd : depthL ps + 1 ≤ k + 1 := d
      obtain ⟨l, hl, sl⟩ := split_complete k m a2 b1 (by omega) (hp m hm) (c.m m (by simp)) tm (Free.append.mp fa).2 (Inn.append.mp ib).1
      refine ⟨optAny (withShare S .no ps) ++ l ++ optAny (withShare S .al ps), by simp only [hl, Option.map_some], ?_⟩
      have := ((optAny_sq.mpr ⟨B, pB, sB⟩).append (sl.append (optAny_sq.mpr ⟨A, pA, sA⟩)))
      simpa using this
  | k + 1, .row ps, a, b, d, wf, sh, h, fa, ib => by
    have hp : ∀ p ∈ ps, Wf p := by cases wf with | row _ h => exact h
    have h3 : 3 ≤ ps.length := by cases wf with | row h _ => exact h
    have dd : depthL ps + 1 ≤ k + 1 := d
    -- for a sequence of the parts that is ascending
    have key : ∀ qs : List Tree, (∀ q ∈ qs, q ∈ ps) → Sq qs (a ++ b) → ascends (qs.map (share S)) = true ∧ ∃ L, rowParts S (split S k) qs = some L ∧ Sq L (a ++ b) := by
      intro qs hq s
      obtain ⟨A, M, B, e, c, alt⟩ := seq_cut (fun p h => Wf.listed_ne _ (hp p (hq p h))) s fa ib
      subst e
      refine ⟨c.ascends, ?_⟩
      rw [rowParts_cut c]
      rcases alt with ⟨rfl, sA, sB⟩ | ⟨m, a1, a2, b1, b2, rfl, rfl, rfl, sA, tm, sB⟩
      · exact ⟨_, rfl, sB.append sA⟩
      · have hm : m ∈ ps := hq m (by simp)
        have dm := depth_mem hm
        obtain ⟨l, hl, sl⟩ := split_complete k m a2 b1 (by omega) (hp m hm) (c.m m (by simp)) tm (Free.append.mp fa).2 (Inn.append.mp ib).1
        refine ⟨A ++ l ++ B, by simp only [hl, Option.map_some], ?_⟩
        have := sB.append (sl.append sA)
        simpa using this
    show ∃ L, splitRow S (split S k) ps = some L ∧ _
    generalize eo : a ++ b = o at h
    cases h with
    | row s =>
      subst eo
      obtain ⟨asc, L, hL, sL⟩ := key ps (fun _ h => h) s
      have et : told S ps = ps := if_pos asc
      exact ⟨L, by unfold splitRow; rw [et, if_pos asc]; exact hL, sL⟩
    | rev s =>
      subst eo
      obtain ⟨asc, L, hL, sL⟩ := key ps.reverse (fun _ h => List.mem_reverse.mp h) s
      have nasc : ascends (ps.map (share S)) = false := by
        -- both ascend: all shares are one, the row's share is not mixed
        cases c : ascends (ps.map (share S)) with
        | false => rfl
        | true =>
          exfalso
          unfold ascends at asc c
          rw [Bool.and_eq_true] at asc c
          have p1 := of_decide_eq_true c.1
          have p2 := of_decide_eq_true asc.1
          have c1 := of_decide_eq_true c.2
          rw [List.map_reverse, List.map_reverse, List.pairwise_reverse] at p2
          have eqs : ∀ (l : List Int), l.Pairwise (· ≤ ·) → l.Pairwise (fun a b => b ≤ a) → ∀ x ∈ l, ∀ y ∈ l, x = y := by
            intro l
            induction l with
            | nil => intro _ _ x hx; simp at hx
            | cons z l ih =>
              intro h1 h2 x hx y hy
              rw [List.pairwise_cons] at h1 h2
              have hz : ∀ w ∈ z :: l, w = z := fun w hw => by
                rcases List.mem_cons.mp hw with rfl | hw
                · rfl
                · have := h1.1 w hw; have := h2.1 w hw; omega
              rw [hz x hx, hz y hy]
          have eq := eqs _ p1 p2
          have rk : ∀ p ∈ ps, ∀ q ∈ ps, share S p = share S q := fun p h1 q h2 => by
            have := eq (share S p).rank (by simp only [List.mem_map]; exact ⟨_, ⟨p, h1, rfl⟩, rfl⟩) (share S q).rank (by simp only [List.mem_map]; exact ⟨_, ⟨q, h2, rfl⟩, rfl⟩)
            cases e1 : share S p <;> cases e2 : share S q <;> rw [e1, e2] at this <;> first | rfl | exact absurd this (by decide)
          obtain ⟨⟨q1, hq1, s1⟩, q2, hq2, s2⟩ := parts_of_so (t := .row ps) rfl hp sh
          have all : ∀ p ∈ ps, share S p = .so := fun p hpp => by
            have e1 := rk p hpp q1 hq1
            have e2 := rk p hpp q2 hq2
            cases e : share S p with
            | so => rfl
            | no => exact (s1 (e1.symm.trans e)).elim
            | al => exact (s2 (e2.symm.trans e)).elim
          have cnt1 : ((ps.map (share S)).map Sh.rank).count 1 = ps.length := by
            have : (ps.map (share S)).map Sh.rank = List.replicate ps.length 1 := by
              rw [List.eq_replicate_iff]
              refine ⟨by simp, fun x hx => ?_⟩
              obtain ⟨y, hy, rfl⟩ := List.mem_map.mp hx
              obtain ⟨p, hpp, rfl⟩ := List.mem_map.mp hy
              rw [all p hpp]; rfl
            rw [this, List.count_replicate_self]
          omega
      have et : told S ps = ps.reverse := by unfold told; rw [nasc]; rfl
      exact ⟨L, by unfold splitRow; rw [et, if_pos asc]; exact hL, sL⟩
end Pq
end
section
set_option autoImplicit false
set_option linter.all false
namespace Pq
/-! ### joined -/
def joinAny (S : List Int) (f : Tree → Option (List Tree)) (ps : List Tree) : Option Tree :=
  match withShare S .so ps with
  | [] => some (makeAny (withShare S .no ps ++ [makeAny (withShare S .al ps)]))
  | [m] => (f m).map fun l => makeAny (withShare S .no ps ++ [makeRow (l ++ optAny (withShare S .al ps))])
  | [m, n] => (f m).bind fun l => (f n).map fun r => makeAny (withShare S .no ps ++ [makeRow (l ++ optAny (withShare S .al ps) ++ r.reverse)])
  | _ => none
/-- the places, counted from i on, of the parts that are touched -/
def touched (S : List Int) : Nat → List Tree → List Nat
  | _, [] => []
  | i, p :: ps => if share S p = .no then touched S (i + 1) ps else i :: touched S (i + 1) ps
def pieces (S : List Int) (f : Tree → Option (List Tree)) (last : Nat) : Nat → List Tree → Option (List Tree)
  | _, [] => some []
  | i, p :: ps => if share S p = .so then (f p).bind fun l => (pieces S f last (i + 1) ps).map ((if i = last then l.reverse else l) ++ ·) else (pieces S f last (i + 1) ps).map (p :: ·)
def joinRow (S : List Int) (f : Tree → Option (List Tree)) (ps : List Tree) : Option Tree :=
  let a := (touched S 0 ps).headD 0
  let b := (touched S 0 ps).getLastD 0
  if ((ps.drop (a + 1)).take (b - (a + 1))).all fun p => decide (share S p = .al) then
    (pieces S f b a ((ps.drop a).take (b + 1 - a))).map fun l => makeRow (ps.take a ++ l ++ ps.drop (b + 1))
  else none
def joinOne (S : List Int) (f : Tree → Option Tree) (ps : List Tree) (j : Nat) : Option (List Tree) := (ps[j]?).bind fun p => (f p).map fun q => ps.take j ++ [q] ++ ps.drop (j + 1)
def join (S : List Int) : Nat → Tree → Option Tree
  | 0, _ => none
  | _ + 1, .th a => some (.th a)
  | k + 1, .any ps => if share S (.any ps) = .al then some (.any ps) else
    match touched S 0 ps with
    | [j] => (joinOne S (join S k) ps j).map .any
    | _ => joinAny S (split S k) ps
  | k + 1, .row ps => if share S (.row ps) = .al then some (.row ps) else
    match touched S 0 ps with
    | [j] => (joinOne S (join S k) ps j).map .row
    | _ => joinRow S (split S k) ps
/-- the things of S stand together -/
def Tog (S o : List Int) : Prop := ∃ a m b, o = a ++ m ++ b ∧ Free S a ∧ Inn S m ∧ Free S b
theorem Tog.reverse {S o : List Int} (h : Tog S o) : Tog S o.reverse := by
  obtain ⟨a, m, b, rfl, fa, im, fb⟩ := h
  exact ⟨b.reverse, m.reverse, a.reverse, by simp, fb.reverse, im.reverse, fa.reverse⟩
theorem touched_append (S : List Int) : ∀ (i : Nat) (ps qs : List Tree), touched S i (ps ++ qs) = touched S i ps ++ touched S (i + ps.length) qs
  | _, [], _ => rfl
  | i, p :: ps, qs => by
    have e : i + (p :: ps).length = i + 1 + ps.length := by simp; omega
    rw [e]
    show (if share S p = .no then touched S (i + 1) (ps ++ qs) else i :: touched S (i + 1) (ps ++ qs)) = (if share S p = .no then touched S (i + 1) ps else i :: touched S (i + 1) ps) ++ _
    rw [touched_append S (i + 1) ps qs]
    split <;> rfl
theorem touched_nil {S : List Int} : ∀ {i : Nat} {ps : List Tree}, touched S i ps = [] ↔ ∀ p ∈ ps, share S p = .no
  | i, [] => by simp [touched]
  | i, p :: ps => by
    show (if share S p = .no then touched S (i + 1) ps else i :: touched S (i + 1) ps) = [] ↔ _
    by_cases e : share S p = .no
    · rw [if_pos e, touched_nil]; simp [e]
    · rw [if_neg e]; simp [e]
theorem touched_len (S : List Int) : ∀ (i : Nat) (ps : List Tree), (touched S i ps).length = (ps.filter fun p => decide (share S p ≠ .no)).length
  | _, [] => rfl
  | i, p :: ps => by
    show (if share S p = .no then touched S (i + 1) ps else i :: touched S (i + 1) ps).length = _
    have ih := touched_len S (i + 1) ps
    by_cases e : share S p = .no
    · rw [if_pos e, ih]; simp [e]
    · rw [if_neg e, List.length_cons, ih]; simp [e]
theorem touched_cons {S : List Int} {p : Tree} {i : Nat} {ps : List Tree} (h : share S p ≠ .no) : touched S i (p :: ps) = i :: touched S (i + 1) ps := if_neg h
/-- one part is touched -/
theorem touched_one {S : List Int} {X Y : List Tree} {q : Tree} (hX : ∀ p ∈ X, share S p = .no) (hq : share S q ≠ .no) (hY : ∀ p ∈ Y, share S p = .no) : touched S 0 (X ++ q :: Y) = [X.length] := by
  rw [touched_append, touched_nil.mpr hX, touched_cons hq, touched_nil.mpr hY]; simp
theorem first_touched {S : List Int} : ∀ {ps : List Tree}, (∃ p ∈ ps, share S p ≠ .no) → ∃ X q Y, ps = X ++ q :: Y ∧ (∀ p ∈ X, share S p = .no) ∧ share S q ≠ .no
  | [], h => by obtain ⟨p, hp, _⟩ := h; simp at hp
  | p :: ps, h => by
    by_cases e : share S p = .no
    · obtain ⟨q, hq, nq⟩ := h
      have hq' : q ∈ ps := by
        rcases List.mem_cons.mp hq with rfl | hq
        · exact (nq e).elim
        · exact hq
      obtain ⟨X, q, Y, rfl, hX, h3⟩ := first_touched ⟨q, hq', nq⟩
      exact ⟨p :: X, q, Y, rfl, fun r hr => by
        rcases List.mem_cons.mp hr with rfl | hr
        · exact e
        · exact hX r hr, h3⟩
    · exact ⟨[], p, ps, rfl, fun _ h => by simp at h, e⟩
theorem last_touched {S : List Int} {ps : List Tree} (h : ∃ p ∈ ps, share S p ≠ .no) : ∃ X q Y, ps = X ++ q :: Y ∧ (∀ p ∈ Y, share S p = .no) ∧ share S q ≠ .no := by
  obtain ⟨p, hp, n⟩ := h
  obtain ⟨X, q, Y, e, hX, hq⟩ := first_touched (ps := ps.reverse) ⟨p, List.mem_reverse.mpr hp, n⟩
  refine ⟨Y.reverse, q, X.reverse, ?_, fun r hr => hX r (List.mem_reverse.mp hr), hq⟩
  have := congrArg List.reverse e
  simpa using this
/-- how the touched parts stand -/
theorem touched_cases (S : List Int) (ps : List Tree) : (∀ p ∈ ps, share S p = .no) ∨ (∃ X q Y, ps = X ++ q :: Y ∧ (∀ p ∈ X, share S p = .no) ∧ share S q ≠ .no ∧ ∀ p ∈ Y, share S p = .no) ∨
    ∃ X q Z r Y, ps = X ++ q :: (Z ++ r :: Y) ∧ (∀ p ∈ X, share S p = .no) ∧ share S q ≠ .no ∧ share S r ≠ .no ∧ ∀ p ∈ Y, share S p = .no := by
  by_cases h : ∃ p ∈ ps, share S p ≠ .no
  · obtain ⟨X, q, W, rfl, hX, hq⟩ := first_touched h
    by_cases k : ∃ p ∈ W, share S p ≠ .no
    · obtain ⟨Z, r, Y, rfl, hY, hr⟩ := last_touched k
      exact .inr (.inr ⟨X, q, Z, r, Y, rfl, hX, hq, hr, hY⟩)
    · refine .inr (.inl ⟨X, q, W, rfl, hX, hq, fun p hp => ?_⟩)
      exact Classical.byContradiction fun n => k ⟨p, hp, n⟩
  · exact .inl fun p hp => Classical.byContradiction fun n => h ⟨p, hp, n⟩
theorem touched_two {S : List Int} {X Z Y : List Tree} {q r : Tree} (hX : ∀ p ∈ X, share S p = .no) (hq : share S q ≠ .no) (hr : share S r ≠ .no) (hY : ∀ p ∈ Y, share S p = .no) :
    touched S 0 (X ++ q :: (Z ++ r :: Y)) = X.length :: (touched S (X.length + 1) Z ++ [X.length + 1 + Z.length]) := by
  rw [touched_append, touched_nil.mpr hX, touched_cons hq, touched_append, touched_cons hr, touched_nil.mpr hY]; simp
theorem pieces_plain {S : List Int} {f : Tree → Option (List Tree)} {last : Nat} {Q : List Tree} : ∀ {i : Nat} {A : List Tree}, (∀ p ∈ A, share S p ≠ .so) → pieces S f last i (A ++ Q) = (pieces S f last (i + A.length) Q).map (A ++ ·)
  | i, [], _ => by cases e : pieces S f last i Q <;> simp [e]
  | i, p :: A, h => by
    have e : i + (p :: A).length = i + 1 + A.length := by simp; omega
    rw [e]
    show (if share S p = .so then _ else (pieces S f last (i + 1) (A ++ Q)).map (p :: ·)) = _
    rw [if_neg (h p (by simp)), pieces_plain fun q hq => h q (by simp [hq])]
    cases pieces S f last (i + 1 + A.length) Q <;> rfl
/-- one end of the stretch -/
def piece (S : List Int) (f : Tree → Option (List Tree)) (rev : Bool) (q : Tree) : Option (List Tree) := if share S q = .so then (f q).map fun l => if rev then l.reverse else l else some [q]
theorem pieces_cons {S : List Int} {f : Tree → Option (List Tree)} {last i : Nat} {q : Tree} {Q : List Tree} : pieces S f last i (q :: Q) = (piece S f (decide (i = last)) q).bind fun l => (pieces S f last (i + 1) Q).map (l ++ ·) := by
  show (if share S q = .so then (f q).bind fun l => (pieces S f last (i + 1) Q).map ((if i = last then l.reverse else l) ++ ·) else (pieces S f last (i + 1) Q).map (q :: ·)) = _
  unfold piece
  by_cases e : share S q = .so
  · rw [if_pos e, if_pos e]
    cases f q <;> simp
  · rw [if_neg e, if_neg e]; simp
theorem joinRow_eq {S : List Int} {f : Tree → Option (List Tree)} {X Z Y : List Tree} {q r : Tree} (hX : ∀ p ∈ X, share S p = .no) (hq : share S q ≠ .no) (hr : share S r ≠ .no) (hY : ∀ p ∈ Y, share S p = .no) :
    joinRow S f (X ++ q :: (Z ++ r :: Y)) = if (∀ p ∈ Z, share S p = .al) then (piece S f false q).bind fun l => (piece S f true r).map fun k => makeRow (X ++ (l ++ Z ++ k) ++ Y) else none := by
  have et := touched_two (Z := Z) hX hq hr hY
  have ea : (touched S 0 (X ++ q :: (Z ++ r :: Y))).headD 0 = X.length := by rw [et]; rfl
  have eb : (touched S 0 (X ++ q :: (Z ++ r :: Y))).getLastD 0 = X.length + 1 + Z.length := by
    rw [et, List.getLastD_cons, List.getLastD_concat]
  unfold joinRow
  simp only [ea, eb]
  have e1 : ((X ++ q :: (Z ++ r :: Y)).drop (X.length + 1)).take (X.length + 1 + Z.length - (X.length + 1)) = Z := by
    rw [show X.length + 1 + Z.length - (X.length + 1) = Z.length by omega, List.drop_append, show X.length + 1 - X.length = 1 by omega, List.drop_eq_nil_of_le (by omega : X.length ≤ X.length + 1)]
    simp
  have e2 : ((X ++ q :: (Z ++ r :: Y)).drop X.length).take (X.length + 1 + Z.length + 1 - X.length) = q :: (Z ++ [r]) := by
    rw [show X.length + 1 + Z.length + 1 - X.length = (Z.length + 1) + 1 by omega]
    simp [List.take_append]
    exact List.take_of_length_le (by omega)
  have e3 : (X ++ q :: (Z ++ r :: Y)).take X.length = X := by simp
  have e4 : (X ++ q :: (Z ++ r :: Y)).drop (X.length + 1 + Z.length + 1) = Y := by
    have : X ++ q :: (Z ++ r :: Y) = (X ++ q :: (Z ++ [r])) ++ Y := by simp
    rw [this]
    exact List.drop_left' (by simp; omega)
  rw [e1, e2, e3, e4]
  by_cases c : ∀ p ∈ Z, share S p = .al
  · rw [if_pos c, if_pos (List.all_eq_true.mpr fun p hp => decide_eq_true (c p hp))]
    have nso : ∀ p ∈ Z, share S p ≠ .so := fun p hp e => by rw [c p hp] at e; cases e
    have d1 : decide (X.length = X.length + 1 + Z.length) = false := decide_eq_false (by omega)
    rw [pieces_cons, d1, pieces_plain nso, pieces_cons]
    simp only [decide_true]
    cases piece S f false q with
    | none => rfl
    | some l =>
      cases piece S f true r with
      | none => rfl
      | some k => simp [pieces]
  · rw [if_neg c, if_neg]
    intro h
    exact c fun p hp => of_decide_eq_true (List.all_eq_true.mp h p hp)
end Pq
end
section
set_option autoImplicit false
set_option linter.all false
namespace Pq
theorem makeRow_tells {L : List Tree} {o : List Int} : Tells (makeRow L) o ↔ Sq L o ∨ Sq L.reverse o := by
  unfold makeRow
  split
  · rename_i h
    rw [makeAny_tells]
    constructor
    · intro ⟨qs, q, s⟩
      match L, h, q with
      | [], _, q => have e := List.perm_nil.mp q; subst e; exact .inl s
      | [a], _, q => have e := List.perm_singleton.mp q; subst e; exact .inl s
      | [a, b], _, q =>
        have : qs = [a, b] ∨ qs = [b, a] := by
          have hl := q.length_eq
          match qs, hl, q with
          | [x, y], _, q =>
            have hx : x ∈ [a, b] := q.mem_iff.mp (by simp)
            rcases List.mem_cons.mp hx with rfl | hx
            · have e := List.perm_singleton.mp ((List.perm_cons x).mp q)
              rw [e]; exact .inl rfl
            · have hx := List.mem_singleton.mp hx
              subst hx
              have q' : [x, y].Perm [x, a] := q.trans (List.Perm.swap x a [])
              have e := List.perm_singleton.mp ((List.perm_cons x).mp q')
              rw [e]; exact .inr rfl
        rcases this with rfl | rfl
        · exact .inl s
        · exact .inr s
      | _ :: _ :: _ :: _, h, _ => simp at h; omega
    · intro h
      rcases h with h | h
      · exact ⟨L, .refl _, h⟩
      · exact ⟨L.reverse, List.reverse_perm _, h⟩
  · constructor
    · intro h
      cases h with
      | row s => exact .inl s
      | rev s => exact .inr s
    · intro h
      exact h.elim .row .rev
theorem makeRow_wf {L : List Tree} (ne : L ≠ []) (h : ∀ p ∈ L, Wf p) : Wf (makeRow L) := by
  unfold makeRow
  split
  · exact makeAny_wf ne h
  · exact .row (by omega) h
/-- a part q of a sequence is told with S together, the others are free -/
theorem around {S : List Int} {A : List Tree} {z : Tree} {qs : List Tree} {o : List Int} (hA : ∀ p ∈ A, share S p = .no) (q : qs.Perm (A ++ [z])) (s : Sq qs o) :
    ∃ X Y x m y, (X ++ Y).Perm A ∧ o = x ++ m ++ y ∧ Sq X x ∧ Tells z m ∧ Sq Y y ∧ Free S x ∧ Free S y := by
  obtain ⟨X, Y, rfl⟩ := List.append_of_mem (q.mem_iff.mpr (show z ∈ A ++ [z] by simp))
  have pXY : (X ++ Y).Perm A := (List.perm_middle.symm.trans (q.trans List.perm_append_comm)).cons_inv
  obtain ⟨x, r, rfl, sX, s2⟩ := s.split
  cases s2 with
  | cons t s3 =>
    refine ⟨X, Y, x, _, _, pXY, (List.append_assoc _ _ _).symm, sX, t, s3, sX.freeOf fun p hp => hA p (pXY.mem_iff.mp (by simp [hp])), s3.freeOf fun p hp => hA p (pXY.mem_iff.mp (by simp [hp]))⟩
theorem Tog.inner {S x m y : List Int} (fx : Free S x) (fy : Free S y) (h : Tog S m) : Tog S (x ++ m ++ y) := by
  obtain ⟨a, c, b, rfl, fa, ic, fb⟩ := h
  exact ⟨x ++ a, c, b ++ y, by simp, Free.append.mpr ⟨fx, fa⟩, ic, Free.append.mpr ⟨fb, fy⟩⟩
theorem joinAny_sound {S : List Int} {k : Nat} {ps : List Tree} {t' : Tree} (wf : ∀ p ∈ ps, Wf p) (h2 : ∃ p ∈ ps, share S p ≠ .no) (h : joinAny S (split S k) ps = some t') :
    Wf t' ∧ ∀ o, Tells t' o → Tells (.any ps) o ∧ Tog S o := by
  have p3 := part3 S ps
  obtain ⟨n2, w2⟩ := optAny_share (S := S) (w := .al) (ps := ps) (by decide) wf
  have hA : ∀ p ∈ withShare S .no ps, share S p = .no := fun p hp => (mem_withShare.mp hp).2
  have hAw : ∀ p ∈ withShare S .no ps, Wf p := fun p hp => wf p (mem_withShare.mp hp).1
  have hF : ∀ p ∈ withShare S .al ps, share S p = .al := fun p hp => (mem_withShare.mp hp).2
  have hFn : ∀ p ∈ withShare S .al ps, listed p ≠ [] := fun p hp => Wf.listed_ne _ (wf p (mem_withShare.mp hp).1)
  -- from what the middle tells
  have fin : ∀ z : Tree, Wf z → (∀ m, Tells z m → ∃ zs, zs.Perm (withShare S .so ps ++ withShare S .al ps) ∧ Sq zs m ∧ Tog S m) → Wf (makeAny (withShare S .no ps ++ [z])) ∧ ∀ o, Tells (makeAny (withShare S .no ps ++ [z])) o → Tells (.any ps) o ∧ Tog S o := by
    intro z wz hz
    refine ⟨makeAny_wf (by simp) fun p hp => (List.mem_append.mp hp).elim (hAw p) fun h => by rw [List.mem_singleton.mp h]; exact wz, fun o ho => ?_⟩
    obtain ⟨qs, q, s⟩ := makeAny_tells.mp ho
    obtain ⟨X, Y, x, m, y, pXY, rfl, sX, tz, sY, fx, fy⟩ := around hA q s
    obtain ⟨zs, pz, sz, tg⟩ := hz m tz
    refine ⟨.any ?_ (sY.append (sz.append sX)), Tog.inner fx fy tg⟩
    refine List.Perm.trans ?_ p3.symm
    rw [List.append_assoc, List.append_assoc]
    have q1 : (X ++ (zs ++ Y)).Perm (X ++ (Y ++ zs)) := List.Perm.append_left _ List.perm_append_comm
    refine q1.trans ?_
    rw [← List.append_assoc]
    exact pXY.append pz
  have alTog : ∀ {o zs}, zs.Perm (withShare S .al ps) → Sq zs o → Inn S o := fun {o zs} pz s =>
    s.innOf (fun p hp => hFn p (pz.mem_iff.mp hp)) fun p hp => hF p (pz.mem_iff.mp hp)
  -- a row of a list whose forward orders are so
  have rowFin : ∀ L : List Tree, L ≠ [] → (∀ p ∈ L, Wf p) → (∀ m, Sq L m → ∃ zs, zs.Perm (withShare S .so ps ++ withShare S .al ps) ∧ Sq zs m ∧ Tog S m) → Wf (makeAny (withShare S .no ps ++ [makeRow L])) ∧ ∀ o, Tells (makeAny (withShare S .no ps ++ [makeRow L])) o → Tells (.any ps) o ∧ Tog S o := by
    intro L ne wL hL
    refine fin (makeRow L) (makeRow_wf ne wL) fun m hm => ?_
    rcases makeRow_tells.mp hm with s | s
    · exact hL m s
    · obtain ⟨zs, pz, sz, tg⟩ := hL m.reverse s.reverse'
      refine ⟨zs.reverse, (List.reverse_perm _).trans pz, ?_, ?_⟩
      · have := sz.reverse; rwa [List.reverse_reverse] at this
      · have := tg.reverse; rwa [List.reverse_reverse] at this
  unfold joinAny at h
  match em : withShare S .so ps with
  | [] =>
    rw [em] at h
    cases h
    rw [em] at fin
    refine fin (makeAny (withShare S .al ps)) (makeAny_wf ?_ fun p hp => wf p (mem_withShare.mp hp).1) fun m hm => ?_
    · obtain ⟨p, hp, np⟩ := h2
      refine withShare_ne hp ?_
      cases e : share S p with
      | no => exact (np e).elim
      | so => exact (withShare_ne hp e em).elim
      | al => rfl
    · obtain ⟨zs, pz, sz⟩ := makeAny_tells.mp hm
      exact ⟨zs, pz, sz, [], m, [], by simp, Free.nil, alTog pz sz, Free.nil⟩
  | [m] =>
    rw [em] at h
    simp only [Option.map_eq_some_iff] at h
    obtain ⟨l, hl, rfl⟩ := h
    have hm := mem_withShare.mp (show m ∈ withShare S .so ps by rw [em]; simp)
    obtain ⟨⟨E, F, rfl, nE, nF, aE, aF⟩, wl, so⟩ := split_sound k m l (wf m hm.1) hm.2 hl
    rw [em] at rowFin
    refine rowFin _ (by simp [nE]) (fun p hp => (List.mem_append.mp hp).elim (wl p) (w2 p)) fun o ho => ?_
    obtain ⟨a, b, rfl, sa, sb⟩ := ho.split
    obtain ⟨zs, pz, sz⟩ := optAny_sq.mp sb
    obtain ⟨e, f, rfl, se, sf⟩ := sa.split
    refine ⟨[m] ++ zs, List.Perm.append_left _ pz, sz.append (Sq.one.mpr (so _ (sf.append se))), e, f ++ b, [], by simp, se.freeOf aE, Inn.append.mpr ⟨sf.innOf (fun p hp => Wf.listed_ne _ (wl p (by simp [hp]))) aF, alTog pz sz⟩, Free.nil⟩
  | [m, n] =>
    rw [em] at h
    simp only [Option.bind_eq_some_iff, Option.map_eq_some_iff] at h
    obtain ⟨l, hl, r, hr, rfl⟩ := h
    have hm := mem_withShare.mp (show m ∈ withShare S .so ps by rw [em]; simp)
    have hn := mem_withShare.mp (show n ∈ withShare S .so ps by rw [em]; simp)
    obtain ⟨⟨E, F, rfl, nE, nF, aE, aF⟩, wl, so⟩ := split_sound k m l (wf m hm.1) hm.2 hl
    obtain ⟨⟨E', F', rfl, nE', nF', aE', aF'⟩, wl', so'⟩ := split_sound k n r (wf n hn.1) hn.2 hr
    rw [em] at rowFin
    refine rowFin _ (by simp [nE]) (fun p hp => ?_) fun o ho => ?_
    · rcases List.mem_append.mp hp with hp | hp
      · exact (List.mem_append.mp hp).elim (wl p) (w2 p)
      · exact wl' p (List.mem_reverse.mp hp)
    · obtain ⟨ab, c, rfl, sab, sc⟩ := ho.split
      obtain ⟨a, b, rfl, sa, sb⟩ := sab.split
      obtain ⟨zs, pz, sz⟩ := optAny_sq.mp sb
      obtain ⟨e, f, rfl, se, sf⟩ := sa.split
      have scr := sc.reverse'
      obtain ⟨e', f', ec, se', sf'⟩ := scr.split
      have ec' : c = f'.reverse ++ e'.reverse := by
        have := congrArg List.reverse ec
        simpa using this
      have tn := (so' _ scr).reverse
      rw [List.reverse_reverse] at tn
      refine ⟨[m] ++ zs ++ [n], ?_, (Sq.one.mpr tn).append (sz.append (Sq.one.mpr (so _ (sf.append se)))), e, f ++ b ++ f'.reverse, e'.reverse, by rw [ec']; simp, se.freeOf aE, ?_, (se'.freeOf aE').reverse⟩
      · show (m :: (zs ++ [n])).Perm (m :: n :: withShare S .al ps)
        exact (List.perm_append_comm.trans (pz.cons n)).cons m
      · refine Inn.append.mpr ⟨Inn.append.mpr ⟨sf.innOf (fun p hp => Wf.listed_ne _ (wl p (by simp [hp]))) aF, alTog pz sz⟩, Inn.reverse (sf'.innOf (fun p hp => Wf.listed_ne _ (wl' p (by simp [hp]))) aF')⟩
  | _ :: _ :: _ :: _ => rw [em] at h; cases h
/-- an end of the stretch: what it tells -/
theorem piece_sound {S : List Int} {k : Nat} {q : Tree} {rev : Bool} {l : List Tree} (wf : Wf q) (hq : share S q ≠ .no) (h : piece S (split S k) rev q = some l) :
    l ≠ [] ∧ (∀ p ∈ l, Wf p) ∧ ∀ o, Sq l o → Tells q o ∧ ∃ a m, Free S a ∧ Inn S m ∧ o = if rev then m ++ a else a ++ m := by
  unfold piece at h
  split at h
  · rename_i sh
    simp only [Option.map_eq_some_iff] at h
    obtain ⟨l', hl, rfl⟩ := h
    obtain ⟨⟨E, F, rfl, nE, nF, aE, aF⟩, wl, so⟩ := split_sound k q l' wf sh hl
    cases rev with
    | false =>
      refine ⟨by simp [nE], by simpa using wl, fun o ho => ?_⟩
      have ho : Sq (E ++ F) o := ho
      refine ⟨so o ho, ?_⟩
      obtain ⟨e, f, rfl, se, sf⟩ := ho.split
      exact ⟨e, f, se.freeOf aE, sf.innOf (fun p hp => Wf.listed_ne _ (wl p (by simp [hp]))) aF, rfl⟩
    | true =>
      refine ⟨by simp [nE], fun p hp => wl p (List.mem_reverse.mp hp), fun o ho => ?_⟩
      have ho : Sq (E ++ F).reverse o := ho
      have hr := ho.reverse'
      have tn := (so _ hr).reverse
      rw [List.reverse_reverse] at tn
      refine ⟨tn, ?_⟩
      obtain ⟨e, f, ec, se, sf⟩ := hr.split
      refine ⟨e.reverse, f.reverse, (se.freeOf aE).reverse, (sf.innOf (fun p hp => Wf.listed_ne _ (wl p (by simp [hp]))) aF).reverse, ?_⟩
      have := congrArg List.reverse ec
      simpa using this
  · rename_i sh
    cases h
    refine ⟨by simp, fun p hp => by rw [List.mem_singleton.mp hp]; exact wf, fun o ho => ?_⟩
    have t := Sq.one.mp ho
    have al : share S q = .al := by
      cases e : share S q with
      | no => exact (hq e).elim
      | so => exact (sh e).elim
      | al => rfl
    refine ⟨t, [], o, Free.nil, fun x hx => (share_al (Wf.listed_ne _ wf)).mp al x ((Tells.perm q o t).mem_iff.mp hx), ?_⟩
    cases rev <;> simp
theorem joinRow_sound {S : List Int} {k : Nat} {ps : List Tree} {t' : Tree} (wf : ∀ p ∈ ps, Wf p) (h3 : 3 ≤ ps.length) {X Z Y : List Tree} {q r : Tree} (e : ps = X ++ q :: (Z ++ r :: Y)) (hX : ∀ p ∈ X, share S p = .no) (hq : share S q ≠ .no) (hr : share S r ≠ .no) (hY : ∀ p ∈ Y, share S p = .no)
    (h : joinRow S (split S k) ps = some t') : Wf t' ∧ ∀ o, Tells t' o → Tells (.row ps) o ∧ Tog S o := by
  subst e
  rw [joinRow_eq hX hq hr hY] at h
  split at h
  · rename_i hZ
    simp only [Option.bind_eq_some_iff, Option.map_eq_some_iff] at h
    obtain ⟨l, hl, r', hr', rfl⟩ := h
    obtain ⟨n1, w1, s1⟩ := piece_sound (wf q (by simp)) hq hl
    obtain ⟨n2, w2, s2⟩ := piece_sound (wf r (by simp)) hr hr'
    refine ⟨makeRow_wf (by simp [n1]) fun p hp => ?_, ?_⟩
    · rcases List.mem_append.mp hp with hp | hp
      · rcases List.mem_append.mp hp with hp | hp
        · exact wf p (by simp [hp])
        · rcases List.mem_append.mp hp with hp | hp
          · rcases List.mem_append.mp hp with hp | hp
            · exact w1 p hp
            · exact wf p (by simp [hp])
          · exact w2 p hp
      · exact wf p (by simp [hp])
    · have key : ∀ o, Sq (X ++ (l ++ Z ++ r') ++ Y) o → Sq (X ++ q :: (Z ++ r :: Y)) o ∧ Tog S o := by
        intro o ho
        obtain ⟨xm, y, rfl, sxm, sy⟩ := ho.split
        obtain ⟨x, m, rfl, sx, sm⟩ := sxm.split
        obtain ⟨ab, c, rfl, sab, sc⟩ := sm.split
        obtain ⟨a, b, rfl, sa, sb⟩ := sab.split
        obtain ⟨ta, a1, a2, fa1, ia2, ea⟩ := s1 a sa
        obtain ⟨tc, c1, c2, fc1, ic2, ec⟩ := s2 c sc
        constructor
        · have := ((sy.append (Sq.one.mpr tc)).append (sb.append (Sq.one.mpr ta)))
          have := this.append sx
          simpa using this
        · have ib : Inn S b := sb.innOf (fun p hp => Wf.listed_ne _ (wf p (by simp [hp]))) hZ
          refine Tog.inner (sx.freeOf hX) (sy.freeOf hY) ⟨a1, a2 ++ b ++ c2, c1, ?_, fa1, Inn.append.mpr ⟨Inn.append.mpr ⟨ia2, ib⟩, ic2⟩, fc1⟩
          rw [ea, ec]; simp
      intro o ho
      rcases makeRow_tells.mp ho with s | s
      · obtain ⟨s', tg⟩ := key o s
        exact ⟨.row s', tg⟩
      · obtain ⟨s', tg⟩ := key o.reverse s.reverse'
        have := s'.reverse
        rw [List.reverse_reverse] at this
        have tg' := tg.reverse
        rw [List.reverse_reverse] at tg'
        exact ⟨.rev this, tg'⟩
  · cases h
theorem joinOne_eq {S : List Int} {f : Tree → Option Tree} {X Y : List Tree} {q : Tree} : joinOne S f (X ++ q :: Y) X.length = (f q).map fun q' => X ++ [q'] ++ Y := by
  unfold joinOne
  have e1 : (X ++ q :: Y)[X.length]? = some q := by simp
  have e2 : (X ++ q :: Y).take X.length = X := by simp
  have e3 : (X ++ q :: Y).drop (X.length + 1) = Y := by
    have : X ++ q :: Y = (X ++ [q]) ++ Y := by simp
    rw [this]; exact List.drop_left' (by simp)
  rw [e1, e2, e3]; rfl
theorem join_sound {S : List Int} : ∀ (k : Nat) (t t' : Tree), Wf t → share S t ≠ .no → join S k t = some t' → Wf t' ∧ ∀ o, Tells t' o → Tells t o ∧ Tog S o
  | 0, _, _, _, _, h => by simp [join] at h
  | k + 1, .th a, t', wf, sh, h => by
    have e : Tree.th a = t' := by simpa [join] using h
    subst e
    refine ⟨wf, fun o ho => ⟨ho, ?_⟩⟩
    cases ho
    by_cases c : a ∈ S
    · exact ⟨[], [a], [], rfl, Free.nil, fun x hx => by rw [List.mem_singleton.mp hx]; exact c, Free.nil⟩
    · exact ⟨[a], [], [], rfl, fun x hx => by rw [List.mem_singleton.mp hx]; exact c, Inn.nil, Free.nil⟩
  | k + 1, .any ps, t', wf, sh, h => by
    have hp : ∀ p ∈ ps, Wf p := by cases wf with | any _ h => exact h
    have h2 : 2 ≤ ps.length := by cases wf with | any h _ => exact h
    have h' : (if share S (.any ps) = .al then some (Tree.any ps) else
      match touched S 0 ps with
      | [j] => (joinOne S (join S k) ps j).map .any
      | _ => joinAny S (split S k) ps) = some t' := h
    split at h'
    · rename_i al
      cases h'
      refine ⟨wf, fun o ho => ⟨ho, [], o, [], by simp, Free.nil, fun x hx => (share_al (Wf.listed_ne _ wf)).mp al x ((Tells.perm _ o ho).mem_iff.mp hx), Free.nil⟩⟩
    · have ex : ∃ p ∈ ps, share S p ≠ .no := Classical.byContradiction fun c => sh (share_no.mpr fun x hx => by
        obtain ⟨p, hpp, hx⟩ := mem_listedL.mp (show x ∈ listedL ps from hx)
        exact share_no.mp (Classical.byContradiction fun n => c ⟨p, hpp, n⟩) x hx)
      rcases touched_cases S ps with c | ⟨X, q, Y, rfl, hX, hq, hY⟩ | ⟨X, q, Z, r, Y, e, hX, hq, hr, hY⟩
      · obtain ⟨p, hpp, np⟩ := ex; exact (np (c p hpp)).elim
      · rw [touched_one hX hq hY] at h'
        simp only [joinOne_eq, Option.map_map] at h'
        simp only [Option.map_eq_some_iff] at h'
        obtain ⟨q', hq', rfl⟩ := h'
        obtain ⟨w', s'⟩ := join_sound k q q' (hp q (by simp)) hq hq'
        refine ⟨.any (by simpa using h2) fun p hpp => ?_, fun o ho => ?_⟩
        · rcases List.mem_append.mp hpp with hpp | hpp
          · rcases List.mem_append.mp hpp with hpp | hpp
            · exact hp p (by simp [hpp])
            · rw [List.mem_singleton.mp hpp]; exact w'
          · exact hp p (by simp [hpp])
        · cases ho with
          | any pq s =>
            have pq' : _ := pq.trans (show (X ++ [q'] ++ Y).Perm ((X ++ Y) ++ [q']) by
              rw [List.append_assoc, List.append_assoc]
              exact List.Perm.append_left _ List.perm_append_comm)
            obtain ⟨X', Y', x, m, y, pXY, rfl, sX, tz, sY, fx, fy⟩ := around (S := S) (A := X ++ Y) (fun p hpp => (List.mem_append.mp hpp).elim (hX p) (hY p)) pq' s
            obtain ⟨tq, tg⟩ := s' m tz
            refine ⟨.any ?_ (sY.append ((Sq.one.mpr tq).append sX)), Tog.inner fx fy tg⟩
            rw [List.append_assoc]
            refine (show (X' ++ ([q] ++ Y')).Perm (q :: (X' ++ Y')) from List.perm_middle).trans ?_
            exact (pXY.cons q).trans List.perm_middle.symm
      · rw [e, touched_two hX hq hr hY, ← e] at h'
        refine joinAny_sound hp ex (k := k) ?_
        revert h'
        generalize touched S (X.length + 1) Z = l
        intro h'
        cases l <;> exact h'
  | k + 1, .row ps, t', wf, sh, h => by
    have hp : ∀ p ∈ ps, Wf p := by cases wf with | row _ h => exact h
    have h3 : 3 ≤ ps.length := by cases wf with | row h _ => exact h
    have h' : (if share S (.row ps) = .al then some (Tree.row ps) else
      match touched S 0 ps with
      | [j] => (joinOne S (join S k) ps j).map .row
      | _ => joinRow S (split S k) ps) = some t' := h
    split at h'
    · rename_i al
      cases h'
      refine ⟨wf, fun o ho => ⟨ho, [], o, [], by simp, Free.nil, fun x hx => (share_al (Wf.listed_ne _ wf)).mp al x ((Tells.perm _ o ho).mem_iff.mp hx), Free.nil⟩⟩
    · have ex : ∃ p ∈ ps, share S p ≠ .no := Classical.byContradiction fun c => sh (share_no.mpr fun x hx => by
        obtain ⟨p, hpp, hx⟩ := mem_listedL.mp (show x ∈ listedL ps from hx)
        exact share_no.mp (Classical.byContradiction fun n => c ⟨p, hpp, n⟩) x hx)
      rcases touched_cases S ps with c | ⟨X, q, Y, rfl, hX, hq, hY⟩ | ⟨X, q, Z, r, Y, e, hX, hq, hr, hY⟩
      · obtain ⟨p, hpp, np⟩ := ex; exact (np (c p hpp)).elim
      · rw [touched_one hX hq hY] at h'
        simp only [joinOne_eq, Option.map_map] at h'
        simp only [Option.map_eq_some_iff] at h'
        obtain ⟨q', hq', rfl⟩ := h'
        obtain ⟨w', s'⟩ := join_sound k q q' (hp q (by simp)) hq hq'
        refine ⟨.row (by simpa using h3) fun p hpp => ?_, fun o ho => ?_⟩
        · rcases List.mem_append.mp hpp with hpp | hpp
          · rcases List.mem_append.mp hpp with hpp | hpp
            · exact hp p (by simp [hpp])
            · rw [List.mem_singleton.mp hpp]; exact w'
          · exact hp p (by simp [hpp])
        · have key : ∀ o, Sq (X ++ [q'] ++ Y) o → Sq (X ++ q :: Y) o ∧ Tog S o := by
            intro o ho
            obtain ⟨xm, y, rfl, sxm, sy⟩ := ho.split
            obtain ⟨x, m, rfl, sx, sm⟩ := sxm.split
            obtain ⟨tq, tg⟩ := s' m (Sq.one.mp sm)
            refine ⟨?_, Tog.inner (sx.freeOf hX) (sy.freeOf hY) tg⟩
            have := (sy.append (Sq.one.mpr tq)).append sx
            simpa using this
          cases ho with
          | row s =>
            obtain ⟨s2, tg⟩ := key o s
            exact ⟨.row s2, tg⟩
          | rev s =>
            obtain ⟨s2, tg⟩ := key o.reverse s.reverse'
            have := s2.reverse
            rw [List.reverse_reverse] at this
            have tg' := tg.reverse
            rw [List.reverse_reverse] at tg'
            exact ⟨.rev this, tg'⟩
      · refine joinRow_sound hp h3 e hX hq hr hY (k := k) ?_
        rw [e, touched_two hX hq hr hY, ← e] at h'
        revert h'
        generalize touched S (X.length + 1) Z = l
        intro h'
        cases l <;> exact h'
end Pq
end
section
set_option autoImplicit false
set_option linter.all false
namespace Pq
/-- a sequence cut at a place of the order -/
theorem Sq.cut : ∀ {qs : List Tree} {u v : List Int}, Sq qs (u ++ v) → (∃ X Y, qs = X ++ Y ∧ Sq X u ∧ Sq Y v) ∨
    ∃ X q Y u1 u2 v1 v2, qs = X ++ q :: Y ∧ u = u1 ++ u2 ∧ v = v1 ++ v2 ∧ u2 ≠ [] ∧ v1 ≠ [] ∧ Sq X u1 ∧ Tells q (u2 ++ v1) ∧ Sq Y v2
  | [], u, v, h => by
    generalize e : u ++ v = o at h
    cases h
    obtain ⟨rfl, rfl⟩ := List.append_eq_nil_iff.mp e
    exact .inl ⟨[], [], rfl, .nil, .nil⟩
  | p :: ps, u, v, h => by
    generalize e : u ++ v = o at h
    cases h with
    | @cons _ _ c d t s =>
      have front : ∀ u', u = c ++ u' → d = u' ++ v → (∃ X Y, p :: ps = X ++ Y ∧ Sq X u ∧ Sq Y v) ∨
          ∃ X q Y u1 u2 v1 v2, p :: ps = X ++ q :: Y ∧ u = u1 ++ u2 ∧ v = v1 ++ v2 ∧ u2 ≠ [] ∧ v1 ≠ [] ∧ Sq X u1 ∧ Tells q (u2 ++ v1) ∧ Sq Y v2 := by
        intro u' e1 e2
        rw [e2] at s
        rcases s.cut with ⟨X, Y, eq, sX, sY⟩ | ⟨X, q, Y, u1, u2, v1, v2, eq, eu, ev, nu, nv, sX, tq, sY⟩
        · exact .inl ⟨p :: X, Y, by rw [eq]; rfl, by rw [e1]; exact .cons t sX, sY⟩
        · exact .inr ⟨p :: X, q, Y, c ++ u1, u2, v1, v2, by rw [eq]; rfl, by rw [e1, eu, List.append_assoc], ev, nu, nv, .cons t sX, tq, sY⟩
      rcases List.append_eq_append_iff.mp e with ⟨a', e1, e2⟩ | ⟨c', e1, e2⟩
      · by_cases z : a' = []
        · subst z
          exact front [] (by simpa using e1.symm) (by simpa using e2.symm)
        · by_cases zu : u = []
          · subst zu
            refine .inl ⟨[], p :: ps, rfl, .nil, ?_⟩
            rw [e2]
            have : c = a' := by simpa using e1
            rw [← this]; exact .cons t s
          · exact .inr ⟨[], p, ps, [], u, a', d, rfl, rfl, e2, zu, z, .nil, e1 ▸ t, s⟩
      · exact front c' e1 e2
theorem Tells.share_ne {S : List Int} {t : Tree} {a m b : List Int} (h : Tells t (a ++ m ++ b)) (nm : m ≠ []) (im : Inn S m) : share S t ≠ .no := fun e => by
  obtain ⟨x, hx⟩ := List.exists_mem_of_ne_nil m nm
  exact share_no.mp e x ((Tells.perm t _ h).mem_iff.mp (by simp [hx])) (im x hx)
/-- where the block of S lies in a sequence -/
theorem block_cut {S : List Int} {qs : List Tree} {a m b : List Int} (ne : ∀ p ∈ qs, listed p ≠ []) (h : Sq qs (a ++ m ++ b)) (fa : Free S a) (im : Inn S m) (nm : m ≠ []) (fb : Free S b) :
    (∃ X q Y a1 a2 b1 b2, qs = X ++ q :: Y ∧ (∀ p ∈ X, share S p = .no) ∧ (∀ p ∈ Y, share S p = .no) ∧ a = a1 ++ a2 ∧ b = b1 ++ b2 ∧ Sq X a1 ∧ Tells q (a2 ++ m ++ b1) ∧ Sq Y b2) ∨
    ∃ X q Z r Y a1 a2 m1 m2 m3 b1 b2, qs = X ++ q :: (Z ++ r :: Y) ∧ (∀ p ∈ X, share S p = .no) ∧ (∀ p ∈ Y, share S p = .no) ∧ (∀ p ∈ Z, share S p = .al) ∧ a = a1 ++ a2 ∧ m = m1 ++ m2 ++ m3 ∧ b = b1 ++ b2 ∧ m1 ≠ [] ∧ m3 ≠ [] ∧
      Sq X a1 ∧ Tells q (a2 ++ m1) ∧ Sq Z m2 ∧ Tells r (m3 ++ b1) ∧ Sq Y b2 := by
  rw [List.append_assoc] at h
  have tne : ∀ {p o}, p ∈ qs → Tells p o → o ≠ [] := fun {p o} hp t e => by
    have := (Tells.perm p o t).length_eq
    rw [e] at this
    exact ne p hp (List.length_eq_zero_iff.mp this.symm)
  rcases h.cut with ⟨X, Y', rfl, sX, sY'⟩ | ⟨X, q, Y', a1, a2, v1, v2, rfl, rfl, ev, na2, nv1, sX, tq, sY'⟩
  · rcases sY'.cut with ⟨Z', Y, rfl, sZ, sY⟩ | ⟨Z', r, Y, m1, m2, b1, b2, rfl, rfl, rfl, nm2, nb1, sZ, tr, sY⟩
    · -- cut between parts at both places
      have alZ := sZ.allAl (fun p hp => ne p (by simp [hp])) im
      match Z', sZ, alZ with
      | [], sZ, _ => cases sZ; exact (nm rfl).elim
      | q :: Z1, sZ, alZ =>
        cases sZ with
        | @cons _ _ c d tq s1 =>
          by_cases e : Z1 = []
          · subst e
            cases s1
            refine .inl ⟨X, q, Y, a, [], [], b, by simp, sX.allNo fa, sY.allNo fb, by simp, by simp, sX, by simpa using tq, sY⟩
          · obtain ⟨Z, r, rfl⟩ : ∃ Z r, Z1 = Z ++ [r] := ⟨Z1.dropLast, Z1.getLast e, (List.dropLast_concat_getLast e).symm⟩
            obtain ⟨m2, m3, rfl, sZ2, sr⟩ := s1.split
            have tr := Sq.one.mp sr
            refine .inr ⟨X, q, Z, r, Y, a, [], c, m2, m3, [], b, by simp, sX.allNo fa, sY.allNo fb, fun p hp => alZ p (by simp [hp]), by simp, by simp, by simp, tne (by simp) tq, tne (by simp) tr, sX, by simpa using tq, sZ2, by simpa using tr, sY⟩
    · have i2 := Inn.append.mp im
      have fb2 := Free.append.mp fb
      have alZ := sZ.allAl (fun p hp => ne p (by simp [hp])) i2.1
      match Z', sZ, alZ with
      | [], sZ, _ =>
        cases sZ
        exact .inl ⟨X, r, Y, a, [], b1, b2, by simp, sX.allNo fa, sY.allNo fb2.2, by simp, rfl, sX, by simpa using tr, sY⟩
      | q :: Z, sZ, alZ =>
        cases sZ with
        | @cons _ _ c d tq s1 =>
          exact .inr ⟨X, q, Z, r, Y, a, [], c, d, m2, b1, b2, by simp, sX.allNo fa, sY.allNo fb2.2, fun p hp => alZ p (by simp [hp]), by simp, by simp, rfl, tne (by simp) tq, nm2, sX, by simpa using tq, s1, tr, sY⟩
  · have fa2 := Free.append.mp fa
    rcases List.append_eq_append_iff.mp ev with ⟨b', e1, e2⟩ | ⟨m', e1, e2⟩
    · -- v1 = m ++ b'
      subst e1
      rw [e2] at fb
      have fb2 := Free.append.mp fb
      exact .inl ⟨X, q, Y', a1, a2, b', v2, rfl, sX.allNo fa2.1, sY'.allNo fb2.2, rfl, e2, sX, by simpa using tq, sY'⟩
    · -- m = v1 ++ m', v2 = m' ++ b
      subst e1; subst e2
      have i2 := Inn.append.mp im
      by_cases z : m' = []
      · subst z
        rw [List.nil_append] at sY'
        exact .inl ⟨X, q, Y', a1, a2, [], b, rfl, sX.allNo fa2.1, sY'.allNo fb, rfl, rfl, sX, by simpa using tq, sY'⟩
      · rcases sY'.cut with ⟨Z', Y, rfl, sZ, sY⟩ | ⟨Z', r, Y, m1, m2, b1, b2, rfl, rfl, rfl, nm2, nb1, sZ, tr, sY⟩
        · have alZ := sZ.allAl (fun p hp => ne p (by simp [hp])) i2.2
          have e : Z' ≠ [] := fun e => by subst e; cases sZ; exact z rfl
          obtain ⟨Z, r, rfl⟩ : ∃ Z r, Z' = Z ++ [r] := ⟨Z'.dropLast, Z'.getLast e, (List.dropLast_concat_getLast e).symm⟩
          obtain ⟨m2, m3, rfl, sZ2, sr⟩ := sZ.split
          have tr := Sq.one.mp sr
          exact .inr ⟨X, q, Z, r, Y, a1, a2, v1, m2, m3, [], b, by simp, sX.allNo fa2.1, sY.allNo fb, fun p hp => alZ p (by simp [hp]), rfl, by simp, by simp, nv1, tne (by simp) tr, sX, tq, sZ2, by simpa using tr, sY⟩
        · have fb2 := Free.append.mp fb
          have i3 := Inn.append.mp i2.2
          have alZ := sZ.allAl (fun p hp => ne p (by simp [hp])) i3.1
          exact .inr ⟨X, q, Z', r, Y, a1, a2, v1, m1, m2, b1, b2, rfl, sX.allNo fa2.1, sY.allNo fb2.2, alZ, rfl, by simp, rfl, nv1, nm2, sX, tq, sZ, tr, sY⟩
/-- which share an end has -/
theorem end_share {S : List Int} {q : Tree} {a m : List Int} (h : Tells q (a ++ m)) (fa : Free S a) (im : Inn S m) (nm : m ≠ []) : (a = [] ∧ share S q = .al) ∨ (a ≠ [] ∧ share S q = .so) := by
  by_cases e : a = []
  · subst e
    refine .inl ⟨rfl, ?_⟩
    have ne : listed q ≠ [] := fun e => by
      have := (Tells.perm q _ h).length_eq
      rw [e] at this
      have h1 := List.length_pos_iff.mpr nm
      simp only [List.nil_append, List.length_nil] at this; omega
    exact (share_al ne).mpr fun x hx => im x (by simpa using (Tells.perm q _ h).mem_iff.mpr hx)
  · exact .inr ⟨e, h.share_so e nm fa im⟩
theorem end_share' {S : List Int} {q : Tree} {m b : List Int} (h : Tells q (m ++ b)) (fb : Free S b) (im : Inn S m) (nm : m ≠ []) : (b = [] ∧ share S q = .al) ∨ (b ≠ [] ∧ share S q = .so) := by
  have h2 : Tells q (b.reverse ++ m.reverse) := by rw [← List.reverse_append]; exact h.reverse
  rcases end_share h2 fb.reverse im.reverse (by simpa using nm) with ⟨e, s⟩ | ⟨e, s⟩
  · exact .inl ⟨by simpa using e, s⟩
  · exact .inr ⟨by simpa using e, s⟩
theorem perm_two {α : Type} {a b c d : α} (h : [a, b].Perm [c, d]) : (a = c ∧ b = d) ∨ (a = d ∧ b = c) := by
  have ha : a ∈ [c, d] := h.mem_iff.mp (by simp)
  rcases List.mem_cons.mp ha with rfl | ha
  · have e := List.perm_singleton.mp ((List.perm_cons a).mp h)
    exact .inl ⟨rfl, by simpa using e⟩
  · have ha := List.mem_singleton.mp ha
    subst ha
    have h' := h.trans (List.Perm.swap a c [])
    have e := List.perm_singleton.mp ((List.perm_cons a).mp h')
    exact .inr ⟨rfl, by simpa using e⟩
theorem joinAny_complete {S : List Int} {k : Nat} {ps : List Tree} (wf : ∀ p ∈ ps, Wf p) (d : depthL ps ≤ k) {X Z Y : List Tree} {q r : Tree} (pq : (X ++ q :: (Z ++ r :: Y)).Perm ps)
    (hX : ∀ p ∈ X, share S p = .no) (hY : ∀ p ∈ Y, share S p = .no) (hZ : ∀ p ∈ Z, share S p = .al) {a1 a2 m1 m2 m3 b1 b2 : List Int} (fa2 : Free S a2) (i1 : Inn S m1) (i2 : Inn S m2) (i3 : Inn S m3) (fb1 : Free S b1) (n1 : m1 ≠ []) (n3 : m3 ≠ [])
    (sX : Sq X a1) (tq : Tells q (a2 ++ m1)) (sZ : Sq Z m2) (tr : Tells r (m3 ++ b1)) (sY : Sq Y b2) :
    ∃ t', joinAny S (split S k) ps = some t' ∧ Tells t' (a1 ++ (a2 ++ m1 ++ m2 ++ (m3 ++ b1)) ++ b2) := by
  have hq : q ∈ ps := pq.mem_iff.mp (by simp)
  have hr : r ∈ ps := pq.mem_iff.mp (by simp)
  have dq := depth_mem hq
  have dr := depth_mem hr
  have tr' : Tells r (b1.reverse ++ m3.reverse) := by rw [← List.reverse_append]; exact tr.reverse
  -- the filters of ps by shares
  have f : ∀ (w : Sh) (l : List Tree), (∀ p ∈ l, share S p = w) → withShare S w l = l := fun w l h => by
    unfold withShare
    exact List.filter_eq_self.mpr fun p hp => decide_eq_true (h p hp)
  have g : ∀ (w v : Sh) (l : List Tree), v ≠ w → (∀ p ∈ l, share S p = v) → withShare S w l = [] := fun w v l ne h => by
    unfold withShare
    exact List.filter_eq_nil_iff.mpr fun p hp e => ne ((h p hp).symm.trans (of_decide_eq_true e))
  have c1 : ∀ {w p l}, share S p = w → withShare S w (p :: l) = p :: withShare S w l := fun {w p l} e => by unfold withShare; rw [List.filter_cons, if_pos (decide_eq_true e)]
  have c0 : ∀ {w p l}, share S p ≠ w → withShare S w (p :: l) = withShare S w l := fun {w p l} e => by unfold withShare; rw [List.filter_cons, if_neg (fun h => e (of_decide_eq_true h))]
  have ap : ∀ (w : Sh) (l r : List Tree), withShare S w (l ++ r) = withShare S w l ++ withShare S w r := fun w l r => List.filter_append _ _
  have pm : ∀ w : Sh, (withShare S w (X ++ q :: (Z ++ r :: Y))).Perm (withShare S w ps) := fun w => pq.filter _
  -- put around
  have fin : ∀ (z : Tree) (m : List Int), share S q ≠ .no → share S r ≠ .no → Tells z m → Tells (makeAny (withShare S .no ps ++ [z])) (a1 ++ m ++ b2) := by
    intro z m nq nr tz
    refine makeAny_tells.mpr ⟨X ++ [z] ++ Y, ?_, sY.append ((Sq.one.mpr tz).append sX)⟩
    have p := pm .no
    rw [ap, c0 nq, ap, c0 nr, f .no X hX, f .no Y hY, g .no .al Z (by decide) hZ, List.nil_append] at p
    rw [List.append_assoc]
    refine (show (X ++ ([z] ++ Y)).Perm ((X ++ Y) ++ [z]) by
      rw [List.append_assoc]; exact List.Perm.append_left _ List.perm_append_comm).trans ?_
    exact List.Perm.append_right _ p
  rcases end_share tq fa2 i1 n1 with ⟨rfl, sq⟩ | ⟨na2, sq⟩ <;> rcases end_share' tr fb1 i3 n3 with ⟨rfl, sr⟩ | ⟨nb1, sr⟩
  · -- both full
    have so := pm .so
    rw [ap, c0 (by rw [sq]; decide), ap, c0 (by rw [sr]; decide), g .so .no X (by decide) hX, g .so .no Y (by decide) hY, g .so .al Z (by decide) hZ] at so
    have es : withShare S .so ps = [] := List.nil_perm.mp so
    have al := pm .al
    rw [ap, c1 sq, ap, c1 sr, g .al .no X (by decide) hX, g .al .no Y (by decide) hY, f .al Z hZ] at al
    refine ⟨_, by unfold joinAny; rw [es], ?_⟩
    refine fin _ _ (by rw [sq]; decide) (by rw [sr]; decide) (makeAny_tells.mpr ⟨_, al, ?_⟩)
    have := ((Sq.one.mpr tr).append sZ).append (Sq.one.mpr tq)
    simpa using this
  · -- the right one is mixed
    have so := pm .so
    rw [ap, c0 (by rw [sq]; decide), ap, c1 sr, g .so .no X (by decide) hX, g .so .no Y (by decide) hY, g .so .al Z (by decide) hZ] at so
    have es : withShare S .so ps = [r] := List.singleton_perm.mp so |>.symm
    have al := pm .al
    rw [ap, c1 sq, ap, c0 (by rw [sr]; decide), g .al .no X (by decide) hX, g .al .no Y (by decide) hY, f .al Z hZ] at al
    obtain ⟨l, hl, sl⟩ := split_complete k r b1.reverse m3.reverse (by omega) (wf r hr) sr tr' fb1.reverse i3.reverse
    refine ⟨makeAny (withShare S .no ps ++ [makeRow (l ++ optAny (withShare S .al ps))]), by unfold joinAny; rw [es]; simp only [hl, Option.map_some], ?_⟩
    refine fin _ _ (by rw [sq]; decide) (by rw [sr]; decide) (makeRow_tells.mpr (.inr ?_))
    have s1 : Sq (optAny (withShare S .al ps)) (m1 ++ m2).reverse := by
      refine optAny_sq.mpr ⟨_, (List.reverse_perm _).trans al, ?_⟩
      have := (sZ.append (Sq.one.mpr tq)).reverse
      simpa using this
    have := (s1.append sl).reverse
    simpa using this
  · -- the left one is mixed
    have so := pm .so
    rw [ap, c1 sq, ap, c0 (by rw [sr]; decide), g .so .no X (by decide) hX, g .so .no Y (by decide) hY, g .so .al Z (by decide) hZ] at so
    have es : withShare S .so ps = [q] := List.singleton_perm.mp so |>.symm
    have al := pm .al
    rw [ap, c0 (by rw [sq]; decide), ap, c1 sr, g .al .no X (by decide) hX, g .al .no Y (by decide) hY, f .al Z hZ] at al
    obtain ⟨l, hl, sl⟩ := split_complete k q a2 m1 (by omega) (wf q hq) sq tq fa2 i1
    refine ⟨makeAny (withShare S .no ps ++ [makeRow (l ++ optAny (withShare S .al ps))]), by unfold joinAny; rw [es]; simp only [hl, Option.map_some], ?_⟩
    refine fin _ _ (by rw [sq]; decide) (by rw [sr]; decide) (makeRow_tells.mpr (.inl ?_))
    have s1 : Sq (optAny (withShare S .al ps)) (m2 ++ m3) := by
      refine optAny_sq.mpr ⟨_, al, ?_⟩
      have := (Sq.one.mpr tr).append sZ
      simpa using this
    have := s1.append sl
    simpa using this
  · -- both mixed
    have so := pm .so
    rw [ap, c1 sq, ap, c1 sr, g .so .no X (by decide) hX, g .so .no Y (by decide) hY, g .so .al Z (by decide) hZ] at so
    have al := pm .al
    rw [ap, c0 (by rw [sq]; decide), ap, c0 (by rw [sr]; decide), g .al .no X (by decide) hX, g .al .no Y (by decide) hY, f .al Z hZ] at al
    have al' : Z.Perm (withShare S .al ps) := by simpa using al
    obtain ⟨l, hl, sl⟩ := split_complete k q a2 m1 (by omega) (wf q hq) sq tq fa2 i1
    obtain ⟨l', hl', sl'⟩ := split_complete k r b1.reverse m3.reverse (by omega) (wf r hr) sr tr' fb1.reverse i3.reverse
    have len := so.length_eq
    have slr : Sq l'.reverse (m3 ++ b1) := by
      have := sl'.reverse
      simpa using this
    have s1 : Sq (optAny (withShare S .al ps)) m2 := optAny_sq.mpr ⟨_, al', sZ⟩
    match es : withShare S .so ps, len with
    | [x, y], _ =>
      rw [es] at so
      rcases perm_two (show [q, r].Perm [x, y] by simpa using so) with ⟨rfl, rfl⟩ | ⟨rfl, rfl⟩
      · refine ⟨makeAny (withShare S .no ps ++ [makeRow (l ++ optAny (withShare S .al ps) ++ l'.reverse)]), by unfold joinAny; rw [es]; simp only [hl, hl', Option.map_some, Option.bind_some], ?_⟩
        refine fin _ _ (by rw [sq]; decide) (by rw [sr]; decide) (makeRow_tells.mpr (.inl ?_))
        exact slr.append (s1.append sl)
      · refine ⟨makeAny (withShare S .no ps ++ [makeRow (l' ++ optAny (withShare S .al ps) ++ l.reverse)]), by unfold joinAny; rw [es]; simp only [hl, hl', Option.map_some, Option.bind_some], ?_⟩
        refine fin _ _ (by rw [sq]; decide) (by rw [sr]; decide) (makeRow_tells.mpr (.inr ?_))
        have s2 : Sq (optAny (withShare S .al ps)) m2.reverse := optAny_sq.mpr ⟨_, (List.reverse_perm _).trans al', sZ.reverse⟩
        have := ((sl.reverse).append (s2.append sl')).reverse
        simpa using this
theorem piece_left {S : List Int} {k : Nat} {q : Tree} {a m : List Int} (wf : Wf q) (d : depth q ≤ k) (tq : Tells q (a ++ m)) (fa : Free S a) (im : Inn S m) (nm : m ≠ []) : ∃ l, piece S (split S k) false q = some l ∧ Sq l (a ++ m) := by
  unfold piece
  rcases end_share tq fa im nm with ⟨rfl, sq⟩ | ⟨_, sq⟩
  · rw [if_neg (by rw [sq]; decide)]; exact ⟨_, rfl, Sq.one.mpr tq⟩
  · rw [if_pos sq]
    obtain ⟨l, hl, sl⟩ := split_complete k q a m d wf sq tq fa im
    exact ⟨l, by rw [hl]; rfl, sl⟩
theorem piece_right {S : List Int} {k : Nat} {q : Tree} {m b : List Int} (wf : Wf q) (d : depth q ≤ k) (tq : Tells q (m ++ b)) (fb : Free S b) (im : Inn S m) (nm : m ≠ []) : ∃ l, piece S (split S k) true q = some l ∧ Sq l (m ++ b) := by
  unfold piece
  have tr' : Tells q (b.reverse ++ m.reverse) := by rw [← List.reverse_append]; exact tq.reverse
  rcases end_share' tq fb im nm with ⟨rfl, sq⟩ | ⟨_, sq⟩
  · rw [if_neg (by rw [sq]; decide)]; exact ⟨_, rfl, Sq.one.mpr tq⟩
  · rw [if_pos sq]
    obtain ⟨l, hl, sl⟩ := split_complete k q b.reverse m.reverse d wf sq tr' fb.reverse im.reverse
    refine ⟨l.reverse, by rw [hl]; rfl, ?_⟩
    have := sl.reverse
    simpa using this
theorem joinRow_complete {S : List Int} {k : Nat} {X Z Y : List Tree} {q r : Tree} (wf : ∀ p ∈ X ++ q :: (Z ++ r :: Y), Wf p) (d : depthL (X ++ q :: (Z ++ r :: Y)) ≤ k)
    (hX : ∀ p ∈ X, share S p = .no) (hY : ∀ p ∈ Y, share S p = .no) (hZ : ∀ p ∈ Z, share S p = .al) {a1 a2 m1 m2 m3 b1 b2 : List Int} (fa2 : Free S a2) (i1 : Inn S m1) (i2 : Inn S m2) (i3 : Inn S m3) (fb1 : Free S b1) (n1 : m1 ≠ []) (n3 : m3 ≠ [])
    (sX : Sq X a1) (tq : Tells q (a2 ++ m1)) (sZ : Sq Z m2) (tr : Tells r (m3 ++ b1)) (sY : Sq Y b2) :
    ∃ t', joinRow S (split S k) (X ++ q :: (Z ++ r :: Y)) = some t' ∧ Tells t' (a1 ++ (a2 ++ m1 ++ m2 ++ (m3 ++ b1)) ++ b2) := by
  have dq := depth_mem (show q ∈ X ++ q :: (Z ++ r :: Y) by simp)
  have dr := depth_mem (show r ∈ X ++ q :: (Z ++ r :: Y) by simp)
  have nq : share S q ≠ .no := by rcases end_share tq fa2 i1 n1 with ⟨_, e⟩ | ⟨_, e⟩ <;> rw [e] <;> decide
  have nr : share S r ≠ .no := by rcases end_share' tr fb1 i3 n3 with ⟨_, e⟩ | ⟨_, e⟩ <;> rw [e] <;> decide
  obtain ⟨l, hl, sl⟩ := piece_left (wf q (by simp)) (by omega) tq fa2 i1 n1 (k := k)
  obtain ⟨l', hl', sl'⟩ := piece_right (wf r (by simp)) (by omega) tr fb1 i3 n3 (k := k)
  refine ⟨makeRow (X ++ (l ++ Z ++ l') ++ Y), by rw [joinRow_eq hX nq nr hY, if_pos hZ, hl, hl']; rfl, makeRow_tells.mpr (.inl ?_)⟩
  exact sY.append ((sl'.append (sZ.append sl)).append sX)
theorem join_complete {S : List Int} : ∀ (k : Nat) (t : Tree) (o : List Int), depth t < k → Wf t → share S t ≠ .no → Tells t o → Tog S o → ∃ t', join S k t = some t' ∧ Tells t' o
  | 0, _, _, d, _, _, _, _ => absurd d (by omega)
  | k + 1, .th a, o, _, _, _, h, _ => ⟨.th a, rfl, h⟩
  | k + 1, .any ps, o, d, wf, sh, h, tg => by
    have hp : ∀ p ∈ ps, Wf p := by cases wf with | any _ h => exact h
    have dd : depthL ps + 1 < k + 1 := d
    show ∃ t', (if share S (.any ps) = .al then some (Tree.any ps) else
      match touched S 0 ps with
      | [j] => (joinOne S (join S k) ps j).map .any
      | _ => joinAny S (split S k) ps) = some t' ∧ _
    by_cases al : share S (.any ps) = .al
    · rw [if_pos al]; exact ⟨_, rfl, h⟩
    · rw [if_neg al]
      obtain ⟨a, m, b, rfl, fa, im, fb⟩ := tg
      have nm : m ≠ [] := fun e => by
        subst e
        refine sh (share_no.mpr fun x hx => ?_)
        have := (Tells.perm _ _ h).mem_iff.mpr hx
        exact (Free.append.mpr ⟨Free.append.mpr ⟨fa, Free.nil⟩, fb⟩) x this
      generalize eo : a ++ m ++ b = o at h
      cases h with
      | @any _ qs _ pq s =>
        subst eo
        have ne : ∀ p ∈ qs, listed p ≠ [] := fun p hq => Wf.listed_ne _ (hp p (pq.mem_iff.mp hq))
        rcases block_cut ne s fa im nm fb with ⟨X, q, Y, a1, a2, b1, b2, rfl, hX, hY, rfl, rfl, sX, tq, sY⟩ | ⟨X, q, Z, r, Y, a1, a2, m1, m2, m3, b1, b2, rfl, hX, hY, hZ, rfl, rfl, rfl, n1, n3, sX, tq, sZ, tr, sY⟩
        · have nq := tq.share_ne nm im
          -- ps has one touched part, q
          have len : (touched S 0 ps).length = 1 := by
            rw [touched_len, ← (pq.filter _).length_eq, ← touched_len S 0, touched_one hX nq hY]; rfl
          rcases touched_cases S ps with c | ⟨X', q', Y', rfl, hX', hq', hY'⟩ | ⟨X', q', Z', r', Y', e, hX', hq', hr', hY'⟩
          · rw [touched_nil.mpr c] at len; simp at len
          · have eq : q = q' := by
              have : q ∈ X' ++ q' :: Y' := pq.mem_iff.mp (by simp)
              rcases List.mem_append.mp this with h | h
              · exact (nq (hX' q h)).elim
              · rcases List.mem_cons.mp h with h | h
                · exact h
                · exact (nq (hY' q h)).elim
            subst eq
            have pXY : (X ++ Y).Perm (X' ++ Y') := (List.perm_middle.symm.trans (pq.trans List.perm_middle)).cons_inv
            have dq := depth_mem (show q ∈ X' ++ q :: Y' by simp)
            obtain ⟨q2, hq2, tq2⟩ := join_complete k q _ (by omega) (hp q (by simp)) nq tq ⟨a2, m, b1, rfl, (Free.append.mp fa).2, im, (Free.append.mp fb).1⟩
            rw [touched_one hX' nq hY']
            refine ⟨.any (X' ++ [q2] ++ Y'), by simp only [joinOne_eq, hq2, Option.map_some], .any (qs := X ++ [q2] ++ Y) ?_ ?_⟩
            · rw [List.append_assoc, List.append_assoc]
              exact (List.perm_middle (l₁ := X)).trans ((pXY.cons q2).trans (List.perm_middle (l₁ := X')).symm)
            · have := sY.append ((Sq.one.mpr tq2).append sX)
              simpa using this
          · rw [e, touched_two hX' hq' hr' hY'] at len; simp at len
        · have i1 := (Inn.append.mp (Inn.append.mp im).1).1
          have i2 := (Inn.append.mp (Inn.append.mp im).1).2
          have i3 := (Inn.append.mp im).2
          have nq : share S q ≠ .no := by rcases end_share tq (Free.append.mp fa).2 i1 n1 with ⟨_, e⟩ | ⟨_, e⟩ <;> rw [e] <;> decide
          have nr : share S r ≠ .no := by rcases end_share' tr (Free.append.mp fb).1 i3 n3 with ⟨_, e⟩ | ⟨_, e⟩ <;> rw [e] <;> decide
          have len : 2 ≤ (touched S 0 ps).length := by
            rw [touched_len, ← (pq.filter _).length_eq, ← touched_len S 0, touched_two hX nq nr hY]; simp
          obtain ⟨t', ht', tt'⟩ := joinAny_complete (k := k) hp (by omega) pq hX hY hZ (Free.append.mp fa).2 i1 i2 i3 (Free.append.mp fb).1 n1 n3 sX tq sZ tr sY
          refine ⟨t', ?_, by simpa using tt'⟩
          revert len
          generalize touched S 0 ps = l
          intro len
          match l, len with
          | _ :: _ :: _, _ => exact ht'
  | k + 1, .row ps, o, d, wf, sh, h, tg => by
    have hp : ∀ p ∈ ps, Wf p := by cases wf with | row _ h => exact h
    have dd : depthL ps + 1 < k + 1 := d
    show ∃ t', (if share S (.row ps) = .al then some (Tree.row ps) else
      match touched S 0 ps with
      | [j] => (joinOne S (join S k) ps j).map .row
      | _ => joinRow S (split S k) ps) = some t' ∧ _
    by_cases al : share S (.row ps) = .al
    · rw [if_pos al]; exact ⟨_, rfl, h⟩
    · rw [if_neg al]
      have key : ∀ o, Sq ps o → Tog S o → ∃ t', (match touched S 0 ps with
          | [j] => (joinOne S (join S k) ps j).map .row
          | _ => joinRow S (split S k) ps) = some t' ∧ Tells t' o := by
        intro o s tg
        obtain ⟨a, m, b, rfl, fa, im, fb⟩ := tg
        have nm : m ≠ [] := fun e => by
          subst e
          refine sh (share_no.mpr fun x hx => ?_)
          have := (Tells.perm _ _ (Tells.row s)).mem_iff.mpr hx
          exact (Free.append.mpr ⟨Free.append.mpr ⟨fa, Free.nil⟩, fb⟩) x this
        rcases block_cut (fun p hq => Wf.listed_ne _ (hp p hq)) s fa im nm fb with ⟨X, q, Y, a1, a2, b1, b2, rfl, hX, hY, rfl, rfl, sX, tq, sY⟩ | ⟨X, q, Z, r, Y, a1, a2, m1, m2, m3, b1, b2, rfl, hX, hY, hZ, rfl, rfl, rfl, n1, n3, sX, tq, sZ, tr, sY⟩
        · have nq := tq.share_ne nm im
          have dq := depth_mem (show q ∈ X ++ q :: Y by simp)
          obtain ⟨q2, hq2, tq2⟩ := join_complete k q _ (by omega) (hp q (by simp)) nq tq ⟨a2, m, b1, rfl, (Free.append.mp fa).2, im, (Free.append.mp fb).1⟩
          rw [touched_one hX nq hY]
          refine ⟨.row (X ++ [q2] ++ Y), by simp only [joinOne_eq, hq2, Option.map_some], .row ?_⟩
          have := sY.append ((Sq.one.mpr tq2).append sX)
          simpa using this
        · have i1 := (Inn.append.mp (Inn.append.mp im).1).1
          have i2 := (Inn.append.mp (Inn.append.mp im).1).2
          have i3 := (Inn.append.mp im).2
          have nq : share S q ≠ .no := by rcases end_share tq (Free.append.mp fa).2 i1 n1 with ⟨_, e⟩ | ⟨_, e⟩ <;> rw [e] <;> decide
          have nr : share S r ≠ .no := by rcases end_share' tr (Free.append.mp fb).1 i3 n3 with ⟨_, e⟩ | ⟨_, e⟩ <;> rw [e] <;> decide
          obtain ⟨t', ht', tt'⟩ := joinRow_complete (k := k) hp (by omega) hX hY hZ (Free.append.mp fa).2 i1 i2 i3 (Free.append.mp fb).1 n1 n3 sX tq sZ tr sY
          refine ⟨t', ?_, by simpa using tt'⟩
          have len : 2 ≤ (touched S 0 (X ++ q :: (Z ++ r :: Y))).length := by
            rw [touched_two hX nq nr hY]; simp
          revert len
          generalize touched S 0 (X ++ q :: (Z ++ r :: Y)) = l
          intro len
          match l, len with
          | _ :: _ :: _, _ => exact ht'
      cases h with
      | row s => exact key o s tg
      | rev s =>
        obtain ⟨t', e, tt⟩ := key o.reverse s.reverse' tg.reverse
        have := tt.reverse
        rw [List.reverse_reverse] at this
        exact ⟨t', e, this⟩
end Pq
end
section
set_option autoImplicit false
set_option linter.all false
namespace Pq
/-! ### normal forms, and reducing by several sets -/
mutual
inductive Norm : Tree → Tree → Prop where
  | th (a : Int) : Norm (.th a) (.th a)
  | any {ps qs rs : List Tree} : NormL ps qs → rs.Perm qs → Norm (.any ps) (.any rs)
  | row {ps qs : List Tree} : NormL ps qs → Norm (.row ps) (.row qs)
  | rev {ps qs : List Tree} : NormL ps qs → Norm (.row ps) (.row qs.reverse)
inductive NormL : List Tree → List Tree → Prop where
  | nil : NormL [] []
  | cons {p q : Tree} {ps qs : List Tree} : Norm p q → NormL ps qs → NormL (p :: ps) (q :: qs)
end
theorem NormL.length : ∀ {ps qs : List Tree}, NormL ps qs → qs.length = ps.length
  | [], _, h => by cases h; rfl
  | p :: ps, _, h => by cases h with | cons _ t => simp [NormL.length t]
theorem NormL.append : ∀ {ps qs ps' qs' : List Tree}, NormL ps qs → NormL ps' qs' → NormL (ps ++ ps') (qs ++ qs')
  | [], _, _, _, h, k => by cases h; exact k
  | p :: ps, _, _, _, h, k => by cases h with | cons n t => exact .cons n (NormL.append t k)
theorem NormL.wf : ∀ {ps qs : List Tree}, (∀ p ∈ ps, ∀ q, Norm p q → Wf p → Wf q) → NormL ps qs → (∀ p ∈ ps, Wf p) → ∀ q ∈ qs, Wf q
  | [], _, _, h, _ => by cases h; intro q hq; simp at hq
  | p :: ps, _, k, h, w => by
    cases h with
    | cons n t =>
      intro q hq
      rcases List.mem_cons.mp hq with rfl | hq
      · exact k p (by simp) _ n (w p (by simp))
      · exact NormL.wf (fun p hp => k p (by simp [hp])) t (fun p hp => w p (by simp [hp])) q hq
theorem Norm.wf : ∀ t, ∀ t', Norm t t' → Wf t → Wf t' := by
  refine tree_ind ?_
  intro t ih t' h w
  cases h with
  | th a => exact w
  | any n p =>
    cases w with
    | any l w => exact .any (by rw [p.length_eq, n.length]; exact l) fun q hq => n.wf (fun p hp => ih _ p (.inl rfl) hp) w q (p.mem_iff.mp hq)
  | row n =>
    cases w with
    | row l w => exact .row (by rw [n.length]; exact l) fun q hq => n.wf (fun p hp => ih _ p (.inr rfl) hp) w q hq
  | rev n =>
    cases w with
    | row l w => exact .row (by rw [List.length_reverse, n.length]; exact l) fun q hq => n.wf (fun p hp => ih _ p (.inr rfl) hp) w q (List.mem_reverse.mp hq)
theorem NormL.sq : ∀ {ps qs : List Tree} {o : List Int}, (∀ p ∈ ps, ∀ q, Norm p q → ∀ o, Tells q o ↔ Tells p o) → NormL ps qs → (Sq qs o ↔ Sq ps o)
  | [], _, _, _, h => by cases h; exact Iff.rfl
  | p :: ps, _, o, k, h => by
    cases h with
    | cons n t =>
      have kp := k p (by simp) _ n
      have kt : ∀ o, _ := fun o => NormL.sq (o := o) (fun p hp => k p (by simp [hp])) t
      constructor
      · intro h; cases h with | cons a b => exact .cons ((kp _).mp a) ((kt _).mp b)
      · intro h; cases h with | cons a b => exact .cons ((kp _).mpr a) ((kt _).mpr b)
/-- a permutation of one list is followed by the other -/
theorem NormL.perm_right {ps qs rs : List Tree} (n : NormL ps qs) (p : rs.Perm qs) : ∃ ss, ss.Perm ps ∧ NormL ss rs := by
  have key : ∀ {qs rs : List Tree}, qs.Perm rs → ∀ {ps}, NormL ps qs → ∃ ss, ss.Perm ps ∧ NormL ss rs := by
    intro qs rs p
    induction p with
    | nil => intro ps n; cases n; exact ⟨[], .refl _, .nil⟩
    | cons x _ ih =>
      intro ps n
      cases n with
      | cons a t =>
        obtain ⟨ss, q, m⟩ := ih t
        exact ⟨_ :: ss, q.cons _, .cons a m⟩
    | swap x y l =>
      intro ps n
      cases n with
      | cons a t =>
        cases t with
        | cons b t => exact ⟨_ :: _ :: _, List.Perm.swap _ _ _, .cons b (.cons a t)⟩
    | trans _ _ h1 h2 =>
      intro ps n
      obtain ⟨ss, q, m⟩ := h1 n
      obtain ⟨ss', q', m'⟩ := h2 m
      exact ⟨ss', q'.trans q, m'⟩
  exact key p.symm n
theorem NormL.perm_left {ps qs rs : List Tree} (n : NormL ps qs) (p : rs.Perm ps) : ∃ ss, ss.Perm qs ∧ NormL rs ss := by
  have key : ∀ {ps rs : List Tree}, ps.Perm rs → ∀ {qs}, NormL ps qs → ∃ ss, ss.Perm qs ∧ NormL rs ss := by
    intro ps rs p
    induction p with
    | nil => intro ps n; cases n; exact ⟨[], .refl _, .nil⟩
    | cons x _ ih =>
      intro ps n
      cases n with
      | cons a t =>
        obtain ⟨ss, q, m⟩ := ih t
        exact ⟨_ :: ss, q.cons _, .cons a m⟩
    | swap x y l =>
      intro ps n
      cases n with
      | cons a t =>
        cases t with
        | cons b t => exact ⟨_ :: _ :: _, List.Perm.swap _ _ _, .cons b (.cons a t)⟩
    | trans _ _ h1 h2 =>
      intro ps n
      obtain ⟨ss, q, m⟩ := h1 n
      obtain ⟨ss', q', m'⟩ := h2 m
      exact ⟨ss', q'.trans q, m'⟩
  exact key p.symm n
theorem NormL.reverse {ps qs : List Tree} (n : NormL ps qs) : NormL ps.reverse qs.reverse := by
  have key : ∀ {ps qs : List Tree}, NormL ps qs → NormL ps.reverse qs.reverse := by
    intro ps
    induction ps with
    | nil => intro qs n; cases n; exact .nil
    | cons p ps ih =>
      intro qs n
      cases n with
      | cons a t =>
        rw [List.reverse_cons, List.reverse_cons]
        exact (ih t).append (.cons a .nil)
  exact key n
theorem Norm.tells : ∀ t, ∀ t', Norm t t' → ∀ o, Tells t' o ↔ Tells t o := by
  refine tree_ind ?_
  intro t ih t' h o
  cases h with
  | th a => exact Iff.rfl
  | @any ps qs rs n p =>
    have ih' : ∀ q ∈ ps, ∀ q', Norm q q' → ∀ o, Tells q' o ↔ Tells q o := fun q hq => ih _ q (.inl rfl) hq
    constructor
    · intro h
      cases h with
      | any q s =>
        obtain ⟨ss, pp, nn⟩ := n.perm_right (q.trans p)
        exact .any pp ((nn.sq fun q hq => ih' q (pp.mem_iff.mp hq)).mp s)
    · intro h
      cases h with
      | any q s =>
        obtain ⟨ss, pp, nn⟩ := n.perm_left q
        exact .any (pp.trans p.symm) ((nn.sq fun r hr => ih' r (q.mem_iff.mp hr)).mpr s)
  | @row ps qs n =>
    have ih' : ∀ q ∈ ps, ∀ q', Norm q q' → ∀ o, Tells q' o ↔ Tells q o := fun q hq => ih _ q (.inr rfl) hq
    have ihr : ∀ q ∈ ps.reverse, ∀ q', Norm q q' → ∀ o, Tells q' o ↔ Tells q o := fun q hq => ih' q (List.mem_reverse.mp hq)
    constructor
    · intro h
      cases h with
      | row s => exact .row ((n.sq ih').mp s)
      | rev s => exact .rev ((n.reverse.sq ihr).mp s)
    · intro h
      cases h with
      | row s => exact .row ((n.sq ih').mpr s)
      | rev s => exact .rev ((n.reverse.sq ihr).mpr s)
  | @rev ps qs n =>
    have ih' : ∀ q ∈ ps, ∀ q', Norm q q' → ∀ o, Tells q' o ↔ Tells q o := fun q hq => ih _ q (.inr rfl) hq
    have ihr : ∀ q ∈ ps.reverse, ∀ q', Norm q q' → ∀ o, Tells q' o ↔ Tells q o := fun q hq => ih' q (List.mem_reverse.mp hq)
    constructor
    · intro h
      cases h with
      | row s => exact .rev ((n.reverse.sq ihr).mp s)
      | rev s =>
        rw [List.reverse_reverse] at s
        exact .row ((n.sq ih').mp s)
    · intro h
      cases h with
      | row s => exact .rev (by rw [List.reverse_reverse]; exact (n.sq ih').mpr s)
      | rev s => exact .row ((n.reverse.sq ihr).mpr s)
/-- what reduced_by gives -/
inductive Red (K : Nat) (S : List Int) (t : Tree) : Option Tree → Prop where
  | few {t' : Tree} : S.length < 2 → Norm t t' → Red K S t (some t')
  | none : 2 ≤ S.length → join S K t = Option.none → Red K S t Option.none
  | some {j t' : Tree} : 2 ≤ S.length → join S K t = Option.some j → Norm j t' → Red K S t (Option.some t')
/-- a tree in use: well formed, each thing once, those of l -/
structure Good (l : List Int) (t : Tree) : Prop where
  wf : Wf t
  perm : (listed t).Perm l
theorem tog_few {S o : List Int} (h : S.length < 2) (nd : o.Nodup) : Tog S o := by
  match S, h with
  | [], _ => exact ⟨o, [], [], by simp, fun _ _ h => by simp at h, Inn.nil, Free.nil⟩
  | [x], _ =>
    by_cases c : x ∈ o
    · obtain ⟨a, b, rfl⟩ := List.append_of_mem c
      have nd' := List.nodup_append.mp nd
      refine ⟨a, [x], b, by simp, fun y hy e => ?_, fun y hy => hy, fun y hy e => ?_⟩
      · have := List.mem_singleton.mp e
        exact nd'.2.2 y hy x (by simp) this
      · have := List.mem_singleton.mp e
        subst this
        exact (List.nodup_cons.mp nd'.2.1).1 hy
    · exact ⟨o, [], [], by simp, fun y hy e => by rw [List.mem_singleton.mp e] at hy; exact c hy, Inn.nil, Free.nil⟩
theorem Red.sound {K : Nat} {S l : List Int} {t : Tree} {r : Option Tree} (h : Red K S t r) (g : Good l t) (nd : l.Nodup) (sub : ∀ x ∈ S, x ∈ l) : ∀ t', r = Option.some t' → Good l t' ∧ ∀ o, Tells t' o → Tells t o ∧ Tog S o := by
  intro t' e
  have ndo : ∀ o, Tells t o → o.Nodup := fun o ho => ((Tells.perm t o ho).trans g.perm).nodup_iff.mpr nd
  cases h with
  | few h2 n =>
    cases e
    have tl := n.tells t t'
    refine ⟨⟨n.wf t t' g.wf, ?_⟩, fun o ho => ⟨(tl o).mp ho, tog_few h2 (ndo o ((tl o).mp ho))⟩⟩
    exact (Tells.perm t _ ((tl _).mp (tells_listed t'))).trans g.perm
  | none _ _ => cases e
  | @some j _ h2 hj n =>
    cases e
    have tl := n.tells j t'
    have sh : share S t ≠ .no := fun e => by
      match S, h2 with
      | x :: _, _ => exact share_no.mp e x (g.perm.mem_iff.mpr (sub x (by simp))) (by simp)
    obtain ⟨wj, sj⟩ := join_sound K t j g.wf sh hj
    refine ⟨⟨n.wf j t' wj, ?_⟩, fun o ho => sj o ((tl o).mp ho)⟩
    exact (Tells.perm t _ (sj _ ((tl _).mp (tells_listed t'))).1).trans g.perm
theorem Red.complete {K : Nat} {S l : List Int} {t : Tree} {r : Option Tree} (h : Red K S t r) (g : Good l t) (hl : l.length ≤ K) (sub : ∀ x ∈ S, x ∈ l) {o : List Int} (ho : Tells t o) (tg : Tog S o) : ∃ t', r = Option.some t' ∧ Tells t' o := by
  have dt : depth t < K := by
    have := g.wf.depth_lt t
    rw [g.perm.length_eq] at this
    omega
  have sh : 2 ≤ S.length → share S t ≠ .no := fun h2 e => by
    match S, h2 with
    | x :: _, _ => exact share_no.mp e x (g.perm.mem_iff.mpr (sub x (by simp))) (by simp)
  cases h with
  | few h2 n => exact ⟨_, rfl, (n.tells t _ o).mpr ho⟩
  | none h2 hj =>
    obtain ⟨j, e, _⟩ := join_complete K t o dt g.wf (sh h2) ho tg
    rw [hj] at e; cases e
  | some h2 hj n =>
    obtain ⟨j, e, tj⟩ := join_complete K t o dt g.wf (sh h2) ho tg
    rw [hj] at e; cases e
    exact ⟨_, rfl, (n.tells _ _ o).mpr tj⟩
/-- what reduced_by_all gives -/
inductive RedAll (K : Nat) : List (List Int) → Tree → Option Tree → Prop where
  | nil {t : Tree} : RedAll K [] t (some t)
  | stop {S : List Int} {Ss : List (List Int)} {t : Tree} : Red K S t none → RedAll K (S :: Ss) t none
  | cons {S : List Int} {Ss : List (List Int)} {t t' : Tree} {r : Option Tree} : Red K S t (some t') → RedAll K Ss t' r → RedAll K (S :: Ss) t r
theorem RedAll.good {K : Nat} {l : List Int} (nd : l.Nodup) (hl : l.length ≤ K) {o : List Int} : ∀ {Ss : List (List Int)} {t : Tree} {r : Option Tree}, RedAll K Ss t r → Good l t → (∀ S ∈ Ss, ∀ x ∈ S, x ∈ l) → Tells t o → (∀ S ∈ Ss, Tog S o) →
    ∃ t', r = some t' ∧ Good l t' ∧ ∀ o', Tells t' o' → Tells t o' ∧ ∀ S ∈ Ss, Tog S o'
  | [], t, _, h, g, _, _, _ => by
    cases h
    exact ⟨t, rfl, g, fun o' h => ⟨h, fun _ h => by simp at h⟩⟩
  | S :: Ss, t, r, h, g, sub, ho, tg => by
    cases h with
    | stop h =>
      obtain ⟨_, e, _⟩ := h.complete g hl (sub S (by simp)) ho (tg S (by simp))
      cases e
    | cons h1 h2 =>
      obtain ⟨t1, e, h1o⟩ := h1.complete g hl (sub S (by simp)) ho (tg S (by simp))
      cases e
      obtain ⟨g1, s1⟩ := h1.sound g nd (sub S (by simp)) _ rfl
      obtain ⟨t', e, g', s'⟩ := RedAll.good nd hl h2 g1 (fun T hT => sub T (by simp [hT])) h1o fun T hT => tg T (by simp [hT])
      refine ⟨t', e, g', fun o' ho' => ?_⟩
      obtain ⟨a, b⟩ := s' o' ho'
      obtain ⟨c, d⟩ := s1 o' a
      exact ⟨c, fun T hT => by
        rcases List.mem_cons.mp hT with rfl | hT
        · exact d
        · exact b T hT⟩
/-- the tree of all orders -/
def plain (m : Nat) : Tree := makeAny ((List.range m).map fun i : Nat => .th (i : Int))
theorem plain_good {m : Nat} (h : 1 ≤ m) : Good ((List.range m).map fun i : Nat => (i : Int)) (plain m) := by
  constructor
  · refine makeAny_wf (by simp; omega) fun p hp => ?_
    obtain ⟨i, _, rfl⟩ := List.mem_map.mp hp
    exact .th _
  · unfold plain
    rw [makeAny_listed, listedL_flat, List.map_map]
    have : ((List.range m).map (listed ∘ fun i : Nat => Tree.th (i : Int))).flatten = (List.range m).map fun i : Nat => (i : Int) := by
      have e : ∀ l : List Nat, (l.map (listed ∘ fun i : Nat => Tree.th (i : Int))).flatten = l.map fun i : Nat => (i : Int) := by
        intro l
        induction l with
        | nil => rfl
        | cons x l ih => simp only [List.map_cons, List.flatten_cons, ih, Function.comp, listed, List.singleton_append]
      exact e _
    rw [this]
theorem plain_tells {m : Nat} {o : List Int} (h : o.Perm ((List.range m).map fun i : Nat => (i : Int))) : Tells (plain m) o := by
  refine makeAny_tells.mpr ⟨o.map Tree.th, ?_, ?_⟩
  · have := h.map Tree.th
    rwa [List.map_map] at this
  · have e : ∀ l : List Int, Sq (l.map Tree.th) l := by
      intro l
      induction l with
      | nil => exact .nil
      | cons x l ih => exact Sq.cons (.th x) ih
    exact e o
end Pq
end
section
set_option autoImplicit false
set_option linter.all false
namespace Gr
/-! ### the search for a shortest way -/
theorem ind_snoc {adj : Nat → Nat → Prop} : ∀ (l : List Nat) (v x : Nat), Ind adj l → l.getLast? = some v → adj v x → (∀ u ∈ l.dropLast, u ≠ x ∧ ¬ adj u x) → Ind adj (l ++ [x])
  | [], v, x, _, g, _, _ => by simp at g
  | [a], v, x, _, g, e, _ => by
    have : a = v := by simpa using g
    subst this
    exact ⟨⟨e, fun z hz => by simp at hz⟩, trivial, trivial⟩
  | a :: b :: r, v, x, i, g, e, h => by
    rw [List.getLast?_cons_cons] at g
    have hd : (a :: b :: r).dropLast = a :: (b :: r).dropLast := rfl
    rw [hd] at h
    have ih := ind_snoc (b :: r) v x i.2 g e fun u hu => h u (by simp [hu])
    refine ⟨⟨i.1.1, fun z hz => ?_⟩, ih⟩
    have hz : z ∈ r ++ [x] := hz
    rcases List.mem_append.mp hz with hz | hz
    · exact i.1.2 z hz
    · rw [List.mem_singleton.mp hz]
      have := h a (by simp)
      exact ⟨Ne.symm this.1, this.2⟩
theorem nodup_le {n : Nat} : ∀ {l : List Nat}, l.Nodup → (∀ x ∈ l, x < n) → l.length ≤ n := by
  induction n with
  | zero =>
    intro l _ h
    cases l with
    | nil => simp
    | cons x l => exact absurd (h x (by simp)) (by omega)
  | succ n ih =>
    intro l nd h
    have h1 : (l.filter fun x => decide (x ≠ n)).length ≤ n := by
      refine ih (nd.filter _) fun x hx => ?_
      have := List.mem_filter.mp hx
      have := h x this.1
      have := of_decide_eq_true (List.mem_filter.mp hx).2
      omega
    by_cases c : n ∈ l
    · obtain ⟨a, b, rfl⟩ := List.append_of_mem c
      have nd' := List.nodup_append.mp nd
      have nb := List.nodup_cons.mp nd'.2.1
      have e : ((a ++ n :: b).filter fun x => decide (x ≠ n)) = a ++ b := by
        rw [List.filter_append, List.filter_cons]
        have ea : a.filter (fun x => decide (x ≠ n)) = a := List.filter_eq_self.mpr fun x hx => decide_eq_true fun e => nd'.2.2 x hx n (by simp) e
        have eb : b.filter (fun x => decide (x ≠ n)) = b := List.filter_eq_self.mpr fun x hx => decide_eq_true fun e => nb.1 (e ▸ hx)
        rw [ea, eb]; simp
      rw [e] at h1
      simp at h1 ⊢; omega
    · have e : (l.filter fun x => decide (x ≠ n)) = l := List.filter_eq_self.mpr fun x hx => decide_eq_true fun e => c (e ▸ hx)
      rw [e] at h1; omega
structure BInv (adj : Nat → Nat → Prop) (bar : Nat → Prop) (n s g : Nat) (ways : List (List Nat)) (seen : List Nat) (k : Nat) (done : List Nat) : Prop where
  first : ways[0]? = some [s]
  ind : ∀ w ∈ ways, Ind adj w
  head : ∀ w ∈ ways, w.head? = some s
  free : ∀ w ∈ ways, ∀ v ∈ w, ¬ bar v
  anc : ∀ (b : Nat) (w : List Nat), ways[b]? = some w → ∀ v ∈ w.dropLast, ∃ a u, a < b ∧ ways[a]? = some u ∧ u.getLast? = some v
  sn : ways.map (·.getLast?) = seen.map some
  nd : seen.Nodup
  lt : ∀ w ∈ ways, ∀ v ∈ w, v < n
  proc : ∀ (a : Nat) (u : List Nat) (v : Nat), a < k → ways[a]? = some u → u.getLast? = some v → v ≠ g ∧ ∀ x, adj v x → ¬ bar x → x ∈ seen
  cur : ∀ (u : List Nat) (v : Nat), ways[k]? = some u → u.getLast? = some v → ∀ x, x ∈ done → adj v x → ¬ bar x → x ∈ seen
section
variable {adj : Nat → Nat → Prop} {bar : Nat → Prop} {n s g : Nat} {ways : List (List Nat)} {seen : List Nat} {k : Nat} {done : List Nat}
theorem BInv.start (hs : ¬ bar s) (lt : s < n) : BInv adj bar n s g [[s]] [s] 0 [] where
  first := rfl
  ind := fun w hw => by rw [List.mem_singleton.mp hw]; exact ⟨trivial, trivial⟩
  head := fun w hw => by rw [List.mem_singleton.mp hw]; rfl
  free := fun w hw v hv => by
    rw [List.mem_singleton.mp hw] at hv
    rw [List.mem_singleton.mp hv]; exact hs
  anc := fun b w hw v hv => by
    match b, hw with
    | 0, hw =>
      have e : [s] = w := Option.some.inj hw
      subst e; simp at hv
    | b + 1, hw => simp at hw
  sn := rfl
  nd := by simp
  lt := fun w hw v hv => by
    rw [List.mem_singleton.mp hw] at hv
    rw [List.mem_singleton.mp hv]; exact lt
  proc := fun a u v h => by omega
  cur := fun u v _ _ x hx => by simp at hx
theorem BInv.len (h : BInv adj bar n s g ways seen k done) : ways.length = seen.length := by
  have := congrArg List.length h.sn
  simpa using this
theorem BInv.seen_lt (h : BInv adj bar n s g ways seen k done) : ∀ x ∈ seen, x < n := fun x hx => by
  have : some x ∈ ways.map (·.getLast?) := by rw [h.sn]; exact List.mem_map.mpr ⟨x, hx, rfl⟩
  obtain ⟨w, hw, e⟩ := List.mem_map.mp this
  exact h.lt w hw x (List.mem_of_getLast? e)
theorem BInv.bound (h : BInv adj bar n s g ways seen k done) : ways.length ≤ n := by
  rw [h.len]; exact nodup_le h.nd h.seen_lt
/-- the last vertex of a way -/
theorem BInv.last (h : BInv adj bar n s g ways seen k done) {w : List Nat} (hw : w ∈ ways) : ∃ v, w.getLast? = some v ∧ v ∈ seen := by
  have e : w.getLast? ∈ ways.map (·.getLast?) := List.mem_map.mpr ⟨w, hw, rfl⟩
  rw [h.sn] at e
  obtain ⟨v, hv, e⟩ := List.mem_map.mp e
  exact ⟨v, e.symm, hv⟩
theorem BInv.skip (h : BInv adj bar n s g ways seen k done) {x : Nat} (hx : x ∈ seen ∨ bar x) : BInv adj bar n s g ways seen k (done ++ [x]) := by
  have c : ∀ (u : List Nat) (v : Nat), ways[k]? = some u → u.getLast? = some v → ∀ y, y ∈ done ++ [x] → adj v y → ¬ bar y → y ∈ seen := by
    intro u v hu hv y hy e nb
    rcases List.mem_append.mp hy with hy | hy
    · exact h.cur u v hu hv y hy e nb
    · rw [List.mem_singleton.mp hy] at nb ⊢
      exact hx.elim id fun b => (nb b).elim
  exact { h with cur := c }
theorem BInv.grow (h : BInv adj bar n s g ways seen k done) {x v : Nat} {w : List Nat} (hw : ways[k]? = some w) (hv : w.getLast? = some v) (e : adj v x) (nx : x ∉ seen) (nb : ¬ bar x) (xn : x < n) : BInv adj bar n s g (ways ++ [w ++ [x]]) (seen ++ [x]) k (done ++ [x]) := by
  have mw : w ∈ ways := List.mem_of_getElem? hw
  have kl : k < ways.length := (List.getElem?_eq_some_iff.mp hw).1
  have old : ∀ {a u}, ways[a]? = some u → (ways ++ [w ++ [x]])[a]? = some u := fun {a u} e => by
    rw [List.getElem?_append_left (List.getElem?_eq_some_iff.mp e).1]; exact e
  have cases' : ∀ {a u}, (ways ++ [w ++ [x]])[a]? = some u → ways[a]? = some u ∨ (a = ways.length ∧ u = w ++ [x]) := fun {a u} e => by
    by_cases c : a < ways.length
    · rw [List.getElem?_append_left c] at e; exact .inl e
    · rw [List.getElem?_append_right (by omega)] at e
      by_cases d : a = ways.length
      · subst d
        simp at e; exact .inr ⟨rfl, e.symm⟩
      · rw [List.getElem?_eq_none (by simp; omega)] at e; cases e
  have dl : (w ++ [x]).dropLast = w := by simp
  have mem : ∀ {u}, u ∈ ways ++ [w ++ [x]] → u ∈ ways ∨ u = w ++ [x] := fun {u} hu => by simpa using hu
  -- a vertex ahead of the last one in w is done
  have ahead : ∀ u ∈ w.dropLast, u ≠ x ∧ ¬ adj u x := by
    intro u hu
    obtain ⟨a, y, ha, hy, ey⟩ := h.anc k w hw u hu
    constructor
    · rintro rfl
      have my : y ∈ ways := List.mem_of_getElem? hy
      obtain ⟨v', e1, e2⟩ := h.last my
      rw [ey] at e1; cases e1
      exact nx e2
    · intro e
      exact nx ((h.proc a y u ha hy ey).2 x e nb)
  refine ⟨old h.first, fun u hu => ?_, fun u hu => ?_, fun u hu => ?_, fun b u hu y hy => ?_, ?_, ?_, fun u hu => ?_, fun a u y ha hu hy => ?_, fun u y hu hy z hz ez nz => ?_⟩
  · rcases mem hu with hu | rfl
    · exact h.ind u hu
    · exact ind_snoc w v x (h.ind w mw) hv e ahead
  · rcases mem hu with hu | rfl
    · exact h.head u hu
    · have := h.head w mw
      rw [List.head?_append, this]; rfl
  · rcases mem hu with hu | rfl
    · exact h.free u hu
    · intro y hy
      rcases List.mem_append.mp hy with hy | hy
      · exact h.free w mw y hy
      · rw [List.mem_singleton.mp hy]; exact nb
  · rcases cases' hu with hu | ⟨rfl, rfl⟩
    · obtain ⟨a, z, h1, h2, h3⟩ := h.anc b u hu y hy
      exact ⟨a, z, h1, old h2, h3⟩
    · rw [dl] at hy
      by_cases c : y ∈ w.dropLast
      · obtain ⟨a, z, h1, h2, h3⟩ := h.anc k w hw y c
        exact ⟨a, z, by omega, old h2, h3⟩
      · have : y = v := by
          have ew : w = w.dropLast ++ [v] := by
            obtain ⟨ne, ev⟩ := List.getLast?_eq_some_iff.mp hv
            rw [ev]; simp
          rw [ew] at hy
          rcases List.mem_append.mp hy with hy | hy
          · exact (c hy).elim
          · exact List.mem_singleton.mp hy
        subst this
        exact ⟨k, w, kl, old hw, hv⟩
  · rw [List.map_append, List.map_append, h.sn]
    simp
  · rw [List.nodup_append]
    exact ⟨h.nd, by simp, fun a ha b hb e => by
      rw [List.mem_singleton.mp hb] at e
      exact nx (e ▸ ha)⟩
  · rcases mem hu with hu | rfl
    · exact h.lt u hu
    · intro y hy
      rcases List.mem_append.mp hy with hy | hy
      · exact h.lt w mw y hy
      · rw [List.mem_singleton.mp hy]; exact xn
  · rcases cases' hu with hu | ⟨rfl, _⟩
    · obtain ⟨h1, h2⟩ := h.proc a u y ha hu hy
      exact ⟨h1, fun z ez nz => by simp [h2 z ez nz]⟩
    · omega
  · rcases cases' hu with hu | ⟨rfl, _⟩
    · rcases List.mem_append.mp hz with hz | hz
      · simp [h.cur u y hu hy z hz ez nz]
      · rw [List.mem_singleton.mp hz]; simp
    · omega
theorem BInv.next (h : BInv adj bar n s g ways seen k done) {w : List Nat} {v : Nat} (hw : ways[k]? = some w) (hv : w.getLast? = some v) (ng : v ≠ g) (all : ∀ x, adj v x → x ∈ done) : BInv adj bar n s g ways seen (k + 1) [] := by
  have p : ∀ (a : Nat) (u : List Nat) (y : Nat), a < k + 1 → ways[a]? = some u → u.getLast? = some y → y ≠ g ∧ ∀ x, adj y x → ¬ bar x → x ∈ seen := by
    intro a u y ha hu hy
    by_cases c : a < k
    · exact h.proc a u y c hu hy
    · have : a = k := by omega
      subst this
      rw [hw] at hu; cases hu
      rw [hv] at hy; cases hy
      exact ⟨ng, fun x e nb => h.cur w v hw hv x (all x e) e nb⟩
  have c : ∀ (u : List Nat) (v : Nat), ways[k + 1]? = some u → u.getLast? = some v → ∀ y, y ∈ ([] : List Nat) → adj v y → ¬ bar y → y ∈ seen := fun _ _ _ _ y hy => by simp at hy
  exact { h with proc := p, cur := c }
/-- all ways are looked at: the goal is not reached -/
theorem BInv.end (h : BInv adj bar n s g ways seen k done) (hk : ways.length ≤ k) : ¬ Reach adj (fun v => ¬ bar v) s g := by
  intro r
  have lastOf : ∀ x, x ∈ seen → ∃ a u, ways[a]? = some u ∧ a < k ∧ u.getLast? = some x := fun x hx => by
    have : some x ∈ ways.map (·.getLast?) := by rw [h.sn]; exact List.mem_map.mpr ⟨x, hx, rfl⟩
    obtain ⟨w, hw, e⟩ := List.mem_map.mp this
    obtain ⟨a, ha, ea⟩ := List.mem_iff_getElem.mp hw
    exact ⟨a, w, by rw [List.getElem?_eq_getElem ha, ea], by omega, e⟩
  have q := r.closed (C := fun v => v ∈ seen) (by
    have : some s ∈ ways.map (·.getLast?) := List.mem_map.mpr ⟨[s], List.mem_of_getElem? h.first, rfl⟩
    rw [h.sn] at this
    obtain ⟨v, hv, e⟩ := List.mem_map.mp this
    cases e; exact hv) (by
    intro a b ha e nb
    obtain ⟨i, u, hu, hi, hl⟩ := lastOf a ha
    exact (h.proc i u a hi hu hl).2 b e nb)
  obtain ⟨i, u, hu, hi, hl⟩ := lastOf g q
  exact (h.proc i u g hi hu hl).1 rfl
end
/-- what a way is -/
structure WayOk (adj : Nat → Nat → Prop) (bar : Nat → Prop) (n s g : Nat) (w : List Nat) : Prop where
  ind : Ind adj w
  head : w.head? = some s
  last : w.getLast? = some g
  free : ∀ v ∈ w, ¬ bar v
  lt : ∀ v ∈ w, v < n
theorem BInv.found {adj : Nat → Nat → Prop} {bar : Nat → Prop} {n s g : Nat} {ways : List (List Nat)} {seen : List Nat} {k : Nat} {done : List Nat} (h : BInv adj bar n s g ways seen k done) {w : List Nat} (hw : w ∈ ways) (hl : w.getLast? = some g) : WayOk adj bar n s g w :=
  ⟨h.ind w hw, h.head w hw, hl, h.free w hw, h.lt w hw⟩
theorem WayOk.reach {adj : Nat → Nat → Prop} (sy : ∀ a b, adj a b → adj b a) {bar : Nat → Prop} {n s g : Nat} {w : List Nat} (h : WayOk adj bar n s g w) : Reach adj (fun v => ¬ bar v) s g := by
  cases w with
  | nil => have := h.head; simp at this
  | cons a r =>
    have e : a = s := by have := h.head; simpa using this
    subst e
    exact (walk_reach sy r g a (ind_walk _ h.ind) h.free h.last).symm sy
/-! ### positions in an induced way -/
theorem ind_get {adj : Nat → Nat → Prop} : ∀ (w : List Nat) (i j x y : Nat), Ind adj w → i < j → w[i]? = some x → w[j]? = some y → (adj x y ↔ j = i + 1) ∧ (j ≠ i + 1 → x ≠ y)
  | [], i, j, x, y, _, _, hx, _ => by simp at hx
  | a :: r, 0, 0, x, y, _, h, _, _ => by omega
  | a :: r, i + 1, 0, x, y, _, h, _, _ => by omega
  | a :: r, 0, j + 1, x, y, hI, h, hx, hy => by
    have e : a = x := by simpa using hx
    subst e
    have hy' : r[j]? = some y := by simpa using hy
    match r, hI, j, hy' with
    | b :: r', hI, 0, hy' =>
      have e : b = y := by simpa using hy'
      subst e
      exact ⟨⟨fun _ => rfl, fun _ => hI.1.1⟩, fun h => (h rfl).elim⟩
    | b :: r', hI, j + 1, hy' =>
      have m : y ∈ r' := List.mem_of_getElem? (by simpa using hy')
      have q := hI.1.2 y m
      exact ⟨⟨fun e => (q.2 e).elim, fun e => by omega⟩, fun _ e => q.1 e.symm⟩
  | a :: r, i + 1, j + 1, x, y, hI, h, hx, hy => by
    have q := ind_get r i j x y hI.2 (by omega) (by simpa using hx) (by simpa using hy)
    exact ⟨⟨fun e => by have := q.1.mp e; omega, fun e => q.1.mpr (by omega)⟩, fun h => q.2 (by omega)⟩
/-- what a shut ring is, by places -/
structure RingOk (adj : Nat → Nat → Prop) (n : Nat) (r : List Nat) : Prop where
  four : 4 ≤ r.length
  nd : r.Nodup
  lt : ∀ v ∈ r, v < n
  adj : ∀ (i j x y : Nat), j < i → r[i]? = some x → r[j]? = some y → (adj x y ↔ (i - j = 1 ∨ i - j = r.length - 1))
theorem ring_ok {adj : Nat → Nat → Prop} (sy : ∀ a b, adj a b → adj b a) (ir : ∀ a, ¬ adj a a) {bar : Nat → Prop} {n p s g : Nat} {w : List Nat} (h : WayOk adj bar n s g w) (pn : p < n) (ps : adj p s) (pg : adj p g) (sg : s ≠ g) (nsg : ¬ adj s g) (hb : ∀ v, ¬ bar v → v = s ∨ v = g ∨ (v ≠ p ∧ ¬ adj p v)) : RingOk adj n (p :: w) := by
  have nd : w.Nodup := by
    rw [List.nodup_iff_pairwise_ne, List.pairwise_iff_getElem]
    intro i j hi hj hij e
    have q := ind_get w i j _ _ h.ind hij (List.getElem?_eq_getElem hi) (List.getElem?_eq_getElem hj)
    by_cases c : j = i + 1
    · have := q.1.mpr c
      rw [e] at this; exact ir _ this
    · exact q.2 c e
  have w0 : w[0]? = some s := by rw [← List.head?_eq_getElem?]; exact h.head
  have wl : w[w.length - 1]? = some g := by rw [← List.getLast?_eq_getElem?]; exact h.last
  have l0 : 0 < w.length := (List.getElem?_eq_some_iff.mp w0).1
  have l3 : 3 ≤ w.length := by
    apply Classical.byContradiction
    intro c
    have : w.length = 1 ∨ w.length = 2 := by omega
    rcases this with e | e
    · rw [e] at wl
      rw [w0] at wl; exact sg (Option.some.inj wl)
    · rw [e] at wl
      exact nsg ((ind_get w 0 1 s g h.ind (by omega) w0 wl).1.mpr rfl)
  have pw : ∀ v ∈ w, v ≠ p := fun v hv => by
    rcases hb v (h.free v hv) with e | e | e
    · rw [e]; intro e2; exact ir p (e2 ▸ ps)
    · rw [e]; intro e2; exact ir p (e2 ▸ pg)
    · exact e.1
  have uniq : ∀ {i j x : Nat}, w[i]? = some x → w[j]? = some x → i = j := fun {i j x} hi hj => by
    obtain ⟨h1, e1⟩ := List.getElem?_eq_some_iff.mp hi
    obtain ⟨h2, e2⟩ := List.getElem?_eq_some_iff.mp hj
    exact (List.getElem_inj nd).mp (e1.trans e2.symm)
  refine ⟨by simp; omega, List.nodup_cons.mpr ⟨fun hm => pw p hm rfl, nd⟩, fun v hv => ?_, fun i j x y hij hx hy => ?_⟩
  · rcases List.mem_cons.mp hv with rfl | hv
    · exact pn
    · exact h.lt v hv
  · match i, hx with
    | 0, _ => omega
    | i + 1, hx =>
      have hx : w[i]? = some x := by simpa using hx
      have il := (List.getElem?_eq_some_iff.mp hx).1
      match j, hy with
      | 0, hy =>
        have e : p = y := by simpa using hy
        subst e
        rw [List.length_cons]
        constructor
        · intro e
          have hm : x ∈ w := List.mem_of_getElem? hx
          rcases hb x (h.free x hm) with e2 | e2 | e2
          · subst e2
            have := uniq hx w0; omega
          · subst e2
            have := uniq hx wl; omega
          · exact (e2.2 (sy _ _ e)).elim
        · intro c
          rcases c with c | c
          · have : i = 0 := by omega
            subst this
            rw [w0] at hx; cases hx; exact sy _ _ ps
          · have : i = w.length - 1 := by omega
            subst this
            rw [wl] at hx; cases hx; exact sy _ _ pg
      | j + 1, hy =>
        have hy : w[j]? = some y := by simpa using hy
        have q := ind_get w j i y x h.ind (by omega) hy hx
        rw [List.length_cons]
        constructor
        · intro e
          have := q.1.mp (sy _ _ e); omega
        · intro c
          have := q.1.mpr (by omega)
          exact sy _ _ this
end Gr
end
section
set_option autoImplicit false
set_option linter.all false
namespace Gr
open Classical
/-! ### the greatest groups -/
theorem card_le_n (U : Nat → Prop) : ∀ N, card U N ≤ N
  | 0 => Nat.le_refl _
  | N + 1 => by
    have := card_le_n U N
    show card U N + (if U N then 1 else 0) ≤ N + 1
    split <;> omega
structure MaxC (adj : Nat → Nat → Prop) (n : Nat) (g : List Nat) : Prop where
  clq : ∀ x ∈ g, ∀ y ∈ g, x ≠ y → adj x y
  lt : ∀ x ∈ g, x < n
  mx : ∀ v, v < n → (∀ x ∈ g, v = x ∨ adj v x) → v ∈ g
structure GInv (adj : Nat → Nat → Prop) (n : Nat) (left : List Nat) (found : List (List Nat)) : Prop where
  nd : left.Nodup
  lt : ∀ x ∈ left, x < n
  mx : ∀ g ∈ found, MaxC adj n g
  len : found.length + left.length ≤ n
  cov : ∀ K, MaxC adj n K → (∃ g ∈ found, ∀ x, x ∈ K ↔ x ∈ g) ∨ ∀ x ∈ K, x ∈ left
theorem GInv.start (adj : Nat → Nat → Prop) (n : Nat) : GInv adj n (List.range n) [] :=
  ⟨List.nodup_range, fun x hx => List.mem_range.mp hx, fun _ h => by simp at h, by simp, fun K hK => .inr fun x hx => List.mem_range.mpr (hK.lt x hx)⟩
section
variable {adj : Nat → Nat → Prop} (sy : ∀ a b, adj a b → adj b a) (ir : ∀ a, ¬ adj a a) {n : Nat} {left : List Nat} {found : List (List Nat)}
include sy ir
theorem GInv.step (h : GInv adj n left found) {p : Nat} (hp : p ∈ left) {g : List Nat} (hg : ∀ x, x ∈ g ↔ x = p ∨ (adj p x ∧ x ∈ left)) (clq : ∀ x ∈ g, ∀ y ∈ g, x ≠ y → adj x y) {found' : List (List Nat)}
    (hf : ((∃ o ∈ found, ∀ x ∈ g, x ∈ o) ∧ found' = found) ∨ ((¬ ∃ o ∈ found, ∀ x ∈ g, x ∈ o) ∧ found' = found ++ [g])) : GInv adj n (left.erase p) found' := by
  have ml : ∀ x, x ∈ left.erase p ↔ x ≠ p ∧ x ∈ left := fun x => h.nd.mem_erase_iff
  have le : (left.erase p).length = left.length - 1 := List.length_erase_of_mem hp
  have lp : 0 < left.length := List.length_pos_of_mem hp
  have glt : ∀ x ∈ g, x < n := fun x hx => by
    rcases (hg x).mp hx with rfl | ⟨_, h2⟩
    · exact h.lt _ hp
    · exact h.lt x h2
  -- a maximal clique inside left either is g or lies without p
  have inside : ∀ K, MaxC adj n K → (∀ x ∈ K, x ∈ left) → p ∈ K → ∀ x, x ∈ K ↔ x ∈ g := by
    intro K hK hl hpK x
    have sub : ∀ x ∈ K, x ∈ g := fun x hx => (hg x).mpr (by
      by_cases e : x = p
      · exact .inl e
      · exact .inr ⟨hK.clq p hpK x hx (Ne.symm e), hl x hx⟩)
    constructor
    · exact sub x
    · intro hx
      refine hK.mx x (glt x hx) fun y hy => ?_
      by_cases e : x = y
      · exact .inl e
      · exact .inr (clq x hx y (sub y hy) e)
  rcases hf with ⟨⟨o, ho, sub⟩, rfl⟩ | ⟨nsub, rfl⟩
  · refine ⟨h.nd.erase p, fun x hx => h.lt x ((ml x).mp hx).2, h.mx, by have := h.len; omega, fun K hK => ?_⟩
    rcases h.cov K hK with c | c
    · exact .inl c
    · by_cases hpK : p ∈ K
      · have e := inside K hK c hpK
        refine .inl ⟨o, ho, fun x => ⟨fun hx => sub x ((e x).mp hx), fun hx => ?_⟩⟩
        have mo := h.mx o ho
        refine hK.mx x (mo.lt x hx) fun y hy => ?_
        by_cases q : x = y
        · exact .inl q
        · exact .inr (mo.clq x hx y (sub y ((e y).mp hy)) q)
      · exact .inr fun x hx => (ml x).mpr ⟨fun e => hpK (e ▸ hx), c x hx⟩
  · have mg : MaxC adj n g := by
      refine ⟨clq, glt, fun v vn hv => ?_⟩
      apply Classical.byContradiction
      intro nv
      -- a maximal clique that holds g and v
      let P : (Nat → Prop) → Prop := fun K => (∀ x, K x → x < n) ∧ (∀ x y, K x → K y → x ≠ y → adj x y) ∧ (∀ x ∈ g, K x) ∧ K v
      have ex : ∃ K, P K := ⟨fun x => x ∈ g ∨ x = v, fun x hx => hx.elim (glt x) fun e => e ▸ vn, fun x y hx hy ne => by
        rcases hx with hx | rfl <;> rcases hy with hy | rfl
        · exact clq x hx y hy ne
        · exact sy _ _ ((hv x hx).resolve_left (Ne.symm ne))
        · exact (hv y hy).resolve_left ne
        · exact (ne rfl).elim, fun x hx => .inl hx, .inr rfl⟩
      obtain ⟨K, ⟨Kn, Kc, Kg, Kv⟩, best⟩ := least P (fun K => n - card K n) ex
      have mK : MaxC adj n ((List.range n).filter fun x => decide (K x)) := by
        have mem : ∀ x, x ∈ ((List.range n).filter fun x => decide (K x)) ↔ K x := fun x => by
          rw [List.mem_filter]
          constructor
          · intro h; exact of_decide_eq_true h.2
          · intro h; exact ⟨List.mem_range.mpr (Kn x h), decide_eq_true h⟩
        refine ⟨fun x hx y hy => Kc x y ((mem x).mp hx) ((mem y).mp hy), fun x hx => Kn x ((mem x).mp hx), fun u un hu => (mem u).mpr ?_⟩
        apply Classical.byContradiction
        intro nu
        have hu' : ∀ x, K x → u = x ∨ adj u x := fun x hx => hu x ((mem x).mpr hx)
        have b := best (fun x => K x ∨ x = u) ⟨fun x hx => hx.elim (Kn x) fun e => e ▸ un, fun x y hx hy ne => by
          rcases hx with hx | rfl <;> rcases hy with hy | rfl
          · exact Kc x y hx hy ne
          · exact sy _ _ ((hu' x hx).resolve_left (Ne.symm ne))
          · exact (hu' y hy).resolve_left ne
          · exact (ne rfl).elim, fun x hx => .inl (Kg x hx), .inl Kv⟩
        have lt := card_lt (W := K) (U := fun x => K x ∨ x = u) (fun x hx => .inl hx) (.inr rfl) nu n un
        have := card_le_n (fun x => K x ∨ x = u) n
        omega
      have memK : ∀ x, x ∈ ((List.range n).filter fun x => decide (K x)) ↔ K x := fun x => by
        rw [List.mem_filter]
        constructor
        · intro h; exact of_decide_eq_true h.2
        · intro h; exact ⟨List.mem_range.mpr (Kn x h), decide_eq_true h⟩
      rcases h.cov _ mK with ⟨o, ho, e⟩ | c
      · exact nsub ⟨o, ho, fun x hx => (e x).mp ((memK x).mpr (Kg x hx))⟩
      · have hpK : K p := Kg p ((hg p).mpr (.inl rfl))
        have hvl := c v ((memK v).mpr Kv)
        by_cases e : v = p
        · exact nv ((hg v).mpr (.inl e))
        · exact nv ((hg v).mpr (.inr ⟨Kc p v hpK Kv (Ne.symm e), hvl⟩))
    refine ⟨h.nd.erase p, fun x hx => h.lt x ((ml x).mp hx).2, fun o ho => ?_, by rw [List.length_append, List.length_singleton]; have := h.len; omega, fun K hK => ?_⟩
    · rcases List.mem_append.mp ho with ho | ho
      · exact h.mx o ho
      · rw [List.mem_singleton.mp ho]; exact mg
    · rcases h.cov K hK with ⟨o, ho, e⟩ | c
      · exact .inl ⟨o, by simp [ho], e⟩
      · by_cases hpK : p ∈ K
        · exact .inl ⟨g, by simp, inside K hK c hpK⟩
        · exact .inr fun x hx => (ml x).mpr ⟨fun e => hpK (e ▸ hx), c x hx⟩
/-- what the groups are in the end -/
structure Grps (adj : Nat → Nat → Prop) (n : Nat) (gs : List (List Nat)) : Prop where
  mx : ∀ g ∈ gs, MaxC adj n g
  cov : ∀ x y, x < n → y < n → (x = y ∨ adj x y) → ∃ g ∈ gs, x ∈ g ∧ y ∈ g
  len : gs.length ≤ n
theorem GInv.end (h : GInv adj n [] found) : Grps adj n found := by
  refine ⟨h.mx, fun x y xn yn e => ?_, by have := h.len; simpa using this⟩
  let P : (Nat → Prop) → Prop := fun K => (∀ x, K x → x < n) ∧ (∀ x y, K x → K y → x ≠ y → adj x y) ∧ K x ∧ K y
  have ex : ∃ K, P K := ⟨fun z => z = x ∨ z = y, fun z hz => hz.elim (fun e => e ▸ xn) fun e => e ▸ yn, fun a b ha hb ne => by
    rcases ha with rfl | rfl <;> rcases hb with rfl | rfl
    · exact (ne rfl).elim
    · exact e.resolve_left ne
    · exact sy _ _ (e.resolve_left (Ne.symm ne))
    · exact (ne rfl).elim, .inl rfl, .inr rfl⟩
  obtain ⟨K, ⟨Kn, Kc, Kx, Ky⟩, best⟩ := least P (fun K => n - card K n) ex
  have mem : ∀ x, x ∈ ((List.range n).filter fun x => decide (K x)) ↔ K x := fun x => by
    rw [List.mem_filter]
    constructor
    · intro h; exact of_decide_eq_true h.2
    · intro h; exact ⟨List.mem_range.mpr (Kn x h), decide_eq_true h⟩
  have mK : MaxC adj n ((List.range n).filter fun x => decide (K x)) := by
    refine ⟨fun x hx y hy => Kc x y ((mem x).mp hx) ((mem y).mp hy), fun x hx => Kn x ((mem x).mp hx), fun u un hu => (mem u).mpr ?_⟩
    apply Classical.byContradiction
    intro nu
    have hu' : ∀ x, K x → u = x ∨ adj u x := fun x hx => hu x ((mem x).mpr hx)
    have b := best (fun x => K x ∨ x = u) ⟨fun x hx => hx.elim (Kn x) fun e => e ▸ un, fun x y hx hy ne => by
      rcases hx with hx | rfl <;> rcases hy with hy | rfl
      · exact Kc x y hx hy ne
      · exact sy _ _ ((hu' x hx).resolve_left (Ne.symm ne))
      · exact (hu' y hy).resolve_left ne
      · exact (ne rfl).elim, .inl Kx, .inl Ky⟩
    have lt := card_lt (W := K) (U := fun x => K x ∨ x = u) (fun x hx => .inl hx) (.inr rfl) nu n un
    have := card_le_n (fun x => K x ∨ x = u) n
    omega
  rcases h.cov _ mK with ⟨g, hg, e⟩ | c
  · exact ⟨g, hg, (e x).mp ((mem x).mpr Kx), (e y).mp ((mem y).mpr Ky)⟩
  · have := c x ((mem x).mpr Kx); simp at this
omit sy ir
/-- in a model some vertex of those left is simplicial -/
theorem simplicial {lo hi : Nat → Int} (m : Mdl adj (fun x => x < n) lo hi) (lt : ∀ x ∈ left, x < n) (ne : left ≠ []) : ∃ p ∈ left, ∀ x y, (x = p ∨ (adj p x ∧ x ∈ left)) → (y = p ∨ (adj p y ∧ y ∈ left)) → x ≠ y → adj x y := by
  have : ∃ p, p ∈ left ∧ ∀ q ∈ left, hi p ≤ hi q := by
    have key : ∀ l : List Nat, l ≠ [] → ∃ p, p ∈ l ∧ ∀ q ∈ l, hi p ≤ hi q := by
      intro l
      induction l with
      | nil => intro h; exact (h rfl).elim
      | cons a l ih =>
        intro _
        by_cases e : l = []
        · subst e; exact ⟨a, by simp, fun q hq => by rw [List.mem_singleton.mp hq]; exact Int.le_refl _⟩
        · obtain ⟨p, hp, h⟩ := ih e
          by_cases c : hi a ≤ hi p
          · exact ⟨a, by simp, fun q hq => by
              rcases List.mem_cons.mp hq with rfl | hq
              · exact Int.le_refl _
              · have := h q hq; omega⟩
          · exact ⟨p, by simp [hp], fun q hq => by
              rcases List.mem_cons.mp hq with rfl | hq
              · omega
              · exact h q hq⟩
    exact key left ne
  obtain ⟨p, hp, best⟩ := this
  refine ⟨p, hp, ?_⟩
  have on : ∀ x, (x = p ∨ (adj p x ∧ x ∈ left)) → x < n ∧ lo x ≤ hi p ∧ hi p ≤ hi x := by
    intro x hx
    have lp := m.le p (lt p hp)
    rcases hx with rfl | ⟨e, hx⟩
    · exact ⟨lt _ hp, lp, Int.le_refl _⟩
    · have h1 := best x hx
      by_cases c : x = p
      · subst c; exact ⟨lt _ hp, lp, Int.le_refl _⟩
      · have h2 := (m.iff p x (lt p hp) (lt x hx) (Ne.symm c)).mp e
        exact ⟨lt x hx, h2.2, h1⟩
  intro x y hx hy ne
  obtain ⟨xn, x1, x2⟩ := on x hx
  obtain ⟨yn, y1, y2⟩ := on y hy
  exact (m.iff x y xn yn ne).mpr ⟨by omega, by omega⟩
/-- a point that tells a maximal clique -/
theorem MaxC.point {lo hi : Nat → Int} (m : Mdl adj (fun x => x < n) lo hi) (sy : ∀ a b, adj a b → adj b a) {g : List Nat} (hg : MaxC adj n g) (n0 : 0 < n) : ∃ c, ∀ x, x < n → (x ∈ g ↔ lo x ≤ c ∧ c ≤ hi x) := by
  have ne : g ≠ [] := fun e => by
    subst e
    have := hg.mx 0 n0 fun x hx => by simp at hx
    simp at this
  have : ∃ p, p ∈ g ∧ ∀ q ∈ g, lo q ≤ lo p := by
    have key : ∀ l : List Nat, l ≠ [] → ∃ p, p ∈ l ∧ ∀ q ∈ l, lo q ≤ lo p := by
      intro l
      induction l with
      | nil => intro h; exact (h rfl).elim
      | cons a l ih =>
        intro _
        by_cases e : l = []
        · subst e; exact ⟨a, by simp, fun q hq => by rw [List.mem_singleton.mp hq]; exact Int.le_refl _⟩
        · obtain ⟨p, hp, h⟩ := ih e
          by_cases c : lo p ≤ lo a
          · exact ⟨a, by simp, fun q hq => by
              rcases List.mem_cons.mp hq with rfl | hq
              · exact Int.le_refl _
              · have := h q hq; omega⟩
          · exact ⟨p, by simp [hp], fun q hq => by
              rcases List.mem_cons.mp hq with rfl | hq
              · omega
              · exact h q hq⟩
    exact key g ne
  obtain ⟨p, hp, best⟩ := this
  have pn := hg.lt p hp
  have on : ∀ x ∈ g, lo x ≤ lo p ∧ lo p ≤ hi x := by
    intro x hx
    refine ⟨best x hx, ?_⟩
    by_cases e : x = p
    · subst e; exact m.le x pn
    · exact ((m.iff x p (hg.lt x hx) pn e).mp (hg.clq x hx p hp e)).2
  refine ⟨lo p, fun x xn => ⟨on x, fun hx => hg.mx x xn fun y hy => ?_⟩⟩
  by_cases e : x = y
  · exact .inl e
  · have := on y hy
    exact .inr ((m.iff x y xn (hg.lt y hy) e).mpr ⟨by omega, by omega⟩)
end
/-- a sorted list, cut by two bounds -/
theorem sorted_cut (t : Nat → Int) (a b : Int) (hab : a ≤ b + 1) : ∀ (l : List Nat), l.Pairwise (fun x y => t x ≤ t y) → l = l.filter (fun x => decide (t x < a)) ++ l.filter (fun x => decide (a ≤ t x ∧ t x ≤ b)) ++ l.filter (fun x => decide (b < t x ∧ a ≤ t x))
  | [], _ => rfl
  | x :: l, h => by
    rw [List.pairwise_cons] at h
    have ih := sorted_cut t a b hab l h.2
    by_cases c1 : t x < a
    · rw [List.filter_cons, if_pos (decide_eq_true c1), List.filter_cons, if_neg (fun e => by have := of_decide_eq_true e; omega), List.filter_cons, if_neg (fun e => by have := of_decide_eq_true e; omega)]
      rw [List.cons_append, List.cons_append, ← ih]
    · have f1 : l.filter (fun x => decide (t x < a)) = [] := List.filter_eq_nil_iff.mpr fun y hy e => by
        have := h.1 y hy; have := of_decide_eq_true e; omega
      rw [f1, List.nil_append] at ih
      by_cases c2 : t x ≤ b
      · rw [List.filter_cons, if_neg (fun e => c1 (of_decide_eq_true e)), f1, List.nil_append, List.filter_cons, if_pos (decide_eq_true (by omega)), List.filter_cons, if_neg (fun e => by have := of_decide_eq_true e; omega)]
        rw [List.cons_append, ← ih]
      · have f2 : l.filter (fun x => decide (a ≤ t x ∧ t x ≤ b)) = [] := List.filter_eq_nil_iff.mpr fun y hy e => by
          have := h.1 y hy; have := of_decide_eq_true e; omega
        rw [f2, List.nil_append] at ih
        rw [List.filter_cons, if_neg (fun e => c1 (of_decide_eq_true e)), f1, List.nil_append, List.filter_cons, if_neg (fun e => by have := of_decide_eq_true e; omega), f2, List.nil_append, List.filter_cons, if_pos (decide_eq_true (by omega))]
        rw [← ih]
/-- the set of a person: the places of the person's groups -/
def setOf (gs : List (List Nat)) (x : Nat) : List Int := ((List.range gs.length).filter fun i => decide (x ∈ gs.getD i [])).map fun i : Nat => (i : Int)
theorem exists_order {adj : Nat → Nat → Prop} (sy : ∀ a b, adj a b → adj b a) {n : Nat} {lo hi : Nat → Int} (m : Mdl adj (fun x => x < n) lo hi) (n0 : 0 < n) {gs : List (List Nat)} (hg : ∀ g ∈ gs, MaxC adj n g) :
    ∃ o : List Int, o.Perm ((List.range gs.length).map fun i : Nat => (i : Int)) ∧ ∀ x, x < n → Pq.Tog (setOf gs x) o := by
  have ex : ∀ i : Nat, ∃ c : Int, ∀ g, gs[i]? = some g → ∀ x, x < n → (x ∈ g ↔ lo x ≤ c ∧ c ≤ hi x) := by
    intro i
    cases e : gs[i]? with
    | none => exact ⟨0, fun g h => by cases h⟩
    | some g =>
      obtain ⟨c, hc⟩ := (hg g (List.mem_of_getElem? e)).point m sy n0
      exact ⟨c, fun g' h => by cases h; exact hc⟩
  let t : Nat → Int := fun i => (ex i).choose
  have ht : ∀ i g, gs[i]? = some g → ∀ x, x < n → (x ∈ g ↔ lo x ≤ t i ∧ t i ≤ hi x) := fun i => (ex i).choose_spec
  let l := (List.range gs.length).mergeSort fun a b => decide (t a ≤ t b)
  have hp : l.Perm (List.range gs.length) := List.mergeSort_perm _ _
  have hs : l.Pairwise (fun a b => t a ≤ t b) := by
    have := List.pairwise_mergeSort (le := fun a b => decide (t a ≤ t b)) (fun a b c h1 h2 => by
      have := of_decide_eq_true h1; have := of_decide_eq_true h2
      exact decide_eq_true (by omega)) (fun a b => by
      by_cases c : t a ≤ t b
      · simp [c]
      · simp; omega) (List.range gs.length)
    exact this.imp fun h => of_decide_eq_true h
  refine ⟨l.map fun i : Nat => (i : Int), hp.map _, fun x xn => ?_⟩
  have le := m.le x xn
  have cut := sorted_cut t (lo x) (hi x) (by omega) l hs
  have inS : ∀ i ∈ l, ((i : Int) ∈ setOf gs x ↔ lo x ≤ t i ∧ t i ≤ hi x) := by
    intro i hi'
    have il : i < gs.length := List.mem_range.mp (hp.mem_iff.mp hi')
    have e : gs[i]? = some gs[i] := List.getElem?_eq_getElem il
    rw [← ht i _ e x xn]
    unfold setOf
    rw [List.mem_map]
    constructor
    · rintro ⟨j, hj, e2⟩
      have : j = i := by exact Int.ofNat.inj e2
      subst this
      have := of_decide_eq_true (List.mem_filter.mp hj).2
      rwa [List.getD_eq_getElem?_getD, e] at this
    · intro h
      refine ⟨i, List.mem_filter.mpr ⟨List.mem_range.mpr il, decide_eq_true ?_⟩, rfl⟩
      rw [List.getD_eq_getElem?_getD, e]; exact h
  refine ⟨_, _, _, by rw [cut, List.map_append, List.map_append], fun y hy hy2 => ?_, fun y hy => ?_, fun y hy hy2 => ?_⟩
  · obtain ⟨i, hi', rfl⟩ := List.mem_map.mp hy
    have f := List.mem_filter.mp hi'
    have := (inS i f.1).mp hy2
    have := of_decide_eq_true f.2
    omega
  · obtain ⟨i, hi', rfl⟩ := List.mem_map.mp hy
    have f := List.mem_filter.mp hi'
    exact (inS i f.1).mpr (of_decide_eq_true f.2)
  · obtain ⟨i, hi', rfl⟩ := List.mem_map.mp hy
    have f := List.mem_filter.mp hi'
    have := (inS i f.1).mp hy2
    have := of_decide_eq_true f.2
    omega
/-- the times at which a person is there -/
def At (gs : List (List Nat)) (o : List Int) (x τ : Nat) : Prop := ∃ (k : Nat) (g : List Nat), o[τ]? = some ((k : Nat) : Int) ∧ gs[k]? = some g ∧ x ∈ g
theorem hours_ok {adj : Nat → Nat → Prop} {n : Nat} {gs : List (List Nat)} (hg : Grps adj n gs) {o : List Int} (hp : o.Perm ((List.range gs.length).map fun i : Nat => (i : Int))) (tog : ∀ x, x < n → Pq.Tog (setOf gs x) o) {mn mx : Nat → Nat}
    (hmn : ∀ x, x < n → At gs o x (mn x)) (hmx : ∀ x, x < n → At gs o x (mx x)) (hbt : ∀ x, x < n → ∀ τ, At gs o x τ → mn x ≤ τ ∧ τ ≤ mx x) : ∀ x y, x < n → y < n → x ≠ y → (adj x y ↔ mn x ≤ mx y ∧ mn y ≤ mx x) := by
  have inS : ∀ (x k : Nat) (g : List Nat), gs[k]? = some g → (((k : Nat) : Int) ∈ setOf gs x ↔ x ∈ g) := by
    intro x k g e
    unfold setOf
    rw [List.mem_map]
    constructor
    · rintro ⟨j, hj, e2⟩
      have : j = k := by exact Int.ofNat.inj e2
      subst this
      have := of_decide_eq_true (List.mem_filter.mp hj).2
      rwa [List.getD_eq_getElem?_getD, e] at this
    · intro h
      refine ⟨k, List.mem_filter.mpr ⟨List.mem_range.mpr (List.getElem?_eq_some_iff.mp e).1, decide_eq_true ?_⟩, rfl⟩
      rw [List.getD_eq_getElem?_getD, e]; exact h
  have val : ∀ τ, τ < o.length → ∃ (k : Nat) (g : List Nat), o[τ]? = some ((k : Nat) : Int) ∧ gs[k]? = some g := by
    intro τ h
    have hm : o[τ] ∈ (List.range gs.length).map fun i : Nat => (i : Int) := hp.mem_iff.mp (List.getElem_mem h)
    obtain ⟨k, hk, e⟩ := List.mem_map.mp hm
    have kl := List.mem_range.mp hk
    exact ⟨k, gs[k], by rw [List.getElem?_eq_getElem h, e], List.getElem?_eq_getElem kl⟩
  have cont : ∀ x, x < n → ∀ a b c, At gs o x a → At gs o x c → a ≤ b → b ≤ c → At gs o x b := by
    intro x xn a b c ha hc hab hbc
    obtain ⟨u, m, v, e, fu, im, fv⟩ := tog x xn
    have pos : ∀ τ, At gs o x τ → u.length ≤ τ ∧ τ < u.length + m.length := by
      intro τ ⟨k, g, h1, h2, h3⟩
      have ins := (inS x k g h2).mpr h3
      rw [e, List.append_assoc] at h1
      constructor
      · apply Classical.byContradiction
        intro c
        rw [List.getElem?_append_left (by omega)] at h1
        exact fu _ (List.mem_of_getElem? h1) ins
      · apply Classical.byContradiction
        intro c
        rw [List.getElem?_append_right (by omega), List.getElem?_append_right (by omega)] at h1
        exact fv _ (List.mem_of_getElem? h1) ins
    have pa := pos a ha
    have pc := pos c hc
    have bl : b < o.length := by rw [e]; simp; omega
    obtain ⟨k, g, h1, h2⟩ := val b bl
    refine ⟨k, g, h1, h2, (inS x k g h2).mp (im _ ?_)⟩
    rw [e, List.append_assoc, List.getElem?_append_right (by omega), List.getElem?_append_left (by omega)] at h1
    exact List.mem_of_getElem? h1
  have place : ∀ k, k < gs.length → ∃ τ : Nat, o[τ]? = some ((k : Nat) : Int) := by
    intro k hk
    have : ((k : Nat) : Int) ∈ o := hp.mem_iff.mpr (List.mem_map.mpr ⟨k, List.mem_range.mpr hk, rfl⟩)
    obtain ⟨τ, h, e⟩ := List.mem_iff_getElem.mp this
    exact ⟨τ, by rw [List.getElem?_eq_getElem h, e]⟩
  intro x y xn yn ne
  constructor
  · intro e
    obtain ⟨g, hgm, hx, hy⟩ := hg.cov x y xn yn (.inr e)
    obtain ⟨k, hk, ek⟩ := List.mem_iff_getElem.mp hgm
    obtain ⟨τ, ht⟩ := place k hk
    have gk : gs[k]? = some g := by rw [List.getElem?_eq_getElem hk, ek]
    have := hbt x xn τ ⟨k, g, ht, gk, hx⟩
    have := hbt y yn τ ⟨k, g, ht, gk, hy⟩
    omega
  · intro ⟨h1, h2⟩
    have meet : ∃ τ, At gs o x τ ∧ At gs o y τ := by
      have ox := hbt x xn _ (hmx x xn)
      have oy := hbt y yn _ (hmx y yn)
      by_cases c : mn x ≤ mn y
      · exact ⟨mn y, cont x xn (mn x) (mn y) (mx x) (hmn x xn) (hmx x xn) c h2, hmn y yn⟩
      · exact ⟨mn x, hmn x xn, cont y yn (mn y) (mn x) (mx y) (hmn y yn) (hmx y yn) (by omega) h1⟩
    obtain ⟨τ, ⟨k, g, a1, a2, a3⟩, k', g', b1, b2, b3⟩ := meet
    rw [a1] at b1
    have : k = k' := by exact Int.ofNat.inj (Option.some.inj b1)
    subst this
    rw [a2] at b2; cases b2
    exact (hg.mx g (List.mem_of_getElem? a2)).clq x a3 y b3 ne
end Gr
end
section
set_option autoImplicit false
set_option linter.all false
namespace Pq
/-! ### sizes, and lists of shares -/
theorem split_len {S : List Int} {k : Nat} {t : Tree} {L : List Tree} (wf : Wf t) (sh : share S t = .so) (h : split S k t = some L) : (∀ p ∈ L, Wf p) ∧ (listedL L).length = (listed t).length := by
  have o := split_sound k t L wf sh h
  refine ⟨o.wf, ?_⟩
  have s : Sq L (listedL L) := Sq.self fun p _ => tells_listed p
  exact (Tells.perm t _ (o.sound _ s)).length_eq
theorem rowParts_append {S : List Int} {f : Tree → Option (List Tree)} : ∀ (a b : List Tree), rowParts S f (a ++ b) = (rowParts S f a).bind fun l => (rowParts S f b).map (l ++ ·)
  | [], b => by cases e : rowParts S f b <;> simp [rowParts, e]
  | p :: a, b => by
    show (if share S p = .so then (f p).bind fun l => (rowParts S f (a ++ b)).map (l ++ ·) else (rowParts S f (a ++ b)).map (p :: ·)) = (if share S p = .so then (f p).bind fun l => (rowParts S f a).map (l ++ ·) else (rowParts S f a).map (p :: ·)).bind _
    rw [rowParts_append a b]
    by_cases e : share S p = .so
    · rw [if_pos e, if_pos e]
      cases f p <;> cases rowParts S f a <;> cases rowParts S f b <;> simp
    · rw [if_neg e, if_neg e]
      cases rowParts S f a <;> cases rowParts S f b <;> simp
theorem rowParts_one {S : List Int} {f : Tree → Option (List Tree)} (p : Tree) : rowParts S f [p] = if share S p = .so then f p else some [p] := by
  show (if share S p = .so then (f p).bind fun l => (rowParts S f []).map (l ++ ·) else (rowParts S f []).map (p :: ·)) = _
  by_cases e : share S p = .so
  · rw [if_pos e, if_pos e]
    cases f p <;> simp [rowParts]
  · rw [if_neg e, if_neg e]; rfl
theorem rowParts_snoc {S : List Int} {f : Tree → Option (List Tree)} {a : List Tree} {L : List Tree} {p : Tree} (h : rowParts S f a = some L) : rowParts S f (a ++ [p]) = (if share S p = .so then f p else some [p]).map (L ++ ·) := by
  rw [rowParts_append, h, rowParts_one]; rfl
theorem rowParts_len {S : List Int} {k : Nat} : ∀ {A L : List Tree}, (∀ p ∈ A, Wf p) → rowParts S (split S k) A = some L → (∀ p ∈ L, Wf p) ∧ (listedL L).length = (listedL A).length
  | [], L, _, h => by
    have e : [] = L := Option.some.inj h
    subst e
    exact ⟨fun _ h => by simp at h, rfl⟩
  | p :: A, L, wf, h => by
    have h' : (if share S p = .so then (split S k p).bind fun l => (rowParts S (split S k) A).map (l ++ ·) else (rowParts S (split S k) A).map (p :: ·)) = some L := h
    split at h'
    · rename_i e
      simp only [Option.bind_eq_some_iff, Option.map_eq_some_iff] at h'
      obtain ⟨l, hl, m, hm, rfl⟩ := h'
      obtain ⟨w1, e1⟩ := split_len (wf p (by simp)) e hl
      obtain ⟨w2, e2⟩ := rowParts_len (fun q hq => wf q (by simp [hq])) hm
      refine ⟨fun q hq => (List.mem_append.mp hq).elim (w1 q) (w2 q), ?_⟩
      rw [listedL_append, List.length_append, e1, e2]
      show _ = (listed p ++ listedL A).length
      rw [List.length_append]
    · simp only [Option.map_eq_some_iff] at h'
      obtain ⟨m, hm, rfl⟩ := h'
      obtain ⟨w2, e2⟩ := rowParts_len (fun q hq => wf q (by simp [hq])) hm
      refine ⟨fun q hq => ?_, ?_⟩
      · rcases List.mem_cons.mp hq with rfl | hq
        · exact wf _ (by simp)
        · exact w2 q hq
      · show (listed p ++ listedL m).length = (listed p ++ listedL A).length
        rw [List.length_append, List.length_append, e2]
theorem pieces_append {S : List Int} {f : Tree → Option (List Tree)} {last : Nat} : ∀ (i : Nat) (a b : List Tree), pieces S f last i (a ++ b) = (pieces S f last i a).bind fun l => (pieces S f last (i + a.length) b).map (l ++ ·)
  | i, [], b => by cases e : pieces S f last i b <;> simp [pieces, e]
  | i, p :: a, b => by
    have e : i + (p :: a).length = i + 1 + a.length := by simp; omega
    rw [e, List.cons_append, pieces_cons, pieces_cons, pieces_append (i + 1) a b]
    cases piece S f (decide (i = last)) p <;> cases pieces S f last (i + 1) a <;> cases pieces S f last (i + 1 + a.length) b <;> simp
theorem pieces_snoc {S : List Int} {f : Tree → Option (List Tree)} {last i : Nat} {a L : List Tree} {p : Tree} (h : pieces S f last i a = some L) : pieces S f last i (a ++ [p]) = (piece S f (decide (i + a.length = last)) p).map (L ++ ·) := by
  rw [pieces_append, h, pieces_cons]
  cases piece S f (decide (i + a.length = last)) p <;> simp [pieces]
theorem piece_len {S : List Int} {k : Nat} {rev : Bool} {p : Tree} {L : List Tree} (wf : Wf p) (h : piece S (split S k) rev p = some L) : (∀ q ∈ L, Wf q) ∧ (listedL L).length = (listed p).length := by
  unfold piece at h
  split at h
  · rename_i e
    simp only [Option.map_eq_some_iff] at h
    obtain ⟨l, hl, rfl⟩ := h
    obtain ⟨w1, e1⟩ := split_len wf e hl
    cases rev with
    | false => exact ⟨by simpa using w1, by simpa using e1⟩
    | true => exact ⟨fun q hq => w1 q (by simpa using hq), by rw [if_pos rfl, (listedL_perm (List.reverse_perm l)).length_eq]; exact e1⟩
  · cases h
    refine ⟨fun q hq => by rw [List.mem_singleton.mp hq]; exact wf, ?_⟩
    show (listed p ++ []).length = _
    rw [List.append_nil]
theorem pieces_len {S : List Int} {k last : Nat} : ∀ {i : Nat} {A L : List Tree}, (∀ p ∈ A, Wf p) → pieces S (split S k) last i A = some L → (∀ p ∈ L, Wf p) ∧ (listedL L).length = (listedL A).length
  | i, [], L, _, h => by
    have e : [] = L := Option.some.inj h
    subst e
    exact ⟨fun _ h => by simp at h, rfl⟩
  | i, p :: A, L, wf, h => by
    rw [pieces_cons] at h
    simp only [Option.bind_eq_some_iff, Option.map_eq_some_iff] at h
    obtain ⟨l, hl, m, hm, rfl⟩ := h
    obtain ⟨w1, e1⟩ := piece_len (wf p (by simp)) hl
    obtain ⟨w2, e2⟩ := pieces_len (fun q hq => wf q (by simp [hq])) hm
    refine ⟨fun q hq => (List.mem_append.mp hq).elim (w1 q) (w2 q), ?_⟩
    rw [listedL_append, List.length_append, e1, e2]
    show _ = (listed p ++ listedL A).length
    rw [List.length_append]
theorem joinRow_mid {S : List Int} {f : Tree → Option (List Tree)} {X Z Y : List Tree} {q r : Tree} (hX : ∀ p ∈ X, share S p = .no) (hq : share S q ≠ .no) (hr : share S r ≠ .no) (hY : ∀ p ∈ Y, share S p = .no) :
    joinRow S f (X ++ q :: (Z ++ r :: Y)) = if (∀ p ∈ Z, share S p = .al) then (pieces S f (X.length + 1 + Z.length) X.length (q :: (Z ++ [r]))).map fun l => makeRow (X ++ l ++ Y) else none := by
  rw [joinRow_eq hX hq hr hY]
  by_cases c : ∀ p ∈ Z, share S p = .al
  · rw [if_pos c, if_pos c]
    have nso : ∀ p ∈ Z, share S p ≠ .so := fun p hp e => by rw [c p hp] at e; cases e
    have d1 : decide (X.length = X.length + 1 + Z.length) = false := decide_eq_false (by omega)
    rw [pieces_cons, d1, pieces_plain nso, pieces_cons]
    simp only [decide_true]
    cases piece S f false q with
    | none => rfl
    | some l =>
      cases piece S f true r with
      | none => rfl
      | some k => simp [pieces]
  · rw [if_neg c, if_neg c]
theorem sorted_eq {ns ms : List Int} (p : ms.Perm ns) (h : ms.Pairwise (· ≤ ·)) : ns.Pairwise (· ≤ ·) ↔ ns = ms := by
  constructor
  · intro k
    induction ns generalizing ms with
    | nil => exact (List.perm_nil.mp p).symm
    | cons a ns ih =>
      cases ms with
      | nil => exact List.nil_perm.mp p
      | cons b ms =>
        rw [List.pairwise_cons] at h k
        have ha : a ∈ b :: ms := p.symm.mem_iff.mp (by simp)
        have hb : b ∈ a :: ns := p.mem_iff.mp (by simp)
        have e : a = b := by
          rcases List.mem_cons.mp ha with e | ha
          · exact e
          · rcases List.mem_cons.mp hb with e | hb
            · exact e.symm
            · have := h.1 a ha; have := k.1 b hb; omega
        subst e
        rw [ih p.cons_inv h.2 k.2]
  · intro e; rw [e]; exact h
end Pq
end
section
set_option Elab.async false
set_option linter.all false
set_option maxRecDepth 100000
set_option maxHeartbeats 4000000
/-! The walk, base: the text by places, defs by name, data in the heap -/
namespace Up
open PySem PySem.Spec PyProof.Rows L2
def topS (i : Nat) : Stmt := PySem.Challenge.pw_unpartedrows_k16_whole_visits.main.body.getD i (.Pass ⟨0, 0, 0, 0⟩)
/-- a def of the text where it stands -/
structure Here (K : PySem.W.Frag) (mg : Str → Option Value) (x : Str) (st : Stmt) (ps : List Str) : Prop where
  ex : ∃ f fd, mg x = some (.ref f) ∧ Fun K x x st f fd ∧ Binds K fd ps []
/-- a def that keeps a promise, by name -/
structure Df (P : Program) (w : World) (K : PySem.W.Frag) (mg : Str → Option Value) (base : Heap) (x : Str) (ps : List Str) (k : Nat) (sp : Sp) : Prop where
  ex : ∃ f fd, mg x = some (.ref f) ∧ PySem.W.keepIn K (.ref f) = true ∧ Binds K fd ps [] ∧ FnOk P w K mg base CX0 k f fd ps sp
section
variable {P : Program} {w : World} {K : PySem.W.Frag} {mg : Str → Option Value} {base : Heap}
theorem Df.mono {x : Str} {ps : List Str} {j k : Nat} {sp : Sp} (D : Df P w K mg base x ps j sp) (h : j ≤ k) : Df P w K mg base x ps k sp := by
  obtain ⟨f, fd, a, b, c, d⟩ := D.ex
  exact ⟨f, fd, a, b, c, d.mono h⟩
theorem Df.imp {x : Str} {ps : List Str} {k : Nat} {sp sp' : Sp} (D : Df P w K mg base x ps k sp) (h : ∀ vs H Q E, sp' vs H Q E → sp vs H Q E) : Df P w K mg base x ps k sp' := by
  obtain ⟨f, fd, a, b, c, d⟩ := D.ex
  exact ⟨f, fd, a, b, c, d.imp h⟩
theorem Here.df {x : Str} {st : Stmt} {ps N : List Str} {k : Nat} {sp : Sp} (A : Here K mg x st ps) (S : FnScope N ps (defScope st)) (len : ∀ vs H Q E, sp vs H Q E → vs.length = ps.length)
    (hbody : ∀ (f : Addr) (cdv : Value) (A : Around) (outer : List Env) (s : Shared) (H : Hp) (vs : List V) (Q : VK) (E : XK), Room k (A.deeper (envOfC x (defScope st) s.heap.objs.size f cdv)) → sp vs H Q E →
      ∃ t, PSs (cxOf CX0 P w K mg base N x (defScope st) f cdv A outer s H E).nox (defBody st) t ∧ t { nx := fun _ H' => Q .non H', rt := Q } (start N vs) H) : Df P w K mg base x ps (k + 1) sp := by
  obtain ⟨f, fd, a, F, b⟩ := A.ex
  exact ⟨f, fd, a, F.kp, b, F.ok S len (hbody f)⟩
end
theorem pe_df {X : Cx} {x : Str} {ps : List Str} {k : Nat} {sp : Sp} {p pos : Pos} {e : Expr} {es : List Expr} {t : TA} (D : Df X.prog X.w X.K X.mg X.base x ps k sp) (hr : Room k X.A) (hg : Gl X x) (ha : PA X (e :: es) t)
    (hdb : (x == ("__debug__" : Str)) = false := by decide) (he : starEach (e :: es) X.env = (false, eval e X.env) :: starEach es X.env := by rfl) (hpl : (backTo pos (starEach es X.env)).any (·.1) = false := by rfl) :
    PE X (.Call (.Name x p) (e :: es) [] pos) (tCall sp [] E0 t) := by
  obtain ⟨f, fd, a, b, c, d⟩ := D.ex
  exact pe_call d hr hg a b c .nil pass0 ha hdb he hpl
/-- the built-ins that no name of the module hides -/
structure Top (mg : Str → Option Value) : Prop where
  len : mg "len" = none
  range : mg "range" = none
  sorted : mg "sorted" = none
  isinstance : mg "isinstance" = none
  int : mg "int" = none
  tuple : mg "tuple" = none
  list : mg "list" = none
  min : mg "min" = none
  max : mg "max" = none
  enumerate : mg "enumerate" = none
  any : mg "any" = none
  all : mg "all" = none
  most : ∃ t, mg "MOST_THINGS" = some (.int 24 t)
/-! ### answers -/
theorem qbT {Q : VK} {H : Hp} {c : Prop} [Decidable c] (h : c) (q : Q (.bl true) H) : Q (.bl (decide c)) H := by rw [decide_eq_true h]; exact q
theorem qbF {Q : VK} {H : Hp} {c : Prop} [Decidable c] (h : ¬ c) (q : Q (.bl false) H) : Q (.bl (decide c)) H := by rw [decide_eq_false h]; exact q
theorem iteD {c A B : Prop} [Decidable c] (h1 : c → A) (h2 : ¬ c → B) : if decide c = true then A else B := by
  by_cases h : c
  · rw [decide_eq_true h, if_pos rfl]; exact h1 h
  · rw [decide_eq_false h, if_neg Bool.false_ne_true]; exact h2 h
theorem iteDn {c A B : Prop} [Decidable c] (h1 : ¬ c → A) (h2 : c → B) : if (!decide c) = true then A else B := by
  by_cases h : c
  · rw [decide_eq_true h, if_neg (by decide)]; exact h2 h
  · rw [decide_eq_false h, if_pos (by decide)]; exact h1 h
/-- no test in a comprehension: the element is made -/
theorem yes {σ : L2.St} {H : Hp} {A B : Hp → Prop} (h : A H) : tYes σ H fun b H3 => if b = true then A H3 else B H3 := by
  show if true = true then A H else B H
  rw [if_pos rfl]
  exact h
/-! ### heaps -/
theorem same_new {H : Hp} {p : Addr} {o : HO} (h : H p = none) : Same H (upd H p o) := fun b u e => by
  rw [upd_ne (ne_of_none e h)]
  exact e
theorem same_seqT {K : PySem.W.Frag} {H H' : Hp} {a : Addr} {xs : List V} (e : Same H H') (h : SqT K H a xs) : SqT K H' a xs := by
  rcases h with (h | ⟨o, h⟩) | h
  · exact .inl (.inl (e _ _ h))
  · exact .inl (.inr ⟨o, e _ _ h⟩)
  · exact .inr h
/-! ### is_size, check_things -/
abbrev sIsSize : Stmt := topS 6
abbrev sCheckThings : Stmt := topS 7
theorem scIsSize : FnScope ["n"] ["n"] (defScope sIsSize) := ⟨rfl, rfl, rfl, by decide +kernel, rfl, by decide +kernel, by decide +kernel⟩
theorem scCheckThings : FnScope ["n"] ["n"] (defScope sCheckThings) := ⟨rfl, rfl, rfl, by decide +kernel, rfl, by decide +kernel, by decide +kernel⟩
def spIsSize : Sp := fun vs H Q _ => ∃ n : Int, vs = [.int n] ∧ 1 ≤ n ∧ n ≤ 24 ∧ Q (.bl true) H
def spCheckThings : Sp := fun vs H Q _ => ∃ n : Int, vs = [.int n] ∧ 1 ≤ n ∧ n ≤ 24 ∧ Q (.int n) H
section
variable {P : Program} {w : World} {K : PySem.W.Frag} {mg : Str → Option Value} {base : Heap}
theorem ok_is_size (A : Here K mg "is_size" sIsSize ["n"]) (T : Top mg) : Df P w K mg base "is_size" ["n"] 1 spIsSize := by
  refine A.df scIsSize (fun vs H Q E h => ?_) (fun f cdv A outer s H vs Q E hr h => ?_)
  · obtain ⟨n, rfl, _⟩ := h; rfl
  · obtain ⟨n, rfl, h1, h2, q⟩ := h
    obtain ⟨t, hm⟩ := T.most
    refine ⟨_, pss_one (ps_ret (pe_chain op_le op_le pe_int (pv 0) (pe_glob (v := .int 24) rfl hm ⟨t, rfl⟩))), ?_⟩
    refine ⟨_, rfl, _, _, rfl, rfl, _, rfl, ?_⟩
    rw [decide_eq_true h1]
    refine iteT ⟨_, _, rfl, rfl, ?_⟩
    exact qbT (c := n ≤ 24) h2 q
theorem ok_check_things (A : Here K mg "check_things" sCheckThings ["n"]) (T : Top mg) (D : Df P w K mg base "is_size" ["n"] 1 spIsSize) : Df P w K mg base "check_things" ["n"] 2 spCheckThings := by
  refine A.df scCheckThings (fun vs H Q E h => ?_) (fun f cdv A outer s H vs Q E hr h => ?_)
  · obtain ⟨n, rfl, _⟩ := h; rfl
  · obtain ⟨n, rfl, h1, h2, q⟩ := h
    refine ⟨_, pss_cons (ps_if (pt_not (pt_val (pe_df D hr rfl (pa_cons (pv 0) pa_nil)))) (pss_one ps_never) pss_nil) (pss_one (ps_ret (pv 0))), ?_⟩
    refine ⟨_, rfl, n, rfl, h1, h2, true, rfl, ?_⟩
    exact iteF ⟨_, rfl, q⟩
end
end Up
namespace Up
open PySem PySem.Spec PyProof.Rows L2
/-- a promise that nothing fulfils -/
theorem Here.none {P : Program} {w : World} {K : PySem.W.Frag} {mg : Str → Option Value} {base : Heap} {x : Str} {st : Stmt} {ps : List Str} {k : Nat} {sp : Sp} (A : Here K mg x st ps) (no : ∀ vs H Q E, ¬ sp vs H Q E) : Df P w K mg base x ps k sp := by
  obtain ⟨f, fd, a, F, b⟩ := A.ex
  exact ⟨f, fd, a, F.kp, b, fun vs H Q E h => absurd h (no vs H Q E), fun A outer s H args us vs Q E _ _ _ _ h => absurd h (no vs H Q E)⟩
end Up
end
section
set_option Elab.async false
set_option linter.all false
set_option maxRecDepth 100000
set_option maxHeartbeats 4000000
namespace Up
open PySem PySem.Spec PyProof.Rows L2
/-! ### trees in the heap -/
mutual
inductive TreeAt (H : Hp) : V → Pq.Tree → Prop where
  | th (a : Int) : TreeAt H (.int a) (.th a)
  | any {p q : Addr} {vs : List V} {ps : List Pq.Tree} : H p = some (.tup [.str "any", .ref q]) → H q = some (.tup vs) → TreesAt H vs ps → TreeAt H (.ref p) (.any ps)
  | row {p q : Addr} {vs : List V} {ps : List Pq.Tree} : H p = some (.tup [.str "row", .ref q]) → H q = some (.tup vs) → TreesAt H vs ps → TreeAt H (.ref p) (.row ps)
inductive TreesAt (H : Hp) : List V → List Pq.Tree → Prop where
  | nil : TreesAt H [] []
  | cons {v : V} {vs : List V} {t : Pq.Tree} {ts : List Pq.Tree} : TreeAt H v t → TreesAt H vs ts → TreesAt H (v :: vs) (t :: ts)
end
/-- the tuples are as they were -/
def SameT (H H' : Hp) : Prop := ∀ b xs, H b = some (.tup xs) → H' b = some (.tup xs)
theorem same_t {H H' : Hp} (e : Same H H') : SameT H H' := fun b xs h => e b _ h
theorem SameT.refl (H : Hp) : SameT H H := fun _ _ h => h
theorem SameT.trans {H H1 H2 : Hp} (a : SameT H H1) (b : SameT H1 H2) : SameT H H2 := fun c xs h => b c xs (a c xs h)
theorem SameT.lst {H : Hp} {p : Addr} {xs : List V} {o : HO} (h : H p = some (.lst xs)) : SameT H (upd H p o) := fun b ys e => by
  rw [upd_ne (ne_of e h (by intro z; cases z))]
  exact e
theorem SameT.new {H : Hp} {p : Addr} {o : HO} (h : H p = none) : SameT H (upd H p o) := same_t (same_new h)
mutual
theorem TreeAt.monoT {H H' : Hp} (e : SameT H H') : ∀ {v : V} {t : Pq.Tree}, TreeAt H v t → TreeAt H' v t
  | _, _, .th a => .th a
  | _, _, .any h1 h2 h3 => .any (e _ _ h1) (e _ _ h2) (TreesAt.monoT e h3)
  | _, _, .row h1 h2 h3 => .row (e _ _ h1) (e _ _ h2) (TreesAt.monoT e h3)
theorem TreesAt.monoT {H H' : Hp} (e : SameT H H') : ∀ {vs : List V} {ts : List Pq.Tree}, TreesAt H vs ts → TreesAt H' vs ts
  | _, _, .nil => .nil
  | _, _, .cons h1 h2 => .cons (TreeAt.monoT e h1) (TreesAt.monoT e h2)
end
theorem TreeAt.mono {H H' : Hp} (e : Same H H') {v : V} {t : Pq.Tree} (h : TreeAt H v t) : TreeAt H' v t := h.monoT (same_t e)
theorem TreesAt.mono {H H' : Hp} (e : Same H H') {vs : List V} {ts : List Pq.Tree} (h : TreesAt H vs ts) : TreesAt H' vs ts := h.monoT (same_t e)
theorem TreesAt.length {H : Hp} : ∀ {vs : List V} {ts : List Pq.Tree}, TreesAt H vs ts → vs.length = ts.length
  | _, _, .nil => rfl
  | _, _, .cons _ h => congrArg Nat.succ (TreesAt.length h)
theorem TreesAt.get {H : Hp} : ∀ {vs : List V} {ts : List Pq.Tree} {i : Nat} {v : V}, TreesAt H vs ts → vs[i]? = some v → ∃ t, ts[i]? = some t ∧ TreeAt H v t
  | _, _, _, _, .nil, h => by simp at h
  | _, _, 0, _, .cons h1 _, h => by
    simp at h; subst h; exact ⟨_, rfl, h1⟩
  | _, _, i + 1, v, .cons _ h2, h => by
    obtain ⟨t, e, k⟩ := TreesAt.get (i := i) (v := v) h2 (by simpa using h)
    exact ⟨t, by simpa using e, k⟩
theorem TreesAt.get' {H : Hp} {vs : List V} {ts : List Pq.Tree} {i : Nat} {t : Pq.Tree} (h : TreesAt H vs ts) (e : ts[i]? = some t) : ∃ v, vs[i]? = some v ∧ TreeAt H v t := by
  have l := h.length
  have il := (List.getElem?_eq_some_iff.mp e).1
  obtain ⟨t', e', k⟩ := h.get (i := i) (List.getElem?_eq_getElem (by omega : i < vs.length))
  rw [e] at e'; cases e'
  exact ⟨_, List.getElem?_eq_getElem _, k⟩
theorem TreesAt.append {H : Hp} {vs' : List V} {ts' : List Pq.Tree} (k : TreesAt H vs' ts') : ∀ {vs : List V} {ts : List Pq.Tree}, TreesAt H vs ts → TreesAt H (vs ++ vs') (ts ++ ts')
  | _, _, .nil => k
  | _, _, .cons h1 h2 => .cons h1 (TreesAt.append k h2)
theorem TreesAt.one {H : Hp} {v : V} {t : Pq.Tree} (h : TreeAt H v t) : TreesAt H [v] [t] := .cons h .nil
theorem TreesAt.reverse {H : Hp} : ∀ {vs : List V} {ts : List Pq.Tree}, TreesAt H vs ts → TreesAt H vs.reverse ts.reverse
  | _, _, .nil => .nil
  | _, _, .cons h1 h2 => by
    rw [List.reverse_cons, List.reverse_cons]
    exact TreesAt.append (TreesAt.one h1) (TreesAt.reverse h2)
theorem TreesAt.take {H : Hp} : ∀ {vs : List V} {ts : List Pq.Tree} (n : Nat), TreesAt H vs ts → TreesAt H (vs.take n) (ts.take n)
  | _, _, 0, _ => .nil
  | _, _, _ + 1, .nil => .nil
  | _, _, n + 1, .cons h1 h2 => .cons h1 (TreesAt.take n h2)
theorem TreesAt.drop {H : Hp} : ∀ {vs : List V} {ts : List Pq.Tree} (n : Nat), TreesAt H vs ts → TreesAt H (vs.drop n) (ts.drop n)
  | _, _, 0, h => h
  | _, _, _ + 1, .nil => .nil
  | _, _, n + 1, .cons _ h2 => TreesAt.drop n h2
theorem TreeAt.ty {K : PySem.W.Frag} {H : Hp} {v : V} {t : Pq.Tree} (h : TreeAt H v t) : (∃ a, v = .int a ∧ t = .th a) ∨ ∃ (p q : Addr) (x : Str) (vs : List V) (ps : List Pq.Tree), v = .ref p ∧ H p = some (.tup [.str x, .ref q]) ∧ H q = some (.tup vs) ∧ TreesAt H vs ps ∧ ((x = "any" ∧ t = .any ps) ∨ (x = "row" ∧ t = .row ps)) := by
  cases h with
  | th a => exact .inl ⟨a, rfl, rfl⟩
  | any h1 h2 h3 => exact .inr ⟨_, _, _, _, _, rfl, h1, h2, h3, .inl ⟨rfl, rfl⟩⟩
  | row h1 h2 h3 => exact .inr ⟨_, _, _, _, _, rfl, h1, h2, h3, .inr ⟨rfl, rfl⟩⟩
/-! ### is_thing, listed, least_thing -/
abbrev sIsThing : Stmt := topS 13
abbrev sListed : Stmt := topS 14
abbrev sLeast : Stmt := topS 15
theorem scIsThing : FnScope ["tree"] ["tree"] (defScope sIsThing) := ⟨rfl, rfl, rfl, by decide +kernel, rfl, by decide +kernel, by decide +kernel⟩
theorem scListed : FnScope ["tree", "found", "part"] ["tree"] (defScope sListed) := ⟨rfl, rfl, rfl, by decide +kernel, rfl, by decide +kernel, by decide +kernel⟩
theorem scLeast : FnScope ["tree"] ["tree"] (defScope sLeast) := ⟨rfl, rfl, rfl, by decide +kernel, rfl, by decide +kernel, by decide +kernel⟩
def isTh : Pq.Tree → Bool
  | .th _ => true
  | _ => false
def spIsThing : Sp := fun vs H Q _ => ∃ v t, vs = [v] ∧ TreeAt H v t ∧ Q (.bl (isTh t)) H
def spListed (d : Nat) : Sp := fun vs H Q _ => ∃ v t, vs = [v] ∧ TreeAt H v t ∧ Pq.depth t < d ∧ (Pq.listed t).length ≤ 1000 ∧ ∀ H' p, Same H H' → H p = none → H' p = some (.lst ((Pq.listed t).map V.int)) → Q (.ref p) H'
def spLeast (d : Nat) : Sp := fun vs H Q _ => ∃ v t, vs = [v] ∧ TreeAt H v t ∧ Pq.depth t < d ∧ (Pq.listed t).length ≤ 1000 ∧ Pq.listed t ≠ [] ∧ ∀ H' a, Same H H' → Q (.int a) H'
section
variable {P : Program} {w : World} {K : PySem.W.Frag} {mg : Str → Option Value} {base : Heap}
theorem ok_is_thing (A : Here K mg "is_thing" sIsThing ["tree"]) (T : Top mg) : Df P w K mg base "is_thing" ["tree"] 1 spIsThing := by
  refine A.df scIsThing (fun vs H Q E h => ?_) (fun f cdv A outer s H vs Q E hr h => ?_)
  · obtain ⟨v, t, rfl, _⟩ := h; rfl
  · obtain ⟨v, t, rfl, ht, q⟩ := h
    refine ⟨_, pss_one (ps_ret (pe_callB call_isi rfl T.isinstance (by decide +kernel) (pa_cons (pv 0) (pa_cons (pe_bltn (v := .ty "int") rfl T.int (by decide +kernel) rfl) pa_nil)))), ?_⟩
    rcases ht.ty (K := K) with ⟨a, rfl, rfl⟩ | ⟨p, qa, x, vs, ps, rfl, hp, hq, hvs, alt⟩
    · exact ⟨_, rfl, _, _, _, _, true, rfl, .ty "int", .base (.int a), kit_ty (by decide +kernel), q⟩
    · refine ⟨_, rfl, _, _, _, _, false, rfl, .ty "int", .base (.tup hp), kit_ty (by decide +kernel), ?_⟩
      rcases alt with ⟨_, rfl⟩ | ⟨_, rfl⟩ <;> exact q
theorem ok_listed_step {d : Nat} (A : Here K mg "listed" sListed ["tree"]) (DI : Df P w K mg base "is_thing" ["tree"] 1 spIsThing) (D : Df P w K mg base "listed" ["tree"] (d + 1) (spListed d)) : Df P w K mg base "listed" ["tree"] (d + 2) (spListed (d + 1)) := by
  refine A.df scListed (fun vs H Q E h => ?_) (fun f cdv A outer s H vs Q E hr h => ?_)
  · obtain ⟨v, t, rfl, _⟩ := h; rfl
  · obtain ⟨v, t, rfl, ht, hd, hl, q⟩ := h
    refine ⟨_, pss_cons (ps_if (pt_val (pe_df DI (hr.mono (by omega)) rfl (pa_cons (pv 0) pa_nil))) (pss_one (ps_ret (pe_lst (pa_cons (pv 0) pa_nil)))) pss_nil)
      (pss_cons (ps_set (i := 1) scListed.nd rfl (.inl rfl) (pe_lst pa_nil))
      (pss_cons (ps_for PassesOwn.never rfl (pi_tup (pe_ix ix_tup (pv 0) pe_int (fun _ _ => rfl))) (pg_name (i := 2) scListed.nd rfl (.inl rfl))
        (pss_one (ps_expr (pe_bm PySem.F.plainAttrs_list PySem.F.slot_list_extend PySem.F.type_list_extend mt_extend (pv 1) (pa_cons (pe_df D hr rfl (pa_cons (pv 2) pa_nil)) pa_nil)))))
      (pss_one (ps_ret (pv 1))))), ?_⟩
    refine ⟨_, rfl, v, t, rfl, ht, _, rfl, ?_⟩
    rcases ht.ty (K := K) with ⟨a, rfl, rfl⟩ | ⟨p, qa, x, vs, ps, rfl, hp, hq, hvs, alt⟩
    · refine iteT ⟨_, rfl, ?_⟩
      refine ⟨(by show 1 ≤ sizeLine; decide), fun p np => ?_⟩
      exact q _ p (same_new np) np upd_same
    · have en : isTh t = false := by rcases alt with ⟨_, rfl⟩ | ⟨_, rfl⟩ <;> rfl
      have el : Pq.listed t = Pq.listedL ps := by rcases alt with ⟨_, rfl⟩ | ⟨_, rfl⟩ <;> rfl
      have ed : Pq.depth t = Pq.depthL ps + 1 := by rcases alt with ⟨_, rfl⟩ | ⟨_, rfl⟩ <;> rfl
      rw [en]
      refine iteF ⟨Nat.zero_le _, fun o no => ?_⟩
      have s1 : Same H (upd H o (.lst [])) := same_new no
      refine ⟨_, rfl, p, _, 1, _, rfl, rfl, SqT.of (s1 _ _ hp), atI_nat (j := 1) rfl, qa, rfl, ⟨vs, SqT.of (s1 _ _ hq)⟩, ?_⟩
      refine for_tup (K := K) (a := qa) (xs := vs) (fun i σ H3 => ∃ y, σ = [some (.ref p), some (.ref o), y] ∧ Same H H3 ∧ H3 o = some (.lst ((Pq.listedL (ps.take i)).map V.int)))
        ⟨none, rfl, s1, upd_same⟩ (fun i σ H3 _ ⟨_, _, sm, _⟩ => SqT.of (sm _ _ hq)) ?_ ?_
      · rintro i y σ H3 hi ⟨z, rfl, sm, eo⟩
        obtain ⟨ti, hti, tat⟩ := hvs.get hi
        have hm := List.mem_of_getElem? hti
        have dl := Pq.depth_mem hm
        have le : (Pq.listedL (ps.take (i + 1))).length ≤ 1000 := by
          have e : ps = ps.take (i + 1) ++ ps.drop (i + 1) := (List.take_append_drop _ _).symm
          have : (Pq.listedL ps).length = (Pq.listedL (ps.take (i + 1))).length + (Pq.listedL (ps.drop (i + 1))).length := by
            rw [← List.length_append, ← Pq.listedL_append, ← e]
          rw [el] at hl; omega
        have ex : Pq.listedL (ps.take (i + 1)) = Pq.listedL (ps.take i) ++ Pq.listed ti := by
          rw [List.take_add_one, hti, Pq.listedL_append]
          show _ ++ (Pq.listed ti ++ []) = _
          rw [List.append_nil]
        rw [ex, List.length_append] at le
        refine ⟨_, rfl, .inl ⟨rfl, _, .inl (.inl eo)⟩, _, rfl, y, ti, rfl, tat.mono sm, by omega, by omega, fun H4 b sm4 nb eb => ?_⟩
        have eo4 := sm4 _ _ eo
        have bo : b ≠ o := fun e => by rw [e, eo] at nb; cases nb
        refine ⟨o, b, _, _, rfl, rfl, eo4, eb, ?_, ?_⟩
        · rw [List.length_map, List.length_map]
          exact Nat.le_of_lt (small1000 (by omega))
        · refine ⟨_, rfl, fun c u ec => ?_, ?_⟩
          · rw [upd_ne (ne_of_none ec no)]
            exact sm4 _ _ (sm _ _ ec)
          · rw [upd_same, ex, List.map_append]
      · rintro σ H3 ⟨z, rfl, sm, eo⟩
        rw [hvs.length, List.take_length] at eo
        exact ⟨_, rfl, q H3 o sm no (by rw [el]; exact eo)⟩
theorem ok_listed (A : Here K mg "listed" sListed ["tree"]) (DI : Df P w K mg base "is_thing" ["tree"] 1 spIsThing) : ∀ d, Df P w K mg base "listed" ["tree"] (d + 1) (spListed d)
  | 0 => A.none fun vs H Q E h => by
    obtain ⟨v, t, _, _, h, _⟩ := h
    exact Nat.not_lt_zero _ h
  | d + 1 => ok_listed_step A DI (ok_listed A DI d)
theorem ok_least (A : Here K mg "least_thing" sLeast ["tree"]) (T : Top mg) {d : Nat} (D : Df P w K mg base "listed" ["tree"] (d + 1) (spListed d)) : Df P w K mg base "least_thing" ["tree"] (d + 2) (spLeast d) := by
  refine A.df scLeast (fun vs H Q E h => ?_) (fun f cdv A outer s H vs Q E hr h => ?_)
  · obtain ⟨v, t, rfl, _⟩ := h; rfl
  · obtain ⟨v, t, rfl, ht, hd, hl, ne, q⟩ := h
    refine ⟨_, pss_one (ps_ret (pe_callB (cr_min rfl) rfl T.min (by decide +kernel) (pa_cons (pe_df D hr rfl (pa_cons (pv 0) pa_nil)) pa_nil))), ?_⟩
    refine ⟨_, rfl, v, t, rfl, ht, hd, hl, fun H1 b sm nb eb => ?_⟩
    exact ⟨b, Pq.listed t, rfl, SqL.of eb, List.length_pos_iff.mpr ne, fun m hm hle => q H1 m sm⟩
end
end Up
end
section
set_option Elab.async false
set_option linter.all false
set_option maxRecDepth 100000
set_option maxHeartbeats 4000000
namespace Up
open PySem PySem.Spec PyProof.Rows L2
/-! ### make_any, make_row, plain_tree -/
abbrev sMakeAny : Stmt := topS 16
abbrev sMakeRow : Stmt := topS 17
abbrev sNormalized : Stmt := topS 18
abbrev sPlain : Stmt := topS 19
theorem scMakeAny : FnScope ["parts"] ["parts"] (defScope sMakeAny) := ⟨rfl, rfl, rfl, by decide +kernel, rfl, by decide +kernel, by decide +kernel⟩
theorem scMakeRow : FnScope ["parts"] ["parts"] (defScope sMakeRow) := ⟨rfl, rfl, rfl, by decide +kernel, rfl, by decide +kernel, by decide +kernel⟩
theorem scNormalized : FnScope ["tree", "parts", "order", "part", "index", "_"] ["tree"] (defScope sNormalized) := ⟨rfl, rfl, rfl, by decide +kernel, rfl, by decide +kernel, by decide +kernel⟩
theorem scPlain : FnScope ["n"] ["n"] (defScope sPlain) := ⟨rfl, rfl, rfl, by decide +kernel, rfl, by decide +kernel, by decide +kernel⟩
def spMakeAny : Sp := fun vs H Q _ => ∃ p xs ps, vs = [.ref p] ∧ H p = some (.lst xs) ∧ TreesAt H xs ps ∧ ∀ H' v, Same H H' → TreeAt H' v (Pq.makeAny ps) → Q v H'
def spMakeRow : Sp := fun vs H Q _ => ∃ p xs ps, vs = [.ref p] ∧ H p = some (.lst xs) ∧ TreesAt H xs ps ∧ ∀ H' v, Same H H' → TreeAt H' v (Pq.makeRow ps) → Q v H'
def spPlain : Sp := fun vs H Q _ => ∃ n : Nat, vs = [.int n] ∧ 1 ≤ n ∧ n ≤ 24 ∧ ∀ H' v, Same H H' → TreeAt H' v (Pq.plain n) → Q v H'
theorem makeAny_ne {ps : List Pq.Tree} (h : ps.length ≠ 1) : Pq.makeAny ps = .any ps := by
  match ps with
  | [] => rfl
  | [_] => exact (h rfl).elim
  | _ :: _ :: _ => rfl
section
variable {P : Program} {w : World} {K : PySem.W.Frag} {mg : Str → Option Value} {base : Heap}
theorem ok_make_any (A : Here K mg "make_any" sMakeAny ["parts"]) (T : Top mg) : Df P w K mg base "make_any" ["parts"] 1 spMakeAny := by
  refine A.df scMakeAny (fun vs H Q E h => ?_) (fun f cdv A outer s H vs Q E hr h => ?_)
  · obtain ⟨p, xs, ps, rfl, _⟩ := h; rfl
  · obtain ⟨p, xs, ps, rfl, hp, ht, q⟩ := h
    refine ⟨_, pss_cons (ps_if (pt_cmpR op_eq (pe_callB call_len_seq rfl T.len PySem.boot_len (pa_cons (pv 0) pa_nil)) pe_int (nomark _)) (pss_one (ps_ret (pe_ix ix_list (pv 0) pe_int (fun _ _ => rfl)))) pss_nil)
      (pss_one (ps_ret (pe_tup (pa_cons pe_str (pa_cons (pe_callTy call_tuple_of rfl T.tuple (by decide +kernel) (pa_cons (pv 0) pa_nil)) pa_nil))))), ?_⟩
    refine ⟨_, rfl, p, xs, rfl, .inl (SqL.of hp), rfl, _, rfl, ite2 (fun e => ?_) (fun e => ?_)⟩
    · have e1 : xs.length = 1 := by
        have := V.int.inj (of_decide_eq_true e)
        omega
      have l := ht.length
      obtain ⟨x, rfl⟩ := List.length_eq_one_iff.mp e1
      cases ht with
      | cons h1 h2 =>
        cases h2
        refine ⟨_, rfl, p, _, 0, x, rfl, rfl, SqL.of hp, atI_nat (j := 0) rfl, ?_⟩
        exact q H x (Same.refl _) h1
    · have e1 : xs.length ≠ 1 := fun c => e (decide_eq_true (by rw [c]; rfl))
      refine ⟨_, rfl, p, xs, rfl, .inl ⟨SqL.of hp, fun l nl => ?_⟩⟩
      refine ⟨(by show 2 ≤ sizeLine; decide), fun r nr => ?_⟩
      have s1 : Same H (upd H l (.tup xs)) := same_new nl
      have s2 : Same (upd H l (.tup xs)) (upd (upd H l (.tup xs)) r (.tup [.str "any", .ref l])) := same_new nr
      refine q _ _ (s1.trans s2) ?_
      rw [makeAny_ne (by rw [← ht.length]; exact e1)]
      exact .any upd_same (s2 _ _ upd_same) (ht.mono (s1.trans s2))
theorem ok_make_row (A : Here K mg "make_row" sMakeRow ["parts"]) (T : Top mg) (D : Df P w K mg base "make_any" ["parts"] 1 spMakeAny) : Df P w K mg base "make_row" ["parts"] 2 spMakeRow := by
  refine A.df scMakeRow (fun vs H Q E h => ?_) (fun f cdv A outer s H vs Q E hr h => ?_)
  · obtain ⟨p, xs, ps, rfl, _⟩ := h; rfl
  · obtain ⟨p, xs, ps, rfl, hp, ht, q⟩ := h
    refine ⟨_, pss_cons (ps_if (pt_cmpR op_lt (pe_callB call_len_seq rfl T.len PySem.boot_len (pa_cons (pv 0) pa_nil)) pe_int (nomark _)) (pss_one (ps_ret (pe_df D hr rfl (pa_cons (pv 0) pa_nil)))) pss_nil)
      (pss_one (ps_ret (pe_tup (pa_cons pe_str (pa_cons (pe_callTy call_tuple_of rfl T.tuple (by decide +kernel) (pa_cons (pv 0) pa_nil)) pa_nil))))), ?_⟩
    refine ⟨_, rfl, p, xs, rfl, .inl (SqL.of hp), _, _, rfl, rfl, _, rfl, ite2 (fun e => ?_) (fun e => ?_)⟩
    · have e1 : (xs.length : Int) < 3 := of_decide_eq_true e
      refine ⟨_, rfl, p, xs, ps, rfl, hp, ht, fun H1 v sm hv => q H1 v sm ?_⟩
      have : Pq.makeRow ps = Pq.makeAny ps := by unfold Pq.makeRow; rw [if_pos (by rw [← ht.length]; omega)]
      rw [this]; exact hv
    · have e1 : ¬ (xs.length : Int) < 3 := fun c => e (decide_eq_true c)
      refine ⟨_, rfl, p, xs, rfl, .inl ⟨SqL.of hp, fun l nl => ?_⟩⟩
      refine ⟨(by show 2 ≤ sizeLine; decide), fun r nr => ?_⟩
      have s1 : Same H (upd H l (.tup xs)) := same_new nl
      have s2 : Same (upd H l (.tup xs)) (upd (upd H l (.tup xs)) r (.tup [.str "row", .ref l])) := same_new nr
      refine q _ _ (s1.trans s2) ?_
      have : Pq.makeRow ps = .row ps := by unfold Pq.makeRow; rw [if_neg (by rw [← ht.length]; omega)]
      rw [this]
      exact .row upd_same (s2 _ _ upd_same) (ht.mono (s1.trans s2))
end
end Up
namespace Up
open PySem PySem.Spec PyProof.Rows L2
section
variable {P : Program} {w : World} {K : PySem.W.Frag} {mg : Str → Option Value} {base : Heap}
/-! ### normalized -/
def spNorm (d : Nat) : Sp := fun vs H Q _ => ∃ v t, vs = [v] ∧ TreeAt H v t ∧ Pq.depth t < d ∧ (Pq.listed t).length ≤ 24 ∧ Pq.Wf t ∧ ∀ H' v' t', Same H H' → Pq.Norm t t' → TreeAt H' v' t' → Q v' H'
theorem listedL_part {ps : List Pq.Tree} {p : Pq.Tree} (h : p ∈ ps) : (Pq.listed p).length ≤ (Pq.listedL ps).length := by
  obtain ⟨a, b, rfl⟩ := List.append_of_mem h
  rw [Pq.listedL_append]
  show _ ≤ (Pq.listedL a ++ (Pq.listed p ++ Pq.listedL b)).length
  rw [List.length_append, List.length_append]; omega
/-- the second of a pair at an address -/
def sndOf (H : Hp) (v : V) : Nat := match v with
  | .ref t => (match H t with
    | some (.tup [_, .int j]) => j.toNat
    | _ => 0)
  | _ => 0
theorem sndOf_eq {H : Hp} {t : Addr} {a : V} {j : Nat} (h : H t = some (.tup [a, .int (j : Nat)])) : sndOf H (.ref t) = j := by
  unfold sndOf
  simp only [h]
  exact Int.toNat_natCast j
theorem normL_get : ∀ {ps qs : List Pq.Tree} {i : Nat} {q : Pq.Tree}, Pq.NormL ps qs → qs[i]? = some q → ∃ p, ps[i]? = some p ∧ Pq.Norm p q
  | [], _, i, q, h, e => by cases h; simp at e
  | p :: ps, _, 0, q, h, e => by
    cases h with
    | cons n t =>
      simp at e; subst e
      exact ⟨p, rfl, n⟩
  | p :: ps, _, i + 1, q, h, e => by
    cases h with
    | cons n t =>
      obtain ⟨r, e2, n2⟩ := normL_get (i := i) t (by simpa using e)
      exact ⟨r, by simpa using e2, n2⟩
theorem normL_snoc {ps qs : List Pq.Tree} {p q : Pq.Tree} (h : Pq.NormL ps qs) (n : Pq.Norm p q) : Pq.NormL (ps ++ [p]) (qs ++ [q]) := h.append (.cons n .nil)
theorem norm_len {t t' : Pq.Tree} (n : Pq.Norm t t') : (Pq.listed t').length = (Pq.listed t).length := (Pq.Tells.perm t _ ((n.tells t t' _).mp (Pq.tells_listed t'))).length_eq
theorem treesAt_perm {H : Hp} {ys zs : List V} (p : zs.Perm ys) : ∀ {qs : List Pq.Tree}, TreesAt H ys qs → ∃ rs, rs.Perm qs ∧ TreesAt H zs rs := by
  have key : ∀ {ys zs : List V}, ys.Perm zs → ∀ {qs}, TreesAt H ys qs → ∃ rs, rs.Perm qs ∧ TreesAt H zs rs := by
    intro ys zs p
    induction p with
    | nil => intro qs h; cases h; exact ⟨[], .refl _, .nil⟩
    | cons x _ ih =>
      intro qs h
      cases h with
      | cons a t =>
        obtain ⟨rs, q, m⟩ := ih t
        exact ⟨_ :: rs, q.cons _, .cons a m⟩
    | swap x y l =>
      intro qs h
      cases h with
      | cons a t =>
        cases t with
        | cons b t => exact ⟨_ :: _ :: _, List.Perm.swap _ _ _, .cons b (.cons a t)⟩
    | trans _ _ h1 h2 =>
      intro qs h
      obtain ⟨rs, q, m⟩ := h1 h
      obtain ⟨rs', q', m'⟩ := h2 m
      exact ⟨rs', q'.trans q, m'⟩
  intro qs h
  exact key p.symm h
theorem ok_norm_step {d e : Nat} (A : Here K mg "normalized" sNormalized ["tree"]) (T : Top mg) (DI : Df P w K mg base "is_thing" ["tree"] 1 spIsThing) (DL : Df P w K mg base "least_thing" ["tree"] (e + 1) (spLeast 24))
    (D : Df P w K mg base "normalized" ["tree"] (e + d + 1) (spNorm d)) : Df P w K mg base "normalized" ["tree"] (e + d + 2) (spNorm (d + 1)) := by
  refine A.df scNormalized (fun vs H Q E h => ?_) (fun f cdv A outer s H vs Q E hr h => ?_)
  · obtain ⟨v, t, rfl, _⟩ := h; rfl
  · obtain ⟨v, t, rfl, ht, hd, hl, wf, q⟩ := h
    have nd := scNormalized.nd
    have hL : Room (e + 1) _ := hr.mono (by omega)
    refine ⟨_, pss_cons (ps_if (pt_val (pe_df DI (hr.mono (by omega)) rfl (pa_cons (pv 0) pa_nil))) (pss_one (ps_ret (pv 0))) pss_nil)
      (pss_cons (ps_set (i := 1) nd rfl (.inr rfl) (pe_lc (own := [("part", 3)]) (g := gName 3) (tt := tYes) rfl nd (pi_tup (pe_ix ix_tup (pv 0) pe_int (fun _ _ => rfl))) (blkOk_by (N := ["tree", "parts", "order", "part", "index", "_"]) (sc := defScope sNormalized) (by decide +kernel))
          (fun _ _ _ _ _ => pg_name (i := 3) nd rfl (.inl rfl)) (fun _ _ _ _ _ => pts_nil) (fun _ _ _ _ _ => pe_df D hr rfl (pa_cons (pv 3) pa_nil))))
      (pss_cons (ps_if (pt_cmpR op_eq (pe_ix ix_tup (pv 0) pe_int (fun _ _ => rfl)) pe_str (nomark _))
        (pss_cons (ps_set (i := 2) nd rfl (.inl rfl) (pe_callB cr_sortedP rfl T.sorted (by decide +kernel) (pa_cons
            (pe_lc (own := [("index", 4), ("part", 3)]) (g := gTup _ 2 (gCons (gName 4) (gCons (gName 3) gNil))) (tt := tYes) rfl nd (pi_enum rfl T.enumerate (pa_cons (pv 1) pa_nil)) (blkOk_by (N := ["tree", "parts", "order", "part", "index", "_"]) (sc := defScope sNormalized) (by decide +kernel))
              (fun _ _ _ _ _ => pg_tup rfl (pgs_cons (pg_name (i := 4) nd rfl (.inl rfl)) (pgs_cons (pg_name (i := 3) nd rfl (.inl rfl)) pgs_nil))) (fun _ _ _ _ _ => pts_nil) (fun _ _ _ _ _ => pe_tup (pa_cons (pe_df DL hL rfl (pa_cons (pv 3) pa_nil)) (pa_cons (pv 4) pa_nil)))) pa_nil)))
          (pss_one (ps_ret (pe_tup (pa_cons pe_str (pa_cons (pe_callTy call_tuple_of rfl T.tuple (by decide +kernel) (pa_cons
            (pe_lc (own := [("_", 5), ("index", 4)]) (g := gTup _ 2 (gCons (gName 5) (gCons (gName 4) gNil))) (tt := tYes) rfl nd (pi_list (pv 2)) (blkOk_by (N := ["tree", "parts", "order", "part", "index", "_"]) (sc := defScope sNormalized) (by decide +kernel))
              (fun _ _ _ _ _ => pg_tup rfl (pgs_cons (pg_name (i := 5) nd rfl (.inl rfl)) (pgs_cons (pg_name (i := 4) nd rfl (.inl rfl)) pgs_nil))) (fun _ _ _ _ _ => pts_nil) (fun _ _ _ _ _ => pe_ix (r := rIxL K) ix_list (pv 1) (pv 4) (fun _ _ => rfl))) pa_nil)) pa_nil)))))) pss_nil)
      (pss_cons (ps_if (pt_cmpR op_gt (pe_df DL hL rfl (pa_cons (pe_ix ix_list (pv 1) pe_int (fun _ _ => rfl)) pa_nil)) (pe_df DL hL rfl (pa_cons (pe_ix ix_list (pv 1) (pe_un un_neg pe_int) (fun _ _ => rfl)) pa_nil)) (nomark _))
        (pss_one (ps_set (i := 1) nd rfl (.inr rfl) (pe_revL (pv 1)))) pss_nil)
      (pss_one (ps_ret (pe_tup (pa_cons pe_str (pa_cons (pe_callTy call_tuple_of rfl T.tuple (by decide +kernel) (pa_cons (pv 1) pa_nil)) pa_nil)))))))), ?_⟩
    refine ⟨_, rfl, v, t, rfl, ht, _, rfl, ?_⟩
    rcases ht.ty (K := K) with ⟨a, rfl, rfl⟩ | ⟨p, qa, x, vs, ps, rfl, hp, hq, hvs, alt⟩
    · exact iteT ⟨_, rfl, q H _ _ (Same.refl _) (.th a) (.th a)⟩
    · have en : isTh t = false := by rcases alt with ⟨_, rfl⟩ | ⟨_, rfl⟩ <;> rfl
      have el : Pq.listed t = Pq.listedL ps := by rcases alt with ⟨_, rfl⟩ | ⟨_, rfl⟩ <;> rfl
      have ed : Pq.depth t = Pq.depthL ps + 1 := by rcases alt with ⟨_, rfl⟩ | ⟨_, rfl⟩ <;> rfl
      have hw : ∀ p ∈ ps, Pq.Wf p := by rcases alt with ⟨_, rfl⟩ | ⟨_, rfl⟩ <;> (cases wf; assumption)
      have h2 : 2 ≤ ps.length := by
        rcases alt with ⟨_, rfl⟩ | ⟨_, rfl⟩
        · cases wf; assumption
        · cases wf; omega
      have hpl : ps.length ≤ 24 := by
        have key : ∀ qs : List Pq.Tree, (∀ q ∈ qs, Pq.Wf q) → qs.length ≤ (Pq.listedL qs).length := by
          intro qs
          induction qs with
          | nil => intro _; simp
          | cons q qs ih =>
            intro hq
            have h1 := List.length_pos_iff.mpr (Pq.Wf.listed_ne q (hq q (by simp)))
            have h2 := ih fun p hp => hq p (by simp [hp])
            show qs.length + 1 ≤ (Pq.listed q ++ Pq.listedL qs).length
            rw [List.length_append]; omega
        have := key ps hw
        rw [el] at hl; omega
      rw [el] at hl
      rw [ed] at hd
      rw [en]
      refine iteF ?_
      -- parts = [normalized(part) for part in tree[1]]
      refine ⟨_, rfl, p, _, 1, _, rfl, rfl, SqT.of hp, atI_nat (j := 1) rfl, qa, rfl, ⟨vs, SqT.of hq⟩, fun D nD => lc_tup (K := K) (a := qa) (xs := vs) (fun i H3 => ∃ ys qs, H3 D = some (.lst ys) ∧ Same H H3 ∧ ys.length = i ∧ Pq.NormL (ps.take i) qs ∧ TreesAt H3 ys qs)
        ⟨[], [], upd_same, same_new nD, rfl, .nil, .nil⟩ (fun i H3 _ ⟨_, _, _, sm, _⟩ => SqT.of (sm _ _ hq)) ?_ ?_⟩
      · rintro i y H3 hi ⟨ys, qs, eD, sm, ly, nl, ta⟩
        obtain ⟨ti, hti, tat⟩ := hvs.get hi
        have hm := List.mem_of_getElem? hti
        have dl := Pq.depth_mem hm
        have ll := listedL_part hm
        have ivs := (List.getElem?_eq_some_iff.mp hi).1
        refine ⟨rfl, yes ⟨_, rfl, y, ti, rfl, tat.mono sm, by omega, by omega, hw _ hm, fun H4 v' t' sm4 n4 ta4 => ?_⟩⟩
        have eD4 := sm4 _ _ eD
        refine ⟨ys, eD4, small1000 (by rw [ly]; have := hvs.length; omega), ys ++ [v'], qs ++ [t'], upd_same, fun c u ec => ?_, by simp [ly], ?_, ?_⟩
        · rw [upd_ne (ne_of_none ec nD)]
          exact sm4 _ _ (sm _ _ ec)
        · rw [List.take_add_one, hti]
          exact normL_snoc nl n4
        · have st : SameT H4 (upd H4 D (.lst (ys ++ [v']))) := SameT.lst eD4
          exact TreesAt.append (TreesAt.one (ta4.monoT st)) ((ta.mono sm4).monoT st)
      · rintro H3 ⟨ys, qs, eD, sm, ly, nl, ta⟩
        rw [hvs.length, List.take_length] at nl
        have lq : ys.length = ps.length := by rw [ly, hvs.length]
        have lqs : qs.length = ps.length := nl.length
        -- what is known of a part
        have part : ∀ (j : Nat) (y : V), ys[j]? = some y → ∃ tj, TreeAt H3 y tj ∧ Pq.depth tj < 24 ∧ (Pq.listed tj).length ≤ 1000 ∧ Pq.listed tj ≠ [] := by
          intro j y hj
          obtain ⟨tj, htj, tat⟩ := ta.get hj
          obtain ⟨pj, hpj, nj⟩ := normL_get nl htj
          have hm := List.mem_of_getElem? hpj
          have wj := nj.wf _ _ (hw _ hm)
          have lj := norm_len nj
          have ll := listedL_part hm
          have := wj.depth_lt
          exact ⟨tj, tat, by omega, by omega, Pq.Wf.listed_ne _ wj⟩
        -- if tree[0] == "any"
        refine ⟨_, rfl, p, _, 0, _, rfl, rfl, SqT.of (sm _ _ hp), atI_nat (j := 0) rfl, rfl, _, rfl, ?_⟩
        rcases alt with ⟨rfl, rfl⟩ | ⟨rfl, rfl⟩
        · rw [show decide (V.str (PySem.Str.ofString "any") = V.str (PySem.Str.ofString "any")) = true from decide_eq_true rfl]
          refine iteT ?_
          -- sorted([(least_thing(part), index) for index, part in enumerate(parts)])
          refine ⟨_, rfl, D, ys, rfl, SqL.of eD, fun D2 nD2 => lc_it (walk_enum (K := K) (a := D) (xs := ys)) (fun i H4 => ∃ ts : List Addr, H4 D2 = some (.lst (ts.map V.ref)) ∧ Same H3 H4 ∧ ts.length = i ∧ ∀ (j : Nat) t, ts[j]? = some t → ∃ a, H4 t = some (.tup [.int a, .int (j : Nat)]))
            ⟨[], upd_same, same_new nD2, rfl, fun j t h => by simp at h⟩ (fun i H4 _ ⟨_, _, sm4, _⟩ => SqL.of (sm4 _ _ eD)) ?_ ?_⟩
          · rintro i y H4 H5 hi ⟨ts, e2, sm4, lt, hts⟩ ⟨C, x1, x2, rfl, nC, rfl, f1, f2⟩
            have ex1 : x1 = .int (i : Nat) := (Option.some.inj f1).symm
            subst ex1
            obtain ⟨tj, tat, dj, lj, nj⟩ := part i x2 f2
            have s5 : Same H4 (upd H4 C (.tup [.int (i : Nat), x2])) := same_new nC
            refine ⟨C, [.int (i : Nat), x2], rfl, SqT.of upd_same, rfl, _, _, rfl, _, _, rfl, rfl, rfl, yes ?_⟩
            refine ⟨_, rfl, x2, tj, rfl, tat.mono (sm4.trans s5), dj, lj, nj, fun H6 a sm6 => ⟨_, rfl, (by show 2 ≤ sizeLine; decide), fun r nr => ?_⟩⟩
            have e26 : H6 D2 = some (.lst (ts.map V.ref)) := sm6 _ _ (s5 _ _ e2)
            have s7 : Same H6 (upd H6 r (.tup [.int a, .int (i : Nat)])) := same_new nr
            refine ⟨ts.map V.ref, s7 _ _ e26, small1000 (by rw [List.length_map]; omega), ts ++ [r], ?_, fun c u ec => ?_, by simp [lt], fun j t hj => ?_⟩
            · rw [upd_same, List.map_append]; rfl
            · rw [upd_ne (ne_of_none ec nD2)]
              exact s7 _ _ (sm6 _ _ (s5 _ _ (sm4 _ _ ec)))
            · have tD : ∀ t' o, (upd H6 r (.tup [.int a, .int (i : Nat)])) t' = some (.tup o) → t' ≠ D2 := fun t' o e => ne_of e (s7 _ _ e26) (by intro z; cases z)
              by_cases hj2 : j < ts.length
              · rw [List.getElem?_append_left hj2] at hj
                obtain ⟨b, hb⟩ := hts j t hj
                have hb' := s7 _ _ (sm6 _ _ (s5 _ _ hb))
                exact ⟨b, by rw [upd_ne (tD _ _ hb')]; exact hb'⟩
              · rw [List.getElem?_append_right (by omega)] at hj
                have hj3 : j = ts.length := by
                  have := (List.getElem?_eq_some_iff.mp hj).1
                  simp at this; omega
                subst hj3
                have er : r = t := by simpa using hj
                subst er
                rw [lt]
                have hb' : (upd H6 r (.tup [.int a, .int (i : Nat)])) r = some (.tup [.int a, .int (i : Nat)]) := upd_same
                exact ⟨a, by rw [upd_ne (tD _ _ hb')]; exact hb'⟩
          · rintro H4 ⟨ts, e2, sm4, lt, hts⟩
            refine ⟨D2, ts.map V.ref, rfl, SqL.of e2, fun x hx => ?_, fun ys2 D3 pm nD3 => ?_⟩
            · obtain ⟨t, ht, rfl⟩ := List.mem_map.mp hx
              obtain ⟨j, hj, ej⟩ := List.mem_iff_getElem.mp ht
              obtain ⟨a, ha⟩ := hts j t (by rw [List.getElem?_eq_getElem hj, ej])
              exact ⟨t, a, _, rfl, ha⟩
            have s5 : Same H4 (upd H4 D3 (.lst ys2)) := same_new nD3
            have eD5 : (upd H4 D3 (.lst ys2)) D = some (.lst ys) := s5 _ _ (sm4 _ _ eD)
            -- the items by their second
            have item : ∀ v ∈ ys2, ∃ t a, ∃ j : Nat, v = .ref t ∧ j < ys.length ∧ (upd H4 D3 (.lst ys2)) t = some (.tup [.int a, .int (j : Nat)]) := by
              intro v hv
              obtain ⟨t, ht, rfl⟩ := List.mem_map.mp (pm.mem_iff.mp hv)
              obtain ⟨j, hj, ej⟩ := List.mem_iff_getElem.mp ht
              obtain ⟨a, ha⟩ := hts j t (by rw [List.getElem?_eq_getElem hj, ej])
              exact ⟨t, a, j, rfl, by omega, s5 _ _ ha⟩
            refine ⟨_, rfl, D3, rfl, ⟨ys2, SqL.of upd_same⟩, fun D4 nD4 => lc_list (K := K) (a := D3) (xs := ys2) (fun i H6 => H6 D4 = some (.lst ((ys2.take i).map fun v => ys.getD (sndOf (upd H4 D3 (.lst ys2)) v) .non)) ∧ Same (upd H4 D3 (.lst ys2)) H6)
              ⟨upd_same, same_new nD4⟩ (fun i H6 _ ⟨_, sm6⟩ => SqL.of (sm6 _ _ upd_same)) ?_ ?_⟩
            · rintro i y H6 hi ⟨e6, sm6⟩
              obtain ⟨t, a, j, rfl, hj, ht⟩ := item y (List.mem_of_getElem? hi)
              have il := (List.getElem?_eq_some_iff.mp hi).1
              refine ⟨t, [.int a, .int (j : Nat)], rfl, SqT.of (sm6 _ _ ht), rfl, _, _, rfl, _, _, rfl, rfl, rfl, yes ?_⟩
              refine ⟨_, rfl, _, rfl, D, ys, (j : Nat), _, rfl, rfl, SqL.of (sm6 _ _ eD5), atI_nat (List.getElem?_eq_getElem hj), _, e6, small1000 ?_, ?_, fun c u ec => ?_⟩
              · have := pm.length_eq
                rw [List.length_map] at this
                rw [List.length_map, List.length_take]; omega
              · rw [upd_same, List.take_add_one, hi, List.map_append]
                have ef : ys.getD (sndOf (upd H4 D3 (.lst ys2)) (.ref t)) .non = ys[j] := by
                  rw [sndOf_eq ht, List.getD_eq_getElem?_getD, List.getElem?_eq_getElem hj]
                  rfl
                show some (HO.lst (_ ++ [ys[j]])) = some (HO.lst (_ ++ [ys.getD (sndOf (upd H4 D3 (.lst ys2)) (.ref t)) .non]))
                rw [ef]
              · rw [upd_ne (ne_of_none ec nD4)]
                exact sm6 _ _ ec
            · rintro H6 ⟨e6, sm6⟩
              rw [List.take_length] at e6
              -- a permutation of the parts
              have pz : (ys2.map fun v => ys.getD (sndOf (upd H4 D3 (.lst ys2)) v) .non).Perm ys := by
                have e : (ts.map V.ref).map (fun v => ys.getD (sndOf (upd H4 D3 (.lst ys2)) v) .non) = ys := by
                  apply List.ext_getElem?
                  intro j
                  rw [List.map_map, List.getElem?_map]
                  by_cases hj : j < ts.length
                  · rw [List.getElem?_eq_getElem hj]
                    obtain ⟨a, ha⟩ := hts j _ (List.getElem?_eq_getElem hj)
                    have hj' : j < ys.length := by omega
                    show some (ys.getD (sndOf (upd H4 D3 (.lst ys2)) (.ref ts[j])) .non) = _
                    rw [sndOf_eq (s5 _ _ ha), List.getD_eq_getElem?_getD, List.getElem?_eq_getElem hj']
                    rfl
                  · rw [List.getElem?_eq_none (by omega), List.getElem?_eq_none (by omega)]
                    rfl
                have := pm.map fun v => ys.getD (sndOf (upd H4 D3 (.lst ys2)) v) .non
                rwa [e] at this
              have smA : Same H3 H6 := (sm4.trans s5).trans sm6
              obtain ⟨rs, pr, tr⟩ := treesAt_perm pz (ta.mono smA)
              refine ⟨D4, _, rfl, .inl ⟨SqL.of e6, fun l nl' => ⟨(by show 2 ≤ sizeLine; decide), fun r nr => ?_⟩⟩⟩
              have t1 := same_new (o := .tup (ys2.map fun v => ys.getD (sndOf (upd H4 D3 (.lst ys2)) v) .non)) nl'
              have t2 := same_new (o := .tup [.str "any", .ref l]) nr
              refine q _ _ (.any rs) (sm.trans (smA.trans (t1.trans t2))) (.any nl pr) ?_
              exact .any upd_same (t2 _ _ upd_same) (tr.mono (t1.trans t2))
        · rw [show decide (V.str (PySem.Str.ofString "row") = V.str (PySem.Str.ofString "any")) = false by decide +kernel]
          refine iteF ?_
          have y0 : 0 < ys.length := by omega
          have hy0 : ys[0]? = some ys[0] := List.getElem?_eq_getElem y0
          have hyl : ys[ys.length - 1]? = some (ys[ys.length - 1]) := List.getElem?_eq_getElem (by omega)
          have al : atI ys (-1) = some (ys[ys.length - 1]) := by
            have e : ys = ys.dropLast ++ [ys[ys.length - 1]] := by
              have := (List.dropLast_concat_getLast (l := ys) (by intro e; rw [e] at y0; simp at y0)).symm
              rw [List.getLast_eq_getElem] at this
              exact this
            have := atI_last ys.dropLast ys[ys.length - 1]
            rwa [← e] at this
          obtain ⟨t0, ta0, d0, l0, n0⟩ := part 0 _ hy0
          obtain ⟨t1, ta1, d1, l1, n1⟩ := part _ _ hyl
          refine ⟨_, rfl, D, ys, 0, _, rfl, rfl, SqL.of eD, atI_nat (j := 0) hy0, _, t0, rfl, ta0, d0, l0, n0, fun H4 a sm4 => ?_⟩
          refine ⟨_, rfl, 1, rfl, D, ys, -1, _, rfl, rfl, SqL.of (sm4 _ _ eD), al, _, t1, rfl, ta1.mono sm4, d1, l1, n1, fun H5 b sm5 => ?_⟩
          have eD5 := sm5 _ _ (sm4 _ _ eD)
          have sm15 : Same H3 H5 := sm4.trans sm5
          refine ⟨_, _, rfl, rfl, _, rfl, ite2 (fun _ => ?_) (fun _ => ?_)⟩
          · refine ⟨_, rfl, D, ys, rfl, SqL.of eD5, fun D5 nD5 => ?_⟩
            refine ⟨_, rfl, D5, _, rfl, .inl ⟨SqL.of upd_same, fun l nl' => ⟨(by show 2 ≤ sizeLine; decide), fun r nr => ?_⟩⟩⟩
            have t0' := same_new (o := .lst ys.reverse) nD5
            have t1' := same_new (o := .tup ys.reverse) nl'
            have t2' := same_new (o := .tup [.str "row", .ref l]) nr
            refine q _ _ (.row qs.reverse) (sm.trans (sm15.trans (t0'.trans (t1'.trans t2')))) (.rev nl) ?_
            exact .row upd_same (t2' _ _ upd_same) ((ta.mono (sm15.trans (t0'.trans (t1'.trans t2')))).reverse)
          · refine ⟨_, rfl, D, ys, rfl, .inl ⟨SqL.of eD5, fun l nl' => ⟨(by show 2 ≤ sizeLine; decide), fun r nr => ?_⟩⟩⟩
            have t1' := same_new (o := .tup ys) nl'
            have t2' := same_new (o := .tup [.str "row", .ref l]) nr
            refine q _ _ (.row qs) (sm.trans (sm15.trans (t1'.trans t2'))) (.row nl) ?_
            exact .row upd_same (t2' _ _ upd_same) (ta.mono (sm15.trans (t1'.trans t2')))
end
end Up
end
section
set_option Elab.async false
set_option linter.all false
set_option maxRecDepth 100000
set_option maxHeartbeats 4000000
namespace Up
open PySem PySem.Spec PyProof.Rows L2
theorem treesAt_things {H : Hp} : ∀ (l : List Nat), TreesAt H (l.map fun i : Nat => V.int (0 + (i : Nat))) (l.map fun i : Nat => Pq.Tree.th (i : Int))
  | [] => .nil
  | i :: l => by
    have e : (0 : Int) + (i : Nat) = (i : Int) := by omega
    rw [List.map_cons, List.map_cons, e]
    exact .cons (.th _) (treesAt_things l)
section
variable {P : Program} {w : World} {K : PySem.W.Frag} {mg : Str → Option Value} {base : Heap}
theorem ok_norm {e : Nat} (A : Here K mg "normalized" sNormalized ["tree"]) (T : Top mg) (DI : Df P w K mg base "is_thing" ["tree"] 1 spIsThing) (DL : Df P w K mg base "least_thing" ["tree"] (e + 1) (spLeast 24)) : ∀ d, Df P w K mg base "normalized" ["tree"] (e + d + 1) (spNorm d)
  | 0 => A.none fun vs H Q E h => by
    obtain ⟨v, t, _, _, h, _⟩ := h
    exact Nat.not_lt_zero _ h
  | d + 1 => ok_norm_step A T DI DL (ok_norm A T DI DL d)
theorem ok_plain (A : Here K mg "plain_tree" sPlain ["n"]) (T : Top mg) (DC : Df P w K mg base "check_things" ["n"] 2 spCheckThings) (DM : Df P w K mg base "make_any" ["parts"] 1 spMakeAny) : Df P w K mg base "plain_tree" ["n"] 3 spPlain := by
  refine A.df scPlain (fun vs H Q E h => ?_) (fun f cdv A outer s H vs Q E hr h => ?_)
  · obtain ⟨n, rfl, _⟩ := h; rfl
  · obtain ⟨n, rfl, h1, h2, q⟩ := h
    refine ⟨_, pss_cons (ps_expr (pe_df DC hr rfl (pa_cons (pv 0) pa_nil))) (pss_one (ps_ret (pe_df DM (hr.mono (by decide)) rfl (pa_cons (pe_listRg rfl rfl T.list (prg_1 rfl T.range (pv 0))) pa_nil)))), ?_⟩
    refine ⟨_, rfl, n, rfl, by omega, by omega, ?_⟩
    refine ⟨_, rfl, n, rfl, RgOk.of_le (by omega) (by omega) (by omega) (by omega), fun r nr => ?_⟩
    refine ⟨r, _, (List.range n).map fun i : Nat => Pq.Tree.th (i : Int), rfl, upd_same, ?_, fun H' v sm hv => q H' v ((same_new nr).trans sm) hv⟩
    have e : rgV 0 (n : Int) = (List.range n).map fun i : Nat => V.int (0 + (i : Nat)) := by
      unfold rgV
      rw [show ((n : Int) - 0).toNat = n by omega]
    rw [e]
    exact treesAt_things _
end
end Up
end
section
set_option Elab.async false
set_option linter.all false
set_option maxRecDepth 100000
set_option maxHeartbeats 4000000
/-! Operators that the hand layer lacks: a list beside [], None in a list of lists, extend by a tuple, pairs in a list or tuple, sorted(tuple) .. -/
namespace Up
open PySem PySem.Spec PyProof.Rows L2
section
variable {X : Cx}
/-! ### xs == [], xs != [] -/
def rEqNil (K : PySem.W.Frag) (neg : Bool) : R2 := fun x y H Q => ∃ a b xs, x = .ref a ∧ y = .ref b ∧ SqL K H a xs ∧ SqL K H b [] ∧ Q (.bl (if neg then !xs.isEmpty else xs.isEmpty)) H
theorem op_eqNil (hu : X.A.units < cLine) : OpR X (compareOp .Eq) (rEqNil X.K false) := by
  intro pins s σ H x y v u Q I rx ry h
  obtain ⟨a, b, xs, rfl, rfl, ha, hb, q⟩ := h
  cases rx
  cases ry
  obtain ⟨its, r1, p1, _⟩ := I.list ha
  obtain ⟨its2, r2, p2, _⟩ := I.list hb
  cases r2
  cases r1 with
  | nil => exact SeqAt.eq_listAt (e := fun _ => true) p1.isList p2.isList rfl hu (fun j h1 => absurd h1 (Nat.not_lt_zero j)) ⟨.bl true, H, I, rfl, q⟩
  | cons r t => exact SeqAt.eq_list_lengthsAt p1.isList p2.isList (by simp) hu ⟨.bl false, H, I, rfl, q⟩
theorem op_neNil (hu : X.A.units < cLine) : OpR X (compareOp .NotEq) (rEqNil X.K true) := by
  intro pins s σ H x y v u Q I rx ry h
  obtain ⟨a, b, xs, rfl, rfl, ha, hb, q⟩ := h
  cases rx
  cases ry
  obtain ⟨its, r1, p1, _⟩ := I.list ha
  obtain ⟨its2, r2, p2, _⟩ := I.list hb
  cases r2
  cases r1 with
  | nil => exact SeqAt.RcNeAt.lists (e := fun _ => true) p1.isList p2.isList rfl hu (fun j h1 => absurd h1 (Nat.not_lt_zero j)) _ _ _ _ ⟨.bl false, H, I, rfl, q⟩
  | cons r t => exact SeqAt.RcNeAt.lists_lengths p1.isList p2.isList (by simp) hu _ _ _ _ ⟨.bl true, H, I, rfl, q⟩
/-! ### None in a list of lists and None -/
def NoneOrList (K : PySem.W.Frag) (H : Hp) (z : V) : Prop := z = .non ∨ ∃ a xs, z = .ref a ∧ SqL K H a xs
theorem nol_none {K : PySem.W.Frag} {H : Hp} {z : V} {u : Value} (r : RelV z u) (f : NoneOrList K H z) : PySem.Numpy.isNone u = isNon z := by
  rcases f with rfl | ⟨a, xs, rfl, _⟩ <;> (cases r; rfl)
theorem nol_any {K : PySem.W.Frag} {H : Hp} : ∀ {xs : List V} {us : List Value}, Vals xs us → (∀ z ∈ xs, NoneOrList K H z) → us.any PySem.Numpy.isNone = xs.any isNon
  | _, _, .nil, _ => rfl
  | y :: xs, u :: us, .cons r t, f => by
    have h1 := nol_none r (f y (by simp))
    have h2 := nol_any t fun z hz => f z (by simp [hz])
    simp only [List.any_cons, h1, h2]
theorem nol_mem {A : Around} {pins : List (Addr × Obj)} {σ : L2.St} {H : Hp} {s : Shared} (I : Inv X pins σ H s) (hu : A.units < cLine) : ∀ {xs : List V} {us : List Value}, Vals xs us → (∀ z ∈ xs, NoneOrList X.K H z) → ∀ u ∈ us, SeqAt.EqAt A s u .none (PySem.Numpy.isNone u)
  | _, _, .nil, _ => fun u hu' => by cases hu'
  | y :: xs, u :: us, .cons r t, f => fun u' hu' => by
    rcases List.mem_cons.mp hu' with rfl | hu'
    · rcases f y (by simp) with rfl | ⟨a, zs, rfl, h⟩
      · cases r; exact SeqAt.EqAt.same _
      · cases r
        obtain ⟨its, _, p, _⟩ := I.list h
        exact SeqAt.EqAt.list_none p.isList hu
    · exact nol_mem I hu t (fun z hz => f z (by simp [hz])) u' hu'
def rNoneL (K : PySem.W.Frag) : R2 := fun x y H Q => ∃ p xs, x = .non ∧ y = .ref p ∧ SqL K H p xs ∧ (∀ z ∈ xs, NoneOrList K H z) ∧ Q (.bl (xs.any isNon)) H
theorem op_noneL (hu : X.A.units + 1 < cLine) : OpR X (compareOp .In) (rNoneL X.K) := by
  intro pins s σ H x y v u Q I rx ry h
  obtain ⟨p, xs, rfl, rfl, hq, f, q⟩ := h
  cases rx
  cases ry
  obtain ⟨its, rv, hl, _⟩ := I.list hq
  refine SeqAt.in_listAt PySem.Numpy.isNone hl.isList (fun z hz => nol_mem I (A := X.A.in1) hu rv f z (by simpa using hz)) ⟨.bl _, H, I, rfl, ?_⟩
  have e : its.toArray.any PySem.Numpy.isNone = its.any PySem.Numpy.isNone := by simp
  rw [e, nol_any rv f]
  exact q
/-! ### xs.extend(tuple) -/
def rExtT (K : PySem.W.Frag) : V → List V → Hp → VK → Prop := fun x vs H Q => ∃ l b xs zs, x = .ref l ∧ vs = [.ref b] ∧ H l = some (.lst xs) ∧ SqT K H b zs ∧ xs.length + zs.length ≤ sizeLine ∧ Q .non (upd H l (.lst (xs ++ zs)))
theorem mt_extT : MtM X "list.extend" (rExtT X.K) := by
  intro pins s σ H x vs v us Q I rx rv h
  obtain ⟨l, b, xs, zs, rfl, rfl, hH, hB, hz, q⟩ := h
  cases rx
  obtain ⟨u, rfl, ru⟩ := rv.one
  cases ru
  obtain ⟨z, its, n, r, hl, e⟩ := I.lstM hH
  obtain ⟨its2, r2, ⟨o2, e2, c2, n2, d2⟩, hl2⟩ := I.tuple hB
  have len2 := r2.length
  have hsz : its.toArray.size + its2.toArray.size ≤ sizeLine := by rw [List.size_toArray, List.size_toArray]; omega
  refine wpAny_call_entry PySem.F.slot_list_extend ⟨_, e, rfl⟩ PySem.F.entry_list_extend ?_ (PySem.F.args_list_extend_2 _ _)
  show wpAny _ _ (Builtin.List.listExtendWith (.ref l) (.ref b) .none) _ _ s
  unfold Builtin.List.listExtendWith
  refine wpAny_bind (wpAny_typeOf (T := "tuple") ⟨o2, e2, c2⟩ ?_)
  rw [if_pos (by simp)]
  refine wpAny_bind (listItems_at e2 d2 ?_)
  refine wpAny_bind (listItems_at e rfl ?_)
  rw [if_neg (by rw [notLongL hsz, Bool.and_false]; exact Bool.false_ne_true)]
  refine wpAny_bind (listUpdate_at e rfl ?_ (by rw [List.size_toArray]; omega) (by rw [Array.size_append]; omega))
  refine wpAny_pure ⟨.none, rfl, ?_⟩
  refine ⟨.non, _, I.lset (t' := s.toks) (its' := its ++ its2) hH e (by simp) (r.append r2) ?_, rfl, q⟩
  rw [List.length_append]
  omega
end
end Up
end
section
set_option Elab.async false
set_option linter.all false
set_option maxRecDepth 100000
set_option maxHeartbeats 4000000
namespace Up
open PySem PySem.Spec PyProof.Rows L2
/-- a tree in use -/
structure Gd (t : Pq.Tree) : Prop where
  wf : Pq.Wf t
  len : (Pq.listed t).length ≤ 24
theorem Gd.depth {t : Pq.Tree} (g : Gd t) : Pq.depth t < 24 := by
  have := g.wf.depth_lt
  have := g.len
  omega
theorem Gd.part {t p : Pq.Tree} {ps : List Pq.Tree} (g : Gd t) (e : t = .any ps ∨ t = .row ps) (h : p ∈ ps) : Gd p := by
  have hw : ∀ p ∈ ps, Pq.Wf p := by rcases e with rfl | rfl <;> (cases g.wf; assumption)
  have hl : (Pq.listedL ps).length ≤ 24 := by rcases e with rfl | rfl <;> exact g.len
  exact ⟨hw p h, Nat.le_trans (listedL_part h) hl⟩
/-- the parts of a tree in use -/
structure GdL (ps : List Pq.Tree) : Prop where
  wf : ∀ p ∈ ps, Pq.Wf p
  len : (Pq.listedL ps).length ≤ 24
theorem GdL.of {t : Pq.Tree} {ps : List Pq.Tree} (g : Gd t) (e : t = .any ps ∨ t = .row ps) : GdL ps :=
  ⟨fun p h => (g.part e h).wf, by rcases e with rfl | rfl <;> exact g.len⟩
theorem GdL.get {ps : List Pq.Tree} (g : GdL ps) {p : Pq.Tree} (h : p ∈ ps) : Gd p := ⟨g.wf p h, Nat.le_trans (listedL_part h) g.len⟩
theorem GdL.size {ps : List Pq.Tree} (g : GdL ps) : ps.length ≤ 24 := by
  have key : ∀ qs : List Pq.Tree, (∀ q ∈ qs, Pq.Wf q) → qs.length ≤ (Pq.listedL qs).length := by
    intro qs
    induction qs with
    | nil => intro _; simp
    | cons q qs ih =>
      intro hq
      have h1 := List.length_pos_iff.mpr (Pq.Wf.listed_ne q (hq q (by simp)))
      have h2 := ih fun p hp => hq p (by simp [hp])
      show qs.length + 1 ≤ (Pq.listed q ++ Pq.listedL qs).length
      rw [List.length_append]; omega
  exact Nat.le_trans (key ps g.wf) g.len
theorem listedL_sub {ps qs : List Pq.Tree} (h : ps.Sublist qs) : (Pq.listedL ps).length ≤ (Pq.listedL qs).length := by
  induction h with
  | slnil => exact Nat.le_refl _
  | cons a _ ih =>
    show _ ≤ (Pq.listed a ++ Pq.listedL _).length
    rw [List.length_append]; omega
  | cons_cons a _ ih =>
    show (Pq.listed a ++ Pq.listedL _).length ≤ (Pq.listed a ++ Pq.listedL _).length
    rw [List.length_append, List.length_append]; omega
theorem GdL.sub {ps qs : List Pq.Tree} (g : GdL qs) (h : ps.Sublist qs) : GdL ps := ⟨fun p hp => g.wf p (h.subset hp), Nat.le_trans (listedL_sub h) g.len⟩
theorem GdL.rev {ps : List Pq.Tree} (g : GdL ps) : GdL ps.reverse := ⟨fun p hp => g.wf p (List.mem_reverse.mp hp), by rw [(Pq.listedL_perm (List.reverse_perm ps)).length_eq]; exact g.len⟩
/-! ### share, with_share -/
def shS : Pq.Sh → Str
  | .no => "none"
  | .so => "some"
  | .al => "all"
theorem shS_inj : ∀ {a b : Pq.Sh}, decide (V.str (shS a) = V.str (shS b)) = decide (a = b) := by
  intro a b
  cases a <;> cases b <;> decide +kernel
abbrev sShare : Stmt := topS 21
abbrev sWithShare : Stmt := topS 22
theorem scShare : FnScope ["tree", "chosen", "things", "count", "thing"] ["tree", "chosen"] (defScope sShare) := ⟨rfl, rfl, rfl, by decide +kernel, rfl, by decide +kernel, by decide +kernel⟩
theorem scWithShare : FnScope ["parts", "chosen", "wanted", "part"] ["parts", "chosen", "wanted"] (defScope sWithShare) := ⟨rfl, rfl, rfl, by decide +kernel, rfl, by decide +kernel, by decide +kernel⟩
def spShare : Sp := fun vs H Q _ => ∃ v t c S, vs = [v, .ref c] ∧ TreeAt H v t ∧ Gd t ∧ H c = some (.tup (S.map V.int)) ∧ ∀ H', Same H H' → Q (.str (shS (Pq.share S t))) H'
/-- the parts of a list or a tuple that have a share: a new list -/
def spWithShare (K : PySem.W.Frag) : Sp := fun vs H Q _ => ∃ p xs ps c S sh, vs = [.ref p, .ref c, .str (shS sh)] ∧ H p = some (.tup xs) ∧ TreesAt H xs ps ∧ GdL ps ∧ H c = some (.tup (S.map V.int)) ∧
  ∀ H' r ys, Same H H' → H r = none → H' r = some (.lst ys) → TreesAt H' ys (Pq.withShare S sh ps) → Q (.ref r) H'
theorem flat_ints (S : List Int) : (S.map V.int).all flatV = true := by
  rw [List.all_eq_true]
  intro x hx
  obtain ⟨a, _, rfl⟩ := List.mem_map.mp hx
  rfl
theorem inV_int (a : Int) (S : List Int) : inV (.int a) (S.map V.int) = decide (a ∈ S) := by
  unfold inV
  rw [List.any_map]
  have e : ∀ b : Int, eqV (.int b) (.int a) = decide (b = a) := fun b => by
    by_cases h : b = a
    · subst h; simp [eqV]
    · simp [eqV, h]
  induction S with
  | nil => simp
  | cons b S ih =>
    rw [List.any_cons, ih]
    show (eqV (.int b) (.int a) || _) = _
    rw [e]
    by_cases h : b = a
    · subst h; simp
    · by_cases k : a ∈ S
      · simp [k]
      · have : a ≠ b := fun q => h q.symm
        simp [k, h, this]
section
variable {P : Program} {w : World} {K : PySem.W.Frag} {mg : Str → Option Value} {base : Heap}
theorem ok_share (A : Here K mg "share" sShare ["tree", "chosen"]) (T : Top mg) (DL : Df P w K mg base "listed" ["tree"] 25 (spListed 24)) : Df P w K mg base "share" ["tree", "chosen"] 26 spShare := by
  refine A.df scShare (fun vs H Q E h => ?_) (fun f cdv A outer s H vs Q E hr h => ?_)
  · obtain ⟨v, t, c, S, rfl, _⟩ := h; rfl
  · obtain ⟨v, t, c, S, rfl, ht, g, hc, q⟩ := h
    have nd := scShare.nd
    refine ⟨_, pss_cons (ps_set (i := 2) nd rfl (.inl rfl) (pe_df DL hr rfl (pa_cons (pv 0) pa_nil)))
      (pss_cons (ps_set (i := 3) nd rfl (.inl rfl) (pe_callB call_len_seq rfl T.len PySem.boot_len (pa_cons
        (pe_lc (own := [("thing", 4)]) (g := gName 4) (tt := tTest (tOp (rIn K false) (tVar 4) (tVar 1))) rfl nd (pi_list (pv 2)) (blkOk_by (N := ["tree", "chosen", "things", "count", "thing"]) (sc := defScope sShare) (by decide +kernel))
          (fun _ _ _ _ _ => pg_name (i := 4) nd rfl (.inl rfl)) (fun _ _ _ _ _ => pts_one (pt_cmpR (r := rIn K false) op_in_seq (pv 4) (pv 1) (by rfl))) (fun _ _ _ _ _ => pv 4)) pa_nil)))
      (pss_cons (ps_if (pt_cmpR op_eq (pv 3) pe_int (nomark _)) (pss_one (ps_ret pe_str)) pss_nil)
      (pss_cons (ps_if (pt_cmpR op_eq (pv 3) (pe_callB call_len_seq rfl T.len PySem.boot_len (pa_cons (pv 2) pa_nil)) (nomark _)) (pss_one (ps_ret pe_str)) pss_nil)
      (pss_one (ps_ret pe_str))))), ?_⟩
    have d := g.depth
    have gl := g.len
    refine ⟨_, rfl, v, t, rfl, ht, d, by omega, fun H1 b sm nb eb => ?_⟩
    have hc1 := sm _ _ hc
    refine ⟨_, rfl, b, rfl, ⟨_, SqL.of eb⟩, fun D nD => lc_list (K := K) (a := b) (xs := (Pq.listed t).map V.int) (fun i H2 => H2 D = some (.lst ((((Pq.listed t).take i).filter fun x => decide (x ∈ S)).map V.int)) ∧ Same H1 H2)
      ⟨upd_same, same_new nD⟩ (fun i H2 _ ⟨_, sm2⟩ => SqL.of (sm2 _ _ eb)) ?_ ?_⟩
    · rintro i y H2 hi ⟨e2, sm2⟩
      obtain ⟨a, ha, rfl⟩ : ∃ a, (Pq.listed t)[i]? = some a ∧ y = .int a := by
        rw [List.getElem?_map] at hi
        cases e : (Pq.listed t)[i]? with
        | none => rw [e] at hi; cases hi
        | some a => rw [e] at hi; exact ⟨a, rfl, (Option.some.inj hi).symm⟩
      have il := (List.getElem?_eq_some_iff.mp ha).1
      have et : (Pq.listed t).take (i + 1) = (Pq.listed t).take i ++ [a] := by rw [List.take_add_one, ha]; rfl
      refine ⟨rfl, _, rfl, _, rfl, c, _, rfl, .inr (SqT.of (sm2 _ _ hc1)), rfl, flat_ints S, _, rfl, ?_⟩
      rw [inV_int]
      refine iteD (fun hm => ?_) (fun hm => ?_)
      · refine ⟨_, rfl, _, e2, small1000 ?_, ?_, fun q' u eu => ?_⟩
        · rw [List.length_map]
          have := List.length_filter_le (fun x => decide (x ∈ S)) ((Pq.listed t).take i)
          rw [List.length_take] at this
          omega
        · rw [upd_same, et, List.filter_append, List.map_append]
          simp [hm]
        · rw [upd_ne (ne_of_none eu nD)]
          exact sm2 _ _ eu
      · refine ⟨?_, sm2⟩
        rw [e2, et, List.filter_append]
        simp [hm]
    · rintro H2 ⟨e2, sm2⟩
      rw [List.length_map, List.take_length] at e2
      have smA : Same H H2 := sm.trans sm2
      refine ⟨D, _, rfl, .inl (SqL.of e2), ?_⟩
      rw [List.length_map]
      refine ⟨_, rfl, rfl, _, rfl, ite2 (fun e => ?_) (fun e => ?_)⟩
      · have e0 : Pq.cnt S t = 0 := by
          have := V.int.inj (of_decide_eq_true e)
          unfold Pq.cnt
          omega
        have es : Pq.share S t = .no := by unfold Pq.share; rw [if_pos e0]
        have := q H2 smA
        rw [es] at this
        exact this
      · have e0 : Pq.cnt S t ≠ 0 := fun h => e (decide_eq_true (by unfold Pq.cnt at h; rw [h]; rfl))
        refine ⟨_, rfl, _, rfl, b, _, rfl, .inl (SqL.of (sm2 _ _ eb)), rfl, _, rfl, ite2 (fun e => ?_) (fun e => ?_)⟩
        · have e1 : Pq.cnt S t = (Pq.listed t).length := by
            have := V.int.inj (of_decide_eq_true e)
            rw [List.length_map] at this
            unfold Pq.cnt
            omega
          have es : Pq.share S t = .al := by unfold Pq.share; rw [if_neg e0, if_pos e1]
          have := q H2 smA
          rw [es] at this
          exact this
        · have e1 : Pq.cnt S t ≠ (Pq.listed t).length := fun h => e (decide_eq_true (by rw [List.length_map]; unfold Pq.cnt at h; rw [h]))
          have es : Pq.share S t = .so := by unfold Pq.share; rw [if_neg e0, if_neg e1]
          have := q H2 smA
          rw [es] at this
          exact this
theorem ok_with_share (A : Here K mg "with_share" sWithShare ["parts", "chosen", "wanted"]) (D : Df P w K mg base "share" ["tree", "chosen"] 26 spShare) : Df P w K mg base "with_share" ["parts", "chosen", "wanted"] 27 (spWithShare K) := by
  refine A.df scWithShare (fun vs H Q E h => ?_) (fun f cdv A outer s H vs Q E hr h => ?_)
  · obtain ⟨p, xs, ps, c, S, sh, rfl, _⟩ := h; rfl
  · obtain ⟨p, xs, ps, c, S, sh, rfl, hp, ht, g, hc, q⟩ := h
    have nd := scWithShare.nd
    refine ⟨_, pss_one (ps_ret (pe_lc (own := [("part", 3)]) (g := gName 3) (tt := tTest (tOp rEq (tCall spShare [] E0 (tCons (tVar 3) (tCons (tVar 1) tNil))) (tVar 2))) rfl nd (pi_tup (pv 0)) (blkOk_by (N := ["parts", "chosen", "wanted", "part"]) (sc := defScope sWithShare) (by decide +kernel))
          (fun _ _ _ _ _ => pg_name (i := 3) nd rfl (.inl rfl)) (fun _ _ _ _ _ => pts_one (pt_cmpR (r := rEq) op_eq (pe_df D hr rfl (pa_cons (pv 3) (pa_cons (pv 1) pa_nil))) (pv 2) (nomark _))) (fun _ _ _ _ _ => pv 3))), ?_⟩
    refine ⟨_, rfl, p, rfl, ⟨xs, SqT.of hp⟩, fun D nD => lc_tup (K := K) (a := p) (xs := xs) (fun i H2 => ∃ ys, H2 D = some (.lst ys) ∧ Same H H2 ∧ ys.length ≤ i ∧ TreesAt H2 ys (Pq.withShare S sh (ps.take i)))
      ⟨[], upd_same, same_new nD, Nat.le_refl _, .nil⟩ (fun i H2 _ ⟨_, _, sm2, _⟩ => SqT.of (sm2 _ _ hp)) ?_ ?_⟩
    · rintro i y H2 hi ⟨ys, e2, sm2, ly, ta⟩
      obtain ⟨ti, hti, tat⟩ := ht.get hi
      have gi := g.get (List.mem_of_getElem? hti)
      have et : ps.take (i + 1) = ps.take i ++ [ti] := by rw [List.take_add_one, hti]; rfl
      have hl := g.size
      have il := (List.getElem?_eq_some_iff.mp hti).1
      refine ⟨rfl, _, rfl, _, rfl, y, ti, c, S, rfl, tat.mono sm2, gi, sm2 _ _ hc, fun H3 sm3 => ⟨_, rfl, rfl, _, rfl, ?_⟩⟩
      rw [shS_inj]
      have e3 := sm3 _ _ e2
      refine iteD (fun e => ?_) (fun e => ?_)
      · refine ⟨_, rfl, ys, e3, small1000 (by omega), ys ++ [y], upd_same, fun q' u eu => ?_, by simp; omega, ?_⟩
        · rw [upd_ne (ne_of_none eu nD)]
          exact sm3 _ _ (sm2 _ _ eu)
        · have st : SameT H3 (upd H3 D (.lst (ys ++ [y]))) := SameT.lst e3
          have ew : Pq.withShare S sh (ps.take (i + 1)) = Pq.withShare S sh (ps.take i) ++ [ti] := by
            unfold Pq.withShare
            rw [et, List.filter_append]
            simp [e]
          rw [ew]
          exact TreesAt.append (TreesAt.one (((tat.mono sm2).mono sm3).monoT st)) ((ta.mono sm3).monoT st)
      · refine ⟨ys, e3, sm2.trans sm3, by omega, ?_⟩
        have ew : Pq.withShare S sh (ps.take (i + 1)) = Pq.withShare S sh (ps.take i) := by
          unfold Pq.withShare
          rw [et, List.filter_append]
          simp [e]
        rw [ew]
        exact ta.mono sm3
    · rintro H2 ⟨ys, e2, sm2, ly, ta⟩
      rw [ht.length, List.take_length] at ta
      exact q H2 D ys sm2 nD e2 ta
end
end Up
end
section
set_option Elab.async false
set_option linter.all false
set_option maxRecDepth 100000
set_option maxHeartbeats 4000000
namespace Up
open PySem PySem.Spec PyProof.Rows L2
section
variable {X : Cx} {e : Expr} {es args : List Expr} {name : Str} {apos cpos tpos : Pos} {id : String}
/-! ### (a, b, ..).name(..) of a written tuple -/
def tBMT (r : V → List V → Hp → VK → Prop) (t1 t2 : TA) : TE := fun σ H Q => t1 σ H fun xs H1 => xs.length ≤ sizeLine ∧ ∀ p, H1 p = none → t2 σ (upd H1 p (.tup xs)) fun ys H2 => r (.ref p) ys H2 Q
theorem pe_bmTup {r : V → List V → Hp → VK → Prop} {t1 t2 : TA} {x1} (pa : PlainAttrs "tuple") (slot : Slot "tuple" name id) (hty : typeOf (.builtin id) = pure (.type "method_descriptor")) (hm : MtR X id r) (h1 : PA X es t1) (h2 : PA X (e :: args) t2)
    (hbase : attributeBase (.Tuple es x1 tpos) name X.env (eval (.Tuple es x1 tpos) X.env) = eval (.Tuple es x1 tpos) X.env := by rfl)
    (hfew : ((backTo cpos (starEach (e :: args) X.env)).all (fun x => !x.1) && (backToKw cpos (keywordEach [] X.env)).all (fun x => x.1.isSome)
      && decide ((e :: args).length + ([] : List Keyword).length + (if ([] : List Keyword).isEmpty then 0 else 1) < 30)) = true := by rfl)
    (hline : (apos.endLine == cpos.line) = true := by rfl) (hs : starEach (e :: args) X.env = (false, eval e X.env) :: starEach args X.env := by rfl) (hplain : (backTo cpos (starEach args X.env)).any (·.1) = false := by rfl) :
    PE X (.Call (.Attribute (.Tuple es x1 tpos) name apos) (e :: args) [] cpos) (tBMT r t1 t2) := by
  refine ⟨fun pins s σ H Q I h => ?_⟩
  refine wpAny_Call_method_late hbase hfew hline rfl ?_
  refine wpAny_Tuple_spliced (thn (h1.run tpos pins s σ H _ I h) fun us s1 ⟨xs, H1, I1, r1, z, q⟩ => ⟨by rw [← r1.length]; exact z, ?_⟩)
  have hf : H1 s1.heap.objs.size = none := I1.hok.fresh (Nat.le_refl _)
  have I2 := I1.laid (o := .tup xs) (t' := s1.toks) (h' := s1.heap.push { cls := .type "tuple", data := .seq us.toArray 0 }) (fun b u e => Heap.get?_push_of_some _ e) (Nat.le_refl _) ⟨z, us, r1, ⟨_, Heap.get?_push_size _ rfl, rfl, _, rfl⟩⟩
  refine ⟨"tuple", id, pa, slot, hty, ⟨_, Heap.get?_push_size _ rfl, rfl⟩, fun a e => ?_, ?_⟩
  · cases e
    exact ⟨_, Heap.get?_push_size _ rfl, rfl⟩
  have hA := h2.run cpos pins _ σ _ _ I2 (q _ hf)
  rw [hs] at hA ⊢
  refine Calls.callWith_builtin (by show (false || (backTo cpos (starEach args X.env)).any (·.1)) = false; rw [hplain] <;> rfl) (Calls.evalArgs_plain ?_)
  exact thn hA fun us2 s2 ⟨vs, H2, I3, r2, q2⟩ => hm pins s2 σ H2 (.ref s1.heap.objs.size) vs (.ref s1.heap.objs.size) us2 Q I3 rfl r2 q2
end
end Up
end
section
set_option Elab.async false
set_option linter.all false
set_option maxRecDepth 100000
set_option maxHeartbeats 4000000
namespace Up
open PySem PySem.Spec PyProof.Rows L2
/-! ### data of ints for == -/
theorem dpAll_ints {K : PySem.W.Frag} {H : Hp} : ∀ ns : List Int, DpAll K H (ns.map V.int) (ns.map PyData.int)
  | [] => .nil
  | n :: ns => .cons (.int n) (dpAll_ints ns)
theorem layAll_ints : ∀ ns : List Int, PyData.canLayAll0 (ns.map PyData.int) = true
  | [] => by simp [PyData.canLayAll0]
  | n :: ns => by simp [PyData.canLayAll0, PyData.canLay0, layAll_ints ns]
theorem depthAll_ints : ∀ ns : List Int, PyData.depthAll (ns.map PyData.int) = 0
  | [] => by simp [PyData.depthAll]
  | n :: ns => by simp [PyData.depthAll, PyData.depth, depthAll_ints ns]
theorem shaped_ints (ns : List Int) : SeqAt.shaped (.list (ns.map PyData.int)) = true := by
  show (PyData.canLay0 (.list (ns.map PyData.int)) && decide (PyData.depth (.list (ns.map PyData.int)) ≤ 64)) = true
  rw [Bool.and_eq_true]
  refine ⟨by simp only [PyData.canLay0]; exact layAll_ints ns, decide_eq_true ?_⟩
  simp only [PyData.depth, depthAll_ints]
  omega
theorem eqv_ints : ∀ ns ms : List Int, PyData.eqv (.list (ns.map PyData.int)) (.list (ms.map PyData.int)) = decide (ns = ms) := by
  have key : ∀ ns ms : List Int, PyData.eqvAll (ns.map PyData.int) (ms.map PyData.int) = decide (ns = ms) := by
    intro ns
    induction ns with
    | nil => intro ms; cases ms <;> simp [PyData.eqvAll]
    | cons n ns ih =>
      intro ms
      cases ms with
      | nil => simp [PyData.eqvAll]
      | cons m ms =>
        simp only [List.map_cons, PyData.eqvAll, PyData.eqv, ih]
        by_cases h : n = m
        · subst h; simp
        · simp [h]
  intro ns ms
  simp only [PyData.eqv]
  exact key ns ms
/-! ### ascends -/
abbrev sAscends : Stmt := topS 24
theorem scAscends : FnScope ["shares", "ranks", "told"] ["shares"] (defScope sAscends) := ⟨rfl, rfl, rfl, by decide +kernel, rfl, by decide +kernel, by decide +kernel⟩
def shVs (ss : List Pq.Sh) : List V := ss.map fun s => V.str (shS s)
def spAscends : Sp := fun vs H Q _ => ∃ p ss, vs = [.ref p] ∧ H p = some (.lst (shVs ss)) ∧ ss.length ≤ 1000 ∧ ∀ H', Same H H' → Q (.bl (Pq.ascends ss)) H'
section
variable {P : Program} {w : World} {K : PySem.W.Frag} {mg : Str → Option Value} {base : Heap}
theorem shIndex (s : Pq.Sh) : ∃ j : Nat, ([shS .no, shS .so, shS .al])[j]? = some (shS s) ∧ (∀ m, m < j → ([shS .no, shS .so, shS .al])[m]? ≠ some (shS s)) ∧ ((j : Nat) : Int) = s.rank := by
  cases s with
  | no => exact ⟨0, rfl, fun m h => absurd h (Nat.not_lt_zero m), rfl⟩
  | so => exact ⟨1, rfl, fun m h => by
      have : m = 0 := by omega
      subst this; decide +kernel, rfl⟩
  | al => exact ⟨2, rfl, fun m h => by
      have : m = 0 ∨ m = 1 := by omega
      rcases this with rfl | rfl <;> decide +kernel, rfl⟩
theorem ok_ascends (A : Here K mg "ascends" sAscends ["shares"]) (T : Top mg) : Df P w K mg base "ascends" ["shares"] 1 spAscends := by
  refine A.df scAscends (fun vs H Q E h => ?_) (fun f cdv A outer s H vs Q E hr h => ?_)
  · obtain ⟨p, ss, rfl, _⟩ := h; rfl
  · obtain ⟨p, ss, rfl, hp, hl, q⟩ := h
    have nd := scAscends.nd
    refine ⟨_, pss_cons (ps_setLc (i := 1) (own := [("told", 2)]) (g := gName 2) (tt := tYes) rfl nd rfl rfl (sw_true rfl rfl rfl (by decide +kernel)) (pi_list (pv 0)) (blkOk_by (N := ["shares", "ranks", "told"]) (sc := defScope sAscends) (by decide +kernel))
        (fun _ _ _ _ _ => pg_name (i := 2) nd rfl (.inl rfl)) (fun _ _ _ _ _ => pts_nil) (fun _ _ _ _ _ => pe_bmTup (r := fun x xs H Q => ∃ p, ∃ ys : List Str, ∃ z j, x = .ref p ∧ xs = [.str z] ∧ SqT K H p (ys.map V.str) ∧ ys[j]? = some z ∧ (∀ m, m < j → ys[m]? ≠ some z) ∧ Q (.int (j : Nat)) H)
          PySem.F.plainAttrs_tuple PySem.F.slot_tuple_index PySem.F.type_tuple_index mt_tup_index (pa_cons pe_str (pa_cons pe_str (pa_cons pe_str pa_nil))) (pa_cons (pv 2) pa_nil)))
      (pss_one (ps_ret (pe_and (pe_cmpR (op_eqD hr.units) (pv 1) (pe_callB cr_sortedI rfl T.sorted (by decide +kernel) (pa_cons (pv 1) pa_nil)) (nomark _))
        (pe_one (pe_cmpR op_lt (pe_bm PySem.F.plainAttrs_list PySem.F.slot_list_count PySem.F.type_list_count mt_lcount (pv 1) (pa_cons pe_int pa_nil)) pe_int (nomark _)))))), ?_⟩
    refine ⟨_, rfl, p, rfl, ⟨_, SqL.of hp⟩, fun D nD => lc_list (K := K) (a := p) (xs := shVs ss) (fun i H2 => H2 D = some (.lst (((ss.take i).map Pq.Sh.rank).map V.int)) ∧ Same H H2)
      ⟨upd_same, same_new nD⟩ (fun i H2 _ ⟨_, sm2⟩ => SqL.of (sm2 _ _ hp)) ?_ ?_⟩
    · rintro i y H2 hi ⟨e2, sm2⟩
      obtain ⟨sh, hsh, rfl⟩ : ∃ sh, ss[i]? = some sh ∧ y = .str (shS sh) := by
        unfold shVs at hi
        rw [List.getElem?_map] at hi
        cases e : ss[i]? with
        | none => rw [e] at hi; cases hi
        | some a => rw [e] at hi; exact ⟨a, rfl, (Option.some.inj hi).symm⟩
      have il := (List.getElem?_eq_some_iff.mp hsh).1
      obtain ⟨j, j1, j2, j3⟩ := shIndex sh
      refine ⟨rfl, yes ⟨(by show 3 ≤ sizeLine; decide), fun r nr => ?_⟩⟩
      have s3 := same_new (H := H2) (o := .tup [.str "none", .str "some", .str "all"]) nr
      refine ⟨_, rfl, r, [shS .no, shS .so, shS .al], shS sh, j, rfl, rfl, SqT.of upd_same, j1, j2, ?_⟩
      refine ⟨_, s3 _ _ e2, small1000 (by rw [List.length_map, List.length_map, List.length_take]; omega), ?_, fun q' u eu => ?_⟩
      · have et : ss.take (i + 1) = ss.take i ++ [sh] := by rw [List.take_add_one, hsh]; rfl
        rw [upd_same, et, j3]
        simp
      · rw [upd_ne (ne_of_none eu nD)]
        exact s3 _ _ (sm2 _ _ eu)
    · rintro H2 ⟨e2, sm2⟩
      have el : (shVs ss).length = ss.length := by unfold shVs; rw [List.length_map]
      rw [el, List.take_length] at e2
      refine ⟨_, rfl, _, rfl, D, _, rfl, SqL.of e2, fun ns' p' pm pw np => ?_⟩
      have s3 := same_new (o := .lst (ns'.map V.int)) np
      refine ⟨_, _, .lst (SqL.of (s3 _ _ e2)) (dpAll_ints _), .lst (SqL.of upd_same) (dpAll_ints ns'), shaped_ints _, shaped_ints _, ?_⟩
      rw [eqv_ints]
      have ed : decide (ss.map Pq.Sh.rank = ns') = decide ((ss.map Pq.Sh.rank).Pairwise (· ≤ ·)) := decide_eq_decide.mpr (Pq.sorted_eq pm pw).symm
      rw [ed]
      refine ⟨_, rfl, ?_⟩
      by_cases c : (ss.map Pq.Sh.rank).Pairwise (· ≤ ·)
      · rw [decide_eq_true c]
        refine iteT ?_
        refine ⟨_, rfl, .inl ⟨rfl, _, SqL.of (s3 _ _ e2)⟩, D, _, 1, rfl, rfl, SqL.of (s3 _ _ e2), _, _, rfl, rfl, ?_⟩
        have e : Pq.ascends ss = decide ((((ss.map Pq.Sh.rank).count 1 : Nat) : Int) < 2) := by
          unfold Pq.ascends
          rw [decide_eq_true c, Bool.true_and]
          exact decide_eq_decide.mpr (by omega)
        have := q _ (sm2.trans s3)
        rw [e] at this
        exact this
      · rw [decide_eq_false c]
        refine iteF ?_
        have e : Pq.ascends ss = false := by
          unfold Pq.ascends
          rw [decide_eq_false c, Bool.false_and]
        have := q _ (sm2.trans s3)
        rw [e] at this
        exact this
end
end Up
end
section
set_option Elab.async false
set_option linter.all false
set_option maxRecDepth 100000
set_option maxHeartbeats 4000000
namespace Up
open PySem PySem.Spec PyProof.Rows L2
/-- None, or a new list of trees -/
def IsOptL (H H' : Hp) (v : V) : Option (List Pq.Tree) → Prop
  | none => v = .non
  | some L => ∃ r ys, v = .ref r ∧ H r = none ∧ H' r = some (.lst ys) ∧ TreesAt H' ys L
abbrev sSplitAny : Stmt := topS 23
abbrev sSplitRow : Stmt := topS 25
abbrev sSplit : Stmt := topS 26
theorem scSplitAny : FnScope ["parts", "chosen", "empty", "full", "mixed", "found", "inner"] ["parts", "chosen"] (defScope sSplitAny) := ⟨rfl, rfl, rfl, by decide +kernel, rfl, by decide +kernel, by decide +kernel⟩
theorem scSplitRow : FnScope ["parts", "chosen", "told", "part", "found", "inner"] ["parts", "chosen"] (defScope sSplitRow) := ⟨rfl, rfl, rfl, by decide +kernel, rfl, by decide +kernel, by decide +kernel⟩
theorem scSplit : FnScope ["tree", "chosen"] ["tree", "chosen"] (defScope sSplit) := ⟨rfl, rfl, rfl, by decide +kernel, rfl, by decide +kernel, by decide +kernel⟩
def spSplit (k : Nat) : Sp := fun vs H Q _ => ∃ v t c S, vs = [v, .ref c] ∧ TreeAt H v t ∧ Gd t ∧ Pq.depth t ≤ k ∧ Pq.share S t = .so ∧ H c = some (.tup (S.map V.int)) ∧ ∀ H' v', Same H H' → IsOptL H H' v' (Pq.split S k t) → Q v' H'
def spSplitAny (k : Nat) : Sp := fun vs H Q _ => ∃ p xs ps c S, vs = [.ref p, .ref c] ∧ H p = some (.tup xs) ∧ TreesAt H xs ps ∧ GdL ps ∧ Pq.depthL ps ≤ k ∧ H c = some (.tup (S.map V.int)) ∧ ∀ H' v', Same H H' → IsOptL H H' v' (Pq.splitAny S (Pq.split S k) ps) → Q v' H'
def spSplitRow (k : Nat) : Sp := fun vs H Q _ => ∃ p xs ps c S, vs = [.ref p, .ref c] ∧ H p = some (.tup xs) ∧ TreesAt H xs ps ∧ GdL ps ∧ Pq.depthL ps ≤ k ∧ H c = some (.tup (S.map V.int)) ∧ ∀ H' v', Same H H' → IsOptL H H' v' (Pq.splitRow S (Pq.split S k) ps) → Q v' H'
theorem split_gd {S : List Int} {k : Nat} {t : Pq.Tree} {L : List Pq.Tree} (g : Gd t) (sh : Pq.share S t = .so) (h : Pq.split S k t = some L) : GdL L := by
  obtain ⟨w, e⟩ := Pq.split_len g.wf sh h
  exact ⟨w, by rw [e]; exact g.len⟩
theorem isEmpty_len {α : Type} {xs : List α} : (!xs.isEmpty) = true ↔ xs ≠ [] := by cases xs <;> simp
section
variable {P : Program} {w : World} {K : PySem.W.Frag} {mg : Str → Option Value} {base : Heap}
theorem ok_split_any {k : Nat} (A : Here K mg "split_any" sSplitAny ["parts", "chosen"]) (T : Top mg) (DW : Df P w K mg base "with_share" ["parts", "chosen", "wanted"] 27 (spWithShare K)) (DM : Df P w K mg base "make_any" ["parts"] 1 spMakeAny)
    (D : Df P w K mg base "split" ["tree", "chosen"] (28 + 2 * k) (spSplit k)) : Df P w K mg base "split_any" ["parts", "chosen"] (29 + 2 * k) (spSplitAny k) := by
  have e : 29 + 2 * k = (28 + 2 * k) + 1 := by omega
  rw [e]
  refine A.df scSplitAny (fun vs H Q E h => ?_) (fun f cdv A outer s H vs Q E hr h => ?_)
  · obtain ⟨p, xs, ps, c, S, rfl, _⟩ := h; rfl
  · obtain ⟨p, xs, ps, c, S, rfl, hp, ht, g, hd, hc, q⟩ := h
    have nd := scSplitAny.nd
    have hW : Room 27 _ := hr.mono (by omega)
    have hM : Room 1 _ := hr.mono (by omega)
    refine ⟨_, pss_cons (ps_set (i := 2) nd rfl (.inl rfl) (pe_df DW hW rfl (pa_cons (pv 0) (pa_cons (pv 1) (pa_cons pe_str pa_nil)))))
      (pss_cons (ps_set (i := 3) nd rfl (.inl rfl) (pe_df DW hW rfl (pa_cons (pv 0) (pa_cons (pv 1) (pa_cons pe_str pa_nil)))))
      (pss_cons (ps_set (i := 4) nd rfl (.inl rfl) (pe_df DW hW rfl (pa_cons (pv 0) (pa_cons (pv 1) (pa_cons pe_str pa_nil)))))
      (pss_cons (ps_if (pt_cmpR op_gt (pe_callB call_len_seq rfl T.len PySem.boot_len (pa_cons (pv 4) pa_nil)) pe_int (nomark _)) (pss_one (ps_ret pe_non)) pss_nil)
      (pss_cons (ps_set (i := 5) nd rfl (.inl rfl) (pe_lst pa_nil))
      (C8.pss_cut (ps_if (pt_cmpR (op_neNil hr.units0) (pv 2) (pe_lst pa_nil) (nomark _)) (pss_one (ps_expr (pe_bm PySem.F.plainAttrs_list PySem.F.slot_list_append PySem.F.type_list_append mt_append (pv 5) (pa_cons (pe_df DM hM rfl (pa_cons (pv 2) pa_nil)) pa_nil)))) pss_nil)
      (C8.pss_cut (ps_if (pt_cmpR (op_neNil hr.units0) (pv 4) (pe_lst pa_nil) (nomark _))
        (pss_cons (ps_set (i := 6) nd rfl (.inl rfl) (pe_df D hr rfl (pa_cons (pe_ix ix_list (pv 4) pe_int (fun _ _ => rfl)) (pa_cons (pv 1) pa_nil))))
        (pss_cons (ps_if (pt_cmpR op_isN (pv 6) pe_non (nomark _)) (pss_one (ps_ret pe_non)) pss_nil)
        (pss_one (ps_expr (pe_bm PySem.F.plainAttrs_list PySem.F.slot_list_extend PySem.F.type_list_extend mt_extend (pv 5) (pa_cons (pv 6) pa_nil)))))) pss_nil)
      (C8.pss_cut (ps_if (pt_cmpR (op_neNil hr.units0) (pv 3) (pe_lst pa_nil) (nomark _)) (pss_one (ps_expr (pe_bm PySem.F.plainAttrs_list PySem.F.slot_list_append PySem.F.type_list_append mt_append (pv 5) (pa_cons (pe_df DM hM rfl (pa_cons (pv 3) pa_nil)) pa_nil)))) pss_nil)
      (pss_one (ps_ret (pv 5)))))))))), ?_⟩
    -- the three lists
    refine ⟨_, rfl, _, rfl, p, xs, ps, c, S, .no, rfl, hp, ht, g, hc, fun H1 r1 ys1 sm1 n1 e1 t1 => ?_⟩
    refine ⟨_, rfl, _, rfl, p, xs, ps, c, S, .al, rfl, sm1 _ _ hp, ht.mono sm1, g, sm1 _ _ hc, fun H2 r2 ys2 sm2 n2 e2 t2 => ?_⟩
    have s02 := sm1.trans sm2
    refine ⟨_, rfl, _, rfl, p, xs, ps, c, S, .so, rfl, s02 _ _ hp, ht.mono s02, g, s02 _ _ hc, fun H3 r3 ys3 sm3 n3 e3 t3 => ?_⟩
    have s03 := s02.trans sm3
    have g1 : GdL (Pq.withShare S .no ps) := g.sub List.filter_sublist
    have g2 : GdL (Pq.withShare S .al ps) := g.sub List.filter_sublist
    have g3 : GdL (Pq.withShare S .so ps) := g.sub List.filter_sublist
    have e1' := sm3 _ _ (sm2 _ _ e1)
    have e2' := sm3 _ _ e2
    have t1' := (t1.mono sm2).mono sm3
    have t2' := t2.mono sm3
    have l1 := t1.length
    have l2 := t2.length
    have l3 := t3.length
    refine ⟨_, rfl, r3, ys3, rfl, .inl (SqL.of e3), _, _, rfl, rfl, _, rfl, ite2 (fun c1 => ?_) (fun c1 => ?_)⟩
    · have c1' : (ys3.length : Int) > 1 := of_decide_eq_true c1
      refine q H3 .non s03 ?_
      have : Pq.splitAny S (Pq.split S k) ps = none := by
        unfold Pq.splitAny
        match em : Pq.withShare S .so ps, l3 with
        | [], l3 => rw [l3] at c1'; simp at c1'
        | [_], l3 => rw [l3] at c1'; simp at c1'
        | _ :: _ :: _, _ => rfl
      rw [this]
      rfl
    · have c1' : ¬ (ys3.length : Int) > 1 := fun h => c1 (decide_eq_true h)
      -- found = []
      refine ⟨Nat.zero_le _, fun o no => ?_⟩
      have s4 := same_new (o := .lst []) no
      have eo : (upd H3 o (.lst [])) o = some (.lst []) := upd_same
      have nHo : H o = none := s03.free no
      -- the state between the ifs
      refine ⟨fun σ H' => σ = [some (.ref p), some (.ref c), some (.ref r1), some (.ref r2), some (.ref r3), some (.ref o), none] ∧ Same H3 H' ∧ ∃ zs, H' o = some (.lst zs) ∧ TreesAt H' zs (Pq.optAny (Pq.withShare S .no ps)), ?_, ?_⟩
      · refine ⟨_, rfl, Nat.zero_le _, fun l nl => ⟨r1, l, ys1, rfl, rfl, SqL.of (same_new nl _ _ (s4 _ _ e1')), SqL.of upd_same, _, rfl, ?_⟩⟩
        have s5 := s4.trans (same_new (o := .lst []) nl)
        have eo5 := same_new (o := .lst []) nl _ _ eo
        refine ite2 (fun c2 => ?_) (fun c2 => ?_)
        · have hne : Pq.withShare S .no ps ≠ [] := fun h => isEmpty_len.mp c2 (List.length_eq_zero_iff.mp (by rw [l1, h]; rfl))
          refine ⟨_, rfl, .inl ⟨rfl, _, SqL.of eo5⟩, _, rfl, r1, ys1, _, rfl, s5 _ _ e1', t1'.mono s5, fun H6 v sm6 tv => ?_⟩
          refine ⟨o, _, _, rfl, rfl, sm6 _ _ eo5, (by show 0 < sizeLine; decide), rfl, fun b u eu => ?_, _, upd_same, ?_⟩
          · rw [upd_ne (ne_of_none eu no)]
            exact sm6 _ _ (s5 _ _ eu)
          · have : Pq.optAny (Pq.withShare S .no ps) = [Pq.makeAny (Pq.withShare S .no ps)] := by unfold Pq.optAny; rw [if_neg hne]
            rw [this]
            exact TreesAt.one (tv.monoT (SameT.lst (sm6 _ _ eo5)))
        · have hne : Pq.withShare S .no ps = [] := List.length_eq_zero_iff.mp (by
            rw [← l1]
            exact List.length_eq_zero_iff.mpr (Classical.byContradiction fun h => c2 (isEmpty_len.mpr h)))
          refine ⟨rfl, s5, _, eo5, ?_⟩
          rw [hne]
          exact .nil
      rintro σ H4 ⟨rfl, sm4, zs, ez, tz⟩
      have lz : zs.length ≤ 1 := by
        rw [tz.length]
        unfold Pq.optAny
        split <;> simp
      refine ⟨fun σ H' => (∃ y, σ = [some (.ref p), some (.ref c), some (.ref r1), some (.ref r2), some (.ref r3), some (.ref o), y]) ∧ Same H3 H' ∧ ∃ zs M, H' o = some (.lst zs) ∧ zs.length ≤ 100 ∧ TreesAt H' zs (Pq.optAny (Pq.withShare S .no ps) ++ M) ∧ Pq.splitAny S (Pq.split S k) ps = some (Pq.optAny (Pq.withShare S .no ps) ++ M ++ Pq.optAny (Pq.withShare S .al ps)), ?_, ?_⟩
      · refine ⟨_, rfl, Nat.zero_le _, fun l nl => ⟨r3, l, ys3, rfl, rfl, SqL.of (same_new nl _ _ (sm4 _ _ e3)), SqL.of upd_same, _, rfl, ?_⟩⟩
        have s5 := sm4.trans (same_new (o := .lst []) nl)
        have ez5 := same_new (o := .lst []) nl _ _ ez
        refine ite2 (fun c2 => ?_) (fun c2 => ?_)
        · -- one mixed part
          have hne : ys3 ≠ [] := isEmpty_len.mp c2
          obtain ⟨y, rfl⟩ : ∃ y, ys3 = [y] := by
            match ys3, hne, c1' with
            | [y], _, _ => exact ⟨y, rfl⟩
            | _ :: _ :: r, _, c1' => simp at c1'; omega
          obtain ⟨m, em⟩ : ∃ m, Pq.withShare S .so ps = [m] := List.length_eq_one_iff.mp (by rw [← l3]; rfl)
          rw [em] at t3
          cases t3 with
          | cons tm _ =>
            have hm := Pq.mem_withShare.mp (show m ∈ Pq.withShare S .so ps by rw [em]; simp)
            have dm := Pq.depth_mem hm.1
            have gm := g.get hm.1
            have eq : Pq.splitAny S (Pq.split S k) ps = (Pq.split S k m).map fun l => Pq.optAny (Pq.withShare S .no ps) ++ l ++ Pq.optAny (Pq.withShare S .al ps) := by
              unfold Pq.splitAny; rw [em]
            refine ⟨_, rfl, r3, _, 0, y, rfl, rfl, SqL.of (s5 _ _ e3), atI_nat (j := 0) rfl, _, rfl, y, m, c, S, rfl, tm.mono s5, gm, by omega, hm.2, s5 _ _ (s03 _ _ hc), fun H6 v sm6 ov => ?_⟩
            cases es : Pq.split S k m with
            | none =>
              rw [es] at ov
              have hv : v = .non := ov
              subst hv
              refine ⟨_, rfl, rfl, _, rfl, ?_⟩
              refine ite2 (fun _ => ?_) (fun c3 => absurd (by decide) c3)
              refine q H6 .non (s03.trans (s5.trans sm6)) ?_
              rw [eq, es]; rfl
            | some L =>
              rw [es] at ov
              obtain ⟨r, ys, rfl, nr, er, tr⟩ := ov
              refine ⟨_, rfl, rfl, _, rfl, ?_⟩
              refine ite2 (fun c3 => absurd c3 (by simp)) (fun _ => ?_)
              have gL := split_gd gm hm.2 es
              have lr := tr.length
              have sL := gL.size
              have ez6 := sm6 _ _ ez5
              refine ⟨_, rfl, .inl ⟨rfl, _, SqL.of ez6⟩, _, rfl, o, r, _, _, rfl, rfl, ez6, er, Nat.le_of_lt (small1000 (by omega)), ⟨_, rfl⟩, fun b u eu => ?_, zs ++ ys, L, upd_same, by simp; omega, ?_, by rw [eq, es]; rfl⟩
              · rw [upd_ne (ne_of_none eu no)]
                exact sm6 _ _ (s5 _ _ eu)
              · have st := SameT.lst (o := .lst (zs ++ ys)) ez6
                exact TreesAt.append (tr.monoT st) (((tz.mono (same_new nl)).mono sm6).monoT st)
        · have hne : ys3 = [] := Classical.byContradiction fun h => c2 (isEmpty_len.mpr h)
          have em : Pq.withShare S .so ps = [] := List.length_eq_zero_iff.mp (by rw [← l3, hne]; rfl)
          refine ⟨⟨_, rfl⟩, s5, zs, [], ez5, by omega, by rw [List.append_nil]; exact tz.mono (same_new nl), ?_⟩
          unfold Pq.splitAny
          rw [em, List.append_nil]
      rintro σ H5 ⟨⟨y6, rfl⟩, sm5, zs2, M, ez5, lz2, tz2, eq⟩
      refine ⟨fun σ H' => (∃ y, σ = [some (.ref p), some (.ref c), some (.ref r1), some (.ref r2), some (.ref r3), some (.ref o), y]) ∧ Same H3 H' ∧ ∃ zs, H' o = some (.lst zs) ∧ TreesAt H' zs (Pq.optAny (Pq.withShare S .no ps) ++ M ++ Pq.optAny (Pq.withShare S .al ps)), ?_, ?_⟩
      · refine ⟨_, rfl, Nat.zero_le _, fun l nl => ⟨r2, l, ys2, rfl, rfl, SqL.of (same_new nl _ _ (sm5 _ _ e2')), SqL.of upd_same, _, rfl, ?_⟩⟩
        have s6 := sm5.trans (same_new (o := .lst []) nl)
        have ez6 := same_new (o := .lst []) nl _ _ ez5
        refine ite2 (fun c2 => ?_) (fun c2 => ?_)
        · have hne : Pq.withShare S .al ps ≠ [] := fun h => isEmpty_len.mp c2 (List.length_eq_zero_iff.mp (by rw [l2, h]; rfl))
          refine ⟨_, rfl, .inl ⟨rfl, _, SqL.of ez6⟩, _, rfl, r2, ys2, _, rfl, s6 _ _ e2', t2'.mono s6, fun H7 v sm7 tv => ?_⟩
          have ez7 := sm7 _ _ ez6
          refine ⟨o, _, _, rfl, rfl, ez7, small1000 (by omega), ⟨_, rfl⟩, fun b u eu => ?_, _, upd_same, ?_⟩
          · rw [upd_ne (ne_of_none eu no)]
            exact sm7 _ _ (s6 _ _ eu)
          · have : Pq.optAny (Pq.withShare S .al ps) = [Pq.makeAny (Pq.withShare S .al ps)] := by unfold Pq.optAny; rw [if_neg hne]
            rw [this]
            have st := SameT.lst (o := .lst (zs2 ++ [v])) ez7
            exact TreesAt.append (TreesAt.one (tv.monoT st)) (((tz2.mono (same_new nl)).mono sm7).monoT st)
        · have hne : Pq.withShare S .al ps = [] := List.length_eq_zero_iff.mp (by
            rw [← l2]
            exact List.length_eq_zero_iff.mpr (Classical.byContradiction fun h => c2 (isEmpty_len.mpr h)))
          refine ⟨⟨_, rfl⟩, s6, _, ez6, ?_⟩
          rw [hne]
          show TreesAt _ _ (Pq.optAny (Pq.withShare S .no ps) ++ M ++ [])
          rw [List.append_nil]
          exact tz2.mono (same_new nl)
      rintro σ H6 ⟨⟨y7, rfl⟩, sm6, zs3, ez6, tz3⟩
      refine ⟨_, rfl, q H6 _ (s03.trans sm6) ?_⟩
      rw [eq]
      exact ⟨o, zs3, rfl, nHo, ez6, tz3⟩
end
end Up
end
section
set_option Elab.async false
set_option linter.all false
set_option maxRecDepth 100000
set_option maxHeartbeats 4000000
namespace Up
open PySem PySem.Spec PyProof.Rows L2
section
variable {P : Program} {w : World} {K : PySem.W.Frag} {mg : Str → Option Value} {base : Heap}
theorem ok_split_row {k : Nat} (A : Here K mg "split_row" sSplitRow ["parts", "chosen"]) (T : Top mg) (DA : Df P w K mg base "ascends" ["shares"] 1 spAscends) (DS : Df P w K mg base "share" ["tree", "chosen"] 26 spShare)
    (D : Df P w K mg base "split" ["tree", "chosen"] (28 + 2 * k) (spSplit k)) : Df P w K mg base "split_row" ["parts", "chosen"] (29 + 2 * k) (spSplitRow k) := by
  have e : 29 + 2 * k = (28 + 2 * k) + 1 := by omega
  rw [e]
  refine A.df scSplitRow (fun vs H Q E h => ?_) (fun f cdv A outer s H vs Q E hr h => ?_)
  · obtain ⟨p, xs, ps, c, S, rfl, _⟩ := h; rfl
  · obtain ⟨p, xs, ps, c, S, rfl, hp, ht, g, hd, hc, q⟩ := h
    have nd := scSplitRow.nd
    have hS : Room 26 _ := hr.mono (by omega)
    have hA : Room 1 _ := hr.mono (by omega)
    have lt := ht.length
    have gs := g.size
    refine ⟨_, pss_cons (ps_set (i := 2) nd rfl (.inl rfl) (pe_callTy call_list_of rfl T.list (by decide +kernel) (pa_cons (pv 0) pa_nil)))
      (C8.pss_cut (ps_if (pt_not (pt_val (pe_df DA hA rfl (pa_cons (pe_lc (own := [("part", 3)]) (g := gName 3) (tt := tYes) rfl nd (pi_list (pv 2)) (blkOk_by (N := ["parts", "chosen", "told", "part", "found", "inner"]) (sc := defScope sSplitRow) (by decide +kernel))
          (fun _ _ _ _ _ => pg_name (i := 3) nd rfl (.inl rfl)) (fun _ _ _ _ _ => pts_nil) (fun _ _ _ _ _ => pe_df DS hS rfl (pa_cons (pv 3) (pa_cons (pv 1) pa_nil)))) pa_nil))))
        (pss_one (ps_expr (pe_bm0 PySem.F.plainAttrs_list PySem.F.slot_list_reverse PySem.F.type_list_reverse mt_reverse (pv 2)))) pss_nil)
      (pss_cons (ps_if (pt_not (pt_val (pe_df DA hA rfl (pa_cons (pe_lc (own := [("part", 3)]) (g := gName 3) (tt := tYes) rfl nd (pi_list (pv 2)) (blkOk_by (N := ["parts", "chosen", "told", "part", "found", "inner"]) (sc := defScope sSplitRow) (by decide +kernel))
          (fun _ _ _ _ _ => pg_name (i := 3) nd rfl (.inl rfl)) (fun _ _ _ _ _ => pts_nil) (fun _ _ _ _ _ => pe_df DS hS rfl (pa_cons (pv 3) (pa_cons (pv 1) pa_nil)))) pa_nil))))
        (pss_one (ps_ret pe_non)) pss_nil)
      (pss_cons (ps_set (i := 4) nd rfl (.inl rfl) (pe_lst pa_nil))
      (pss_cons (ps_for PassesOwn.never rfl (pi_list (pv 2)) (pg_name (i := 3) nd rfl (.inl rfl))
        (pss_one (ps_if (pt_cmpR op_eq (pe_df DS hS rfl (pa_cons (pv 3) (pa_cons (pv 1) pa_nil))) pe_str (nomark _))
          (pss_cons (ps_set (i := 5) nd rfl (.inl rfl) (pe_df D hr rfl (pa_cons (pv 3) (pa_cons (pv 1) pa_nil))))
          (pss_cons (ps_if (pt_cmpR op_isN (pv 5) pe_non (nomark _)) (pss_one (ps_ret pe_non)) pss_nil)
          (pss_one (ps_expr (pe_bm PySem.F.plainAttrs_list PySem.F.slot_list_extend PySem.F.type_list_extend mt_extend (pv 4) (pa_cons (pv 5) pa_nil))))))
          (pss_one (ps_expr (pe_bm PySem.F.plainAttrs_list PySem.F.slot_list_append PySem.F.type_list_append mt_append (pv 4) (pa_cons (pv 3) pa_nil)))))))
      (pss_one (ps_ret (pv 4))))))), ?_⟩
    -- told = list(parts)
    refine ⟨_, rfl, p, xs, rfl, .inr (SqT.of hp), fun o no => ?_⟩
    have s1 := same_new (o := .lst xs) no
    -- the shares of a list of parts
    have shares : ∀ (σ : L2.St) (H2 : Hp) (zs : List V) (qs : List Pq.Tree) (Rd : Addr → Hp → Prop), σ.length = 6 → σ[1]? = some (some (.ref c)) → σ[2]? = some (some (.ref o)) → H2 o = some (.lst zs) → H2 c = some (.tup (S.map V.int)) → TreesAt H2 zs qs → GdL qs →
        (∀ H3 r, Same H2 H3 → H3 r = some (.lst (shVs (qs.map (Pq.share S)))) → Rd r H3) →
        ∀ D, H2 D = none → ∃ W : Nat → Nat → Hp → Prop, (∃ m, W 0 m (upd H2 D (.lst []))) ∧ ∀ i m H, W i m H →
          ((Itl K o).stop i H ∧ Rd D H) ∨ ((Itl K o).go i H ∧ ∃ Nx : Hp → Prop, (∀ H', Nx H' → ∃ m', m' < m ∧ W (i + 1) m' H') ∧ ∀ x H', (Itl K o).yld i H x H' → gName 3 x (wipe σ [3]) H' fun σ2 H2 => wipe σ2 [3] = wipe σ [3] ∧ tYes σ2 H2 fun b H3 =>
            if b = true then tCall spShare [] E0 (tCons (tVar 3) (tCons (tVar 1) tNil)) σ2 H3 fun y H4 => ∃ acc, H4 D = some (.lst acc) ∧ acc.length < sizeLine ∧ Nx (upd H4 D (.lst (acc ++ [y]))) else Nx H3) := by
      intro σ H2 zs qs Rd ls h1 h2 hz hc2 tz gq k D nD
      refine lc_list (K := K) (a := o) (xs := zs) (fun i H3 => H3 D = some (.lst (shVs ((qs.take i).map (Pq.share S)))) ∧ Same H2 H3) ⟨upd_same, same_new nD⟩ (fun i H3 _ ⟨_, sm3⟩ => SqL.of (sm3 _ _ hz)) ?_ ?_
      · rintro i y H3 hi ⟨e3, sm3⟩
        obtain ⟨ti, hti, tat⟩ := tz.get hi
        have il := (List.getElem?_eq_some_iff.mp hti).1
        have gi := gq.get (List.mem_of_getElem? hti)
        have hq := gq.size
        have w1 : ((wipe σ [3]).set 3 (some y))[3]? = some (some y) := by
          rw [List.getElem?_set_self]
          show 3 < ((σ.set 3 none)).length
          rw [List.length_set]; omega
        have w2 : ((wipe σ [3]).set 3 (some y))[1]? = some (some (.ref c)) := by
          rw [List.getElem?_set_ne (by decide)]
          show (σ.set 3 none)[1]? = _
          rw [List.getElem?_set_ne (by decide), h1]
        refine ⟨?_, yes ⟨y, w1, _, w2, y, ti, c, S, rfl, tat.mono sm3, gi, sm3 _ _ hc2, fun H4 sm4 => ?_⟩⟩
        · show ((σ.set 3 none).set 3 (some y)).set 3 none = σ.set 3 none
          simp
        · have e4 := sm4 _ _ e3
          refine ⟨_, e4, small1000 (by unfold shVs; rw [List.length_map, List.length_map, List.length_take]; omega), ?_, fun b u eu => ?_⟩
          · have et : qs.take (i + 1) = qs.take i ++ [ti] := by rw [List.take_add_one, hti]; rfl
            rw [upd_same, et]
            simp [shVs]
          · rw [upd_ne (ne_of_none eu nD)]
            exact sm4 _ _ (sm3 _ _ eu)
      · rintro H3 ⟨e3, sm3⟩
        rw [tz.length, List.take_length] at e3
        exact k H3 D sm3 e3
    -- told turned where it does not ascend
    have ml : (ps.map (Pq.share S)).length ≤ 1000 := by rw [List.length_map]; omega
    refine ⟨fun σ H' => σ = [some (.ref p), some (.ref c), some (.ref o), none, none, none] ∧ Same H H' ∧ ∃ zs, H' o = some (.lst zs) ∧ TreesAt H' zs (Pq.told S ps), ?_, ?_⟩
    · refine ⟨_, rfl, o, rfl, ⟨xs, SqL.of upd_same⟩, shares _ _ xs ps _ rfl rfl rfl upd_same (s1 _ _ hc) (ht.mono s1) g fun H3 r sm3 er => ⟨r, _, rfl, er, ml, fun H4 sm4 => ⟨_, rfl, ?_⟩⟩⟩
      have eo4 : H4 o = some (.lst xs) := sm4 _ _ (sm3 _ _ upd_same)
      have s04 : Same H H4 := s1.trans (sm3.trans sm4)
      cases ca : Pq.ascends (ps.map (Pq.share S)) with
      | true =>
        refine iteF ⟨rfl, s04, xs, eo4, ?_⟩
        unfold Pq.told
        rw [ca]
        exact ht.mono s04
      | false =>
        refine iteT ⟨_, rfl, .inl ⟨rfl, _, SqL.of eo4⟩, o, xs, rfl, rfl, eo4, rfl, fun b u eu => ?_, xs.reverse, upd_same, ?_⟩
        · rw [upd_ne (ne_of_none eu no)]
          exact s04 _ _ eu
        · unfold Pq.told
          rw [ca]
          exact ((ht.mono s04).monoT (SameT.lst eo4)).reverse
    rintro σ H5 ⟨rfl, sm5, zs, ez, tz⟩
    have gt : GdL (Pq.told S ps) := by
      unfold Pq.told
      split
      · exact g
      · exact g.rev
    have gts := gt.size
    have dt : Pq.depthL (Pq.told S ps) ≤ k := by
      refine Pq.depthL_le fun p hp => ?_
      have : p ∈ ps := by
        unfold Pq.told at hp
        split at hp
        · exact hp
        · exact List.mem_reverse.mp hp
      exact Nat.le_trans (Pq.depth_mem this) hd
    refine ⟨_, rfl, o, rfl, ⟨zs, SqL.of ez⟩, shares _ _ zs (Pq.told S ps) _ rfl rfl rfl ez (sm5 _ _ hc) tz gt fun H6 r sm6 er => ⟨r, _, rfl, er, by rw [List.length_map]; omega, fun H7 sm7 => ⟨_, rfl, ?_⟩⟩⟩
    have s07 : Same H H7 := sm5.trans (sm6.trans sm7)
    have ez7 := sm7 _ _ (sm6 _ _ ez)
    have tz7 := (tz.mono sm6).mono sm7
    cases ca : Pq.ascends ((Pq.told S ps).map (Pq.share S)) with
    | false =>
      refine iteT (q H7 .non s07 ?_)
      have : Pq.splitRow S (Pq.split S k) ps = none := by unfold Pq.splitRow; rw [ca]; rfl
      rw [this]; rfl
    | true =>
      have eq : Pq.splitRow S (Pq.split S k) ps = Pq.rowParts S (Pq.split S k) (Pq.told S ps) := by unfold Pq.splitRow; rw [ca]; rfl
      refine iteF ⟨Nat.zero_le _, fun fo nf => ?_⟩
      have s8 := same_new (o := .lst []) nf
      refine ⟨_, rfl, o, rfl, ⟨zs, SqL.of (s8 _ _ ez7)⟩, for_list (K := K) (a := o) (xs := zs) (fun i σ H9 => (∃ y z, σ = [some (.ref p), some (.ref c), some (.ref o), y, some (.ref fo), z]) ∧ Same H7 H9 ∧ ∃ ys L, H9 fo = some (.lst ys) ∧ TreesAt H9 ys L ∧ Pq.rowParts S (Pq.split S k) ((Pq.told S ps).take i) = some L)
        ⟨⟨_, _, rfl⟩, s8, [], [], upd_same, .nil, rfl⟩ (fun i σ H9 _ ⟨_, sm9, _⟩ => SqL.of (sm9 _ _ ez7)) ?_ ?_⟩
      · rintro i y σ H9 hi ⟨⟨y0, z0, rfl⟩, sm9, ys, L, ef, ty, el⟩
        obtain ⟨ti, hti, tat⟩ := tz7.get hi
        have il := (List.getElem?_eq_some_iff.mp hti).1
        have hm := List.mem_of_getElem? hti
        have gi := gt.get hm
        have di := Pq.depth_mem hm
        have et : (Pq.told S ps).take (i + 1) = (Pq.told S ps).take i ++ [ti] := by rw [List.take_add_one, hti]; rfl
        have gL : GdL L := by
          obtain ⟨w1, w2⟩ := Pq.rowParts_len (fun p hp => gt.wf p (List.mem_of_mem_take hp)) el
          refine ⟨w1, ?_⟩
          rw [w2]
          exact (gt.sub (List.take_sublist _ _)).len
        have gLs := gL.size
        have ly := ty.length
        have s09 := s07.trans sm9
        refine ⟨_, rfl, _, rfl, y, ti, c, S, rfl, tat.mono sm9, gi, s09 _ _ hc, fun H10 sm10 => ⟨rfl, _, rfl, ?_⟩⟩
        have esn := Pq.rowParts_snoc (f := Pq.split S k) (p := ti) el
        rw [← et] at esn
        rw [show decide (V.str (shS (Pq.share S ti)) = V.str (PySem.Str.ofString "some")) = decide (Pq.share S ti = .so) from shS_inj (b := .so)]
        refine iteD (fun es => ?_) (fun es => ?_)
        · rw [if_pos es] at esn
          refine ⟨_, rfl, _, rfl, y, ti, c, S, rfl, (tat.mono sm9).mono sm10, gi, by omega, es, sm10 _ _ (s09 _ _ hc), fun H11 v sm11 ov => ?_⟩
          have s711 := sm9.trans (sm10.trans sm11)
          cases ec : Pq.split S k ti with
          | none =>
            rw [ec] at ov esn
            have hv : v = .non := ov
            subst hv
            refine ⟨_, rfl, rfl, _, rfl, ?_⟩
            refine ite2 (fun _ => ?_) (fun c3 => absurd (by decide) c3)
            refine q H11 .non (s07.trans s711) ?_
            have : Pq.rowParts S (Pq.split S k) (Pq.told S ps) = none := by
              have e2 : Pq.told S ps = (Pq.told S ps).take (i + 1) ++ (Pq.told S ps).drop (i + 1) := (List.take_append_drop _ _).symm
              rw [e2, Pq.rowParts_append, esn]
              rfl
            rw [eq, this]
            rfl
          | some M =>
            rw [ec] at ov esn
            obtain ⟨r2, ws, rfl, nr2, er2, tr2⟩ := ov
            refine ⟨_, rfl, rfl, _, rfl, ?_⟩
            refine ite2 (fun c3 => absurd c3 (by simp)) (fun _ => ?_)
            have gM := (split_gd gi es ec).size
            have lw := tr2.length
            have ef11 := sm11 _ _ (sm10 _ _ ef)
            refine ⟨_, rfl, .inl ⟨rfl, _, SqL.of ef11⟩, _, rfl, fo, r2, _, _, rfl, rfl, ef11, er2, Nat.le_of_lt (small1000 (by omega)), ⟨_, _, rfl⟩, fun b u eu => ?_, ys ++ ws, L ++ M, upd_same, ?_, esn⟩
            · rw [upd_ne (ne_of_none eu nf)]
              exact s711 _ _ eu
            · have st := SameT.lst (o := .lst (ys ++ ws)) ef11
              exact TreesAt.append (tr2.monoT st) (((ty.mono sm10).mono sm11).monoT st)
        · rw [if_neg es] at esn
          have ef10 := sm10 _ _ ef
          refine ⟨_, rfl, .inl ⟨rfl, _, SqL.of ef10⟩, _, rfl, fo, _, _, rfl, rfl, ef10, small1000 (by omega), ⟨_, _, rfl⟩, fun b u eu => ?_, ys ++ [y], L ++ [ti], upd_same, ?_, esn⟩
          · rw [upd_ne (ne_of_none eu nf)]
            exact sm10 _ _ (sm9 _ _ eu)
          · have st := SameT.lst (o := .lst (ys ++ [y])) ef10
            exact TreesAt.append (TreesAt.one (((tat.mono sm9).mono sm10).monoT st)) ((ty.mono sm10).monoT st)
      · rintro σ H9 ⟨⟨y0, z0, rfl⟩, sm9, ys, L, ef, ty, el⟩
        rw [tz7.length, List.take_length] at el
        refine ⟨_, rfl, q H9 _ (s07.trans sm9) ?_⟩
        rw [eq, el]
        exact ⟨fo, ys, rfl, s07.free nf, ef, ty⟩
theorem ok_split_step {k : Nat} (A : Here K mg "split" sSplit ["tree", "chosen"]) (DA : Df P w K mg base "split_any" ["parts", "chosen"] (29 + 2 * k) (spSplitAny k)) (DR : Df P w K mg base "split_row" ["parts", "chosen"] (29 + 2 * k) (spSplitRow k)) : Df P w K mg base "split" ["tree", "chosen"] (28 + 2 * (k + 1)) (spSplit (k + 1)) := by
  have e : 28 + 2 * (k + 1) = (29 + 2 * k) + 1 := by omega
  rw [e]
  refine A.df scSplit (fun vs H Q E h => ?_) (fun f cdv A outer s H vs Q E hr h => ?_)
  · obtain ⟨v, t, c, S, rfl, _⟩ := h; rfl
  · obtain ⟨v, t, c, S, rfl, ht, g, hd, sh, hc, q⟩ := h
    refine ⟨_, pss_cons (ps_if (pt_cmpR op_eq (pe_ix ix_tup (pv 0) pe_int (fun _ _ => rfl)) pe_str (nomark _)) (pss_one (ps_ret (pe_df DA hr rfl (pa_cons (pe_ix ix_tup (pv 0) pe_int (fun _ _ => rfl)) (pa_cons (pv 1) pa_nil))))) pss_nil)
      (pss_one (ps_ret (pe_df DR hr rfl (pa_cons (pe_ix ix_tup (pv 0) pe_int (fun _ _ => rfl)) (pa_cons (pv 1) pa_nil))))), ?_⟩
    rcases ht.ty (K := K) with ⟨a, rfl, rfl⟩ | ⟨p, qa, x, vs, ps, rfl, hp, hq, hvs, alt⟩
    · exfalso
      obtain ⟨⟨y, hy, ys⟩, z, hz, zs⟩ := (Pq.share_so (by simp [Pq.listed])).mp sh
      have e1 : y = a := by simpa [Pq.listed] using hy
      have e2 : z = a := by simpa [Pq.listed] using hz
      subst e1; subst e2; exact zs ys
    · refine ⟨_, rfl, p, _, 0, _, rfl, rfl, SqT.of hp, atI_nat (j := 0) rfl, rfl, _, rfl, ?_⟩
      rcases alt with ⟨rfl, rfl⟩ | ⟨rfl, rfl⟩
      · rw [show decide (V.str (PySem.Str.ofString "any") = V.str (PySem.Str.ofString "any")) = true from decide_eq_true rfl]
        have dd : Pq.depthL ps + 1 ≤ k + 1 := hd
        refine iteT ⟨_, rfl, p, _, 1, _, rfl, rfl, SqT.of hp, atI_nat (j := 1) rfl, _, rfl, qa, vs, ps, c, S, rfl, hq, hvs, GdL.of g (.inl rfl), by omega, hc, q⟩
      · rw [show decide (V.str (PySem.Str.ofString "row") = V.str (PySem.Str.ofString "any")) = false by decide +kernel]
        have dd : Pq.depthL ps + 1 ≤ k + 1 := hd
        refine iteF ⟨_, rfl, p, _, 1, _, rfl, rfl, SqT.of hp, atI_nat (j := 1) rfl, _, rfl, qa, vs, ps, c, S, rfl, hq, hvs, GdL.of g (.inr rfl), by omega, hc, q⟩
theorem ok_split (A : Here K mg "split" sSplit ["tree", "chosen"]) (AA : Here K mg "split_any" sSplitAny ["parts", "chosen"]) (AR : Here K mg "split_row" sSplitRow ["parts", "chosen"]) (T : Top mg) (DW : Df P w K mg base "with_share" ["parts", "chosen", "wanted"] 27 (spWithShare K))
    (DM : Df P w K mg base "make_any" ["parts"] 1 spMakeAny) (DC : Df P w K mg base "ascends" ["shares"] 1 spAscends) (DS : Df P w K mg base "share" ["tree", "chosen"] 26 spShare) : ∀ k, Df P w K mg base "split" ["tree", "chosen"] (28 + 2 * k) (spSplit k)
  | 0 => A.none fun vs H Q E h => by
    obtain ⟨v, t, c, S, _, _, g, hd, sh, _⟩ := h
    cases t with
    | th a =>
      obtain ⟨⟨y, hy, ys⟩, z, hz, zs⟩ := (Pq.share_so (by simp [Pq.listed])).mp sh
      have e1 : y = a := by simpa [Pq.listed] using hy
      have e2 : z = a := by simpa [Pq.listed] using hz
      subst e1; subst e2; exact zs ys
    | any ps => exact absurd hd (by show ¬ (Pq.depthL ps + 1 ≤ 0); omega)
    | row ps => exact absurd hd (by show ¬ (Pq.depthL ps + 1 ≤ 0); omega)
  | k + 1 => by
    have ih := ok_split A AA AR T DW DM DC DS k
    exact ok_split_step A (ok_split_any AA T DW DM ih) (ok_split_row AR T DC DS ih)
end
end Up
end
section
set_option Elab.async false
set_option linter.all false
set_option maxRecDepth 100000
set_option maxHeartbeats 4000000
namespace Up
open PySem PySem.Spec PyProof.Rows L2
/-- None, or a tree -/
def IsOptT (H' : Hp) (v : V) : Option Pq.Tree → Prop
  | none => v = .non
  | some t => TreeAt H' v t
/-- None, or a list of trees, not at D -/
def LAt (D : Addr) (H : Hp) (z : V) : Option (List Pq.Tree) → Prop
  | none => z = .non
  | some L => ∃ r ys, z = .ref r ∧ r ≠ D ∧ H r = some (.lst ys) ∧ TreesAt H ys L
theorem LAt.mono {D : Addr} {H H' : Hp} {z : V} (e : Same H H') : ∀ {o : Option (List Pq.Tree)}, LAt D H z o → LAt D H' z o
  | none, h => h
  | some _, ⟨r, ys, a, b, c, d⟩ => ⟨r, ys, a, b, e _ _ c, d.mono e⟩
theorem LAt.upd {D : Addr} {H : Hp} {z : V} {xs ws : List V} (e : H D = some (.lst ws)) : ∀ {o : Option (List Pq.Tree)}, LAt D H z o → LAt D (upd H D (.lst xs)) z o
  | none, h => h
  | some _, ⟨r, ys, a, b, c, d⟩ => ⟨r, ys, a, b, by rw [upd_ne b]; exact c, d.monoT (SameT.lst e)⟩
abbrev sJoinAny : Stmt := topS 27
abbrev sJoinRow : Stmt := topS 28
abbrev sJoined : Stmt := topS 29
theorem scJoinAny : FnScope ["parts", "chosen", "empty", "full", "mixed", "lists", "middle", "part"] ["parts", "chosen"] (defScope sJoinAny) := ⟨rfl, rfl, rfl, by decide +kernel, rfl, by decide +kernel, by decide +kernel⟩
def spJoinAny (k : Nat) : Sp := fun vs H Q _ => ∃ p xs ps c S, vs = [.ref p, .ref c] ∧ H p = some (.tup xs) ∧ TreesAt H xs ps ∧ GdL ps ∧ Pq.depthL ps ≤ k ∧ H c = some (.tup (S.map V.int)) ∧ ∀ H' v', Same H H' → IsOptT H' v' (Pq.joinAny S (Pq.split S k) ps) → Q v' H'
section
variable {P : Program} {w : World} {K : PySem.W.Frag} {mg : Str → Option Value} {base : Heap}
theorem ok_join_any {k : Nat} (A : Here K mg "joined_any" sJoinAny ["parts", "chosen"]) (T : Top mg) (DW : Df P w K mg base "with_share" ["parts", "chosen", "wanted"] 27 (spWithShare K)) (DM : Df P w K mg base "make_any" ["parts"] 1 spMakeAny)
    (DR : Df P w K mg base "make_row" ["parts"] 2 spMakeRow) (D : Df P w K mg base "split" ["tree", "chosen"] (28 + 2 * k) (spSplit k)) : Df P w K mg base "joined_any" ["parts", "chosen"] (29 + 2 * k) (spJoinAny k) := by
  have e : 29 + 2 * k = (28 + 2 * k) + 1 := by omega
  rw [e]
  refine A.df scJoinAny (fun vs H Q E h => ?_) (fun f cdv A outer s H vs Q E hr h => ?_)
  · obtain ⟨p, xs, ps, c, S, rfl, _⟩ := h; rfl
  · obtain ⟨p, xs, ps, c, S, rfl, hp, ht, g, hd, hc, q⟩ := h
    have nd := scJoinAny.nd
    have hW : Room 27 _ := hr.mono (by omega)
    have hM : Room 1 _ := hr.mono (by omega)
    have hR : Room 2 _ := hr.mono (by omega)
    refine ⟨_, pss_cons (ps_set (i := 2) nd rfl (.inl rfl) (pe_df DW hW rfl (pa_cons (pv 0) (pa_cons (pv 1) (pa_cons pe_str pa_nil)))))
      (pss_cons (ps_set (i := 3) nd rfl (.inl rfl) (pe_df DW hW rfl (pa_cons (pv 0) (pa_cons (pv 1) (pa_cons pe_str pa_nil)))))
      (pss_cons (ps_set (i := 4) nd rfl (.inl rfl) (pe_df DW hW rfl (pa_cons (pv 0) (pa_cons (pv 1) (pa_cons pe_str pa_nil)))))
      (pss_cons (ps_if (pt_cmpR op_gt (pe_callB call_len_seq rfl T.len PySem.boot_len (pa_cons (pv 4) pa_nil)) pe_int (nomark _)) (pss_one (ps_ret pe_non)) pss_nil)
      (pss_cons (ps_setLc (i := 5) (own := [("part", 7)]) (g := gName 7) (tt := tYes) rfl nd rfl rfl (sw_true rfl rfl rfl (by decide +kernel)) (pi_list (pv 4)) (blkOk_by (N := ["parts", "chosen", "empty", "full", "mixed", "lists", "middle", "part"]) (sc := defScope sJoinAny) (by decide +kernel))
        (fun _ _ _ _ _ => pg_name (i := 7) nd rfl (.inl rfl)) (fun _ _ _ _ _ => pts_nil) (fun _ _ _ _ _ => pe_df D hr rfl (pa_cons (pv 7) (pa_cons (pv 1) pa_nil))))
      (pss_cons (ps_if (pt_cmpR (op_noneL (hu_of hr)) pe_non (pv 5) (by rfl)) (pss_one (ps_ret pe_non)) pss_nil)
      (pss_cons (ps_if (pt_cmpR (op_eqNil hr.units0) (pv 5) (pe_lst pa_nil) (nomark _)) (pss_one (ps_ret (pe_df DM hM rfl (pa_cons (pe_op op_cat (pv 2) (pe_lst (pa_cons (pe_df DM hM rfl (pa_cons (pv 3) pa_nil)) pa_nil))) pa_nil)))) pss_nil)
      (pss_cons (ps_set (i := 6) nd rfl (.inl rfl) (pe_callTy call_list_of rfl T.list (by decide +kernel) (pa_cons (pe_ix ix_list (pv 5) pe_int (fun _ _ => rfl)) pa_nil)))
      (C8.pss_cut (ps_if (pt_cmpR (op_neNil hr.units0) (pv 3) (pe_lst pa_nil) (nomark _)) (pss_one (ps_expr (pe_bm PySem.F.plainAttrs_list PySem.F.slot_list_append PySem.F.type_list_append mt_append (pv 6) (pa_cons (pe_df DM hM rfl (pa_cons (pv 3) pa_nil)) pa_nil)))) pss_nil)
      (C8.pss_cut (ps_if (pt_cmpR op_eq (pe_callB call_len_seq rfl T.len PySem.boot_len (pa_cons (pv 5) pa_nil)) pe_int (nomark _)) (pss_one (ps_expr (pe_bm PySem.F.plainAttrs_list PySem.F.slot_list_extend PySem.F.type_list_extend mt_extend (pv 6) (pa_cons (pe_revL (pe_ix ix_list (pv 5) pe_int (fun _ _ => rfl))) pa_nil)))) pss_nil)
      (pss_one (ps_ret (pe_df DM hM rfl (pa_cons (pe_op op_cat (pv 2) (pe_lst (pa_cons (pe_df DR hR rfl (pa_cons (pv 6) pa_nil)) pa_nil))) pa_nil))))))))))))), ?_⟩
    -- the three lists
    refine ⟨_, rfl, _, rfl, p, xs, ps, c, S, .no, rfl, hp, ht, g, hc, fun H1 r1 ys1 sm1 n1 e1 t1 => ?_⟩
    refine ⟨_, rfl, _, rfl, p, xs, ps, c, S, .al, rfl, sm1 _ _ hp, ht.mono sm1, g, sm1 _ _ hc, fun H2 r2 ys2 sm2 n2 e2 t2 => ?_⟩
    have s02 := sm1.trans sm2
    refine ⟨_, rfl, _, rfl, p, xs, ps, c, S, .so, rfl, s02 _ _ hp, ht.mono s02, g, s02 _ _ hc, fun H3 r3 ys3 sm3 n3 e3 t3 => ?_⟩
    have s03 := s02.trans sm3
    have g1 : GdL (Pq.withShare S .no ps) := g.sub List.filter_sublist
    have g2 : GdL (Pq.withShare S .al ps) := g.sub List.filter_sublist
    have g3 : GdL (Pq.withShare S .so ps) := g.sub List.filter_sublist
    have e1' := sm3 _ _ (sm2 _ _ e1)
    have e2' := sm3 _ _ e2
    have t1' := (t1.mono sm2).mono sm3
    have t2' := t2.mono sm3
    have l1 := t1.length
    have l2 := t2.length
    have l3 := t3.length
    have z1 := g1.size
    have z2 := g2.size
    have z3 := g3.size
    refine ⟨_, rfl, r3, ys3, rfl, .inl (SqL.of e3), _, _, rfl, rfl, _, rfl, ite2 (fun c1 => ?_) (fun c1 => ?_)⟩
    · have c1' : (ys3.length : Int) > 2 := of_decide_eq_true c1
      refine q H3 .non s03 ?_
      have : Pq.joinAny S (Pq.split S k) ps = none := by
        unfold Pq.joinAny
        match em : Pq.withShare S .so ps, l3 with
        | [], l3 => rw [l3] at c1'; simp at c1'
        | [_], l3 => rw [l3] at c1'; simp at c1'
        | [_, _], l3 => rw [l3] at c1'; simp at c1'
        | _ :: _ :: _ :: _, _ => rfl
      rw [this]
      rfl
    · have c1' : ¬ (ys3.length : Int) > 2 := fun h => c1 (decide_eq_true h)
      -- lists
      have so : ∀ m ∈ Pq.withShare S .so ps, Gd m ∧ Pq.depth m ≤ k ∧ Pq.share S m = .so := fun m hm => by
        have h := Pq.mem_withShare.mp hm
        have := Pq.depth_mem h.1
        exact ⟨g.get h.1, by omega, h.2⟩
      refine ⟨_, rfl, r3, rfl, ⟨ys3, SqL.of e3⟩, fun DD nD => lc_list (K := K) (a := r3) (xs := ys3) (fun i H4 => Same H3 H4 ∧ ∃ zs, H4 DD = some (.lst zs) ∧ zs.length = i ∧ ∀ (j : Nat) z, zs[j]? = some z → ∃ m, (Pq.withShare S .so ps)[j]? = some m ∧ LAt DD H4 z (Pq.split S k m))
        ⟨same_new nD, [], upd_same, rfl, fun j z h => by simp at h⟩ (fun i H4 _ ⟨sm4, _⟩ => SqL.of (sm4 _ _ e3)) ?_ ?_⟩
      · rintro i y H4 hi ⟨sm4, zs, ez, lz, hz⟩
        obtain ⟨m, hm, tm⟩ := t3.get hi
        obtain ⟨gm, dm, sm⟩ := so m (List.mem_of_getElem? hm)
        have il := (List.getElem?_eq_some_iff.mp hm).1
        refine ⟨rfl, yes ⟨_, rfl, _, rfl, y, m, c, S, rfl, tm.mono sm4, gm, dm, sm, sm4 _ _ (s03 _ _ hc), fun H5 v sm5 ov => ?_⟩⟩
        have ez5 := sm5 _ _ ez
        refine ⟨zs, ez5, small1000 (by omega), fun b u eu => ?_, zs ++ [v], upd_same, by simp [lz], fun j z hj => ?_⟩
        · rw [upd_ne (ne_of_none eu nD)]
          exact sm5 _ _ (sm4 _ _ eu)
        · by_cases hj2 : j < zs.length
          · rw [List.getElem?_append_left hj2] at hj
            obtain ⟨m', hm', la⟩ := hz j z hj
            exact ⟨m', hm', LAt.upd ez5 (LAt.mono sm5 la)⟩
          · rw [List.getElem?_append_right (by omega)] at hj
            have hj3 : j = zs.length := by
              have := (List.getElem?_eq_some_iff.mp hj).1
              simp at this; omega
            subst hj3
            have er : v = z := by simpa using hj
            subst er
            refine ⟨m, by rw [lz]; exact hm, LAt.upd ez5 ?_⟩
            cases es : Pq.split S k m with
            | none => rw [es] at ov; exact ov
            | some L =>
              rw [es] at ov
              obtain ⟨r, ys, rfl, nr, er, tr⟩ := ov
              have sm4x := ez
              exact ⟨r, ys, rfl, (fun e => by rw [e, sm4x] at nr; cases nr), er, tr⟩
      · rintro H4 ⟨sm4, zs, ez, lz, hz⟩
        have s04 := s03.trans sm4
        have e14 := sm4 _ _ e1'
        have e24 := sm4 _ _ e2'
        have t14 := t1'.mono sm4
        have t24 := t2'.mono sm4
        have nol : ∀ z ∈ zs, NoneOrList K H4 z := by
          intro z hz2
          obtain ⟨j, hj, ej⟩ := List.mem_iff_getElem.mp hz2
          obtain ⟨m, _, la⟩ := hz j z (by rw [List.getElem?_eq_getElem hj, ej])
          cases es : Pq.split S k m with
          | none => rw [es] at la; exact .inl la
          | some L =>
            rw [es] at la
            obtain ⟨r, ys, rfl, _, er, _⟩ := la
            exact .inr ⟨r, ys, rfl, SqL.of er⟩
        refine ⟨_, rfl, DD, zs, rfl, rfl, SqL.of ez, nol, _, rfl, ?_⟩
        refine ite2 (fun c2 => ?_) (fun c2 => ?_)
        · -- one of them is None
          refine q H4 .non s04 ?_
          obtain ⟨z, hz2, hn⟩ := List.any_eq_true.mp c2
          have zn : z = .non := by
            cases z <;> first | rfl | (simp [isNon] at hn)
          subst zn
          obtain ⟨j, hj, ej⟩ := List.mem_iff_getElem.mp hz2
          obtain ⟨m, hm, la⟩ := hz j .non (by rw [List.getElem?_eq_getElem hj, ej])
          have em : Pq.split S k m = none := by
            cases es : Pq.split S k m with
            | none => rfl
            | some L =>
              rw [es] at la
              obtain ⟨r, ys, h, _⟩ := la
              cases h
          have : Pq.joinAny S (Pq.split S k) ps = none := by
            unfold Pq.joinAny
            match eq : Pq.withShare S .so ps, hm with
            | [], hm => simp at hm
            | [a], hm =>
              have : a = m := by
                match j, hm with
                | 0, hm => simpa using hm
                | j + 1, hm => simp at hm
              subst this
              simp [em]
            | [a, b], hm =>
              have : a = m ∨ b = m := by
                match j, hm with
                | 0, hm => exact .inl (by simpa using hm)
                | 1, hm => exact .inr (by simpa using hm)
                | j + 2, hm => simp at hm
              rcases this with rfl | rfl
              · simp [em]
              · cases Pq.split S k a <;> simp [em]
            | _ :: _ :: _ :: _, _ => rfl
          rw [this]
          rfl
        · have nn : ∀ z ∈ zs, isNon z = false := fun z hz2 => by
            cases e : isNon z with
            | false => rfl
            | true => exact (c2 (List.any_eq_true.mpr ⟨z, hz2, e⟩)).elim
          have la : ∀ (j : Nat) z m, zs[j]? = some z → (Pq.withShare S .so ps)[j]? = some m → ∃ L r ys, Pq.split S k m = some L ∧ z = .ref r ∧ H4 r = some (.lst ys) ∧ TreesAt H4 ys L ∧ GdL L := by
            intro j z m hj hm
            obtain ⟨m', hm', la⟩ := hz j z hj
            rw [hm] at hm'; cases hm'
            cases es : Pq.split S k m with
            | none =>
              rw [es] at la
              have : z = .non := la
              subst this
              have := nn _ (List.mem_of_getElem? hj)
              simp [isNon] at this
            | some L =>
              rw [es] at la
              obtain ⟨r, ys, rfl, _, er, tr⟩ := la
              obtain ⟨gm, dm, sm⟩ := so m (List.mem_of_getElem? hm)
              exact ⟨L, r, ys, rfl, rfl, er, tr, split_gd gm sm es⟩
          -- if lists == []
          refine ⟨_, rfl, Nat.zero_le _, fun l nl => ⟨DD, l, zs, rfl, rfl, SqL.of (same_new nl _ _ ez), SqL.of upd_same, _, rfl, ?_⟩⟩
          have s5 := same_new (o := .lst []) nl
          refine ite2 (fun c3 => ?_) (fun c3 => ?_)
          · have zz : zs = [] := List.isEmpty_iff.mp c3
            have em : Pq.withShare S .so ps = [] := List.length_eq_zero_iff.mp (by rw [← l3, ← lz, zz]; rfl)
            have eq : Pq.joinAny S (Pq.split S k) ps = some (Pq.makeAny (Pq.withShare S .no ps ++ [Pq.makeAny (Pq.withShare S .al ps)])) := by unfold Pq.joinAny; rw [em]
            refine ⟨_, rfl, _, rfl, r2, ys2, _, rfl, s5 _ _ e24, t24.mono s5, fun H6 v sm6 tv => ⟨(by show 1 ≤ sizeLine; decide), fun a na => ?_⟩⟩
            have s7 := same_new (o := .lst [v]) na
            have s57 := s5.trans (sm6.trans s7)
            refine ⟨r1, a, _, _, rfl, rfl, s57 _ _ e14, upd_same, Nat.le_of_lt (small1000 (by simp; omega)), fun b nb => ?_⟩
            have s8 := same_new (o := .lst (ys1 ++ [v])) nb
            refine ⟨b, _, _, rfl, upd_same, TreesAt.append (TreesAt.one (tv.mono (s7.trans s8))) (t14.mono (s57.trans s8)), fun H9 v9 sm9 tv9 => ?_⟩
            refine q H9 v9 (s04.trans ((s57.trans s8).trans sm9)) ?_
            rw [eq]
            exact tv9
          · have zz : zs ≠ [] := fun h => c3 (by rw [h]; rfl)
            have z0 : 0 < zs.length := List.length_pos_iff.mpr zz
            have hz0 : zs[0]? = some zs[0] := List.getElem?_eq_getElem z0
            have hm0 : (Pq.withShare S .so ps)[0]? = some ((Pq.withShare S .so ps)[0]'(by omega)) := List.getElem?_eq_getElem (by omega)
            obtain ⟨L0, ra, ya, es0, ez0, era, tra, gL0⟩ := la 0 _ _ hz0 hm0
            have gl0 := gL0.size
            have lya := tra.length
            -- middle = list(lists[0])
            refine ⟨_, rfl, DD, zs, 0, _, rfl, rfl, SqL.of (s5 _ _ ez), atI_nat (j := 0) hz0, ra, ya, by rw [ez0], .inl (SqL.of (s5 _ _ era)), fun mo nm => ?_⟩
            have s6 := s5.trans (same_new (o := .lst ya) nm)
            refine ⟨fun σ H' => σ = [some (.ref p), some (.ref c), some (.ref r1), some (.ref r2), some (.ref r3), some (.ref DD), some (.ref mo), none] ∧ Same H4 H' ∧ ∃ ws, H' mo = some (.lst ws) ∧ TreesAt H' ws (L0 ++ Pq.optAny (Pq.withShare S .al ps)), ?_, ?_⟩
            · refine ⟨_, rfl, Nat.zero_le _, fun l2' nl2 => ⟨r2, l2', ys2, rfl, rfl, SqL.of (same_new nl2 _ _ (s6 _ _ e24)), SqL.of upd_same, _, rfl, ?_⟩⟩
              have s7 := s6.trans (same_new (o := .lst []) nl2)
              have em7 := same_new (o := .lst []) nl2 _ _ (upd_same (o := .lst ya))
              have nmo : H4 mo = none := s5.free nm
              refine ite2 (fun c4 => ?_) (fun c4 => ?_)
              · have hne : Pq.withShare S .al ps ≠ [] := fun h => isEmpty_len.mp c4 (List.length_eq_zero_iff.mp (by rw [l2, h]; rfl))
                refine ⟨_, rfl, .inl ⟨rfl, _, SqL.of em7⟩, _, rfl, r2, ys2, _, rfl, s7 _ _ e24, t24.mono s7, fun H8 v sm8 tv => ?_⟩
                have em8 := sm8 _ _ em7
                refine ⟨mo, _, _, rfl, rfl, em8, small1000 (by omega), rfl, fun b u eu => ?_, _, upd_same, ?_⟩
                · rw [upd_ne (ne_of_none eu nmo)]
                  exact sm8 _ _ (s7 _ _ eu)
                · have : Pq.optAny (Pq.withShare S .al ps) = [Pq.makeAny (Pq.withShare S .al ps)] := by unfold Pq.optAny; rw [if_neg hne]
                  rw [this]
                  have st := SameT.lst (o := .lst (ya ++ [v])) em8
                  exact TreesAt.append (TreesAt.one (tv.monoT st)) (((tra.mono s7).mono sm8).monoT st)
              · have hne : Pq.withShare S .al ps = [] := List.length_eq_zero_iff.mp (by
                  rw [← l2]
                  exact List.length_eq_zero_iff.mpr (Classical.byContradiction fun h => c4 (isEmpty_len.mpr h)))
                refine ⟨rfl, s7, _, em7, ?_⟩
                rw [hne]
                show TreesAt _ _ (L0 ++ [])
                rw [List.append_nil]
                exact tra.mono s7
            rintro σ H5 ⟨rfl, sm5, ws, ew, tw⟩
            have nmo : H4 mo = none := s5.free nm
            have lw := tw.length
            have low : ws.length ≤ 26 := by
              rw [lw, List.length_append]
              have : (Pq.optAny (Pq.withShare S .al ps)).length ≤ 1 := by unfold Pq.optAny; split <;> simp
              omega
            -- the whole middle
            refine ⟨fun σ H' => σ = [some (.ref p), some (.ref c), some (.ref r1), some (.ref r2), some (.ref r3), some (.ref DD), some (.ref mo), none] ∧ Same H4 H' ∧ ∃ ws M, H' mo = some (.lst ws) ∧ TreesAt H' ws M ∧ Pq.joinAny S (Pq.split S k) ps = some (Pq.makeAny (Pq.withShare S .no ps ++ [Pq.makeRow M])), ?_, ?_⟩
            · refine ⟨_, rfl, DD, zs, rfl, .inl (SqL.of (sm5 _ _ ez)), rfl, _, rfl, ite2 (fun c5 => ?_) (fun c5 => ?_)⟩
              · have z2 : zs.length = 2 := by
                  have := V.int.inj (of_decide_eq_true c5)
                  omega
                have hz1 : zs[1]? = some (zs[1]'(by omega)) := List.getElem?_eq_getElem (by omega)
                have hm1 : (Pq.withShare S .so ps)[1]? = some ((Pq.withShare S .so ps)[1]'(by omega)) := List.getElem?_eq_getElem (by omega)
                obtain ⟨L1, rb, yb, es1, ez1, erb, trb, gL1⟩ := la 1 _ _ hz1 hm1
                have gl1 := gL1.size
                have lyb := trb.length
                have eq : Pq.joinAny S (Pq.split S k) ps = some (Pq.makeAny (Pq.withShare S .no ps ++ [Pq.makeRow (L0 ++ Pq.optAny (Pq.withShare S .al ps) ++ L1.reverse)])) := by
                  obtain ⟨a, b, eab⟩ : ∃ a b, Pq.withShare S .so ps = [a, b] := by
                    match em : Pq.withShare S .so ps, l3 with
                    | [], l3 => rw [List.length_nil] at l3; omega
                    | [a], l3 => simp at l3; omega
                    | [a, b], _ => exact ⟨a, b, rfl⟩
                    | _ :: _ :: _ :: _, l3 => simp at l3; omega
                  have ha : Pq.split S k a = some L0 := by rw [← es0]; congr 1; simp [eab]
                  have hb : Pq.split S k b = some L1 := by rw [← es1]; congr 1; simp [eab]
                  unfold Pq.joinAny
                  rw [eab]
                  simp [ha, hb]
                refine ⟨_, rfl, .inl ⟨rfl, _, SqL.of ew⟩, _, rfl, DD, zs, 1, _, rfl, rfl, SqL.of (sm5 _ _ ez), atI_nat (j := 1) hz1, rb, yb, ez1, SqL.of (sm5 _ _ erb), fun b nb => ?_⟩
                have s9 := same_new (o := .lst yb.reverse) nb
                have ew9 := s9 _ _ ew
                refine ⟨mo, b, _, _, rfl, rfl, ew9, upd_same, Nat.le_of_lt (small1000 (by rw [List.length_reverse]; omega)), rfl, fun b' u eu => ?_, ws ++ yb.reverse, _, upd_same, ?_, eq⟩
                · rw [upd_ne (ne_of_none eu nmo)]
                  exact s9 _ _ (sm5 _ _ eu)
                · have st := SameT.lst (o := .lst (ws ++ yb.reverse)) ew9
                  exact TreesAt.append ((((trb.mono sm5).mono s9).monoT st).reverse) ((tw.mono s9).monoT st)
              · have z1' : zs.length = 1 := by
                  have : zs.length ≠ 2 := fun h => c5 (decide_eq_true (by rw [h]; rfl))
                  omega
                refine ⟨rfl, sm5, ws, _, ew, tw, ?_⟩
                obtain ⟨a, ea⟩ : ∃ a, Pq.withShare S .so ps = [a] := List.length_eq_one_iff.mp (by omega)
                have ha : Pq.split S k a = some L0 := by rw [← es0]; congr 1; simp [ea]
                unfold Pq.joinAny
                rw [ea]
                simp [ha]
            rintro σ H6 ⟨rfl, sm6, ws2, M, ew2, tw2, eq⟩
            refine ⟨_, rfl, _, rfl, mo, ws2, M, rfl, ew2, tw2, fun H7 v sm7 tv => ⟨(by show 1 ≤ sizeLine; decide), fun a na => ?_⟩⟩
            have s8 := same_new (o := .lst [v]) na
            have s48 := sm6.trans (sm7.trans s8)
            refine ⟨r1, a, _, _, rfl, rfl, s48 _ _ e14, upd_same, Nat.le_of_lt (small1000 (by simp; omega)), fun b nb => ?_⟩
            have s9 := same_new (o := .lst (ys1 ++ [v])) nb
            refine ⟨b, _, _, rfl, upd_same, TreesAt.append (TreesAt.one (tv.mono (s8.trans s9))) (t14.mono (s48.trans s9)), fun H9 v9 sm9 tv9 => ?_⟩
            refine q H9 v9 (s04.trans ((s48.trans s9).trans sm9)) ?_
            rw [eq]
            exact tv9
end
end Up
end
section
set_option Elab.async false
set_option linter.all false
set_option maxRecDepth 100000
set_option maxHeartbeats 4000000
namespace Up
open PySem PySem.Spec PyProof.Rows L2
theorem scJoinRow : FnScope ["parts", "chosen", "shares", "index", "touched", "first", "last", "found", "inner", "part"] ["parts", "chosen"] (defScope sJoinRow) := ⟨rfl, rfl, rfl, by decide +kernel, rfl, by decide +kernel, by decide +kernel⟩
/-- how the touched parts stand, two of them at least -/
structure Two (S : List Int) (ps X Z Y : List Pq.Tree) (q r : Pq.Tree) : Prop where
  eq : ps = X ++ q :: (Z ++ r :: Y)
  hX : ∀ p ∈ X, Pq.share S p = .no
  hq : Pq.share S q ≠ .no
  hr : Pq.share S r ≠ .no
  hY : ∀ p ∈ Y, Pq.share S p = .no
def spJoinRow (k : Nat) : Sp := fun vs H Q _ => ∃ p xs ps c S X Z Y q r, vs = [.ref p, .ref c] ∧ H p = some (.tup xs) ∧ TreesAt H xs ps ∧ GdL ps ∧ Pq.depthL ps ≤ k ∧ H c = some (.tup (S.map V.int)) ∧ Two S ps X Z Y q r ∧ ∀ H' v', Same H H' → IsOptT H' v' (Pq.joinRow S (Pq.split S k) ps) → Q v' H'
def natVs (ns : List Nat) : List V := ns.map fun n : Nat => V.int (n : Nat)
theorem touched_len_le (S : List Int) : ∀ (i : Nat) (ps : List Pq.Tree), (Pq.touched S i ps).length ≤ ps.length
  | _, [] => Nat.le_refl _
  | i, p :: ps => by
    have ih := touched_len_le S (i + 1) ps
    show (if Pq.share S p = .no then Pq.touched S (i + 1) ps else i :: Pq.touched S (i + 1) ps).length ≤ _
    split
    · rw [List.length_cons]; omega
    · rw [List.length_cons, List.length_cons]; omega
theorem shVs_get {ss : List Pq.Sh} {i : Nat} {s : Pq.Sh} (h : ss[i]? = some s) : (shVs ss)[i]? = some (.str (shS s)) := by
  unfold shVs
  rw [List.getElem?_map, h]; rfl
theorem cut_take (xs : List V) (n : Nat) : cutV xs none (some (n : Int)) = xs.take n := by
  unfold cutV
  rw [HT.sIx_nat, HT.sIx_none, List.drop_zero, Nat.sub_zero]
  by_cases h : n ≤ xs.length
  · rw [Nat.min_eq_left h]
  · rw [Nat.min_eq_right (by omega), List.take_length, List.take_of_length_le (by omega)]
theorem cut_drop (xs : List V) (n : Nat) : cutV xs (some (n : Int)) none = xs.drop n := by
  unfold cutV
  rw [HT.sIx_nat, HT.sIx_none]
  by_cases h : n ≤ xs.length
  · rw [Nat.min_eq_left h, List.take_of_length_le (by rw [List.length_drop]; omega)]
  · rw [Nat.min_eq_right (by omega), List.drop_eq_nil_of_le (by omega : xs.length ≤ n), List.drop_length, List.take_nil]
/-- t[:n], t[n:] of a tuple, told at once -/
theorem sl_take {K : PySem.W.Frag} {a : Addr} {xs : List V} {H : Hp} {Q : VK} {n : Nat} (h : H a = some (.tup xs)) (q : ∀ H' b, Same H H' → H' b = some (.tup (xs.take n)) → Q (.ref b) H') : rSlA K (.ref a) none (some (n : Int)) H Q := by
  refine ⟨a, xs, rfl, SqT.of h, fun e => ?_, fun _ p np => ?_⟩
  · refine q H a (Same.refl _) ?_
    rw [h]
    have : xs.length ≤ n := by
      have := e.2
      rw [HT.sIx_nat] at this
      omega
    rw [List.take_of_length_le this]
  · refine q _ p (same_new np) ?_
    rw [upd_same, cut_take]
theorem sl_drop {K : PySem.W.Frag} {a : Addr} {xs : List V} {H : Hp} {Q : VK} {n : Nat} (h : H a = some (.tup xs)) (q : ∀ H' b, Same H H' → H' b = some (.tup (xs.drop n)) → Q (.ref b) H') : rSlA K (.ref a) (some (n : Int)) none H Q := by
  refine ⟨a, xs, rfl, SqT.of h, fun e => ?_, fun _ p np => ?_⟩
  · refine q H a (Same.refl _) ?_
    rw [h]
    have : n = 0 ∨ xs.length = 0 := by
      have := e.1
      rw [HT.sIx_nat] at this
      omega
    rcases this with h0 | h0
    · rw [h0, List.drop_zero]
    · rw [List.length_eq_zero_iff.mp h0, List.drop_nil]
  · refine q _ p (same_new np) ?_
    rw [upd_same, cut_drop]
section
variable {P : Program} {w : World} {K : PySem.W.Frag} {mg : Str → Option Value} {base : Heap}
theorem ok_join_row {k : Nat} (A : Here K mg "joined_row" sJoinRow ["parts", "chosen"]) (T : Top mg) (DS : Df P w K mg base "share" ["tree", "chosen"] 26 spShare)
    (DR : Df P w K mg base "make_row" ["parts"] 2 spMakeRow) (D : Df P w K mg base "split" ["tree", "chosen"] (28 + 2 * k) (spSplit k)) : Df P w K mg base "joined_row" ["parts", "chosen"] (29 + 2 * k) (spJoinRow k) := by
  have e : 29 + 2 * k = (28 + 2 * k) + 1 := by omega
  rw [e]
  refine A.df scJoinRow (fun vs H Q E h => ?_) (fun f cdv A outer s H vs Q E hr h => ?_)
  · obtain ⟨p, xs, ps, c, S, X, Z, Y, q, r, rfl, _⟩ := h; rfl
  · obtain ⟨p, xs, ps, c, S, X, Z, Y, qq, rr, rfl, hp, ht, g, hd, hc, two, q⟩ := h
    have nd := scJoinRow.nd
    have hS : Room 26 _ := hr.mono (by omega)
    have hR : Room 2 _ := hr.mono (by omega)
    refine ⟨_, pss_cons (ps_set (i := 2) nd rfl (.inr rfl) (pe_lc (own := [("part", 9)]) (g := gName 9) (tt := tYes) rfl nd (pi_tup (pv 0)) (blkOk_by (N := ["parts", "chosen", "shares", "index", "touched", "first", "last", "found", "inner", "part"]) (sc := defScope sJoinRow) (by decide +kernel))
          (fun _ _ _ _ _ => pg_name (i := 9) nd rfl (.inl rfl)) (fun _ _ _ _ _ => pts_nil) (fun _ _ _ _ _ => pe_df DS hS rfl (pa_cons (pv 9) (pa_cons (pv 1) pa_nil)))))
      (pss_cons (ps_setLc (i := 4) (own := [("index", 3)]) (g := gName 3) (tt := tTest (tOp rNe (tOp (rIxL K) (tVar 2) (tVar 3)) (tC (.str "none")))) rfl nd rfl rfl (sw_true rfl rfl rfl (by decide +kernel)) (pi_range1 rfl T.range (pa_cons (pe_callB call_len_seq rfl T.len PySem.boot_len (pa_cons (pv 0) pa_nil)) pa_nil)) (blkOk_by (N := ["parts", "chosen", "shares", "index", "touched", "first", "last", "found", "inner", "part"]) (sc := defScope sJoinRow) (by decide +kernel))
          (fun _ _ _ _ _ => pg_name (i := 3) nd rfl (.inl rfl)) (fun _ _ _ _ _ => pts_one (pt_cmpR (r := rNe) op_ne (pe_ix (r := rIxL K) ix_list (pv 2) (pv 3) (fun _ _ => rfl)) pe_str (nomark _))) (fun _ _ _ _ _ => pv 3))
      (pss_cons (ps_set (i := 5) nd rfl (.inl rfl) (pe_ix ix_list (pv 4) pe_int (fun _ _ => rfl)))
      (pss_cons (ps_set (i := 6) nd rfl (.inl rfl) (pe_ix ix_list (pv 4) (pe_un un_neg pe_int) (fun _ _ => rfl)))
      (pss_cons (ps_if (pt_cmpR (op_neNil hr.units0) (pe_lc (own := [("index", 3)]) (g := gName 3) (tt := tTest (tOp rNe (tOp (rIxL K) (tVar 2) (tVar 3)) (tC (.str "all")))) rfl nd (pi_range2 rfl T.range (pa_cons (pe_op op_add (pv 5) pe_int) (pa_cons (pv 6) pa_nil))) (blkOk_by (N := ["parts", "chosen", "shares", "index", "touched", "first", "last", "found", "inner", "part"]) (sc := defScope sJoinRow) (by decide +kernel))
          (fun _ _ _ _ _ => pg_name (i := 3) nd rfl (.inl rfl)) (fun _ _ _ _ _ => pts_one (pt_cmpR (r := rNe) op_ne (pe_ix (r := rIxL K) ix_list (pv 2) (pv 3) (fun _ _ => rfl)) pe_str (nomark _))) (fun _ _ _ _ _ => pv 3)) (pe_lst pa_nil) (nomark _)) (pss_one (ps_ret pe_non)) pss_nil)
      (pss_cons (ps_set (i := 7) nd rfl (.inl rfl) (pe_callTy call_list_of rfl T.list (by decide +kernel) (pa_cons (pe_slice sl_tupA (pv 0) po_none (po_some (pv 5))) pa_nil)))
      (pss_cons (ps_for PassesOwn.never rfl (pi_range2 rfl T.range (pa_cons (pv 5) (pa_cons (pe_op op_add (pv 6) pe_int) pa_nil))) (pg_name (i := 3) nd rfl (.inl rfl))
        (pss_cons (ps_set (i := 8) nd rfl (.inl rfl) (pe_lst (pa_cons (pe_ix ix_tup (pv 0) (pv 3) (fun _ _ => rfl)) pa_nil)))
        (C8.pss_cut (ps_if (pt_cmpR op_eq (pe_ix ix_list (pv 2) (pv 3) (fun _ _ => rfl)) pe_str (nomark _))
          (pss_cons (ps_set (i := 8) nd rfl (.inl rfl) (pe_df D hr rfl (pa_cons (pe_ix ix_tup (pv 0) (pv 3) (fun _ _ => rfl)) (pa_cons (pv 1) pa_nil))))
          (pss_cons (ps_if (pt_cmpR op_isN (pv 8) pe_non (nomark _)) (pss_one (ps_ret pe_non)) pss_nil)
          (pss_one (ps_if (pt_cmpR op_eq (pv 3) (pv 6) (nomark _)) (pss_one (ps_set (i := 8) nd rfl (.inl rfl) (pe_revL (pv 8)))) pss_nil)))) pss_nil)
        (pss_one (ps_expr (pe_bm PySem.F.plainAttrs_list PySem.F.slot_list_extend PySem.F.type_list_extend mt_extend (pv 7) (pa_cons (pv 8) pa_nil)))))))
      (pss_cons (ps_expr (pe_bm PySem.F.plainAttrs_list PySem.F.slot_list_extend PySem.F.type_list_extend mt_extT (pv 7) (pa_cons (pe_slice sl_tupA (pv 0) (po_some (pe_op op_add (pv 6) pe_int)) po_none) pa_nil)))
      (pss_one (ps_ret (pe_df DR hR rfl (pa_cons (pv 7) pa_nil))))))))))), ?_⟩
    have lt := ht.length
    have gs := g.size
    have eps := two.eq
    have etch := Pq.touched_two (Z := Z) two.hX two.hq two.hr two.hY
    rw [← eps] at etch
    have lps : ps.length = X.length + 1 + Z.length + 1 + Y.length := by rw [eps]; simp; omega
    have getZ : ∀ i, i < Z.length → ps[X.length + 1 + i]? = Z[i]? := fun i hi => by
      rw [eps, List.getElem?_append_right (by omega), show X.length + 1 + i - X.length = i + 1 by omega, List.getElem?_cons_succ, List.getElem?_append_left hi]
    have getM : ∀ i, i < Z.length + 2 → ps[X.length + i]? = (qq :: (Z ++ [rr]))[i]? := fun i hi => by
      rw [eps, List.getElem?_append_right (by omega), show X.length + i - X.length = i by omega]
      have e : qq :: (Z ++ rr :: Y) = (qq :: (Z ++ [rr])) ++ Y := by simp
      rw [e, List.getElem?_append_left (by simp; omega)]
    have ejr := Pq.joinRow_mid (f := Pq.split S k) two.hX two.hq two.hr two.hY (Z := Z)
    rw [← eps] at ejr
    -- shares
    refine ⟨_, rfl, p, rfl, ⟨xs, SqT.of hp⟩, fun D1 n1 => lc_tup (K := K) (a := p) (xs := xs) (fun i H2 => H2 D1 = some (.lst (shVs ((ps.take i).map (Pq.share S)))) ∧ Same H H2)
      ⟨upd_same, same_new n1⟩ (fun i H2 _ ⟨_, sm2⟩ => SqT.of (sm2 _ _ hp)) ?_ ?_⟩
    · rintro i y H2 hi ⟨e2, sm2⟩
      obtain ⟨ti, hti, tat⟩ := ht.get hi
      have il := (List.getElem?_eq_some_iff.mp hti).1
      have gi := g.get (List.mem_of_getElem? hti)
      refine ⟨rfl, yes ⟨_, rfl, _, rfl, y, ti, c, S, rfl, tat.mono sm2, gi, sm2 _ _ hc, fun H3 sm3 => ?_⟩⟩
      have e3 := sm3 _ _ e2
      refine ⟨_, e3, small1000 (by unfold shVs; rw [List.length_map, List.length_map, List.length_take]; omega), ?_, fun b u eu => ?_⟩
      · have et : ps.take (i + 1) = ps.take i ++ [ti] := by rw [List.take_add_one, hti]; rfl
        rw [upd_same, et]
        simp [shVs]
      · rw [upd_ne (ne_of_none eu n1)]
        exact sm3 _ _ (sm2 _ _ eu)
    · rintro H2 ⟨e2, sm2⟩
      rw [lt, List.take_length] at e2
      have hp2 := sm2 _ _ hp
      have shAt : ∀ i (t : Pq.Tree), ps[i]? = some t → atI (shVs (ps.map (Pq.share S))) ((i : Nat) : Int) = some (.str (shS (Pq.share S t))) := fun i t h =>
        atI_nat (shVs_get (by rw [List.getElem?_map, h]; rfl))
      -- touched
      refine ⟨_, rfl, p, xs, rfl, .inr (SqT.of hp2), _, rfl, by omega, by omega, fun D2 n2 => lc_range (lo := 0) (n := ((xs.length : Nat) : Int).toNat) (fun i H3 => H3 D2 = some (.lst (natVs (Pq.touched S 0 (ps.take i)))) ∧ Same H2 H3)
        ⟨upd_same, same_new n2⟩ ?_ ?_⟩
      · rintro i H3 hi ⟨e3, sm3⟩
        have e0 : (0 : Int) + (i : Nat) = ((i : Nat) : Int) := by omega
        rw [e0]
        have il : i < ps.length := by omega
        have hti : ps[i]? = some ps[i] := List.getElem?_eq_getElem il
        have et : ps.take (i + 1) = ps.take i ++ [ps[i]] := by rw [List.take_add_one, hti]; rfl
        have etc : Pq.touched S 0 (ps.take (i + 1)) = Pq.touched S 0 (ps.take i) ++ (if Pq.share S ps[i] = .no then [] else [i]) := by
          rw [et, Pq.touched_append]
          have : 0 + (ps.take i).length = i := by rw [List.length_take]; omega
          rw [this]
          rfl
        refine ⟨rfl, _, rfl, _, rfl, D1, _, _, _, rfl, rfl, SqL.of (sm3 _ _ e2), shAt i _ hti, rfl, _, rfl, ?_⟩
        rw [show decide (V.str (shS (Pq.share S ps[i])) = V.str (PySem.Str.ofString "none")) = decide (Pq.share S ps[i] = .no) from shS_inj (b := .no)]
        refine iteDn (fun es => ?_) (fun es => ?_)
        · have tl := touched_len_le S 0 (ps.take i)
          rw [List.length_take] at tl
          refine ⟨_, rfl, _, e3, small1000 (by unfold natVs; rw [List.length_map]; omega), ?_, fun b u eu => ?_⟩
          · rw [upd_same, etc, if_neg es]
            simp [natVs]
          · rw [upd_ne (ne_of_none eu n2)]
            exact sm3 _ _ eu
        · refine ⟨?_, sm3⟩
          rw [e3, etc, if_pos es, List.append_nil]
      · rintro H3 ⟨e3, sm3⟩
        have en : ((xs.length : Nat) : Int).toNat = ps.length := by omega
        rw [en, List.take_length, etch] at e3
        have hp3 := sm3 _ _ hp2
        have e23 := sm3 _ _ e2
        have hc3 := sm3 _ _ (sm2 _ _ hc)
        have s03 := sm2.trans sm3
        have etl : natVs (X.length :: (Pq.touched S (X.length + 1) Z ++ [X.length + 1 + Z.length])) = natVs (X.length :: Pq.touched S (X.length + 1) Z) ++ [.int ((X.length + 1 + Z.length : Nat) : Int)] := by
          simp [natVs]
        -- first, last
        refine ⟨_, rfl, D2, _, 0, .int ((X.length : Nat) : Int), rfl, rfl, SqL.of e3, atI_nat (j := 0) rfl, ?_⟩
        refine ⟨_, rfl, 1, rfl, D2, _, -1, .int ((X.length + 1 + Z.length : Nat) : Int), rfl, rfl, SqL.of e3, by rw [etl]; exact atI_last _ _, ?_⟩
        -- the inner ones
        refine ⟨_, rfl, _, _, rfl, rfl, _, rfl, _, _, rfl, ⟨by omega, by omega, by omega, by omega⟩, fun D3 n3 => lc_range (lo := ((X.length : Nat) : Int) + 1) (n := (((X.length + 1 + Z.length : Nat) : Int) - (((X.length : Nat) : Int) + 1)).toNat)
          (fun i H4 => Same H3 H4 ∧ ∃ ws, H4 D3 = some (.lst ws) ∧ ws.length ≤ i ∧ (ws = [] ↔ ∀ t ∈ Z.take i, Pq.share S t = .al)) ⟨same_new n3, [], upd_same, Nat.le_refl _, by simp⟩ ?_ ?_⟩
        · rintro i H4 hi ⟨sm4, ws, ew, lw, iw⟩
          have iz : i < Z.length := by omega
          have e0 : ((X.length : Nat) : Int) + 1 + (i : Nat) = ((X.length + 1 + i : Nat) : Int) := by omega
          rw [e0]
          have hz : Z[i]? = some Z[i] := List.getElem?_eq_getElem iz
          have et : Z.take (i + 1) = Z.take i ++ [Z[i]] := by rw [List.take_add_one, hz]; rfl
          refine ⟨rfl, _, rfl, _, rfl, D1, _, _, _, rfl, rfl, SqL.of (sm4 _ _ e23), shAt _ _ ((getZ i iz).trans hz), rfl, _, rfl, ?_⟩
          rw [show decide (V.str (shS (Pq.share S Z[i])) = V.str (PySem.Str.ofString "all")) = decide (Pq.share S Z[i] = .al) from shS_inj (b := .al)]
          refine iteDn (fun es => ?_) (fun es => ?_)
          · refine ⟨_, rfl, ws, ew, small1000 (by omega), fun b u eu => ?_, ws ++ [_], upd_same, by simp; omega, ?_⟩
            · rw [upd_ne (ne_of_none eu n3)]
              exact sm4 _ _ eu
            · constructor
              · intro h; simp at h
              · intro h
                exact (es (h Z[i] (by rw [et]; exact List.mem_append_right _ (List.mem_singleton.mpr rfl)))).elim
          · refine ⟨sm4, ws, ew, by omega, ?_⟩
            rw [iw]
            constructor
            · intro h t ht'
              rw [et] at ht'
              rcases List.mem_append.mp ht' with h1 | h1
              · exact h t h1
              · rw [List.mem_singleton.mp h1]; exact es
            · intro h t ht'
              exact h t (by rw [et]; exact List.mem_append_left _ ht')
        · rintro H4 ⟨sm4, ws, ew, lw, iw⟩
          have enz : (((X.length + 1 + Z.length : Nat) : Int) - (((X.length : Nat) : Int) + 1)).toNat = Z.length := by omega
          rw [enz, List.take_length] at iw
          have s34 := sm4
          refine ⟨Nat.zero_le _, fun l nl => ⟨D3, l, ws, rfl, rfl, SqL.of (same_new nl _ _ ew), SqL.of upd_same, _, rfl, ?_⟩⟩
          have s5 := s34.trans (same_new (o := .lst []) nl)
          refine ite2 (fun c1 => ?_) (fun c1 => ?_)
          · have wn : ws ≠ [] := isEmpty_len.mp c1
            refine q _ .non (s03.trans s5) ?_
            rw [ejr, if_neg (fun h => wn (iw.mpr h))]
            rfl
          · have wn : ws = [] := Classical.byContradiction fun h => c1 (isEmpty_len.mpr h)
            have allZ := iw.mp wn
            rw [if_pos allZ] at ejr
            -- found = list(parts[:first])
            refine ⟨_, rfl, _, rfl, _, rfl, sl_take (n := X.length) (s5 _ _ hp3) fun H6 b6 sm6 eb6 => ⟨b6, _, rfl, .inr (SqT.of eb6), fun fo nf => ?_⟩⟩
            have s36 := s5.trans sm6
            have s06 := s03.trans s36
            have hp6 := s36 _ _ hp3
            have e26 := s36 _ _ e23
            have ht6 := ht.mono s06
            have nHo : H fo = none := s06.free nf
            have eX : ps.take X.length = X := by rw [eps]; simp
            refine ⟨_, rfl, _, rfl, _, _, rfl, rfl, _, _, rfl, ⟨by omega, by omega, by omega, by omega⟩, for_range (lo := ((X.length : Nat) : Int)) (n := (((X.length + 1 + Z.length : Nat) : Int) + 1 - ((X.length : Nat) : Int)).toNat)
              (fun i σ H7 => (∃ y3 y8, σ = [some (.ref p), some (.ref c), some (.ref D1), y3, some (.ref D2), some (.int ((X.length : Nat) : Int)), some (.int ((X.length + 1 + Z.length : Nat) : Int)), some (.ref fo), y8, none]) ∧ Same H6 H7 ∧
                ∃ ys L, H7 fo = some (.lst ys) ∧ TreesAt H7 ys (X ++ L) ∧ Pq.pieces S (Pq.split S k) (X.length + 1 + Z.length) X.length ((qq :: (Z ++ [rr])).take i) = some L) ⟨⟨_, _, rfl⟩, same_new nf, _, [], upd_same, ?_, rfl⟩ ?_ ?_⟩
            · have h0 := (ht6.mono (same_new (o := .lst (xs.take X.length)) nf)).take X.length
              rw [eX] at h0
              rw [List.append_nil]
              exact h0
            · rintro i σ H7 hi ⟨⟨y3, y8, rfl⟩, sm7, ys, L, ef, ty, el⟩
              have im : i < Z.length + 2 := by omega
              have e0 : ((X.length : Nat) : Int) + (i : Nat) = ((X.length + i : Nat) : Int) := by omega
              rw [e0]
              have ip : X.length + i < ps.length := by omega
              have hti : ps[X.length + i]? = some ps[X.length + i] := List.getElem?_eq_getElem ip
              have hmi := (getM i im).symm.trans hti
              obtain ⟨v, hv, tv⟩ := (ht6.mono sm7).get' hti
              have et : (qq :: (Z ++ [rr])).take (i + 1) = (qq :: (Z ++ [rr])).take i ++ [ps[X.length + i]] := by rw [List.take_add_one, hmi]; rfl
              have hmem := List.mem_of_getElem? hti
              have gi := g.get hmem
              have di := Pq.depth_mem hmem
              have subM : (qq :: (Z ++ [rr])).Sublist ps := by
                rw [eps]
                have e : X ++ qq :: (Z ++ rr :: Y) = X ++ ((qq :: (Z ++ [rr])) ++ Y) := by simp
                rw [e]
                exact (List.sublist_append_left _ _).trans (List.sublist_append_right _ _)
              have gL : GdL L := by
                have gA : GdL ((qq :: (Z ++ [rr])).take i) := (g.sub subM).sub (List.take_sublist _ _)
                obtain ⟨w1, w2⟩ := Pq.pieces_len gA.wf el
                exact ⟨w1, by rw [w2]; exact gA.len⟩
              have gLs := gL.size
              have ly := ty.length
              rw [List.length_append] at ly
              have esn := Pq.pieces_snoc (p := ps[X.length + i]) el
              rw [← et] at esn
              have elen : ((qq :: (Z ++ [rr])).take i).length = i := by rw [List.length_take]; simp; omega
              rw [elen] at esn
              have hp7 := sm7 _ _ hp6
              -- inner = [parts[index]]
              refine ⟨_, rfl, _, rfl, p, xs, _, v, rfl, rfl, SqT.of hp7, atI_nat hv, (by show 1 ≤ sizeLine; decide), fun l7 nl7 => ?_⟩
              have s8 := same_new (o := .lst [v]) nl7
              have lfo : l7 ≠ fo := fun e => by rw [e, ef] at nl7; cases nl7
              refine ⟨fun σ H' => ∃ ir, σ = [some (.ref p), some (.ref c), some (.ref D1), some (.int ((X.length + i : Nat) : Int)), some (.ref D2), some (.int ((X.length : Nat) : Int)), some (.int ((X.length + 1 + Z.length : Nat) : Int)), some (.ref fo), some (.ref ir), none] ∧ Same H7 H' ∧ ir ≠ fo ∧
                  ∃ ws M, H' ir = some (.lst ws) ∧ TreesAt H' ws M ∧ GdL M ∧ Pq.piece S (Pq.split S k) (decide (X.length + i = X.length + 1 + Z.length)) ps[X.length + i] = some M, ?_, ?_⟩
              · refine ⟨_, rfl, _, rfl, D1, _, _, _, rfl, rfl, SqL.of (s8 _ _ (sm7 _ _ e26)), shAt _ _ hti, rfl, _, rfl, ?_⟩
                rw [show decide (V.str (shS (Pq.share S ps[X.length + i])) = V.str (PySem.Str.ofString "some")) = decide (Pq.share S ps[X.length + i] = .so) from shS_inj (b := .so)]
                refine iteD (fun es => ?_) (fun es => ?_)
                · refine ⟨_, rfl, _, rfl, p, xs, _, v, rfl, rfl, SqT.of (s8 _ _ hp7), atI_nat hv, _, rfl, v, _, c, S, rfl, tv.mono s8, gi, by omega, es, s8 _ _ (sm7 _ _ (s06 _ _ hc)), fun H9 v9 sm9 ov => ?_⟩
                  cases ec : Pq.split S k ps[X.length + i] with
                  | none =>
                    rw [ec] at ov
                    have hv9 : v9 = .non := ov
                    subst hv9
                    refine ⟨_, rfl, rfl, _, rfl, ?_⟩
                    refine ite2 (fun _ => ?_) (fun c3 => absurd (by decide) c3)
                    refine q H9 .non (s06.trans (sm7.trans (s8.trans sm9))) ?_
                    have pn : Pq.piece S (Pq.split S k) (decide (X.length + i = X.length + 1 + Z.length)) ps[X.length + i] = none := by
                      unfold Pq.piece
                      rw [if_pos es, ec]; rfl
                    have : Pq.pieces S (Pq.split S k) (X.length + 1 + Z.length) X.length (qq :: (Z ++ [rr])) = none := by
                      have e2 : qq :: (Z ++ [rr]) = (qq :: (Z ++ [rr])).take (i + 1) ++ (qq :: (Z ++ [rr])).drop (i + 1) := (List.take_append_drop _ _).symm
                      rw [e2, Pq.pieces_append, esn, pn]
                      rfl
                    rw [ejr, this]
                    rfl
                  | some M =>
                    rw [ec] at ov
                    obtain ⟨r9, ws, rfl, nr9, er9, tr9⟩ := ov
                    have rfo : r9 ≠ fo := fun e => by
                      have := s8 _ _ ef
                      rw [e, this] at nr9; cases nr9
                    have gM := split_gd gi es ec
                    refine ⟨_, rfl, rfl, _, rfl, ?_⟩
                    refine ite2 (fun c3 => absurd c3 (by simp)) (fun _ => ?_)
                    refine ⟨_, rfl, _, rfl, rfl, _, rfl, ite2 (fun c4 => ?_) (fun c4 => ?_)⟩
                    · have c4' : X.length + i = X.length + 1 + Z.length := by
                        have := V.int.inj (of_decide_eq_true c4)
                        omega
                      refine ⟨_, rfl, r9, ws, rfl, SqL.of er9, fun r10 nr10 => ?_⟩
                      have s10 := same_new (o := .lst ws.reverse) nr10
                      have r10fo : r10 ≠ fo := fun e => by
                        have := sm9 _ _ (s8 _ _ ef)
                        rw [e, this] at nr10; cases nr10
                      refine ⟨r10, rfl, s8.trans (sm9.trans s10), r10fo, ws.reverse, M.reverse, upd_same, (tr9.mono s10).reverse, gM.rev, ?_⟩
                      unfold Pq.piece
                      rw [if_pos es, ec, decide_eq_true c4']
                      rfl
                    · have c4' : ¬ X.length + i = X.length + 1 + Z.length := fun h => c4 (decide_eq_true (by rw [h]))
                      refine ⟨r9, rfl, s8.trans sm9, rfo, ws, M, er9, tr9, gM, ?_⟩
                      unfold Pq.piece
                      rw [if_pos es, ec, decide_eq_false c4']
                      rfl
                · refine ⟨l7, rfl, s8, lfo, [v], [ps[X.length + i]], upd_same, TreesAt.one (tv.mono s8), ⟨fun t ht' => by rw [List.mem_singleton.mp ht']; exact gi.wf, by
                    show (Pq.listed _ ++ []).length ≤ 24
                    rw [List.append_nil]; exact gi.len⟩, ?_⟩
                  unfold Pq.piece
                  rw [if_neg es]
              rintro σ H8 ⟨ir, rfl, sm8, irf, ws, M, eir, tM, gM, ep⟩
              have ef8 := sm8 _ _ ef
              have gMs := gM.size
              have lw2 := tM.length
              refine ⟨_, rfl, .inl ⟨rfl, _, SqL.of ef8⟩, _, rfl, fo, ir, _, _, rfl, rfl, ef8, eir, Nat.le_of_lt (small1000 (by omega)), ⟨_, _, rfl⟩, fun b u eu => ?_, ys ++ ws, L ++ M, upd_same, ?_, by rw [esn, ep]; rfl⟩
              · rw [upd_ne (ne_of_none eu nf)]
                exact sm8 _ _ (sm7 _ _ eu)
              · have st := SameT.lst (o := .lst (ys ++ ws)) ef8
                rw [← List.append_assoc]
                exact TreesAt.append (tM.monoT st) ((ty.mono sm8).monoT st)
            · rintro σ H7 ⟨⟨y3, y8, rfl⟩, sm7, ys, L, ef, ty, el⟩
              have enm : (((X.length + 1 + Z.length : Nat) : Int) + 1 - ((X.length : Nat) : Int)).toNat = Z.length + 2 := by omega
              rw [enm, List.take_of_length_le (by simp)] at el
              rw [el] at ejr
              have hp7 := sm7 _ _ hp6
              have gL : GdL L := by
                have subM : (qq :: (Z ++ [rr])).Sublist ps := by
                  rw [eps]
                  have e : X ++ qq :: (Z ++ rr :: Y) = X ++ ((qq :: (Z ++ [rr])) ++ Y) := by simp
                  rw [e]
                  exact (List.sublist_append_left _ _).trans (List.sublist_append_right _ _)
                obtain ⟨w1, w2⟩ := Pq.pieces_len (g.sub subM).wf el
                exact ⟨w1, by rw [w2]; exact (g.sub subM).len⟩
              have gLs := gL.size
              have ly := ty.length
              rw [List.length_append] at ly
              have eY : ps.drop (X.length + 1 + Z.length + 1) = Y := by
                rw [eps]
                have e : X ++ qq :: (Z ++ rr :: Y) = (X ++ qq :: (Z ++ [rr])) ++ Y := by simp
                rw [e]
                exact List.drop_left' (by simp; omega)
              refine ⟨_, rfl, .inl ⟨rfl, _, SqL.of ef⟩, _, rfl, _, rfl, _, _, rfl, rfl, ((X.length + 1 + Z.length + 1 : Nat) : Int), rfl, ?_⟩
              dsimp only [tNoPart]
              refine sl_drop (n := X.length + 1 + Z.length + 1) hp7 fun H8 b8 sm8 eb8 => ?_
              have ef8 := sm8 _ _ ef
              refine ⟨fo, b8, _, _, rfl, rfl, ef8, SqT.of eb8, Nat.le_of_lt (small1000 (by rw [List.length_drop]; omega)), ?_⟩
              have st := SameT.lst (o := .lst (ys ++ xs.drop (X.length + 1 + Z.length + 1))) ef8
              have tY : TreesAt H8 (xs.drop (X.length + 1 + Z.length + 1)) Y := by
                rw [← eY]
                exact ((ht6.mono sm7).mono sm8).drop _
              refine ⟨_, rfl, fo, _, X ++ L ++ Y, rfl, upd_same, TreesAt.append (tY.monoT st) ((ty.mono sm8).monoT st), fun H9 v9 sm9 tv9 => ?_⟩
              refine q H9 v9 (fun b u eu => ?_) ?_
              · refine sm9 _ _ ?_
                rw [upd_ne (ne_of_none eu nHo)]
                exact sm8 _ _ (sm7 _ _ (s06 _ _ eu))
              · rw [ejr]
                exact tv9
end
end Up
end
section
set_option Elab.async false
set_option linter.all false
set_option maxRecDepth 100000
set_option maxHeartbeats 4000000
namespace Up
open PySem PySem.Spec PyProof.Rows L2
theorem scJoined : FnScope ["tree", "chosen", "word", "parts", "touched", "inner", "index"] ["tree", "chosen"] (defScope sJoined) := ⟨rfl, rfl, rfl, by decide +kernel, rfl, by decide +kernel, by decide +kernel⟩
def spJoined (k : Nat) : Sp := fun vs H Q _ => ∃ v t c S, vs = [v, .ref c] ∧ TreeAt H v t ∧ Gd t ∧ Pq.depth t < k ∧ Pq.share S t ≠ .no ∧ H c = some (.tup (S.map V.int)) ∧ ∀ H' v', Same H H' → IsOptT H' v' (Pq.join S k t) → Q v' H'
theorem cat_tup {K : PySem.W.Frag} {a b : Addr} {xs ys : List V} {H : Hp} {Q : VK} (ha : H a = some (.tup xs)) (hb : H b = some (.tup ys)) (hz : xs.length + ys.length ≤ sizeLine) (q : ∀ H' r, Same H H' → H' r = some (.tup (xs ++ ys)) → Q (.ref r) H') : rCatA K (.ref a) (.ref b) H Q := by
  refine ⟨a, b, xs, ys, rfl, rfl, SqT.of ha, SqT.of hb, hz, fun e => ?_, fun _ e => ?_, fun _ _ p np => ?_⟩
  · subst e; exact q H b (Same.refl _) hb
  · subst e; exact q H a (Same.refl _) (by rw [List.append_nil]; exact ha)
  · exact q _ p (same_new np) upd_same
theorem join_any_eq {S : List Int} {k : Nat} {ps : List Pq.Tree} (h : Pq.share S (.any ps) ≠ .al) : Pq.join S (k + 1) (.any ps) = (match Pq.touched S 0 ps with
    | [j] => (Pq.joinOne S (Pq.join S k) ps j).map .any
    | _ => Pq.joinAny S (Pq.split S k) ps) := if_neg h
theorem join_row_eq {S : List Int} {k : Nat} {ps : List Pq.Tree} (h : Pq.share S (.row ps) ≠ .al) : Pq.join S (k + 1) (.row ps) = (match Pq.touched S 0 ps with
    | [j] => (Pq.joinOne S (Pq.join S k) ps j).map .row
    | _ => Pq.joinRow S (Pq.split S k) ps) := if_neg h
section
variable {P : Program} {w : World} {K : PySem.W.Frag} {mg : Str → Option Value} {base : Heap}
theorem ok_joined_step {k : Nat} (A : Here K mg "joined" sJoined ["tree", "chosen"]) (T : Top mg) (DI : Df P w K mg base "is_thing" ["tree"] 1 spIsThing) (DS : Df P w K mg base "share" ["tree", "chosen"] 26 spShare)
    (DA : Df P w K mg base "joined_any" ["parts", "chosen"] (29 + 2 * k) (spJoinAny k)) (DR : Df P w K mg base "joined_row" ["parts", "chosen"] (29 + 2 * k) (spJoinRow k))
    (D : Df P w K mg base "joined" ["tree", "chosen"] (30 + 2 * k) (spJoined k)) : Df P w K mg base "joined" ["tree", "chosen"] (30 + 2 * (k + 1)) (spJoined (k + 1)) := by
  have e : 30 + 2 * (k + 1) = (31 + 2 * k) + 1 := by omega
  rw [e]
  refine A.df scJoined (fun vs H Q E h => ?_) (fun f cdv A outer s H vs Q E hr h => ?_)
  · obtain ⟨v, t, c, S, rfl, _⟩ := h; rfl
  · obtain ⟨v, t, c, S, rfl, ht, g, hd, sh, hc, q⟩ := h
    have nd := scJoined.nd
    have hI : Room 1 _ := hr.mono (by omega)
    have hS : Room 26 _ := hr.mono (by omega)
    have hA : Room (29 + 2 * k) _ := hr.mono (by omega)
    have hD : Room (30 + 2 * k) _ := hr.mono (by omega)
    refine ⟨_, pss_cons (ps_if (PW.pt (pw_or (pt_val (pe_df DI hI rfl (pa_cons (pv 0) pa_nil))) (pw_or1 (pt_cmpR op_eq (pe_df DS hS rfl (pa_cons (pv 0) (pa_cons (pv 1) pa_nil))) pe_str (nomark _))))) (pss_one (ps_ret (pv 0))) pss_nil)
      (pss_cons (ps_asg (pv 0) (pg_tup (by rfl) (pgs_cons (pg_name (i := 2) nd rfl (.inl rfl)) (pgs_cons (pg_name (i := 3) nd rfl (.inr rfl)) pgs_nil))))
      (pss_cons (ps_setLc (i := 4) (own := [("index", 6)]) (g := gName 6) (tt := tTest (tOp rNe (tCall spShare [] E0 (tCons (tOp (rIxT K) (tVar 3) (tVar 6)) (tCons (tVar 1) tNil))) (tC (.str "none")))) rfl nd rfl rfl (sw_true rfl rfl rfl (by decide +kernel)) (pi_range1 rfl T.range (pa_cons (pe_callB call_len_seq rfl T.len PySem.boot_len (pa_cons (pv 3) pa_nil)) pa_nil)) (blkOk_by (N := ["tree", "chosen", "word", "parts", "touched", "inner", "index"]) (sc := defScope sJoined) (by decide +kernel))
          (fun _ _ _ _ _ => pg_name (i := 6) nd rfl (.inl rfl)) (fun _ _ _ _ _ => pts_one (pt_cmpR (r := rNe) op_ne (pe_df DS hS rfl (pa_cons (pe_ix (r := rIxT K) ix_tup (pv 3) (pv 6) (fun _ _ => rfl)) (pa_cons (pv 1) pa_nil))) pe_str (nomark _))) (fun _ _ _ _ _ => pv 6))
      (pss_cons (ps_if (pt_cmpR op_eq (pe_callB call_len_seq rfl T.len PySem.boot_len (pa_cons (pv 4) pa_nil)) pe_int (nomark _))
        (pss_cons (ps_set (i := 5) nd rfl (.inl rfl) (pe_df D hD rfl (pa_cons (pe_ix ix_tup (pv 3) (pe_ix ix_list (pv 4) pe_int (fun _ _ => rfl)) (fun _ _ => rfl)) (pa_cons (pv 1) pa_nil))))
        (pss_cons (ps_if (pt_cmpR op_isN (pv 5) pe_non (nomark _)) (pss_one (ps_ret pe_non)) pss_nil)
        (pss_one (ps_ret (pe_tup (pa_cons (pv 2) (pa_cons (pe_op op_catA (pe_op op_catA (pe_slice sl_tupA (pv 3) po_none (po_some (pe_ix ix_list (pv 4) pe_int (fun _ _ => rfl)))) (pe_tup (pa_cons (pv 5) pa_nil))) (pe_slice sl_tupA (pv 3) (po_some (pe_op op_add (pe_ix ix_list (pv 4) pe_int (fun _ _ => rfl)) pe_int)) po_none)) pa_nil))))))) pss_nil)
      (pss_cons (ps_if (pt_cmpR op_eq (pv 2) pe_str (nomark _)) (pss_one (ps_ret (pe_df DA hA rfl (pa_cons (pv 3) (pa_cons (pv 1) pa_nil))))) pss_nil)
      (pss_one (ps_ret (pe_df DR hA rfl (pa_cons (pv 3) (pa_cons (pv 1) pa_nil))))))))), ?_⟩
    refine ⟨_, rfl, v, t, rfl, ht, _, rfl, ?_⟩
    rcases ht.ty (K := K) with ⟨a, rfl, rfl⟩ | ⟨p, qa, x, vs, ps, rfl, hp, hq, hvs, alt⟩
    · exact iteT (iteT ⟨_, rfl, q H _ (Same.refl _) (.th a)⟩)
    · have en : isTh t = false := by rcases alt with ⟨_, rfl⟩ | ⟨_, rfl⟩ <;> rfl
      have et : t = .any ps ∨ t = .row ps := by rcases alt with ⟨_, h⟩ | ⟨_, h⟩; exact .inl h; exact .inr h
      have ed : Pq.depth t = Pq.depthL ps + 1 := by rcases et with rfl | rfl <;> rfl
      have gp : GdL ps := GdL.of g et
      have gs := gp.size
      have lt := hvs.length
      rw [en]
      refine iteF ⟨_, rfl, _, rfl, .ref p, t, c, S, rfl, ht, g, hc, fun H1 sm1 => ⟨rfl, _, rfl, ?_⟩⟩
      rw [show decide (V.str (shS (Pq.share S t)) = V.str (PySem.Str.ofString "all")) = decide (Pq.share S t = .al) from shS_inj (b := .al)]
      by_cases al : Pq.share S t = .al
      · rw [decide_eq_true al]
        refine iteT ⟨_, rfl, q H1 _ sm1 ?_⟩
        have : Pq.join S (k + 1) t = some t := by
          rcases et with rfl | rfl
          · exact if_pos al
          · exact if_pos al
        rw [this]
        exact ht.mono sm1
      · rw [decide_eq_false al]
        refine iteF ?_
        have hp1 := sm1 _ _ hp
        have hq1 := sm1 _ _ hq
        have hc1 := sm1 _ _ hc
        have hvs1 := hvs.mono sm1
        -- word, parts = tree
        refine ⟨_, rfl, p, _, rfl, SqT.of hp1, rfl, _, _, rfl, _, _, rfl, rfl, ?_⟩
        -- touched
        refine ⟨_, rfl, qa, vs, rfl, .inr (SqT.of hq1), _, rfl, by omega, by omega, fun D2 n2 => lc_range (lo := 0) (n := ((vs.length : Nat) : Int).toNat) (fun i H3 => H3 D2 = some (.lst (natVs (Pq.touched S 0 (ps.take i)))) ∧ Same H1 H3)
          ⟨upd_same, same_new n2⟩ ?_ ?_⟩
        · rintro i H3 hi ⟨e3, sm3⟩
          have e0 : (0 : Int) + (i : Nat) = ((i : Nat) : Int) := by omega
          rw [e0]
          have il : i < ps.length := by omega
          have hti : ps[i]? = some ps[i] := List.getElem?_eq_getElem il
          obtain ⟨vi, hvi, tvi⟩ := hvs1.get' hti
          have gi := gp.get (List.mem_of_getElem? hti)
          have ett : ps.take (i + 1) = ps.take i ++ [ps[i]] := by rw [List.take_add_one, hti]; rfl
          have etc : Pq.touched S 0 (ps.take (i + 1)) = Pq.touched S 0 (ps.take i) ++ (if Pq.share S ps[i] = .no then [] else [i]) := by
            rw [ett, Pq.touched_append]
            have : 0 + (ps.take i).length = i := by rw [List.length_take]; omega
            rw [this]
            rfl
          refine ⟨rfl, _, rfl, _, rfl, qa, _, _, _, rfl, rfl, SqT.of (sm3 _ _ hq1), atI_nat hvi, _, rfl, vi, _, c, S, rfl, tvi.mono sm3, gi, sm3 _ _ hc1, fun H4 sm4 => ⟨rfl, _, rfl, ?_⟩⟩
          have e4 := sm4 _ _ e3
          rw [show decide (V.str (shS (Pq.share S ps[i])) = V.str (PySem.Str.ofString "none")) = decide (Pq.share S ps[i] = .no) from shS_inj (b := .no)]
          refine iteDn (fun es => ?_) (fun es => ?_)
          · have tl := touched_len_le S 0 (ps.take i)
            rw [List.length_take] at tl
            refine ⟨_, rfl, _, e4, small1000 (by unfold natVs; rw [List.length_map]; omega), ?_, fun b u eu => ?_⟩
            · rw [upd_same, etc, if_neg es]
              simp [natVs]
            · rw [upd_ne (ne_of_none eu n2)]
              exact sm4 _ _ (sm3 _ _ eu)
          · refine ⟨?_, sm3.trans sm4⟩
            rw [e4, etc, if_pos es, List.append_nil]
        · rintro H3 ⟨e3, sm3⟩
          have enn : ((vs.length : Nat) : Int).toNat = ps.length := by omega
          rw [enn, List.take_length] at e3
          have s03 := sm1.trans sm3
          have hq3 := sm3 _ _ hq1
          have hc3 := sm3 _ _ hc1
          have hvs3 := hvs1.mono sm3
          have ex : ∃ p ∈ ps, Pq.share S p ≠ .no := Classical.byContradiction fun c' => sh (Pq.share_no.mpr fun y hy => by
            have hy' : y ∈ Pq.listedL ps := by rcases et with rfl | rfl <;> exact hy
            obtain ⟨p', hpp, hx⟩ := Pq.mem_listedL.mp hy'
            exact Pq.share_no.mp (Classical.byContradiction fun n => c' ⟨p', hpp, n⟩) y hx)
          have nvl : (natVs (Pq.touched S 0 ps)).length = (Pq.touched S 0 ps).length := by unfold natVs; rw [List.length_map]
          refine ⟨_, rfl, D2, _, rfl, .inl (SqL.of e3), rfl, _, rfl, ite2 (fun c1 => ?_) (fun c1 => ?_)⟩
          · have c1' : (Pq.touched S 0 ps).length = 1 := by
              have := V.int.inj (of_decide_eq_true c1)
              omega
            rcases Pq.touched_cases S ps with c2 | ⟨X, tq, Y, eps, hX, htq, hY⟩ | ⟨X, tq, Z, tr, Y, eps, hX, htq, htr, hY⟩
            · rw [Pq.touched_nil.mpr c2] at c1'; simp at c1'
            · have etch : Pq.touched S 0 ps = [X.length] := by rw [eps]; exact Pq.touched_one hX htq hY
              rw [etch] at e3
              have hti : ps[X.length]? = some tq := by rw [eps]; simp
              obtain ⟨vi, hvi, tvi⟩ := hvs3.get' hti
              have hmem := List.mem_of_getElem? hti
              have gi := gp.get hmem
              have di := Pq.depth_mem hmem
              have i0 : atI (natVs [X.length]) 0 = some (.int ((X.length : Nat) : Int)) := atI_nat (j := 0) rfl
              have ej1 : ∀ (mk : List Pq.Tree → Pq.Tree), (t = mk ps → Pq.share S (mk ps) ≠ .al → Pq.join S (k + 1) (mk ps) = (Pq.joinOne S (Pq.join S k) ps X.length).map mk) → t = mk ps → Pq.join S (k + 1) t = (Pq.join S k tq).map fun q' => mk (X ++ [q'] ++ Y) := by
                intro mk h ht'
                rw [ht', h ht' (by rw [← ht']; exact al), eps, Pq.joinOne_eq, Option.map_map]
                rfl
              have eX : ps.take X.length = X := by rw [eps]; simp
              have eY : ps.drop (X.length + 1) = Y := by
                rw [eps]
                have e : X ++ tq :: Y = (X ++ [tq]) ++ Y := by simp
                rw [e]
                exact List.drop_left' (by simp)
              refine ⟨_, rfl, _, rfl, D2, _, 0, _, rfl, rfl, SqL.of e3, i0, qa, vs, _, vi, rfl, rfl, SqT.of hq3, atI_nat hvi, _, rfl, vi, tq, c, S, rfl, tvi, gi, by omega, htq, hc3, fun H5 v5 sm5 ov => ?_⟩
              have ejt : Pq.join S (k + 1) t = (Pq.join S k tq).map fun q' => (if x = "any" then Pq.Tree.any else Pq.Tree.row) (X ++ [q'] ++ Y) := by
                rcases alt with ⟨hx, h⟩ | ⟨hx, h⟩
                · rw [if_pos hx]
                  refine ej1 .any (fun h2 na => ?_) h
                  rw [join_any_eq na, etch]
                · have hx' : ¬ x = "any" := by rw [hx]; decide +kernel
                  rw [if_neg hx']
                  refine ej1 .row (fun h2 na => ?_) h
                  rw [join_row_eq na, etch]
              cases ec : Pq.join S k tq with
              | none =>
                rw [ec] at ov ejt
                have hv5 : v5 = .non := ov
                subst hv5
                refine ⟨_, rfl, rfl, _, rfl, ?_⟩
                refine ite2 (fun _ => ?_) (fun c3 => absurd (by decide) c3)
                refine q H5 .non (s03.trans sm5) ?_
                rw [ejt]
                rfl
              | some tn =>
                rw [ec] at ov ejt
                have tn5 : TreeAt H5 v5 tn := ov
                have nn : v5 ≠ .non := fun e => by rw [e] at tn5; cases tn5
                refine ⟨_, rfl, rfl, _, rfl, ?_⟩
                refine ite2 (fun c3 => absurd (of_decide_eq_true c3) nn) (fun _ => ?_)
                have hq5 := sm5 _ _ hq3
                have e35 := sm5 _ _ e3
                -- the new tuple of parts
                refine ⟨_, rfl, _, rfl, _, rfl, D2, _, 0, _, rfl, rfl, SqL.of e35, i0, _, rfl, ?_⟩
                refine sl_take (n := X.length) hq5 fun H6 b6 sm6 eb6 => ?_
                refine ⟨_, rfl, (by show 1 ≤ sizeLine; decide), fun b7 nb7 => ?_⟩
                have s7 := same_new (o := .tup [v5]) nb7
                refine cat_tup (s7 _ _ eb6) upd_same (Nat.le_of_lt (small1000 (by rw [List.length_take]; simp; omega))) fun H8 b8 sm8 eb8 => ?_
                have s58 := sm6.trans (s7.trans sm8)
                have hq8 := s58 _ _ hq5
                refine ⟨_, rfl, _, rfl, D2, _, 0, _, rfl, rfl, SqL.of (s58 _ _ e35), i0, _, _, rfl, rfl, ((X.length + 1 : Nat) : Int), rfl, ?_⟩
                dsimp only [tNoPart]
                refine sl_drop (n := X.length + 1) hq8 fun H9 b9 sm9 eb9 => ?_
                refine cat_tup (sm9 _ _ eb8) eb9 (Nat.le_of_lt (small1000 (by rw [List.length_append, List.length_take, List.length_drop]; simp; omega))) fun H10 b10 sm10 eb10 => ?_
                refine ⟨(by show 2 ≤ sizeLine; decide), fun b11 nb11 => ?_⟩
                have s11 := same_new (o := .tup [.str x, .ref b10]) nb11
                have s511 := s58.trans (sm9.trans (sm10.trans s11))
                have trs : TreesAt (upd H10 b11 (.tup [.str x, .ref b10])) (vs.take X.length ++ [v5] ++ vs.drop (X.length + 1)) (X ++ [tn] ++ Y) := by
                  have h0 := hvs3.mono (sm5.trans s511)
                  have h1 := h0.take X.length
                  have h2 := h0.drop (X.length + 1)
                  rw [eX] at h1
                  rw [eY] at h2
                  exact TreesAt.append h2 (TreesAt.append (TreesAt.one (tn5.mono s511)) h1)
                refine q _ _ (s03.trans (sm5.trans s511)) ?_
                rw [ejt]
                rcases alt with ⟨hx, h⟩ | ⟨hx, h⟩
                · subst hx
                  rw [if_pos rfl]
                  exact .any upd_same (s11 _ _ eb10) trs
                · subst hx
                  rw [if_neg (by decide +kernel)]
                  exact .row upd_same (s11 _ _ eb10) trs
            · rw [eps, Pq.touched_two hX htq htr hY] at c1'; simp at c1'
          · have c1' : (Pq.touched S 0 ps).length ≠ 1 := fun h => c1 (decide_eq_true (by rw [nvl, h]; rfl))
            have two : ∃ X Z Y tq tr, Two S ps X Z Y tq tr := by
              rcases Pq.touched_cases S ps with c2 | ⟨X, tq, Y, eps, hX, htq, hY⟩ | ⟨X, tq, Z, tr, Y, eps, hX, htq, htr, hY⟩
              · obtain ⟨p', hp', np'⟩ := ex; exact (np' (c2 p' hp')).elim
              · exact (c1' (by rw [eps, Pq.touched_one hX htq hY]; rfl)).elim
              · exact ⟨X, Z, Y, tq, tr, eps, hX, htq, htr, hY⟩
            obtain ⟨X, Z, Y, tq, tr, two⟩ := two
            refine ⟨_, rfl, rfl, _, rfl, ?_⟩
            rcases alt with ⟨rfl, rfl⟩ | ⟨rfl, rfl⟩
            · rw [show decide (V.str (PySem.Str.ofString "any") = V.str (PySem.Str.ofString "any")) = true from decide_eq_true rfl]
              have ej : Pq.join S (k + 1) (.any ps) = Pq.joinAny S (Pq.split S k) ps := by
                rw [join_any_eq al]
                revert c1'
                generalize Pq.touched S 0 ps = l
                intro c1'
                match l, c1' with
                | [], _ => rfl
                | [_], c1' => exact (c1' rfl).elim
                | _ :: _ :: _, _ => rfl
              rw [ej] at q
              exact iteT ⟨_, rfl, _, rfl, qa, vs, ps, c, S, rfl, hq3, hvs3, gp, by omega, hc3, fun H' v' sm' hv' => q H' v' (s03.trans sm') hv'⟩
            · rw [show decide (V.str (PySem.Str.ofString "row") = V.str (PySem.Str.ofString "any")) = false by decide +kernel]
              have ej : Pq.join S (k + 1) (.row ps) = Pq.joinRow S (Pq.split S k) ps := by
                rw [join_row_eq al]
                revert c1'
                generalize Pq.touched S 0 ps = l
                intro c1'
                match l, c1' with
                | [], _ => rfl
                | [_], c1' => exact (c1' rfl).elim
                | _ :: _ :: _, _ => rfl
              rw [ej] at q
              exact iteF ⟨_, rfl, _, rfl, qa, vs, ps, c, S, X, Z, Y, tq, tr, rfl, hq3, hvs3, gp, by omega, hc3, two, fun H' v' sm' hv' => q H' v' (s03.trans sm') hv'⟩
theorem ok_joined (A : Here K mg "joined" sJoined ["tree", "chosen"]) (AA : Here K mg "joined_any" sJoinAny ["parts", "chosen"]) (AR : Here K mg "joined_row" sJoinRow ["parts", "chosen"]) (T : Top mg) (DI : Df P w K mg base "is_thing" ["tree"] 1 spIsThing) (DS : Df P w K mg base "share" ["tree", "chosen"] 26 spShare)
    (DW : Df P w K mg base "with_share" ["parts", "chosen", "wanted"] 27 (spWithShare K)) (DM : Df P w K mg base "make_any" ["parts"] 1 spMakeAny) (DMR : Df P w K mg base "make_row" ["parts"] 2 spMakeRow)
    (D : ∀ k, Df P w K mg base "split" ["tree", "chosen"] (28 + 2 * k) (spSplit k)) : ∀ k, Df P w K mg base "joined" ["tree", "chosen"] (30 + 2 * k) (spJoined k)
  | 0 => A.none fun vs H Q E h => by
    obtain ⟨v, t, c, S, _, _, g, hd, _⟩ := h
    exact Nat.not_lt_zero _ hd
  | k + 1 => ok_joined_step A T DI DS (ok_join_any AA T DW DM DMR (D k)) (ok_join_row AR T DS DMR (D k)) (ok_joined A AA AR T DI DS DW DM DMR D k)
end
end Up
end
section
set_option Elab.async false
set_option linter.all false
set_option maxRecDepth 100000
set_option maxHeartbeats 4000000
namespace Up
open PySem PySem.Spec PyProof.Rows L2
abbrev sRedBy : Stmt := topS 30
abbrev sRedAll : Stmt := topS 31
theorem scRedBy : FnScope ["tree", "chosen", "found"] ["tree", "chosen"] (defScope sRedBy) := ⟨rfl, rfl, rfl, by decide +kernel, rfl, by decide +kernel, by decide +kernel⟩
theorem scRedAll : FnScope ["tree", "sets", "chosen"] ["tree", "sets"] (defScope sRedAll) := ⟨rfl, rfl, rfl, by decide +kernel, rfl, by decide +kernel, by decide +kernel⟩
def spRedBy : Sp := fun vs H Q _ => ∃ v t c S, vs = [v, .ref c] ∧ TreeAt H v t ∧ Gd t ∧ H c = some (.tup (S.map V.int)) ∧ (∀ x ∈ S, x ∈ Pq.listed t) ∧ ∀ H' v' r, Same H H' → Pq.Red 24 S t r → IsOptT H' v' r → Q v' H'
/-- a list of tuples of ints -/
def SetsAt (H : Hp) (p : Addr) (Ss : List (List Int)) : Prop := ∃ cs, H p = some (.lst cs) ∧ cs.length = Ss.length ∧ ∀ (i : Nat) S, Ss[i]? = some S → ∃ c, cs[i]? = some (.ref c) ∧ H c = some (.tup (S.map V.int))
def spRedAll : Sp := fun vs H Q _ => ∃ v t s Ss l, vs = [v, .ref s] ∧ TreeAt H v t ∧ Pq.Good l t ∧ l.Nodup ∧ l.length ≤ 24 ∧ SetsAt H s Ss ∧ (∀ S ∈ Ss, ∀ x ∈ S, x ∈ l) ∧ ∀ H' v' r, Same H H' → Pq.RedAll 24 Ss t r → IsOptT H' v' r → Q v' H'
theorem TreeAt.nn {H : Hp} {v : V} {t : Pq.Tree} (h : TreeAt H v t) : v ≠ .non := fun e => by rw [e] at h; cases h
section
variable {P : Program} {w : World} {K : PySem.W.Frag} {mg : Str → Option Value} {base : Heap}
theorem ok_red_by (A : Here K mg "reduced_by" sRedBy ["tree", "chosen"]) (T : Top mg) (DN : Df P w K mg base "normalized" ["tree"] 50 (spNorm 24)) (DJ : Df P w K mg base "joined" ["tree", "chosen"] 78 (spJoined 24)) : Df P w K mg base "reduced_by" ["tree", "chosen"] 79 spRedBy := by
  refine A.df scRedBy (fun vs H Q E h => ?_) (fun f cdv A outer s H vs Q E hr h => ?_)
  · obtain ⟨v, t, c, S, rfl, _⟩ := h; rfl
  · obtain ⟨v, t, c, S, rfl, ht, g, hc, sub, q⟩ := h
    have nd := scRedBy.nd
    have hN : Room 50 _ := hr.mono (by decide)
    refine ⟨_, pss_cons (ps_if (pt_cmpR op_lt (pe_callB call_len_seq rfl T.len PySem.boot_len (pa_cons (pv 1) pa_nil)) pe_int (nomark _)) (pss_one (ps_ret (pe_df DN hN rfl (pa_cons (pv 0) pa_nil)))) pss_nil)
      (pss_cons (ps_set (i := 2) nd rfl (.inl rfl) (pe_df DJ hr rfl (pa_cons (pv 0) (pa_cons (pv 1) pa_nil))))
      (pss_cons (ps_if (pt_cmpR op_isN (pv 2) pe_non (nomark _)) (pss_one (ps_ret pe_non)) pss_nil)
      (pss_one (ps_ret (pe_df DN hN rfl (pa_cons (pv 2) pa_nil)))))), ?_⟩
    refine ⟨_, rfl, c, _, rfl, .inr (SqT.of hc), _, _, rfl, rfl, _, rfl, ite2 (fun c1 => ?_) (fun c1 => ?_)⟩
    · have c1' : S.length < 2 := by
        have : (((S.map V.int).length : Nat) : Int) < 2 := of_decide_eq_true c1
        rw [List.length_map] at this
        omega
      exact ⟨_, rfl, v, t, rfl, ht, g.depth, g.len, g.wf, fun H' v' t' sm n ta => q H' v' (some t') sm (.few c1' n) ta⟩
    · have c1' : 2 ≤ S.length := by
        have : ¬ (((S.map V.int).length : Nat) : Int) < 2 := fun h => c1 (decide_eq_true h)
        rw [List.length_map] at this
        omega
      have sh : Pq.share S t ≠ .no := fun e => by
        match S, c1', sub with
        | x :: _, _, sub => exact Pq.share_no.mp e x (sub x (by simp)) (by simp)
      refine ⟨_, rfl, _, rfl, v, t, c, S, rfl, ht, g, g.depth, sh, hc, fun H1 v1 sm1 ov => ?_⟩
      cases ec : Pq.join S 24 t with
      | none =>
        rw [ec] at ov
        have hv : v1 = .non := ov
        subst hv
        refine ⟨_, rfl, rfl, _, rfl, ?_⟩
        refine ite2 (fun _ => ?_) (fun c3 => absurd (by decide) c3)
        exact q H1 .non none sm1 (.none c1' ec) rfl
      | some j =>
        rw [ec] at ov
        have tj : TreeAt H1 v1 j := ov
        obtain ⟨wj, sj⟩ := Pq.join_sound 24 t j g.wf sh ec
        have lj : (Pq.listed j).length = (Pq.listed t).length := (Pq.Tells.perm t _ (sj _ (Pq.tells_listed j)).1).length_eq
        have gj : Gd j := ⟨wj, by rw [lj]; exact g.len⟩
        refine ⟨_, rfl, rfl, _, rfl, ?_⟩
        refine ite2 (fun c3 => absurd (of_decide_eq_true c3) tj.nn) (fun _ => ?_)
        exact ⟨_, rfl, v1, j, rfl, tj, gj.depth, gj.len, gj.wf, fun H' v' t' sm n ta => q H' v' (some t') (sm1.trans sm) (.some c1' ec n) ta⟩
theorem ok_red_all (A : Here K mg "reduced_by_all" sRedAll ["tree", "sets"]) (D : Df P w K mg base "reduced_by" ["tree", "chosen"] 79 spRedBy) : Df P w K mg base "reduced_by_all" ["tree", "sets"] 80 spRedAll := by
  refine A.df scRedAll (fun vs H Q E h => ?_) (fun f cdv A outer s H vs Q E hr h => ?_)
  · obtain ⟨v, t, s, Ss, l, rfl, _⟩ := h; rfl
  · obtain ⟨v, t, sa, Ss, l, rfl, ht, g, nl, hl, ⟨cs, hs, lcs, hcs⟩, sub, q⟩ := h
    have nd := scRedAll.nd
    refine ⟨_, pss_cons (ps_for PassesOwn.never rfl (pi_list (pv 1)) (pg_name (i := 2) nd rfl (.inl rfl))
        (pss_cons (ps_set (i := 0) nd rfl (.inl rfl) (pe_df D hr rfl (pa_cons (pv 0) (pa_cons (pv 2) pa_nil))))
        (pss_one (ps_if (pt_cmpR op_isN (pv 0) pe_non (nomark _)) (pss_one (ps_ret pe_non)) pss_nil))))
      (pss_one (ps_ret (pv 0))), ?_⟩
    refine ⟨_, rfl, sa, rfl, ⟨cs, SqL.of hs⟩, for_list (K := K) (a := sa) (xs := cs) (fun i σ H1 => ∃ v1 t1 y, σ = [some v1, some (.ref sa), y] ∧ Same H H1 ∧ TreeAt H1 v1 t1 ∧ Pq.Good l t1 ∧ ∀ r, Pq.RedAll 24 (Ss.drop i) t1 r → Pq.RedAll 24 Ss t r)
      ⟨v, t, none, rfl, Same.refl _, ht, g, fun r h => h⟩ (fun i σ H1 _ ⟨_, _, _, _, sm1, _⟩ => SqL.of (sm1 _ _ hs)) ?_ ?_⟩
    · rintro i y σ H1 hi ⟨v1, t1, y1, rfl, sm1, ht1, g1, k1⟩
      have il : i < Ss.length := by
        have := (List.getElem?_eq_some_iff.mp hi).1
        omega
      have hS : Ss[i]? = some Ss[i] := List.getElem?_eq_getElem il
      obtain ⟨c, hc, ec⟩ := hcs i _ hS
      rw [hc] at hi
      have ey : y = .ref c := (Option.some.inj hi).symm
      subst ey
      have edr : Ss.drop i = Ss[i] :: Ss.drop (i + 1) := List.drop_eq_getElem_cons il
      have subi : ∀ x ∈ Ss[i], x ∈ l := sub _ (List.getElem_mem il)
      have gd : Gd t1 := ⟨g1.wf, by rw [g1.perm.length_eq]; exact hl⟩
      refine ⟨_, rfl, _, rfl, v1, t1, c, Ss[i], rfl, ht1, gd, sm1 _ _ ec, fun x hx => g1.perm.mem_iff.mpr (subi x hx), fun H2 v2 r sm2 hr2 ov => ?_⟩
      cases r with
      | none =>
        have hv : v2 = .non := ov
        subst hv
        refine ⟨_, rfl, rfl, _, rfl, ?_⟩
        refine ite2 (fun _ => ?_) (fun c3 => absurd (by decide) c3)
        exact q H2 .non none (sm1.trans sm2) (k1 _ (by rw [edr]; exact .stop hr2)) rfl
      | some t2 =>
        have tt : TreeAt H2 v2 t2 := ov
        refine ⟨_, rfl, rfl, _, rfl, ?_⟩
        refine ite2 (fun c3 => absurd (of_decide_eq_true c3) tt.nn) (fun _ => ?_)
        obtain ⟨g2, _⟩ := hr2.sound g1 nl subi t2 rfl
        exact ⟨v2, t2, _, rfl, sm1.trans sm2, tt, g2, fun r h => k1 r (by rw [edr]; exact .cons hr2 h)⟩
    · rintro σ H1 ⟨v1, t1, y1, rfl, sm1, ht1, g1, k1⟩
      refine ⟨_, rfl, q H1 v1 (some t1) sm1 (k1 _ ?_) ht1⟩
      rw [lcs, List.drop_length]
      exact .nil
end
end Up
end
section
set_option Elab.async false
set_option linter.all false
set_option maxRecDepth 100000
set_option maxHeartbeats 4000000
namespace Up
open PySem PySem.Spec PyProof.Rows L2
/-! ### lists of persons -/
theorem natVs_eq (l : List Nat) : natVs l = (l.map fun n : Nat => (n : Int)).map V.int := by
  unfold natVs; rw [List.map_map]; rfl
theorem natVs_len (l : List Nat) : (natVs l).length = l.length := by unfold natVs; rw [List.length_map]
theorem natVs_get {l : List Nat} {i x : Nat} (h : l[i]? = some x) : (natVs l)[i]? = some (.int (x : Nat)) := by
  unfold natVs; rw [List.getElem?_map, h]; rfl
theorem natVs_app (l m : List Nat) : natVs (l ++ m) = natVs l ++ natVs m := by unfold natVs; rw [List.map_append]
theorem natVs_of {l : List Nat} {i : Nat} {v : V} (h : (natVs l)[i]? = some v) : ∃ x, l[i]? = some x ∧ v = .int (x : Nat) := by
  unfold natVs at h
  rw [List.getElem?_map] at h
  cases e : l[i]? with
  | none => rw [e] at h; cases h
  | some x => rw [e] at h; exact ⟨x, rfl, (Option.some.inj h).symm⟩
theorem flat_nats (l : List Nat) : (natVs l).all flatV = true := by rw [natVs_eq]; exact flat_ints _
theorem inV_nat (x : Nat) (l : List Nat) : inV (.int (x : Nat)) (natVs l) = decide (x ∈ l) := by
  rw [natVs_eq, inV_int]
  refine decide_eq_decide.mpr ⟨fun h => ?_, fun h => List.mem_map.mpr ⟨x, h, rfl⟩⟩
  obtain ⟨y, hy, e⟩ := List.mem_map.mp h
  have : y = x := by omega
  exact this ▸ hy
/-- a list of tuples or lists of persons -/
def RowsAt (f : List V → HO) (H : Hp) (p : Addr) (ls : List (List Nat)) : Prop :=
  ∃ rs : List Addr, H p = some (.lst (rs.map V.ref)) ∧ rs.length = ls.length ∧ ∀ (i : Nat) l, ls[i]? = some l → ∃ r, rs[i]? = some r ∧ H r = some (f (natVs l))
theorem RowsAt.mono {f : List V → HO} {H H' : Hp} {p : Addr} {ls : List (List Nat)} (h : RowsAt f H p ls) (s : Same H H') : RowsAt f H' p ls := by
  obtain ⟨rs, h1, h2, h3⟩ := h
  exact ⟨rs, s _ _ h1, h2, fun i l e => by
    obtain ⟨r, h4, h5⟩ := h3 i l e
    exact ⟨r, h4, s _ _ h5⟩⟩
/-- how the persons met -/
structure GrOk (adj : Nat → Nat → Prop) (n : Nat) (nb : List (List Nat)) : Prop where
  len : nb.length = n
  n24 : n ≤ 24
  mem : ∀ (i : Nat) l, nb[i]? = some l → ∀ j, j ∈ l ↔ adj i j
  asc : ∀ (i : Nat) l, nb[i]? = some l → l.Pairwise (· < ·)
  sy : ∀ a b, adj a b → adj b a
  ir : ∀ a, ¬ adj a a
  lt : ∀ a b, adj a b → a < n ∧ b < n
theorem GrOk.get {adj : Nat → Nat → Prop} {n : Nat} {nb : List (List Nat)} (g : GrOk adj n nb) {i : Nat} (h : i < n) : ∃ l, nb[i]? = some l := by
  rw [← g.len] at h
  exact ⟨_, List.getElem?_eq_getElem h⟩
theorem GrOk.small {adj : Nat → Nat → Prop} {n : Nat} {nb : List (List Nat)} (g : GrOk adj n nb) {i : Nat} {l : List Nat} (h : nb[i]? = some l) : l.length ≤ 24 := by
  refine Nat.le_trans (Gr.nodup_le (n := n) ?_ fun x hx => (g.lt i x ((g.mem i l h x).mp hx)).2) g.n24
  exact List.Pairwise.imp (fun h => Nat.ne_of_lt h) (g.asc i l h)
/-! ### shortest_way -/
abbrev sWay : Stmt := topS 11
theorem scWay : FnScope ["neighbors", "start", "goal", "barred", "ways", "seen", "at", "last", "person"] ["neighbors", "start", "goal", "barred"] (defScope sWay) := ⟨rfl, rfl, rfl, by decide +kernel, rfl, by decide +kernel, by decide +kernel⟩
/-- none, or a way -/
def WayAt (adj : Nat → Nat → Prop) (bar : Nat → Prop) (n s g : Nat) (H : Hp) (v : V) : Prop :=
  (v = .non ∧ ¬ Gr.Reach adj (fun z => ¬ bar z) s g) ∨ ∃ q w, v = .ref q ∧ H q = some (.tup (natVs w)) ∧ Gr.WayOk adj bar n s g w
def spWay : Sp := fun vs H Q _ => ∃ p nb n b bs s g adj, vs = [.ref p, .int (s : Nat), .int (g : Nat), .ref b] ∧ RowsAt .lst H p nb ∧ GrOk adj n nb ∧ H b = some (.lst (natVs bs)) ∧ s < n ∧
  ∀ H' v, Same H H' → WayAt adj (· ∈ bs) n s g H' v → Q v H'
/-- the dict of the persons seen -/
def seenK (l : List Nat) : List (Key × V) := l.map fun n : Nat => (.inl (n : Int), .bl true)
theorem seen_val (x : Nat) : ∀ l : List Nat, (valV (seenK l) (.inl (x : Int))).isSome = decide (x ∈ l)
  | [] => by simp [seenK, valV]
  | y :: l => by
    have ih := seen_val x l
    by_cases e : y = x
    · subst e
      have : valV (seenK (y :: l)) (.inl (y : Int)) = some (.bl true) := valV_pos rfl
      rw [this]; simp
    · have : valV (seenK (y :: l)) (.inl (x : Int)) = valV (seenK l) (.inl (x : Int)) := valV_neg (fun h => e (by
        have := Sum.inl.inj h
        omega))
      rw [this, ih]
      refine decide_eq_decide.mpr ⟨fun h => List.mem_cons_of_mem _ h, fun h => ?_⟩
      rcases List.mem_cons.mp h with h | h
      · exact (e h.symm).elim
      · exact h
theorem seen_put {x : Nat} {l : List Nat} (h : x ∉ l) : putK (seenK l) (.inl (x : Int)) (.bl true) = seenK (l ++ [x]) := by
  have e : valV (seenK l) (.inl (x : Int)) = none := by
    have := seen_val x l
    rw [decide_eq_false h] at this
    exact Option.isSome_eq_false_iff.mp this |> Option.isNone_iff_eq_none.mp
  rw [putK_new _ e]
  unfold seenK
  rw [List.map_append]; rfl
theorem _root_.Gr.Ind.nodup {adj : Nat → Nat → Prop} (ir : ∀ a, ¬ adj a a) {w : List Nat} (h : Gr.Ind adj w) : w.Nodup := by
  rw [List.nodup_iff_pairwise_ne, List.pairwise_iff_getElem]
  intro i j hi hj hij e
  have q := Gr.ind_get w i j _ _ h hij (List.getElem?_eq_getElem hi) (List.getElem?_eq_getElem hj)
  by_cases c : j = i + 1
  · have := q.1.mpr c
    rw [e] at this; exact ir _ this
  · exact q.2 c e
/-- the state of the search -/
def WayInv (adj : Nat → Nat → Prop) (bs : List Nat) (n s g : Nat) (H0 : Hp) (W D : Addr) (ways : List (List Nat)) (seen : List Nat) (k : Nat) (done : List Nat) (H : Hp) : Prop :=
  Same H0 H ∧ RowsAt .tup H W ways ∧ H D = some (.dK (seenK seen)) ∧ Gr.BInv adj (· ∈ bs) n s g ways seen k done
section
variable {P : Program} {w : World} {K : PySem.W.Frag} {mg : Str → Option Value} {base : Heap}
set_option maxHeartbeats 8000000 in
theorem ok_way (A : Here K mg "shortest_way" sWay ["neighbors", "start", "goal", "barred"]) (T : Top mg) : Df P w K mg base "shortest_way" ["neighbors", "start", "goal", "barred"] 1 spWay := by
  refine A.df scWay (fun vs H Q E h => ?_) (fun f cdv A outer sh H vs Q E hr h => ?_)
  · obtain ⟨p, nb, n, b, bs, s, g, adj, rfl, _⟩ := h; rfl
  · obtain ⟨p, nb, n, b, bs, s, g, adj, rfl, hp, gr, hb, sn, q⟩ := h
    have nd := scWay.nd
    have hu : (A.deeper (envOfC "shortest_way" (defScope sWay) sh.heap.objs.size f cdv)).units + 1 < cLine := by have := hr.units; omega
    refine ⟨_, pss_cons (ps_if (PW.pt (pw_or (pt_cmpR (r := rIn K false) op_in_seq (pv 1) (pv 3) (by rfl)) (pw_or1 (pt_cmpR (r := rIn K false) op_in_seq (pv 2) (pv 3) (by rfl))))) (pss_one (ps_ret pe_non)) pss_nil)
      (pss_cons (ps_set (i := 4) nd rfl (.inl rfl) (pe_lst (pa_cons (pe_tup (pa_cons (pv 1) pa_nil)) pa_nil)))
      (pss_cons (ps_set (i := 5) nd rfl (.inl rfl) (pe_disp (pps_cons (pv 1) (pe_bl) pps_nil) rfl rfl (by simp) (by decide)))
      (pss_cons (ps_set (i := 6) nd rfl (.inl rfl) pe_int)
      (pss_cons (ps_while PassesOwn.never (pt_cmpR op_lt (pv 6) (pe_callB call_len_seq rfl T.len PySem.boot_len (pa_cons (pv 4) pa_nil)) (nomark _))
        (pss_cons (ps_set (i := 7) nd rfl (.inl rfl) (pe_ix ix_tup (pe_ix ix_list (pv 4) (pv 6) (fun _ _ => rfl)) (pe_un un_neg pe_int) (fun _ _ => rfl)))
        (pss_cons (ps_if (pt_cmpR op_eq (pv 7) (pv 2) (nomark _)) (pss_one (ps_ret (pe_ix ix_list (pv 4) (pv 6) (fun _ _ => rfl)))) pss_nil)
        (pss_cons (ps_for PassesOwn.never rfl (pi_list (pe_ix ix_list (pv 0) (pv 7) (fun _ _ => rfl))) (pg_name (i := 8) nd rfl (.inl rfl))
          (pss_one (ps_if (PW.pt (pw_and (pt_cmp (pc_dnotin hu (pv 8) (pv 5)) (by rfl)) (pw_and1 (pt_cmpR (r := rIn K true) op_notIn_seq (pv 8) (pv 3) (by rfl)))))
            (pss_cons (ps_dput hu (pv 5) (pv 8) pe_bl rfl)
            (pss_one (ps_expr (pe_bm PySem.F.plainAttrs_list PySem.F.slot_list_append PySem.F.type_list_append mt_append (pv 4) (pa_cons (pe_op op_catA (pe_ix ix_list (pv 4) (pv 6) (fun _ _ => rfl)) (pe_tup (pa_cons (pv 8) pa_nil))) pa_nil))))) pss_nil)))
        (pss_one (ps_aug (i := 6) nd rfl (.inl rfl) pe_int ip_add))))))
      (pss_one (ps_ret pe_non)))))), ?_⟩
    have inB : ∀ {H' : Hp} (x : Nat) {Q' : VK}, H' b = some (.lst (natVs bs)) → Q' (.bl (decide (x ∈ bs))) H' → rIn K false (.int (x : Nat)) (.ref b) H' Q' := fun {H'} x {Q'} e h => ⟨b, _, rfl, .inl (SqL.of e), rfl, flat_nats bs, by
      show Q' (.bl (inV (.int (x : Nat)) (natVs bs))) H'
      rw [inV_nat]; exact h⟩
    have ninB : ∀ {H' : Hp} (x : Nat) {Q' : VK}, H' b = some (.lst (natVs bs)) → Q' (.bl (!decide (x ∈ bs))) H' → rIn K true (.int (x : Nat)) (.ref b) H' Q' := fun {H'} x {Q'} e h => ⟨b, _, rfl, .inl (SqL.of e), rfl, flat_nats bs, by
      show Q' (.bl (!inV (.int (x : Nat)) (natVs bs))) H'
      rw [inV_nat]; exact h⟩
    refine ⟨_, rfl, _, rfl, inB s hb ⟨_, rfl, iteD (fun c1 => ?_) (fun c1 => ?_)⟩⟩
    · exact iteT (q H .non (Same.refl _) (.inl ⟨rfl, fun r => r.left c1⟩))
    refine ⟨_, rfl, _, rfl, inB g hb ⟨_, rfl, iteD (fun c2 => ?_) (fun c2 => ?_)⟩⟩
    · exact q H .non (Same.refl _) (.inl ⟨rfl, fun r => r.right c2⟩)
    -- ways = [(start,)]
    refine ⟨_, rfl, (by show 1 ≤ sizeLine; decide), fun t nt => ⟨(by show 1 ≤ sizeLine; decide), fun W nW => ?_⟩⟩
    have s1 := same_new (H := H) (o := .tup [.int (s : Nat)]) nt
    have s2 := same_new (H := upd H t (.tup [.int (s : Nat)])) (o := .lst [.ref t]) nW
    -- seen = {start: True}
    refine fun D nD => ⟨_, rfl, upd_same, [(.inl (s : Int), .bl true)], rfl, Nat.le_of_ble_eq_true rfl, ?_⟩
    have s3 := same_new (H := upd (upd H t (.tup [.int (s : Nat)])) W (.lst [.ref t])) (o := .dK []) nD
    have key : ∀ {b' : Addr} {u : HO}, (upd (upd H t (.tup [.int (s : Nat)])) W (.lst [.ref t])) b' = some u → (upd (upd (upd (upd H t (.tup [.int (s : Nat)])) W (.lst [.ref t])) D (.dK [])) D (.dK (mergeK [] [(.inl (s : Int), .bl true)]))) b' = some u := fun e => by
      rw [upd_ne (ne_of_none e nD), upd_ne (ne_of_none e nD)]; exact e
    have st0 : WayInv adj bs n s g H W D [[s]] [s] 0 [] (upd (upd (upd (upd H t (.tup [.int (s : Nat)])) W (.lst [.ref t])) D (.dK [])) D (.dK (mergeK [] [(.inl (s : Int), .bl true)]))) := by
      refine ⟨fun b' u e => key (s2 _ _ (s1 _ _ e)), ⟨[t], key upd_same, rfl, fun i l e => ?_⟩, by rw [upd_same]; rfl, Gr.BInv.start c1 sn⟩
      match i, e with
      | 0, e =>
        cases e
        exact ⟨t, rfl, key (s2 _ _ upd_same)⟩
      | i + 1, e => simp at e
    have hW : ¬ ∃ u, H W = some u := fun ⟨u, e⟩ => by
      have := s1 _ _ e
      rw [this] at nW; cases nW
    have hD : ¬ ∃ u, H D = some u := fun ⟨u, e⟩ => by
      have := s2 _ _ (s1 _ _ e)
      rw [this] at nD; cases nD
    refine ⟨fun m σ H1 => ∃ ways seen k y7 y8, m = n - k ∧ σ = [some (.ref p), some (.int (s : Nat)), some (.int (g : Nat)), some (.ref b), some (.ref W), some (.ref D), some (.int (k : Nat)), y7, y8] ∧ WayInv adj bs n s g H W D ways seen k [] H1, ⟨n, [[s]], [s], 0, none, none, rfl, rfl, st0⟩, ?_⟩
    rintro m σ H1 ⟨ways, seen, k, y7, y8, rfl, rfl, sm1, ⟨rs, eW, lrs, hrs⟩, eD, bi⟩
    -- at < len(ways)
    refine ⟨_, rfl, _, rfl, W, _, rfl, .inl (SqL.of eW), _, _, rfl, rfl, _, rfl, ite2 (fun c3 => ?_) (fun c3 => ?_)⟩
    · have kl : k < ways.length := by
        have : ((k : Nat) : Int) < (((rs.map V.ref).length : Nat) : Int) := of_decide_eq_true c3
        rw [List.length_map, lrs] at this; omega
      have kn : k < n := Nat.lt_of_lt_of_le kl bi.bound
      obtain ⟨wk, hwk⟩ : ∃ wk, ways[k]? = some wk := ⟨_, List.getElem?_eq_getElem kl⟩
      obtain ⟨v, hv, vs⟩ := bi.last (List.mem_of_getElem? hwk)
      obtain ⟨r, hr1, hr2⟩ := hrs k wk hwk
      have gk : (rs.map V.ref)[k]? = some (.ref r) := by rw [List.getElem?_map, hr1]; rfl
      have wl : wk.length ≠ 0 := fun e => by
        rw [List.length_eq_zero_iff.mp e] at hv; simp at hv
      have hat : atI (natVs wk) (-1) = some (.int (v : Nat)) := by
        obtain ⟨d, hd⟩ := List.getLast?_eq_some_iff.mp hv
        rw [hd, natVs_app]
        exact atI_last _ _
      have vn : v < n := bi.seen_lt v vs
      obtain ⟨l, hl⟩ := gr.get vn
      obtain ⟨rn, eN, lrn, hrn⟩ := id hp
      obtain ⟨a, ha1, ha0⟩ := hrn v l hl
      have ha2 := sm1 _ _ ha0
      have ga : (rn.map V.ref)[v]? = some (.ref a) := by rw [List.getElem?_map, ha1]; rfl
      refine ⟨fun σ' H' => ∃ ways seen y7 y8, σ' = [some (.ref p), some (.int (s : Nat)), some (.int (g : Nat)), some (.ref b), some (.ref W), some (.ref D), some (.int ((k + 1 : Nat) : Int)), y7, y8] ∧ WayInv adj bs n s g H W D ways seen (k + 1) [] H', fun σ' H' ⟨ways, seen, y7, y8, e, iv⟩ => ⟨n - (k + 1), by omega, ways, seen, k + 1, y7, y8, rfl, e, iv⟩, ?_⟩
      -- last = ways[at][-1]
      refine ⟨_, rfl, _, rfl, W, _, _, _, rfl, rfl, SqL.of eW, atI_nat gk, 1, rfl, r, _, -1, _, rfl, rfl, SqT.of hr2, hat, ?_⟩
      -- if last == goal
      refine ⟨_, rfl, _, rfl, rfl, _, rfl, ite2 (fun c4 => ?_) (fun c4 => ?_)⟩
      · have e4 : v = g := by
          have := V.int.inj (of_decide_eq_true c4)
          omega
        subst e4
        refine ⟨_, rfl, _, rfl, W, _, _, _, rfl, rfl, SqL.of eW, atI_nat gk, ?_⟩
        exact q H1 _ sm1 (.inr ⟨r, wk, rfl, hr2, bi.found (List.mem_of_getElem? hwk) hv⟩)
      have e4 : v ≠ g := fun e => c4 (decide_eq_true (by rw [e]))
      -- for person in neighbors[last]
      refine ⟨_, rfl, _, rfl, p, _, _, _, rfl, rfl, SqL.of (sm1 _ _ eN), atI_nat ga, a, rfl, ⟨natVs l, SqL.of ha2⟩, ?_⟩
      have an : a ≠ D := fun e => by rw [e, eD] at ha2; cases ha2
      refine for_list (K := K) (a := a) (xs := natVs l) (fun i σ H2 => ∃ ways seen y8, σ = [some (.ref p), some (.int (s : Nat)), some (.int (g : Nat)), some (.ref b), some (.ref W), some (.ref D), some (.int (k : Nat)), some (.int (v : Nat)), y8] ∧ WayInv adj bs n s g H W D ways seen k (l.take i) H2 ∧ ways[k]? = some wk ∧ H2 a = some (.lst (natVs l)))
        ⟨ways, seen, y8, rfl, ⟨sm1, ⟨rs, eW, lrs, hrs⟩, eD, bi⟩, hwk, ha2⟩ (fun i σ H2 _ ⟨_, _, _, _, _, _, e⟩ => SqL.of e) ?_ ?_
      · rintro i y σ H2 hi ⟨ways, seen, y8, rfl, ⟨sm2, ⟨rs, eW, lrs, hrs⟩, eD, bi⟩, hwk, ha2⟩
        obtain ⟨x, hx, rfl⟩ := natVs_of hi
        have et : l.take (i + 1) = l.take i ++ [x] := by rw [List.take_add_one, hx]; rfl
        have xa : adj v x := (gr.mem v l hl x).mp (List.mem_of_getElem? hx)
        have xn : x < n := (gr.lt v x xa).2
        obtain ⟨r, hr1, hr2⟩ := hrs k wk hwk
        have gk : (rs.map V.ref)[k]? = some (.ref r) := by rw [List.getElem?_map, hr1]; rfl
        have hb2 := sm2 _ _ hb
        refine ⟨_, rfl, _, rfl, D, _, rfl, DGet.k (k := .inl (x : Int)) eD, _, rfl, ?_⟩
        rw [seen_val]
        refine iteDn (fun c5 => ?_) (fun c5 => ?_)
        · refine ⟨_, rfl, _, rfl, ninB x hb2 ⟨_, rfl, iteDn (fun c6 => ?_) (fun c6 => ?_)⟩⟩
          · have ll : ways.length ≤ 24 := Nat.le_trans bi.bound gr.n24
            have lsn : (seenK seen).length < sizeLine := by
              unfold seenK
              rw [List.length_map]
              have := Gr.nodup_le bi.nd bi.seen_lt
              have := gr.n24
              exact small1000 (by omega)
            have WD : W ≠ D := fun e => by rw [e, eD] at eW; cases eW
            refine ⟨_, rfl, _, rfl, D, _, rfl, DPut.k (k := .inl (x : Int)) eD lsn, ?_⟩
            rw [seen_put c5]
            have kA : ∀ {b' : Addr} {u : HO}, H2 b' = some u → b' ≠ D → (upd H2 D (.dK (seenK (seen ++ [x])))) b' = some u := fun e ne => by
              rw [upd_ne ne]; exact e
            have nt' : ∀ {c : Addr}, (upd H2 D (.dK (seenK (seen ++ [x])))) c = none → H2 c = none := fun {c} e => by
              by_cases h : c = D
              · rw [h, upd_same] at e; cases e
              · rw [upd_ne h] at e; exact e
            refine ⟨_, rfl, .inl ⟨rfl, _, SqL.of (kA eW WD)⟩, _, rfl, _, rfl, W, _, _, _, rfl, rfl, SqL.of (kA eW WD), atI_nat gk, _, rfl, (by show 1 ≤ sizeLine; decide), fun t nt => ?_⟩
            have sb := same_new (o := .tup [.int (x : Nat)]) nt
            have rD : r ≠ D := fun e => by rw [e, eD] at hr2; cases hr2
            have wne : natVs wk ≠ [] := fun e => by
              have := congrArg List.length e
              rw [natVs_len] at this
              rw [List.length_eq_zero_iff.mp this] at hv; simp at hv
            have lwk : wk.length ≤ 24 := by
              have h1 : wk.Nodup := (bi.ind wk (List.mem_of_getElem? hwk)).nodup gr.ir
              exact Nat.le_trans (Gr.nodup_le h1 (bi.lt wk (List.mem_of_getElem? hwk))) gr.n24
            refine ⟨r, t, natVs wk, [.int (x : Nat)], rfl, rfl, SqT.of (sb _ _ (kA hr2 rD)), SqT.of upd_same, Nat.le_of_lt (small1000 (by rw [natVs_len]; simp; omega)), fun e => (wne e).elim, fun _ e => (by cases e), fun _ _ z nz => ?_⟩
            have sc := same_new (o := .tup (natVs wk ++ [.int (x : Nat)])) nz
            have kC : ∀ {b' : Addr} {u : HO}, H2 b' = some u → b' ≠ D → (upd (upd (upd H2 D (.dK (seenK (seen ++ [x])))) t (.tup [.int (x : Nat)])) z (.tup (natVs wk ++ [.int (x : Nat)]))) b' = some u := fun e ne => sc _ _ (sb _ _ (kA e ne))
            refine ⟨W, _, .ref z, rfl, rfl, kC eW WD, small1000 (by rw [List.length_map, lrs]; omega), ?_⟩
            have zW : z ≠ W := fun e => by
              have := sb _ _ (kA eW WD)
              rw [← e] at this
              rw [this] at nz; cases nz
            refine ⟨ways ++ [wk ++ [x]], seen ++ [x], _, rfl, ⟨fun b' u e => ?_, ⟨rs ++ [z], ?_, by simp [lrs], fun i' l' e => ?_⟩, ?_, ?_⟩, ?_, ?_⟩
            · have e2 := sm2 _ _ e
              have bD : b' ≠ D := fun e' => hD (by rw [← e']; exact ⟨u, e⟩)
              have bW : b' ≠ W := fun e' => hW (by rw [← e']; exact ⟨u, e⟩)
              rw [upd_ne bW]
              exact kC e2 bD
            · rw [upd_same, List.map_append]; rfl
            · by_cases h' : i' < ways.length
              · rw [List.getElem?_append_left h'] at e
                obtain ⟨r', h1, h2⟩ := hrs i' l' e
                have r'D : r' ≠ D := fun e => by rw [e, eD] at h2; cases h2
                have r'W : r' ≠ W := fun e => by rw [e, eW] at h2; cases h2
                refine ⟨r', by rw [List.getElem?_append_left (by omega)]; exact h1, ?_⟩
                rw [upd_ne r'W]; exact kC h2 r'D
              · rw [List.getElem?_append_right (by omega)] at e
                by_cases h2 : i' = ways.length
                · subst h2
                  simp at e
                  subst e
                  refine ⟨z, by rw [List.getElem?_append_right (by omega), lrs]; simp, ?_⟩
                  rw [upd_ne zW, upd_same, natVs_app]; rfl
                · rw [List.getElem?_eq_none (by simp; omega)] at e; cases e
            · rw [upd_ne (Ne.symm WD)]
              exact sc _ _ (sb _ _ upd_same)
            · rw [et]
              exact bi.grow hwk hv xa c5 c6 xn
            · rw [List.getElem?_append_left (List.getElem?_eq_some_iff.mp hwk).1]; exact hwk
            · have aW : a ≠ W := fun e => hW (by rw [← e]; exact ⟨_, ha0⟩)
              rw [upd_ne aW]; exact kC ha2 an
          · refine ⟨ways, seen, _, rfl, ⟨sm2, ⟨rs, eW, lrs, hrs⟩, eD, ?_⟩, hwk, ha2⟩
            rw [et]
            exact bi.skip (.inr c6)
        · refine ⟨ways, seen, _, rfl, ⟨sm2, ⟨rs, eW, lrs, hrs⟩, eD, ?_⟩, hwk, ha2⟩
          rw [et]
          exact bi.skip (.inl c5)
      · rintro σ H2 ⟨ways, seen, y8, rfl, ⟨sm2, rw2, eD, bi⟩, hwk, ha2⟩
        rw [natVs_len, List.take_length] at bi
        refine ⟨_, rfl, _, _, rfl, rfl, ways, seen, _, _, rfl, sm2, rw2, eD, ?_⟩
        exact bi.next hwk hv e4 fun x hx => (gr.mem v l hl x).mpr hx
    · have kl : ways.length ≤ k := by
        have : ¬ ((k : Nat) : Int) < (((rs.map V.ref).length : Nat) : Int) := fun h => c3 (decide_eq_true h)
        rw [List.length_map, lrs] at this; omega
      exact q H1 .non sm1 (.inl ⟨rfl, bi.end kl⟩)
end
end Up
end
section
set_option Elab.async false
set_option linter.all false
set_option maxRecDepth 100000
set_option maxHeartbeats 4000000
namespace Up
open PySem PySem.Spec PyProof.Rows L2
/-! ### is_group, group_of, next_person -/
abbrev sIsGroup : Stmt := topS 33
abbrev sGroupOf : Stmt := topS 34
abbrev sNext : Stmt := topS 35
theorem scIsGroup : FnScope ["neighbors", "persons", "one", "other"] ["neighbors", "persons"] (defScope sIsGroup) := ⟨rfl, rfl, rfl, by decide +kernel, rfl, by decide +kernel, by decide +kernel⟩
theorem scGroupOf : FnScope ["neighbors", "left", "person", "other"] ["neighbors", "left", "person"] (defScope sGroupOf) := ⟨rfl, rfl, rfl, by decide +kernel, rfl, by decide +kernel, by decide +kernel⟩
theorem scNext : FnScope ["neighbors", "left", "person"] ["neighbors", "left"] (defScope sNext) := ⟨rfl, rfl, rfl, by decide +kernel, rfl, by decide +kernel, by decide +kernel⟩
def spIsGroup : Sp := fun vs H Q _ => ∃ p nb n t ps adj, vs = [.ref p, .ref t] ∧ RowsAt .lst H p nb ∧ GrOk adj n nb ∧ H t = some (.tup (natVs ps)) ∧ (∀ x ∈ ps, x < n) ∧ ∀ b : Bool, (b = true ↔ ∀ x ∈ ps, ∀ y ∈ ps, x < y → adj x y) → Q (.bl b) H
/-- the group of a person among those left -/
def GrpOf (adj : Nat → Nat → Prop) (left : List Nat) (x : Nat) (g : List Nat) : Prop := ∀ y, y ∈ g ↔ y = x ∨ (adj x y ∧ y ∈ left)
def spGroupOf : Sp := fun vs H Q _ => ∃ p nb n q left x adj, vs = [.ref p, .ref q, .int (x : Nat)] ∧ RowsAt .lst H p nb ∧ GrOk adj n nb ∧ H q = some (.lst (natVs left)) ∧ x < n ∧ ∀ H' t g, Same H H' → H' t = some (.tup (natVs g)) → g.length ≤ 25 → GrpOf adj left x g → Q (.ref t) H'
def Simp (adj : Nat → Nat → Prop) (left : List Nat) (p : Nat) : Prop := ∀ x y, (x = p ∨ (adj p x ∧ x ∈ left)) → (y = p ∨ (adj p y ∧ y ∈ left)) → x ≠ y → adj x y
def spNext : Sp := fun vs H Q _ => ∃ p nb n q left adj, vs = [.ref p, .ref q] ∧ RowsAt .lst H p nb ∧ GrOk adj n nb ∧ H q = some (.lst (natVs left)) ∧ (∀ x ∈ left, x < n) ∧ (∃ x ∈ left, Simp adj left x) ∧ ∀ H' (x : Nat), Same H H' → x ∈ left → Simp adj left x → Q (.int (x : Nat)) H'
theorem in_row {K : PySem.W.Frag} {H : Hp} {r : Addr} {l : List Nat} (h : H r = some (.lst (natVs l)) ∨ H r = some (.tup (natVs l))) {x : Nat} {Q : VK} (q : Q (.bl (decide (x ∈ l))) H) : rIn K false (.int (x : Nat)) (.ref r) H Q :=
  ⟨r, _, rfl, h.elim (fun e => .inl (SqL.of e)) (fun e => .inr (SqT.of e)), rfl, flat_nats l, by
    show Q (.bl (inV (.int (x : Nat)) (natVs l))) H
    rw [inV_nat]; exact q⟩
theorem nin_row {K : PySem.W.Frag} {H : Hp} {r : Addr} {l : List Nat} (h : H r = some (.lst (natVs l)) ∨ H r = some (.tup (natVs l))) {x : Nat} {Q : VK} (q : Q (.bl (!decide (x ∈ l))) H) : rIn K true (.int (x : Nat)) (.ref r) H Q :=
  ⟨r, _, rfl, h.elim (fun e => .inl (SqL.of e)) (fun e => .inr (SqT.of e)), rfl, flat_nats l, by
    show Q (.bl (!inV (.int (x : Nat)) (natVs l))) H
    rw [inV_nat]; exact q⟩
theorem RowsAt.get {f : List V → HO} {H : Hp} {p : Addr} {ls : List (List Nat)} (h : RowsAt f H p ls) {i : Nat} {l : List Nat} (e : ls[i]? = some l) : ∃ xs r, H p = some (.lst xs) ∧ xs.length = ls.length ∧ xs[i]? = some (.ref r) ∧ H r = some (f (natVs l)) := by
  obtain ⟨rs, h1, h2, h3⟩ := h
  obtain ⟨r, h4, h5⟩ := h3 i l e
  exact ⟨_, r, h1, by rw [List.length_map, h2], by rw [List.getElem?_map, h4]; rfl, h5⟩
theorem nat_perm {l : List Nat} {ns : List Int} (h : ns.Perm (l.map fun n : Nat => (n : Int))) : ∃ g : List Nat, ns.map V.int = natVs g ∧ g.Perm l ∧ ns = g.map fun n : Nat => (n : Int) := by
  have e : ∀ m : List Nat, (m.map fun n : Nat => (n : Int)).map Int.toNat = m := fun m => by
    rw [List.map_map]
    have : (Int.toNat ∘ fun n : Nat => (n : Int)) = id := funext fun n => Int.toNat_natCast n
    rw [this, List.map_id]
  have p : (ns.map Int.toNat).Perm l := by
    have := h.map Int.toNat
    rw [e] at this; exact this
  have e2 : ns = (ns.map Int.toNat).map fun n : Nat => (n : Int) := by
    rw [List.map_map]
    have : ∀ x ∈ ns, ((fun n : Nat => (n : Int)) ∘ Int.toNat) x = x := fun x hx => by
      obtain ⟨n, _, rfl⟩ := List.mem_map.mp (h.mem_iff.mp hx)
      show ((((n : Nat) : Int).toNat : Nat) : Int) = n
      rw [Int.toNat_natCast]
    exact ((List.map_congr_left this).trans (List.map_id _)).symm
  exact ⟨_, by rw [natVs_eq, ← e2], p, e2⟩
section
variable {P : Program} {w : World} {K : PySem.W.Frag} {mg : Str → Option Value} {base : Heap}
theorem ok_is_group (A : Here K mg "is_group" sIsGroup ["neighbors", "persons"]) : Df P w K mg base "is_group" ["neighbors", "persons"] 1 spIsGroup := by
  refine A.df scIsGroup (fun vs H Q E h => ?_) (fun f cdv A outer sh H vs Q E hr h => ?_)
  · obtain ⟨p, nb, n, t, ps, adj, rfl, _⟩ := h; rfl
  · obtain ⟨p, nb, n, t, ps, adj, rfl, hp, gr, ht, lt, q⟩ := h
    have nd := scIsGroup.nd
    refine ⟨_, pss_cons (ps_for PassesOwn.never rfl (pi_tup (pv 1)) (pg_name (i := 2) nd rfl (.inl rfl))
        (pss_one (ps_for PassesOwn.never rfl (pi_tup (pv 1)) (pg_name (i := 3) nd rfl (.inl rfl))
          (pss_one (ps_if (PW.pt (pw_and (pt_cmpR op_lt (pv 2) (pv 3) (nomark _)) (pw_and1 (pt_cmpR (r := rIn K true) op_notIn_seq (pv 3) (pe_ix (r := rIxL K) ix_list (pv 0) (pv 2) (fun _ _ => rfl)) (by rfl)))))
            (pss_one (ps_ret pe_bl)) pss_nil)))))
      (pss_one (ps_ret pe_bl)), ?_⟩
    refine ⟨_, rfl, t, rfl, ⟨_, SqT.of ht⟩, for_tup (K := K) (a := t) (xs := natVs ps) (fun i σ H1 => ∃ y2 y3, H1 = H ∧ σ = [some (.ref p), some (.ref t), y2, y3] ∧ ∀ x ∈ ps.take i, ∀ y ∈ ps, x < y → adj x y)
      ⟨none, none, rfl, rfl, fun x hx => by simp at hx⟩ (fun i σ H1 _ ⟨_, _, e, _⟩ => by rw [e]; exact SqT.of ht) ?_ ?_⟩
    · rintro i v σ H1 hi ⟨y2, y3, rfl, rfl, all⟩
      obtain ⟨x, hx, rfl⟩ := natVs_of hi
      have xm := List.mem_of_getElem? hx
      have et : ps.take (i + 1) = ps.take i ++ [x] := by rw [List.take_add_one, hx]; rfl
      obtain ⟨l, hl⟩ := gr.get (lt x xm)
      obtain ⟨xs, r, e1, e2, e3, e4⟩ := hp.get hl
      refine ⟨_, rfl, t, rfl, ⟨_, SqT.of ht⟩, for_tup (K := K) (a := t) (xs := natVs ps) (fun j σ H2 => ∃ y3, H2 = H1 ∧ σ = [some (.ref p), some (.ref t), some (.int (x : Nat)), y3] ∧ ∀ y ∈ ps.take j, x < y → adj x y)
        ⟨_, rfl, rfl, fun x hx => by simp at hx⟩ (fun i σ H1 _ ⟨_, e, _⟩ => by rw [e]; exact SqT.of ht) ?_ ?_⟩
      · rintro j v σ H2 hj ⟨y3, rfl, rfl, all2⟩
        obtain ⟨y, hy, rfl⟩ := natVs_of hj
        have ym := List.mem_of_getElem? hy
        have et2 : ps.take (j + 1) = ps.take j ++ [y] := by rw [List.take_add_one, hy]; rfl
        refine ⟨_, rfl, _, rfl, _, _, rfl, rfl, _, rfl, iteD (fun c => ?_) (fun c => ?_)⟩
        · refine ⟨_, rfl, _, rfl, _, rfl, p, xs, _, _, rfl, rfl, SqL.of e1, atI_nat e3, nin_row (.inl e4) ⟨_, rfl, iteDn (fun c2 => ?_) (fun c2 => ?_)⟩⟩
          · refine q false ⟨fun e => (by cases e), fun h => (c2 ((gr.mem x l hl y).mpr (h x xm y ym (by omega)))).elim⟩
          · refine ⟨_, rfl, rfl, fun z hz lt => ?_⟩
            rw [et2] at hz
            rcases List.mem_append.mp hz with hz | hz
            · exact all2 z hz lt
            · rw [List.mem_singleton.mp hz]; exact (gr.mem x l hl y).mp c2
        · refine ⟨_, rfl, rfl, fun z hz lt => ?_⟩
          rw [et2] at hz
          rcases List.mem_append.mp hz with hz | hz
          · exact all2 z hz lt
          · rw [List.mem_singleton.mp hz] at lt
            exact (c (by omega)).elim
      · rintro σ H2 ⟨y3, rfl, rfl, all2⟩
        rw [natVs_len, List.take_length] at all2
        refine ⟨_, _, rfl, rfl, fun z hz => ?_⟩
        rw [et] at hz
        rcases List.mem_append.mp hz with hz | hz
        · exact all z hz
        · rw [List.mem_singleton.mp hz]; exact all2
    · rintro σ H2 ⟨y2, y3, rfl, rfl, all⟩
      rw [natVs_len, List.take_length] at all
      exact q true ⟨fun _ => all, fun _ => rfl⟩
theorem ok_group_of (A : Here K mg "group_of" sGroupOf ["neighbors", "left", "person"]) (T : Top mg) : Df P w K mg base "group_of" ["neighbors", "left", "person"] 1 spGroupOf := by
  refine A.df scGroupOf (fun vs H Q E h => ?_) (fun f cdv A outer sh H vs Q E hr h => ?_)
  · obtain ⟨p, nb, n, q, left, x, adj, rfl, _⟩ := h; rfl
  · obtain ⟨p, nb, n, qa, left, x, adj, rfl, hp, gr, hq, xn, q⟩ := h
    have nd := scGroupOf.nd
    refine ⟨_, pss_one (ps_ret (pe_callTy call_tuple_of rfl T.tuple (by decide +kernel) (pa_cons (pe_callB cr_sortedI rfl T.sorted (by decide +kernel) (pa_cons
      (pe_op op_cat (pe_lst (pa_cons (pv 2) pa_nil)) (pe_lc (own := [("other", 3)]) (g := gName 3) (tt := tTest (tOp (rIn K false) (tVar 3) (tVar 1))) rfl nd (pi_list (pe_ix ix_list (pv 0) (pv 2) (fun _ _ => rfl))) (blkOk_by (N := ["neighbors", "left", "person", "other"]) (sc := defScope sGroupOf) (by decide +kernel))
          (fun _ _ _ _ _ => pg_name (i := 3) nd rfl (.inl rfl)) (fun _ _ _ _ _ => pts_one (pt_cmpR (r := rIn K false) op_in_seq (pv 3) (pv 1) (by rfl))) (fun _ _ _ _ _ => pv 3))) pa_nil)) pa_nil))), ?_⟩
    obtain ⟨l, hl⟩ := gr.get xn
    obtain ⟨xs, r, e1, e2, e3, e4⟩ := hp.get hl
    have ll := gr.small hl
    refine ⟨_, rfl, (by show 1 ≤ sizeLine; decide), fun b nb' => ?_⟩
    have s1 := same_new (H := H) (o := .lst [.int (x : Nat)]) nb'
    have eb : (upd H b (.lst [.int (x : Nat)])) b = some (.lst [.int (x : Nat)]) := upd_same
    generalize upd H b (.lst [.int (x : Nat)]) = Hb at s1 eb ⊢
    refine ⟨_, rfl, _, rfl, p, xs, _, _, rfl, rfl, SqL.of (s1 _ _ e1), atI_nat e3, r, rfl, ⟨_, SqL.of (s1 _ _ e4)⟩, fun D nD => lc_list (K := K) (a := r) (xs := natVs l) (fun i H2 => H2 D = some (.lst (natVs ((l.take i).filter fun y => decide (y ∈ left)))) ∧ Same Hb H2)
      ⟨upd_same, same_new nD⟩ (fun i H2 _ ⟨_, sm2⟩ => SqL.of (sm2 _ _ (s1 _ _ e4))) ?_ ?_⟩
    · rintro i v H2 hi ⟨e5, sm2⟩
      obtain ⟨y, hy, rfl⟩ := natVs_of hi
      have il := (List.getElem?_eq_some_iff.mp hy).1
      have et : l.take (i + 1) = l.take i ++ [y] := by rw [List.take_add_one, hy]; rfl
      refine ⟨rfl, _, rfl, _, rfl, in_row (.inl (sm2 _ _ (s1 _ _ hq))) ⟨_, rfl, iteD (fun c => ?_) (fun c => ?_)⟩⟩
      · refine ⟨_, rfl, _, e5, small1000 ?_, ?_, fun q' u eu => ?_⟩
        · rw [natVs_len]
          have := List.length_filter_le (fun x => decide (x ∈ left)) (l.take i)
          rw [List.length_take] at this
          omega
        · rw [upd_same, et, List.filter_append, natVs_app]
          simp [c, natVs]
        · rw [upd_ne (ne_of_none eu nD)]
          exact sm2 _ _ eu
      · refine ⟨?_, sm2⟩
        rw [e5, et, List.filter_append]
        simp [c]
    · rintro H2 ⟨e5, sm2⟩
      rw [natVs_len, List.take_length] at e5
      have lf := List.length_filter_le (fun y => decide (y ∈ left)) l
      refine ⟨b, D, _, _, rfl, rfl, sm2 _ _ eb, e5, Nat.le_of_lt (small1000 (by rw [natVs_len]; simp; omega)), fun z nz => ?_⟩
      have s3 := same_new (o := .lst ([.int (x : Nat)] ++ natVs (l.filter fun y => decide (y ∈ left)))) nz
      have e6 : [V.int (x : Nat)] ++ natVs (l.filter fun y => decide (y ∈ left)) = ((x :: l.filter fun y => decide (y ∈ left)).map fun n : Nat => (n : Int)).map V.int := by
        rw [← natVs_eq]; rfl
      refine ⟨z, _, rfl, SqL.of (by rw [upd_same, e6]), fun ns' z2 pm pw nz2 => ?_⟩
      have s4 := same_new (o := .lst (ns'.map V.int)) nz2
      obtain ⟨g, g1, g2, _⟩ := nat_perm pm
      refine ⟨z2, _, rfl, .inl ⟨SqL.of upd_same, fun t nt => ?_⟩⟩
      have s5 := same_new (o := .tup (ns'.map V.int)) nt
      refine q _ t g (s1.trans (sm2.trans (s3.trans (s4.trans s5)))) (by rw [upd_same, g1]) ?_ fun y => ?_
      · have := g2.length_eq
        rw [List.length_cons] at this
        omega
      · rw [g2.mem_iff, List.mem_cons, List.mem_filter, gr.mem x l hl y]
        simp
theorem ok_next (A : Here K mg "next_person" sNext ["neighbors", "left"]) (DI : Df P w K mg base "is_group" ["neighbors", "persons"] 1 spIsGroup) (DG : Df P w K mg base "group_of" ["neighbors", "left", "person"] 1 spGroupOf) : Df P w K mg base "next_person" ["neighbors", "left"] 2 spNext := by
  refine A.df scNext (fun vs H Q E h => ?_) (fun f cdv A outer sh H vs Q E hr h => ?_)
  · obtain ⟨p, nb, n, q, left, adj, rfl, _⟩ := h; rfl
  · obtain ⟨p, nb, n, qa, left, adj, rfl, hp, gr, hq, lt, ⟨x0, x0m, x0s⟩, q⟩ := h
    have nd := scNext.nd
    refine ⟨_, pss_cons (ps_for PassesOwn.never rfl (pi_list (pv 1)) (pg_name (i := 2) nd rfl (.inl rfl))
        (pss_one (ps_if (pt_val (pe_df DI hr rfl (pa_cons (pv 0) (pa_cons (pe_df DG hr rfl (pa_cons (pv 0) (pa_cons (pv 1) (pa_cons (pv 2) pa_nil)))) pa_nil)))) (pss_one (ps_ret (pv 2))) pss_nil)))
      (pss_one (ps_ret pe_non)), ?_⟩
    refine ⟨_, rfl, qa, rfl, ⟨_, SqL.of hq⟩, for_list (K := K) (a := qa) (xs := natVs left) (fun i σ H1 => ∃ y2, σ = [some (.ref p), some (.ref qa), y2] ∧ Same H H1 ∧ x0 ∉ left.take i)
      ⟨none, rfl, Same.refl _, by simp⟩ (fun i σ H1 _ ⟨_, _, sm, _⟩ => SqL.of (sm _ _ hq)) ?_ ?_⟩
    · rintro i v σ H1 hi ⟨y2, rfl, sm, no⟩
      obtain ⟨x, hx, rfl⟩ := natVs_of hi
      have xm := List.mem_of_getElem? hx
      have et : left.take (i + 1) = left.take i ++ [x] := by rw [List.take_add_one, hx]; rfl
      refine ⟨_, rfl, _, rfl, _, rfl, _, rfl, p, nb, n, qa, left, x, adj, rfl, hp.mono sm, gr, sm _ _ hq, lt x xm, fun H2 t g sm2 et2 _ hg => ?_⟩
      refine ⟨p, nb, n, t, g, adj, rfl, (hp.mono sm).mono sm2, gr, et2, fun y hy => ?_, fun b hb => ⟨_, rfl, ?_⟩⟩
      · rcases (hg y).mp hy with rfl | h
        · exact lt _ xm
        · exact lt _ h.2
      have si : b = true ↔ Simp adj left x := by
        rw [hb]
        constructor
        · intro h y z hy hz ne
          rcases Nat.lt_or_gt_of_ne ne with l | l
          · exact h y ((hg y).mpr hy) z ((hg z).mpr hz) l
          · exact gr.sy _ _ (h z ((hg z).mpr hz) y ((hg y).mpr hy) l)
        · intro h y hy z hz l
          exact h y z ((hg y).mp hy) ((hg z).mp hz) (Nat.ne_of_lt l)
      cases b with
      | true => exact iteT ⟨_, rfl, q H2 x (sm.trans sm2) xm (si.mp rfl)⟩
      | false =>
        refine iteF ⟨_, rfl, sm.trans sm2, fun hm => ?_⟩
        rw [et] at hm
        rcases List.mem_append.mp hm with hm | hm
        · exact no hm
        · rw [List.mem_singleton.mp hm] at x0s
          exact Bool.noConfusion (si.mpr x0s)
    · rintro σ H1 ⟨y2, rfl, sm, no⟩
      rw [natVs_len, List.take_length] at no
      exact (no x0m).elim
end
end Up
end
section
set_option Elab.async false
set_option linter.all false
set_option maxRecDepth 100000
set_option maxHeartbeats 4000000
namespace Up
open PySem PySem.Spec PyProof.Rows L2
/-! ### greatest_groups -/
abbrev sGreat : Stmt := topS 36
theorem scGreat : FnScope ["neighbors", "left", "found", "person", "group", "other", "one"] ["neighbors"] (defScope sGreat) := ⟨rfl, rfl, rfl, by decide +kernel, rfl, by decide +kernel, by decide +kernel⟩
/-- the block of the outer comprehension -/
def scOther0 : Scope := match defBody sGreat with
  | _ :: _ :: .While _ (_ :: _ :: _ :: .If (.UnaryOp _ (.Call _ (.ListComp _ _ sc _ :: _) _ _) _) _ _ _ :: _) _ _ :: _ => sc
  | _ => defScope sGreat
def scOther : Scope := { scOther0 with names := scOther0.names.map fun p => if p.1 = ("group" : Str) then (p.1, .cell) else p }
def spGreat : Sp := fun vs H Q _ => ∃ p nb n adj lo hi, vs = [.ref p] ∧ RowsAt .lst H p nb ∧ GrOk adj n nb ∧ Gr.Mdl adj (fun x => x < n) lo hi ∧ ∀ H' a gs, Same H H' → RowsAt .tup H' a gs → Gr.Grps adj n gs → Q (.ref a) H'
theorem map_erase_nat (x : Nat) : ∀ l : List Nat, (l.map fun n : Nat => (n : Int)).erase (x : Int) = (l.erase x).map fun n : Nat => (n : Int)
  | [] => rfl
  | y :: l => by
    by_cases e : y = x
    · subst e
      simp
    · have : ((y : Nat) : Int) ≠ (x : Nat) := fun h => e (by omega)
      rw [List.map_cons, List.erase_cons_tail (by simpa using this), List.erase_cons_tail (by simpa using e), List.map_cons, map_erase_nat x l]
theorem any_map_id {α : Type} (f : α → Bool) (l : List α) : (l.map f).any id = l.any f := by induction l <;> simp_all
theorem all_map_id {α : Type} (f : α → Bool) (l : List α) : (l.map f).all id = l.all f := by induction l <;> simp_all
theorem RowsAt.snoc {f : List V → HO} {H : Hp} {p : Addr} {ls : List (List Nat)} {rs : List Addr} (lr : rs.length = ls.length) (h : ∀ (i : Nat) l, ls[i]? = some l → ∃ r, rs[i]? = some r ∧ H r = some (f (natVs l))) {t : Addr} {g : List Nat} (ht : H t = some (f (natVs g))) (hp : H p = some (.lst ((rs ++ [t]).map V.ref))) : RowsAt f H p (ls ++ [g]) := by
  refine ⟨rs ++ [t], hp, by simp [lr], fun i l e => ?_⟩
  by_cases h' : i < ls.length
  · rw [List.getElem?_append_left h'] at e
    obtain ⟨r, h1, h2⟩ := h i l e
    exact ⟨r, by rw [List.getElem?_append_left (by omega)]; exact h1, h2⟩
  · rw [List.getElem?_append_right (by omega)] at e
    by_cases h2 : i = ls.length
    · subst h2
      simp at e
      subst e
      exact ⟨t, by rw [List.getElem?_append_right (by omega), lr]; simp, ht⟩
    · rw [List.getElem?_eq_none (by simp; omega)] at e; cases e
section
variable {P : Program} {w : World} {K : PySem.W.Frag} {mg : Str → Option Value} {base : Heap}
theorem ok_great (A : Here K mg "greatest_groups" sGreat ["neighbors"]) (T : Top mg) (DN : Df P w K mg base "next_person" ["neighbors", "left"] 2 spNext) (DG : Df P w K mg base "group_of" ["neighbors", "left", "person"] 1 spGroupOf) : Df P w K mg base "greatest_groups" ["neighbors"] 3 spGreat := by
  refine A.df scGreat (fun vs H Q E h => ?_) (fun f cdv A outer sh H vs Q E hr h => ?_)
  · obtain ⟨p, nb, n, adj, lo, hi, rfl, _⟩ := h; rfl
  · obtain ⟨p, nb, n, adj, lo, hi, rfl, hp, gr, md, q⟩ := h
    have nd := scGreat.nd
    have hG : Room 1 _ := hr.mono (by decide)
    refine ⟨_, pss_cons (ps_set (i := 1) nd rfl (.inl rfl) (pe_listRg rfl rfl T.list (prg_1 rfl T.range (pe_callB call_len_seq rfl T.len PySem.boot_len (pa_cons (pv 0) pa_nil)))))
      (pss_cons (ps_set (i := 2) nd rfl (.inl rfl) (pe_lst pa_nil))
      (pss_cons (ps_while PassesOwn.never (pt_cmpR (op_neNil hr.units0) (pv 1) (pe_lst pa_nil) (nomark _))
        (pss_cons (ps_set (i := 3) nd rfl (.inl rfl) (pe_df DN hr rfl (pa_cons (pv 0) (pa_cons (pv 1) pa_nil))))
        (pss_cons (ps_if (pt_cmpR op_isN (pv 3) pe_non (nomark _)) (pss_one (ps_ret pe_non)) pss_nil)
        (pss_cons (ps_set (i := 4) nd rfl (.inr rfl) (pe_df DG hG rfl (pa_cons (pv 0) (pa_cons (pv 1) (pa_cons (pv 3) pa_nil)))))
        (C8.pss_cut (ps_if (pt_not (pt_val (pe_callB (cr_any rfl) rfl T.any (by decide +kernel) (pa_cons
            (pe_lc (own := [("other", 5)]) (g := gName 5) (tt := tYes) (te := tCB (rAll K) (tCons (tLc (iTup K (tVar 4)) (gName 6) tYes (tOp (rIn K false) (tVar 6) (tVar 5)) [6]) tNil)) rfl nd (pi_list (pv 2)) (blkOk_by (N := ["neighbors", "left", "found", "person", "group", "other", "one"]) (sc := defScope sGreat) (by decide +kernel))
              (fun _ _ _ _ _ => pg_name (i := 5) nd rfl (.inr rfl)) (fun _ _ _ _ _ => pts_nil) (fun _ _ _ _ _ => pe_callB (cr_all rfl) rfl T.all (by decide +kernel) (pa_cons
                (pe_lc (own := [("one", 6)]) (g := gName 6) (tt := tYes) (te := tOp (rIn K false) (tVar 6) (tVar 5)) rfl nd (pi_tup (pv 4)) (blkOk_by (N := ["neighbors", "left", "found", "person", "group", "other", "one"]) (sc := scOther) (by decide +kernel))
                  (fun _ _ _ _ _ => pg_name (i := 6) nd rfl (.inl rfl)) (fun _ _ _ _ _ => pts_nil) (fun _ _ _ _ _ => pe_cmpR (r := rIn K false) op_in_seq (pv 6) (pv 5) (by rfl))) pa_nil))) pa_nil))))
          (pss_one (ps_expr (pe_bm PySem.F.plainAttrs_list PySem.F.slot_list_append PySem.F.type_list_append mt_append (pv 2) (pa_cons (pv 4) pa_nil)))) pss_nil)
        (pss_one (ps_expr (pe_bm PySem.F.plainAttrs_list PySem.F.slot_list_remove PySem.F.type_list_remove mt_remove (pv 1) (pa_cons (pv 3) pa_nil)))))))))
      (pss_one (ps_ret (pv 2))))), ?_⟩
    obtain ⟨rs, e1, e2, e3⟩ := id hp
    have ln : (rs.map V.ref).length = n := by rw [List.length_map, e2, gr.len]
    have n24 := gr.n24
    have erg : rgV 0 (((rs.map V.ref).length : Nat) : Int) = natVs (List.range n) := by
      unfold rgV natVs
      rw [ln, show ((n : Int) - 0).toNat = n by omega]
      exact List.map_congr_left fun i _ => by rw [Int.zero_add]
    refine ⟨_, rfl, p, _, rfl, .inl (SqL.of e1), _, rfl, RgOk.of_le (by omega) (by omega) (by omega) (by omega), fun L nL => ?_⟩
    rw [erg]
    have s1 := same_new (o := .lst (natVs (List.range n))) nL
    refine ⟨Nat.zero_le _, fun F nF => ?_⟩
    have s2 := same_new (o := .lst []) nF
    have hL : ¬ ∃ u, H L = some u := fun ⟨u, e⟩ => by rw [e] at nL; cases nL
    have LF : L ≠ F := fun e => by rw [← e, upd_same] at nF; cases nF
    have hF : ¬ ∃ u, H F = some u := fun ⟨u, e⟩ => by
      have := s1 _ _ e
      rw [this] at nF; cases nF
    refine ⟨fun m σ H1 => ∃ left found y3 y4 y5 y6, m = left.length ∧ σ = [some (.ref p), some (.ref L), some (.ref F), y3, y4, y5, y6] ∧ Same H H1 ∧ H1 L = some (.lst (natVs left)) ∧ RowsAt .tup H1 F found ∧ Gr.GInv adj n left found,
      ⟨n, List.range n, [], none, none, none, none, by simp, rfl, s1.trans s2, s2 _ _ upd_same, ⟨[], upd_same, rfl, fun i l e => by simp at e⟩, Gr.GInv.start adj n⟩, ?_⟩
    rintro m σ H1 ⟨left, found, y3, y4, y5, y6, rfl, rfl, sm1, eL, ⟨fs, eF, lfs, hfs⟩, gi⟩
    -- while left != []
    refine ⟨_, rfl, Nat.zero_le _, fun z0 nz0 => ⟨L, z0, _, rfl, rfl, SqL.of (same_new nz0 _ _ eL), SqL.of upd_same, _, rfl, ?_⟩⟩
    have sz := same_new (o := .lst []) nz0
    have sm2 := sm1.trans sz
    have eL2 := sz _ _ eL
    have eF2 := sz _ _ eF
    have hfs2 : ∀ (i : Nat) l, found[i]? = some l → ∃ r, fs[i]? = some r ∧ (upd H1 z0 (.lst [])) r = some (.tup (natVs l)) := fun i l e => by
      obtain ⟨r, h1, h2⟩ := hfs i l e
      exact ⟨r, h1, sz _ _ h2⟩
    generalize upd H1 z0 (.lst []) = H2 at sm2 eL2 eF2 hfs2 ⊢
    clear sz sm1 eL eF hfs nz0
    refine ite2 (fun c1 => ?_) (fun c1 => ?_)
    · have ne : left ≠ [] := fun e => by rw [e] at c1; exact Bool.noConfusion c1
      refine ⟨fun σ' H' => ∃ left' found' y3 y4 y5 y6, left'.length < left.length ∧ σ' = [some (.ref p), some (.ref L), some (.ref F), y3, y4, y5, y6] ∧ Same H H' ∧ H' L = some (.lst (natVs left')) ∧ RowsAt .tup H' F found' ∧ Gr.GInv adj n left' found',
        fun σ' H' ⟨left', found', y3, y4, y5, y6, lt, e, a, b, c, d⟩ => ⟨_, lt, left', found', y3, y4, y5, y6, rfl, e, a, b, c, d⟩, ?_⟩
      -- person = next_person(neighbors, left)
      refine ⟨_, rfl, _, rfl, p, nb, n, L, left, adj, rfl, hp.mono sm2, gr, eL2, gi.lt, Gr.simplicial md gi.lt ne, fun H3 x sm3 xm xs => ?_⟩
      refine ⟨_, rfl, rfl, _, rfl, ite2 (fun c => absurd (of_decide_eq_true c) (fun e => nomatch e)) (fun _ => ?_)⟩
      -- group = group_of(neighbors, left, person)
      refine ⟨_, rfl, _, rfl, _, rfl, p, nb, n, L, left, x, adj, rfl, (hp.mono sm2).mono sm3, gr, sm3 _ _ eL2, gi.lt x xm, fun H4 t g sm4 et lg hg => ?_⟩
      have sm24 := sm3.trans sm4
      have sm04 := sm2.trans sm24
      have clq : ∀ y ∈ g, ∀ z ∈ g, y ≠ z → adj y z := fun y hy z hz => xs y z ((hg y).mp hy) ((hg z).mp hz)
      have lfn : found.length ≤ 24 := by
        have := gi.len
        omega
      -- the word between the if and the remove
      refine ⟨fun σ' H' => ∃ found' y4 y5 y6, σ' = [some (.ref p), some (.ref L), some (.ref F), some (.int (x : Nat)), y4, y5, y6] ∧ Same H H' ∧ H' L = some (.lst (natVs left)) ∧ RowsAt .tup H' F found' ∧
        (((∃ o ∈ found, ∀ x ∈ g, x ∈ o) ∧ found' = found) ∨ ((¬ ∃ o ∈ found, ∀ x ∈ g, x ∈ o) ∧ found' = found ++ [g])), ?_, ?_⟩
      · have eF4 := sm24 _ _ eF2
        have eL4 := sm24 _ _ eL2
        refine ⟨_, rfl, F, rfl, ⟨_, SqL.of eF4⟩, fun D nD => lc_list (K := K) (a := F) (xs := fs.map V.ref) (fun i H5 => H5 D = some (.lst (((found.take i).map fun o => g.all fun y => decide (y ∈ o)).map V.bl)) ∧ Same H4 H5)
          ⟨upd_same, same_new nD⟩ (fun i H5 _ ⟨_, sm5⟩ => SqL.of (sm5 _ _ eF4)) ?_ ?_⟩
        · rintro i v H5 hi ⟨e5, sm5⟩
          have il : i < found.length := by
            have := (List.getElem?_eq_some_iff.mp hi).1
            rw [List.length_map] at this; omega
          have ho : found[i]? = some found[i] := List.getElem?_eq_getElem il
          obtain ⟨r, h1, h2⟩ := hfs2 i _ ho
          have ev : v = .ref r := by
            rw [List.getElem?_map, h1] at hi
            exact (Option.some.inj hi).symm
          subst ev
          have et' : found.take (i + 1) = found.take i ++ [found[i]] := by rw [List.take_add_one, ho]; rfl
          refine ⟨rfl, yes ⟨_, rfl, t, rfl, ⟨_, SqT.of (sm5 _ _ et)⟩, fun D2 nD2 => lc_tup (K := K) (a := t) (xs := natVs g) (fun j H6 => H6 D2 = some (.lst (((g.take j).map fun y => decide (y ∈ found[i])).map V.bl)) ∧ Same H5 H6)
            ⟨upd_same, same_new nD2⟩ (fun j H6 _ ⟨_, sm6⟩ => SqT.of (sm6 _ _ (sm5 _ _ et))) ?_ ?_⟩⟩
          · rintro j v H6 hj ⟨e6, sm6⟩
            obtain ⟨y, hy, rfl⟩ := natVs_of hj
            have jl := (List.getElem?_eq_some_iff.mp hy).1
            have et2 : g.take (j + 1) = g.take j ++ [y] := by rw [List.take_add_one, hy]; rfl
            refine ⟨rfl, yes ⟨_, rfl, _, rfl, in_row (.inr (sm6 _ _ (sm5 _ _ (sm24 _ _ h2)))) ⟨_, e6, small1000 (by rw [List.length_map, List.length_map, List.length_take]; omega), ?_, fun q' u eu => ?_⟩⟩⟩
            · rw [upd_same, et2]
              simp
            · rw [upd_ne (ne_of_none eu nD2)]
              exact sm6 _ _ eu
          · rintro H6 ⟨e6, sm6⟩
            rw [natVs_len, List.take_length] at e6
            refine ⟨D2, _, rfl, SqL.of e6, _, sm6 _ _ e5, small1000 (by rw [List.length_map, List.length_map, List.length_take]; omega), ?_, fun q' u eu => ?_⟩
            · rw [upd_same, et', all_map_id]
              simp only [List.map_append, List.map_cons, List.map_nil]
            · rw [upd_ne (ne_of_none eu nD)]
              exact sm6 _ _ (sm5 _ _ eu)
        · rintro H5 ⟨e5, sm5⟩
          rw [List.length_map, lfs, List.take_length] at e5
          have key : (found.map fun o => g.all fun y => decide (y ∈ o)).any id = true ↔ ∃ o ∈ found, ∀ x ∈ g, x ∈ o := by
            rw [any_map_id, List.any_eq_true]
            constructor
            · rintro ⟨o, ho, h⟩
              exact ⟨o, ho, fun y hy => of_decide_eq_true (List.all_eq_true.mp h y hy)⟩
            · rintro ⟨o, ho, h⟩
              exact ⟨o, ho, List.all_eq_true.mpr fun y hy => decide_eq_true (h y hy)⟩
          have sm05 := sm04.trans sm5
          have eF5 := sm5 _ _ eF4
          have eL5 := sm5 _ _ eL4
          have hfs5 : ∀ (i : Nat) l, found[i]? = some l → ∃ r, fs[i]? = some r ∧ H5 r = some (.tup (natVs l)) := fun i l e => by
            obtain ⟨r, h1, h2⟩ := hfs2 i l e
            exact ⟨r, h1, sm5 _ _ (sm24 _ _ h2)⟩
          refine ⟨D, _, rfl, SqL.of e5, _, rfl, ?_⟩
          cases hc : (found.map fun o => g.all fun y => decide (y ∈ o)).any id with
          | true => exact iteF ⟨found, _, _, _, rfl, sm05, eL5, ⟨fs, eF5, lfs, hfs5⟩, .inl ⟨key.mp hc, rfl⟩⟩
          | false =>
            have no : ¬ ∃ o ∈ found, ∀ x ∈ g, x ∈ o := fun h => by rw [key.mpr h] at hc; cases hc
            refine iteT ⟨_, rfl, .inl ⟨rfl, _, SqL.of eF5⟩, _, rfl, F, _, _, rfl, rfl, eF5, small1000 (by rw [List.length_map]; omega), ?_⟩
            have tF : t ≠ F := fun e => by
              have := et
              rw [e, eF4] at this; cases this
            refine ⟨found ++ [g], _, _, _, rfl, fun b u e => ?_, by rw [upd_ne LF]; exact eL5, RowsAt.snoc (t := t) lfs (fun i l e => ?_) ?_ (by rw [upd_same, List.map_append]; rfl), .inr ⟨no, rfl⟩⟩
            · have bF : b ≠ F := fun e' => hF (by rw [← e']; exact ⟨u, e⟩)
              rw [upd_ne bF]; exact sm05 _ _ e
            · obtain ⟨r, h1, h2⟩ := hfs5 i l e
              have rF : r ≠ F := fun e' => by rw [e', eF5] at h2; cases h2
              exact ⟨r, h1, by rw [upd_ne rF]; exact h2⟩
            · rw [upd_ne tF]; exact sm5 _ _ et
      · rintro σ' H' ⟨found', y4, y5, y6, rfl, sm5, eL5, rw5, hf⟩
        obtain ⟨j, j1, j2, j3, j4⟩ := first_at (ns := left.map fun n : Nat => (n : Int)) (k := (x : Int)) (List.mem_map.mpr ⟨x, xm, rfl⟩)
        refine ⟨_, rfl, .inl ⟨rfl, _, SqL.of eL5⟩, _, rfl, L, _, _, j, rfl, rfl, by rw [eL5, natVs_eq], j2, fun m hm => j3 m hm, ?_⟩
        rw [j4, map_erase_nat, ← natVs_eq]
        obtain ⟨fs', eF', lfs', hfs'⟩ := rw5
        refine ⟨left.erase x, found', _, _, _, _, ?_, rfl, fun b u e => ?_, upd_same, ⟨fs', ?_, lfs', fun i l e => ?_⟩, Gr.GInv.step gr.sy gr.ir gi xm hg clq hf⟩
        · rw [List.length_erase_of_mem xm]
          have := List.length_pos_of_mem xm
          omega
        · have bL : b ≠ L := fun e' => hL (by rw [← e']; exact ⟨u, e⟩)
          rw [upd_ne bL]; exact sm5 _ _ e
        · rw [upd_ne (Ne.symm LF)]; exact eF'
        · obtain ⟨r, h1, h2⟩ := hfs' i l e
          have rL : r ≠ L := fun e' => by rw [e', eL5] at h2; cases h2
          exact ⟨r, h1, by rw [upd_ne rL]; exact h2⟩
    · have e0 : left = [] := by
        cases left with
        | nil => rfl
        | cons a r => exact (c1 rfl).elim
      subst e0
      exact ⟨_, rfl, q H2 F found sm2 ⟨fs, eF2, lfs, hfs2⟩ (Gr.GInv.end gr.sy gr.ir gi)⟩
end
end Up
end
section
set_option Elab.async false
set_option linter.all false
set_option maxRecDepth 100000
set_option maxHeartbeats 4000000
namespace Up
open PySem PySem.Spec PyProof.Rows L2
/-! ### ring_through, find_ring -/
abbrev sRing : Stmt := topS 38
abbrev sFindRing : Stmt := topS 39
theorem scRing : FnScope ["neighbors", "person", "one", "other", "barred", "way", "third"] ["neighbors", "person", "one", "other"] (defScope sRing) := ⟨rfl, rfl, rfl, by decide +kernel, rfl, by decide +kernel, by decide +kernel⟩
theorem scFindRing : FnScope ["neighbors", "person", "told", "one", "other", "ring"] ["neighbors"] (defScope sFindRing) := ⟨rfl, rfl, rfl, by decide +kernel, rfl, by decide +kernel, by decide +kernel⟩
/-- where the ring through v, x, y may run -/
def RSet (adj : Nat → Nat → Prop) (v x y : Nat) : Nat → Prop := fun z => z = x ∨ z = y ∨ (z ≠ v ∧ ¬ adj v z)
def RingAt (adj : Nat → Nat → Prop) (n : Nat) (H : Hp) (v : V) : Prop := ∃ q r, v = .ref q ∧ H q = some (.tup (natVs r)) ∧ r.length ≤ 25 ∧ Gr.RingOk adj n r ∧ ¬ Gr.NoRing adj
def spRing : Sp := fun vs H Q _ => ∃ p nb n v s g adj, vs = [.ref p, .int (v : Nat), .int (s : Nat), .int (g : Nat)] ∧ RowsAt .lst H p nb ∧ GrOk adj n nb ∧ adj v s ∧ adj v g ∧ s ≠ g ∧ ¬ adj s g ∧
  ∀ H' u, Same H H' → ((u = .non ∧ ¬ Gr.Reach adj (RSet adj v s g) s g) ∨ RingAt adj n H' u) → Q u H'
def spFindRing : Sp := fun vs H Q _ => ∃ p nb n adj, vs = [.ref p] ∧ RowsAt .lst H p nb ∧ GrOk adj n nb ∧ ∀ H' u, Same H H' → ((u = .non ∧ Gr.NoRing adj) ∨ RingAt adj n H' u) → Q u H'
theorem vint_eq {a b : Nat} : (V.int (a : Nat) = V.int (b : Nat)) ↔ a = b := ⟨fun h => by
  have := V.int.inj h
  omega, fun h => by rw [h]⟩
section
variable {P : Program} {w : World} {K : PySem.W.Frag} {mg : Str → Option Value} {base : Heap}
theorem ok_ring (A : Here K mg "ring_through" sRing ["neighbors", "person", "one", "other"]) (DW : Df P w K mg base "shortest_way" ["neighbors", "start", "goal", "barred"] 1 spWay) : Df P w K mg base "ring_through" ["neighbors", "person", "one", "other"] 2 spRing := by
  refine A.df scRing (fun vs H Q E h => ?_) (fun f cdv A outer sh H vs Q E hr h => ?_)
  · obtain ⟨p, nb, n, v, s, g, adj, rfl, _⟩ := h; rfl
  · obtain ⟨p, nb, n, v, s, g, adj, rfl, hp, gr, vs, vg, sg, nsg, q⟩ := h
    have nd := scRing.nd
    refine ⟨_, pss_cons (ps_setLc (i := 4) (own := [("third", 6)]) (g := gName 6) (tt := tAnd (tTest (tOp rNe (tVar 6) (tVar 2))) (tTest (tOp rNe (tVar 6) (tVar 3)))) rfl nd rfl rfl (sw_true rfl rfl rfl (by decide +kernel)) (pi_list (pe_ix ix_list (pv 0) (pv 1) (fun _ _ => rfl))) (blkOk_by (N := ["neighbors", "person", "one", "other", "barred", "way", "third"]) (sc := defScope sRing) (by decide +kernel))
        (fun _ _ _ _ _ => pg_name (i := 6) nd rfl (.inl rfl)) (fun _ _ _ _ _ => pts_one (PW.pt (pw_and (pt_cmpR (r := rNe) op_ne (pv 6) (pv 2) (nomark _)) (pw_and1 (pt_cmpR (r := rNe) op_ne (pv 6) (pv 3) (nomark _)))))) (fun _ _ _ _ _ => pv 6))
      (pss_cons (ps_set (i := 5) nd rfl (.inl rfl) (pe_df DW hr rfl (pa_cons (pv 0) (pa_cons (pv 2) (pa_cons (pv 3) (pa_cons (pe_op op_cat (pv 4) (pe_lst (pa_cons (pv 1) pa_nil))) pa_nil))))))
      (pss_cons (ps_if (pt_cmpR op_isN (pv 5) pe_non (nomark _)) (pss_one (ps_ret pe_non)) pss_nil)
      (pss_one (ps_ret (pe_op op_catA (pe_tup (pa_cons (pv 1) pa_nil)) (pv 5)))))), ?_⟩
    have vn := (gr.lt v s vs).1
    have sn := (gr.lt v s vs).2
    have gn := (gr.lt v g vg).2
    obtain ⟨l, hl⟩ := gr.get vn
    obtain ⟨xs, r, e1, e2, e3, e4⟩ := hp.get hl
    have ll := gr.small hl
    refine ⟨_, rfl, _, rfl, p, xs, _, _, rfl, rfl, SqL.of e1, atI_nat e3, r, rfl, ⟨_, SqL.of e4⟩, fun D nD => lc_list (K := K) (a := r) (xs := natVs l) (fun i H2 => H2 D = some (.lst (natVs ((l.take i).filter fun z => decide (z ≠ s ∧ z ≠ g)))) ∧ Same H H2)
      ⟨upd_same, same_new nD⟩ (fun i H2 _ ⟨_, sm2⟩ => SqL.of (sm2 _ _ e4)) ?_ ?_⟩
    · rintro i y H2 hi ⟨e5, sm2⟩
      obtain ⟨z, hz, rfl⟩ := natVs_of hi
      have il := (List.getElem?_eq_some_iff.mp hz).1
      have et : l.take (i + 1) = l.take i ++ [z] := by rw [List.take_add_one, hz]; rfl
      have skip : ¬ (z ≠ s ∧ z ≠ g) → H2 D = some (.lst (natVs ((l.take (i + 1)).filter fun z => decide (z ≠ s ∧ z ≠ g)))) := fun c => by
        have ef : List.filter (fun z => decide (z ≠ s ∧ z ≠ g)) [z] = [] := by rw [List.filter_cons, if_neg (by simpa using c)]; rfl
        rw [e5, et, List.filter_append, ef, List.append_nil]
      refine ⟨rfl, _, rfl, _, rfl, rfl, _, rfl, iteDn (fun c => ?_) (fun c => ?_)⟩
      · refine ⟨_, rfl, _, rfl, rfl, _, rfl, iteDn (fun c2 => ?_) (fun c2 => ?_)⟩
        · have cz : z ≠ s ∧ z ≠ g := ⟨fun h => c (by rw [h]), fun h => c2 (by rw [h])⟩
          refine ⟨_, rfl, _, e5, small1000 ?_, ?_, fun q' u eu => ?_⟩
          · rw [natVs_len]
            have := List.length_filter_le (fun z => decide (z ≠ s ∧ z ≠ g)) (l.take i)
            rw [List.length_take] at this
            omega
          · have ef : List.filter (fun z => decide (z ≠ s ∧ z ≠ g)) [z] = [z] := by rw [List.filter_cons, if_pos (decide_eq_true cz)]; rfl
            rw [upd_same, et, List.filter_append, ef, natVs_app]; rfl
          · rw [upd_ne (ne_of_none eu nD)]
            exact sm2 _ _ eu
        · exact ⟨skip fun h => h.2 (vint_eq.mp c2), sm2⟩
      · exact ⟨skip fun h => h.1 (vint_eq.mp c), sm2⟩
    · rintro H2 ⟨e5, sm2⟩
      rw [natVs_len, List.take_length] at e5
      have lf := List.length_filter_le (fun z => decide (z ≠ s ∧ z ≠ g)) l
      refine ⟨_, rfl, _, rfl, _, rfl, _, rfl, _, rfl, (by show 1 ≤ sizeLine; decide), fun b nb' => ?_⟩
      have s3 := same_new (o := .lst [.int (v : Nat)]) nb'
      refine ⟨D, b, _, _, rfl, rfl, s3 _ _ e5, upd_same, Nat.le_of_lt (small1000 (by rw [natVs_len]; show _ + 1 ≤ 1000; omega)), fun z nz => ?_⟩
      have s4 := same_new (o := .lst (natVs (l.filter fun z => decide (z ≠ s ∧ z ≠ g)) ++ [.int (v : Nat)])) nz
      have ebar : ∀ y, y ∈ (l.filter fun z => decide (z ≠ s ∧ z ≠ g)) ++ [v] ↔ ¬ RSet adj v s g y := fun y => by
        have ir : ¬ adj v v := gr.ir v
        rw [List.mem_append, List.mem_filter, List.mem_singleton, gr.mem v l hl y]
        unfold RSet
        constructor
        · intro h hR
          rcases h with ⟨h1, h2⟩ | h1
          · have h2 := of_decide_eq_true h2
            rcases hR with h | h | h
            · exact h2.1 h
            · exact h2.2 h
            · exact h.2 h1
          · subst h1
            rcases hR with h | h | h
            · exact ir (h ▸ vs)
            · exact ir (h ▸ vg)
            · exact h.1 rfl
        · intro h
          by_cases c : y = v
          · exact .inr c
          · refine .inl ⟨?_, decide_eq_true ⟨fun e => h (.inl e), fun e => h (.inr (.inl e))⟩⟩
            apply Classical.byContradiction
            intro c2
            exact h (.inr (.inr ⟨c, c2⟩))
      have s24 := sm2.trans (s3.trans s4)
      refine ⟨p, nb, n, z, (l.filter fun z => decide (z ≠ s ∧ z ≠ g)) ++ [v], s, g, adj, rfl, hp.mono s24, gr, by rw [upd_same, natVs_app]; rfl, sn, fun H5 u sm5 wa => ?_⟩
      have s25 := s24.trans sm5
      rcases wa with ⟨rfl, no⟩ | ⟨qa, ws, rfl, eq, wo⟩
      · refine ⟨_, rfl, rfl, _, rfl, ite2 (fun _ => ?_) (fun c => absurd (by decide) c)⟩
        refine q H5 .non s25 (.inl ⟨rfl, fun hR => no (hR.mono fun y hy hb => (ebar y).mp hb hy)⟩)
      · refine ⟨_, rfl, rfl, _, rfl, ite2 (fun c => absurd (of_decide_eq_true c) (fun e => nomatch e)) (fun _ => ?_)⟩
        refine ⟨_, rfl, (by show 1 ≤ sizeLine; decide), fun t nt => ?_⟩
        have s6 := same_new (o := .tup [.int (v : Nat)]) nt
        have ro := Gr.ring_ok gr.sy gr.ir wo vn vs vg sg nsg (fun y hy => by
          apply Classical.byContradiction
          intro c
          exact hy ((ebar y).mpr c))
        have lw : ws.length ≤ 24 := by
          have h1 := wo.ind.nodup gr.ir
          exact Nat.le_trans (Gr.nodup_le h1 wo.lt) gr.n24
        have wne : natVs ws ≠ [] := fun e => by
          have := congrArg List.length e
          rw [natVs_len] at this
          have h := wo.head
          rw [List.length_eq_zero_iff.mp this] at h; simp at h
        refine ⟨_, rfl, t, qa, _, _, rfl, rfl, SqT.of upd_same, SqT.of (s6 _ _ eq), Nat.le_of_lt (small1000 (by rw [natVs_len]; simp; omega)), fun e => by simp at e, fun _ e => (wne e).elim, fun _ _ t2 nt2 => ?_⟩
        have s7 := same_new (o := .tup ([.int (v : Nat)] ++ natVs ws)) nt2
        refine q _ _ (s25.trans (s6.trans s7)) (.inr ⟨t2, v :: ws, rfl, upd_same, by simp; omega, ro, fun nr => ?_⟩)
        refine nr v s g vs vg sg nsg ((wo.reach gr.sy).mono fun y hy => ?_)
        apply Classical.byContradiction
        intro c
        exact hy ((ebar y).mpr c)
theorem ok_find_ring (A : Here K mg "find_ring" sFindRing ["neighbors"]) (T : Top mg) (DR : Df P w K mg base "ring_through" ["neighbors", "person", "one", "other"] 2 spRing) : Df P w K mg base "find_ring" ["neighbors"] 3 spFindRing := by
  refine A.df scFindRing (fun vs H Q E h => ?_) (fun f cdv A outer sh H vs Q E hr h => ?_)
  · obtain ⟨p, nb, n, adj, rfl, _⟩ := h; rfl
  · obtain ⟨p, nb, n, adj, rfl, hp, gr, q⟩ := h
    have nd := scFindRing.nd
    refine ⟨_, pss_cons (ps_for PassesOwn.never rfl (pi_range1 rfl T.range (pa_cons (pe_callB call_len_seq rfl T.len PySem.boot_len (pa_cons (pv 0) pa_nil)) pa_nil)) (pg_name (i := 1) nd rfl (.inl rfl))
        (pss_cons (ps_set (i := 2) nd rfl (.inl rfl) (pe_ix ix_list (pv 0) (pv 1) (fun _ _ => rfl)))
        (pss_one (ps_for PassesOwn.never rfl (pi_list (pv 2)) (pg_name (i := 3) nd rfl (.inl rfl))
          (pss_one (ps_for PassesOwn.never rfl (pi_list (pv 2)) (pg_name (i := 4) nd rfl (.inl rfl))
            (pss_one (ps_if (PW.pt (pw_and (pt_cmpR op_lt (pv 3) (pv 4) (nomark _)) (pw_and1 (pt_cmpR (r := rIn K true) op_notIn_seq (pv 4) (pe_ix (r := rIxL K) ix_list (pv 0) (pv 3) (fun _ _ => rfl)) (by rfl)))))
              (pss_cons (ps_set (i := 5) nd rfl (.inl rfl) (pe_df DR hr rfl (pa_cons (pv 0) (pa_cons (pv 1) (pa_cons (pv 3) (pa_cons (pv 4) pa_nil))))))
              (pss_one (ps_if (pt_cmpR op_notN (pv 5) pe_non (nomark _)) (pss_one (ps_ret (pv 5))) pss_nil))) pss_nil))))))))
      (pss_one (ps_ret pe_non)), ?_⟩
    obtain ⟨rs, e1, e2, e3⟩ := id hp
    have ln : (rs.map V.ref).length = n := by rw [List.length_map, e2, gr.len]
    have n24 := gr.n24
    refine ⟨_, rfl, p, _, rfl, .inl (SqL.of e1), _, rfl, by omega, by omega, for_range (lo := 0) (n := (((rs.map V.ref).length : Nat) : Int).toNat) (fun i σ H1 => ∃ y1 y2 y3 y4 y5, σ = [some (.ref p), y1, y2, y3, y4, y5] ∧ Same H H1 ∧ ∀ v < i, ∀ x y, x < y → adj v x → adj v y → ¬ adj x y → ¬ Gr.Reach adj (RSet adj v x y) x y)
      ⟨none, none, none, none, none, rfl, Same.refl _, fun v hv => absurd hv (Nat.not_lt_zero v)⟩ ?_ ?_⟩
    · rintro v σ H1 hv ⟨y1, y2, y3, y4, y5, rfl, sm1, all⟩
      have vn : v < n := by omega
      have ev : (0 : Int) + (v : Nat) = (v : Nat) := by omega
      rw [ev]
      obtain ⟨l, hl⟩ := gr.get vn
      obtain ⟨xs, r, f1, f2, f3, f4⟩ := hp.get hl
      refine ⟨_, rfl, _, rfl, p, xs, _, _, rfl, rfl, SqL.of (sm1 _ _ f1), atI_nat f3, ?_⟩
      refine ⟨_, rfl, r, rfl, ⟨_, SqL.of (sm1 _ _ f4)⟩, for_list (K := K) (a := r) (xs := natVs l) (fun j σ H2 => ∃ y3 y4 y5, σ = [some (.ref p), some (.int (v : Nat)), some (.ref r), y3, y4, y5] ∧ Same H H2 ∧ ∀ x ∈ l.take j, ∀ y, x < y → adj v x → adj v y → ¬ adj x y → ¬ Gr.Reach adj (RSet adj v x y) x y)
        ⟨_, _, _, rfl, sm1, fun x hx => by simp at hx⟩ (fun i σ H2 _ ⟨_, _, _, _, sm, _⟩ => SqL.of (sm _ _ f4)) ?_ ?_⟩
      · rintro j u σ H2 hj ⟨y3, y4, y5, rfl, sm2, all2⟩
        obtain ⟨x, hx, rfl⟩ := natVs_of hj
        have et : l.take (j + 1) = l.take j ++ [x] := by rw [List.take_add_one, hx]; rfl
        have vx : adj v x := (gr.mem v l hl x).mp (List.mem_of_getElem? hx)
        obtain ⟨lx, hlx⟩ := gr.get (gr.lt v x vx).2
        obtain ⟨xs', r', g1, g2, g3, g4⟩ := hp.get hlx
        refine ⟨_, rfl, r, rfl, ⟨_, SqL.of (sm2 _ _ f4)⟩, for_list (K := K) (a := r) (xs := natVs l) (fun k σ H3 => ∃ y4 y5, σ = [some (.ref p), some (.int (v : Nat)), some (.ref r), some (.int (x : Nat)), y4, y5] ∧ Same H H3 ∧ ∀ y ∈ l.take k, x < y → ¬ adj x y → ¬ Gr.Reach adj (RSet adj v x y) x y)
          ⟨_, _, rfl, sm2, fun x hx => by simp at hx⟩ (fun i σ H2 _ ⟨_, _, _, sm, _⟩ => SqL.of (sm _ _ f4)) ?_ ?_⟩
        · rintro k u σ H3 hk ⟨y4, y5, rfl, sm3, all3⟩
          obtain ⟨y, hy, rfl⟩ := natVs_of hk
          have et2 : l.take (k + 1) = l.take k ++ [y] := by rw [List.take_add_one, hy]; rfl
          have vy : adj v y := (gr.mem v l hl y).mp (List.mem_of_getElem? hy)
          have add : (x < y → ¬ adj x y → ¬ Gr.Reach adj (RSet adj v x y) x y) → ∀ z ∈ l.take (k + 1), x < z → ¬ adj x z → ¬ Gr.Reach adj (RSet adj v x z) x z := fun h z hz => by
            rw [et2] at hz
            rcases List.mem_append.mp hz with hz | hz
            · exact all3 z hz
            · rw [List.mem_singleton.mp hz]; exact h
          refine ⟨_, rfl, _, rfl, _, _, rfl, rfl, _, rfl, iteD (fun c => ?_) (fun c => ?_)⟩
          · refine ⟨_, rfl, _, rfl, _, rfl, p, xs', _, _, rfl, rfl, SqL.of (sm3 _ _ g1), atI_nat g3, nin_row (.inl (sm3 _ _ g4)) ⟨_, rfl, iteDn (fun c2 => ?_) (fun c2 => ?_)⟩⟩
            · have nxy : ¬ adj x y := fun h => c2 ((gr.mem x lx hlx y).mpr h)
              refine ⟨_, rfl, _, rfl, _, rfl, _, rfl, p, nb, n, v, x, y, adj, rfl, hp.mono sm3, gr, vx, vy, by omega, nxy, fun H4 u sm4 alt => ?_⟩
              rcases alt with ⟨rfl, no⟩ | ra
              · refine ⟨_, rfl, rfl, _, rfl, ?_⟩
                exact iteDn (fun c => (c rfl).elim) (fun _ => ⟨_, _, rfl, sm3.trans sm4, add fun _ _ => no⟩)
              · obtain ⟨qa, rr, rfl, ra⟩ := ra
                refine ⟨_, rfl, rfl, _, rfl, ?_⟩
                exact iteDn (fun c => ⟨_, rfl, q H4 _ (sm3.trans sm4) (.inr ⟨qa, rr, rfl, ra⟩)⟩) (fun c => nomatch c)
            · exact ⟨_, _, rfl, sm3, add fun _ h => (h ((gr.mem x lx hlx y).mp c2)).elim⟩
          · exact ⟨_, _, rfl, sm3, add fun h => (c (by omega)).elim⟩
        · rintro σ H3 ⟨y4, y5, rfl, sm3, all3⟩
          rw [natVs_len, List.take_length] at all3
          refine ⟨_, _, _, rfl, sm3, fun z hz y lt vz vy => ?_⟩
          rw [et] at hz
          rcases List.mem_append.mp hz with hz | hz
          · exact all2 z hz y lt vz vy
          · have := List.mem_singleton.mp hz
            subst this
            exact all3 y ((gr.mem v l hl y).mpr vy) lt
      · rintro σ H2 ⟨y3, y4, y5, rfl, sm2, all2⟩
        rw [natVs_len, List.take_length] at all2
        refine ⟨_, _, _, _, _, rfl, sm2, fun v' hv' x y lt vx => ?_⟩
        by_cases c : v' < v
        · exact all v' c x y lt vx
        · have : v' = v := by omega
          subst this
          exact all2 x ((gr.mem v' l hl x).mpr vx) y lt vx
    · rintro σ H1 ⟨y1, y2, y3, y4, y5, rfl, sm1, all⟩
      refine q H1 .non sm1 (.inl ⟨rfl, fun v x y vx vy ne nxy hR => ?_⟩)
      have vn := (gr.lt v x vx).1
      rcases Nat.lt_or_gt_of_ne ne with l | l
      · exact all v (by omega) x y l vx vy nxy hR
      · refine all v (by omega) y x l vy vx (fun h => nxy (gr.sy _ _ h)) ((hR.symm gr.sy).mono fun z hz => ?_)
        rcases hz with h | h | h
        · exact .inr (.inl h)
        · exact .inl h
        · exact .inr (.inr h)
end
end Up
end
section
set_option Elab.async false
set_option linter.all false
set_option maxRecDepth 100000
set_option maxHeartbeats 4000000
namespace Up
open PySem PySem.Spec PyProof.Rows L2
/-! ### ways_of, find_three -/
abbrev sWays : Stmt := topS 40
abbrev sThree : Stmt := topS 41
theorem scWays : FnScope ["neighbors", "a", "b", "c", "ways", "start", "goal", "third", "way"] ["neighbors", "a", "b", "c"] (defScope sWays) := ⟨rfl, rfl, rfl, by decide +kernel, rfl, by decide +kernel, by decide +kernel⟩
theorem scThree : FnScope ["neighbors", "n", "a", "b", "c", "ways"] ["neighbors"] (defScope sThree) := ⟨rfl, rfl, rfl, by decide +kernel, rfl, by decide +kernel, by decide +kernel⟩
def near (adj : Nat → Nat → Prop) (c z : Nat) : Prop := adj c z ∨ z = c
theorem near_off {adj : Nat → Nat → Prop} {c z : Nat} : ¬ near adj c z ↔ Gr.off adj c z := by
  unfold near Gr.off
  constructor
  · intro h; exact ⟨fun e => h (.inr e), fun e => h (.inl e)⟩
  · rintro ⟨h1, h2⟩ (h | h)
    · exact h2 h
    · exact h1 h
theorem wayOk_imp {adj : Nat → Nat → Prop} {bar bar' : Nat → Prop} {n s g : Nat} {w : List Nat} (h : Gr.WayOk adj bar n s g w) (k : ∀ z, bar' z → bar z) : Gr.WayOk adj bar' n s g w := ⟨h.ind, h.head, h.last, fun v hv b => h.free v hv (k v b), h.lt⟩
def TT3 (adj : Nat → Nat → Prop) (a b c : Nat) : Prop := Gr.Reach adj (Gr.off adj c) a b ∧ Gr.Reach adj (Gr.off adj b) a c ∧ Gr.Reach adj (Gr.off adj a) b c
/-- three ways, by trees -/
def WaysAt (adj : Nat → Nat → Prop) (n a b c : Nat) (H : Hp) (v : V) : Prop := ∃ q r1 r2 r3 w1 w2 w3, v = .ref q ∧ H q = some (.tup [.ref r1, .ref r2, .ref r3]) ∧ H r1 = some (.tup (natVs w1)) ∧ H r2 = some (.tup (natVs w2)) ∧ H r3 = some (.tup (natVs w3)) ∧
  Gr.WayOk adj (near adj c) n a b w1 ∧ Gr.WayOk adj (near adj b) n a c w2 ∧ Gr.WayOk adj (near adj a) n b c w3
theorem WaysAt.mono {adj : Nat → Nat → Prop} {n a b c : Nat} {H H' : Hp} {v : V} (h : WaysAt adj n a b c H v) (s : Same H H') : WaysAt adj n a b c H' v := by
  obtain ⟨q, r1, r2, r3, w1, w2, w3, e, h0, h1, h2, h3, k⟩ := h
  exact ⟨q, r1, r2, r3, w1, w2, w3, e, s _ _ h0, s _ _ h1, s _ _ h2, s _ _ h3, k⟩
theorem WaysAt.tt {adj : Nat → Nat → Prop} (sy : ∀ a b, adj a b → adj b a) {n a b c : Nat} {H : Hp} {v : V} (h : WaysAt adj n a b c H v) : TT3 adj a b c := by
  obtain ⟨q, r1, r2, r3, w1, w2, w3, _, _, _, _, _, k1, k2, k3⟩ := h
  exact ⟨(k1.reach sy).mono fun z => near_off.mp, (k2.reach sy).mono fun z => near_off.mp, (k3.reach sy).mono fun z => near_off.mp⟩
def spWays : Sp := fun vs H Q _ => ∃ p nb n a b c adj, vs = [.ref p, .int (a : Nat), .int (b : Nat), .int (c : Nat)] ∧ RowsAt .lst H p nb ∧ GrOk adj n nb ∧ a < n ∧ b < n ∧ c < n ∧
  ∀ H' u, Same H H' → ((u = .non ∧ ¬ TT3 adj a b c) ∨ WaysAt adj n a b c H' u) → Q u H'
def ThreeAt (adj : Nat → Nat → Prop) (n : Nat) (H : Hp) (v : V) : Prop := ∃ q t u a b c, v = .ref q ∧ H q = some (.tup [.ref t, .ref u]) ∧ H t = some (.tup [.int (a : Nat), .int (b : Nat), .int (c : Nat)]) ∧ a < b ∧ b < c ∧ c < n ∧ WaysAt adj n a b c H (.ref u)
def spThree : Sp := fun vs H Q _ => ∃ p nb n adj, vs = [.ref p] ∧ RowsAt .lst H p nb ∧ GrOk adj n nb ∧ ∀ H' u, Same H H' → ((u = .non ∧ Gr.NoThree adj) ∨ (ThreeAt adj n H' u ∧ ¬ Gr.NoThree adj)) → Q u H'
def trips (a b c : Nat) : List (Nat × Nat × Nat) := [(a, b, c), (a, c, b), (b, c, a)]
theorem trips_reach {adj : Nat → Nat → Prop} {a b c s g th : Nat} (h : (s, g, th) ∈ trips a b c) (t : TT3 adj a b c) : Gr.Reach adj (Gr.off adj th) s g := by
  unfold trips at h
  rcases List.mem_cons.mp h with e | h
  · cases e; exact t.1
  · rcases List.mem_cons.mp h with e | h
    · cases e; exact t.2.1
    · cases List.mem_singleton.mp h; exact t.2.2
theorem reach_lt {adj : Nat → Nat → Prop} {A : Nat → Prop} {n x y : Nat} (lt : ∀ a b, adj a b → a < n ∧ b < n) (h : Gr.Reach adj A x y) (ne : x ≠ y) : x < n := by
  rcases h.first with e | ⟨z, e, _⟩
  · exact (ne e).elim
  · exact (lt x z e).1
/-- no three that ascend: no three -/
theorem noThree_of {adj : Nat → Nat → Prop} {n : Nat} (sy : ∀ a b, adj a b → adj b a) (lt : ∀ a b, adj a b → a < n ∧ b < n) (h : ∀ a b c, a < b → b < c → c < n → ¬ TT3 adj a b c) : Gr.NoThree adj := by
  have sw1 : ∀ {a b c}, TT3 adj a b c → TT3 adj b a c := fun t => ⟨t.1.symm sy, t.2.2, t.2.1⟩
  have sw2 : ∀ {a b c}, TT3 adj a b c → TT3 adj a c b := fun t => ⟨t.2.1, t.1, t.2.2.symm sy⟩
  have key : ∀ a b c, a < b → b < c → ¬ TT3 adj a b c := fun a b c h1 h2 t => h a b c h1 h2 (reach_lt lt (t.2.1.symm sy) (by omega)) t
  intro a b c t
  have t : TT3 adj a b c := t
  have ab : a ≠ b := t.2.1.left.1
  have ac : a ≠ c := t.1.left.1
  have bc : b ≠ c := t.1.right.1
  rcases Nat.lt_or_gt_of_ne ab with l1 | l1 <;> rcases Nat.lt_or_gt_of_ne bc with l2 | l2 <;> rcases Nat.lt_or_gt_of_ne ac with l3 | l3
  · exact key a b c l1 l2 t
  · omega
  · exact key a c b l3 l2 (sw2 t)
  · exact key c a b l3 l1 (sw1 (sw2 t))
  · exact key b a c l1 l3 (sw1 t)
  · exact key b c a l2 l3 (sw2 (sw1 t))
  · omega
  · exact key c b a l2 l1 (sw1 (sw2 (sw1 t)))
section
variable {P : Program} {w : World} {K : PySem.W.Frag} {mg : Str → Option Value} {base : Heap}
theorem ok_ways (A : Here K mg "ways_of" sWays ["neighbors", "a", "b", "c"]) (T : Top mg) (DW : Df P w K mg base "shortest_way" ["neighbors", "start", "goal", "barred"] 1 spWay) : Df P w K mg base "ways_of" ["neighbors", "a", "b", "c"] 2 spWays := by
  refine A.df scWays (fun vs H Q E h => ?_) (fun f cdv A outer sh H vs Q E hr h => ?_)
  · obtain ⟨p, nb, n, a, b, c, adj, rfl, _⟩ := h; rfl
  · obtain ⟨p, nb, n, a, b, c, adj, rfl, hp, gr, an, bn, cn, q⟩ := h
    have nd := scWays.nd
    refine ⟨_, pss_cons (ps_set (i := 4) nd rfl (.inl rfl) (pe_lst pa_nil))
      (pss_cons (ps_for PassesOwn.never rfl (pi_tup (pe_tup (pa_cons (pe_tup (pa_cons (pv 1) (pa_cons (pv 2) (pa_cons (pv 3) pa_nil)))) (pa_cons (pe_tup (pa_cons (pv 1) (pa_cons (pv 3) (pa_cons (pv 2) pa_nil)))) (pa_cons (pe_tup (pa_cons (pv 2) (pa_cons (pv 3) (pa_cons (pv 1) pa_nil)))) pa_nil)))))
          (pg_tup rfl (pgs_cons (pg_name (i := 5) nd rfl (.inl rfl)) (pgs_cons (pg_name (i := 6) nd rfl (.inl rfl)) (pgs_cons (pg_name (i := 7) nd rfl (.inl rfl)) pgs_nil))))
        (pss_cons (ps_set (i := 8) nd rfl (.inl rfl) (pe_df DW hr rfl (pa_cons (pv 0) (pa_cons (pv 5) (pa_cons (pv 6) (pa_cons (pe_op op_cat (pe_ix ix_list (pv 0) (pv 7) (fun _ _ => rfl)) (pe_lst (pa_cons (pv 7) pa_nil))) pa_nil))))))
        (pss_cons (ps_if (pt_cmpR op_isN (pv 8) pe_non (nomark _)) (pss_one (ps_ret pe_non)) pss_nil)
        (pss_one (ps_expr (pe_bm PySem.F.plainAttrs_list PySem.F.slot_list_append PySem.F.type_list_append mt_append (pv 4) (pa_cons (pv 8) pa_nil)))))))
      (pss_one (ps_ret (pe_callTy call_tuple_of rfl T.tuple (by decide +kernel) (pa_cons (pv 4) pa_nil))))), ?_⟩
    refine ⟨Nat.zero_le _, fun W nW => ?_⟩
    have s1 := same_new (o := .lst []) nW
    have hW : ¬ ∃ u, H W = some u := fun ⟨u, e⟩ => by rw [e] at nW; cases nW
    refine ⟨_, rfl, _, rfl, _, rfl, (by show 3 ≤ sizeLine; decide), fun t1 n1 => ⟨_, rfl, _, rfl, _, rfl, (by show 3 ≤ sizeLine; decide), fun t2 n2 => ⟨_, rfl, _, rfl, _, rfl, (by show 3 ≤ sizeLine; decide), fun t3 n3 => ⟨(by show 3 ≤ sizeLine; decide), fun t4 n4 => ?_⟩⟩⟩⟩
    have k1 := same_new (o := .tup [.int (a : Nat), .int (b : Nat), .int (c : Nat)]) n1
    have k2 := same_new (o := .tup [.int (a : Nat), .int (c : Nat), .int (b : Nat)]) n2
    have k3 := same_new (o := .tup [.int (b : Nat), .int (c : Nat), .int (a : Nat)]) n3
    have k4 := same_new (o := .tup [.ref t1, .ref t2, .ref t3]) n4
    have m2 := k2.trans (k3.trans k4)
    have m1 := k1.trans m2
    have m3 := k3.trans k4
    have hW4 := m1 _ _ (upd_same (H := H) (a := W) (o := .lst []))
    have ht1 := m2 _ _ (upd_same (a := t1) (o := .tup [.int (a : Nat), .int (b : Nat), .int (c : Nat)]))
    have ht2 := m3 _ _ (upd_same (a := t2) (o := .tup [.int (a : Nat), .int (c : Nat), .int (b : Nat)]))
    have ht3 := k4 _ _ (upd_same (a := t3) (o := .tup [.int (b : Nat), .int (c : Nat), .int (a : Nat)]))
    have ht4 := upd_same (H := upd (upd (upd (upd H W (.lst [])) t1 (.tup [.int (a : Nat), .int (b : Nat), .int (c : Nat)])) t2 (.tup [.int (a : Nat), .int (c : Nat), .int (b : Nat)])) t3 (.tup [.int (b : Nat), .int (c : Nat), .int (a : Nat)])) (a := t4) (o := .tup [.ref t1, .ref t2, .ref t3])
    have m0 := s1.trans m1
    generalize upd (upd (upd (upd (upd H W (.lst [])) t1 (.tup [.int (a : Nat), .int (b : Nat), .int (c : Nat)])) t2 (.tup [.int (a : Nat), .int (c : Nat), .int (b : Nat)])) t3 (.tup [.int (b : Nat), .int (c : Nat), .int (a : Nat)])) t4 (.tup [.ref t1, .ref t2, .ref t3]) = H4 at hW4 ht1 ht2 ht3 ht4 m0 ⊢
    clear m1 m2 m3 k1 k2 k3 k4 n1 n2 n3 n4 s1 nW
    have ht : ∀ (i : Nat) s g th, (trips a b c)[i]? = some (s, g, th) → ∃ t, ([V.ref t1, .ref t2, .ref t3])[i]? = some (.ref t) ∧ H4 t = some (.tup [.int (s : Nat), .int (g : Nat), .int (th : Nat)]) := fun i s g th e => by
      match i, e with
      | 0, e => cases e; exact ⟨t1, rfl, ht1⟩
      | 1, e => cases e; exact ⟨t2, rfl, ht2⟩
      | 2, e => cases e; exact ⟨t3, rfl, ht3⟩
      | i + 3, e => simp [trips] at e
    refine ⟨t4, rfl, ⟨_, SqT.of ht4⟩, for_tup (K := K) (a := t4) (xs := [.ref t1, .ref t2, .ref t3]) (fun i σ H5 => ∃ y5 y6 y7 y8 rs ws, σ = [some (.ref p), some (.int (a : Nat)), some (.int (b : Nat)), some (.int (c : Nat)), some (.ref W), y5, y6, y7, y8] ∧ Same H H5 ∧ (∀ t xs, H4 t = some (.tup xs) → H5 t = some (.tup xs)) ∧
        H5 W = some (.lst ((rs : List Addr).map V.ref)) ∧ rs.length = i ∧ (ws : List (List Nat)).length = i ∧ ∀ (j : Nat) w, ws[j]? = some w → ∃ r s g th, rs[j]? = some r ∧ H5 r = some (.tup (natVs w)) ∧ (trips a b c)[j]? = some (s, g, th) ∧ Gr.WayOk adj (near adj th) n s g w)
      ⟨none, none, none, none, [], [], rfl, m0, fun _ _ e => e, hW4, rfl, rfl, fun j w e => by simp at e⟩ (fun i σ H5 _ ⟨_, _, _, _, _, _, _, _, k, _⟩ => SqT.of (k _ _ ht4)) ?_ ?_⟩
    · rintro i v σ H5 hi ⟨y5, y6, y7, y8, rs, ws, rfl, sm5, kt, eW, lr, lw, hw⟩
      have i3 : i < 3 := (List.getElem?_eq_some_iff.mp hi).1
      have ltr : (trips a b c).length = 3 := rfl
      obtain ⟨⟨s, g, th⟩, htr⟩ : ∃ x, (trips a b c)[i]? = some x := ⟨_, List.getElem?_eq_getElem (by omega)⟩
      obtain ⟨t, h1, h2⟩ := ht i s g th htr
      rw [h1] at hi
      cases hi
      have tm := List.mem_of_getElem? htr
      have hn : s < n ∧ th < n := by
        unfold trips at tm
        rcases List.mem_cons.mp tm with e | h
        · cases e; exact ⟨an, cn⟩
        · rcases List.mem_cons.mp h with e | h
          · cases e; exact ⟨an, bn⟩
          · cases List.mem_singleton.mp h; exact ⟨bn, an⟩
      obtain ⟨l, hl⟩ := gr.get hn.2
      have ll := gr.small hl
      obtain ⟨xs, r, f1, f2, f3, f4⟩ := (hp.mono sm5).get hl
      refine ⟨t, _, rfl, SqT.of (kt _ _ h2), rfl, _, _, rfl, _, _, rfl, _, _, rfl, rfl, ?_⟩
      refine ⟨_, rfl, _, rfl, _, rfl, _, rfl, _, rfl, p, xs, _, _, rfl, rfl, SqL.of f1, atI_nat f3, _, rfl, (by show 1 ≤ sizeLine; decide), fun z nz => ?_⟩
      have s6 := same_new (o := .lst [.int (th : Nat)]) nz
      refine ⟨r, z, _, _, rfl, rfl, s6 _ _ f4, upd_same, Nat.le_of_lt (small1000 (by rw [natVs_len]; show _ + 1 ≤ 1000; omega)), fun z2 nz2 => ?_⟩
      have s7 := same_new (o := .lst (natVs l ++ [.int (th : Nat)])) nz2
      have s57 := s6.trans s7
      have s07 := sm5.trans s57
      have enear : ∀ y, y ∈ l ++ [th] ↔ near adj th y := fun y => by
        rw [List.mem_append, List.mem_singleton, gr.mem th l hl y]; rfl
      refine ⟨p, nb, n, z2, l ++ [th], s, g, adj, rfl, hp.mono s07, gr, by rw [upd_same, natVs_app]; rfl, hn.1, fun H8 u sm8 wa => ?_⟩
      have s08 := s07.trans sm8
      have s58 := s57.trans sm8
      rcases wa with ⟨rfl, no⟩ | ⟨qa, w, rfl, eq, wo⟩
      · refine ⟨_, rfl, rfl, _, rfl, ite2 (fun _ => ?_) (fun c => absurd (by decide) c)⟩
        refine q H8 .non s08 (.inl ⟨rfl, fun tt => no ((trips_reach tm tt).mono fun y hy hb => near_off.mpr hy ((enear y).mp hb))⟩)
      · refine ⟨_, rfl, rfl, _, rfl, ite2 (fun c => absurd (of_decide_eq_true c) (fun e => nomatch e)) (fun _ => ?_)⟩
        have eW8 := s58 _ _ eW
        refine ⟨_, rfl, .inl ⟨rfl, _, SqL.of eW8⟩, _, rfl, W, _, _, rfl, rfl, eW8, small1000 (by rw [List.length_map, lr]; omega), ?_⟩
        refine ⟨_, _, _, _, rs ++ [qa], ws ++ [w], rfl, fun b' u e => ?_, fun t' xs' e => ?_, by rw [upd_same, List.map_append]; rfl, by simp [lr], by simp [lw], fun j w' e => ?_⟩
        · have bW : b' ≠ W := fun e' => hW (by rw [← e']; exact ⟨u, e⟩)
          rw [upd_ne bW]; exact s08 _ _ e
        · have e8 := s58 _ _ (kt _ _ e)
          have tW : t' ≠ W := fun e' => by rw [e', eW8] at e8; cases e8
          rw [upd_ne tW]; exact e8
        · have keep : ∀ {r' : Addr} {ys : List V}, H8 r' = some (.tup ys) → (upd H8 W (.lst (rs.map V.ref ++ [.ref qa]))) r' = some (.tup ys) := fun {r' ys} e8 => by
            have rW : r' ≠ W := fun e' => by rw [e', eW8] at e8; cases e8
            rw [upd_ne rW]; exact e8
          by_cases h' : j < ws.length
          · rw [List.getElem?_append_left h'] at e
            obtain ⟨r', s', g', th', k1, k2, k3, k4⟩ := hw j w' e
            exact ⟨r', s', g', th', by rw [List.getElem?_append_left (by omega)]; exact k1, keep (s58 _ _ k2), k3, k4⟩
          · rw [List.getElem?_append_right (by omega)] at e
            by_cases h2 : j = ws.length
            · subst h2
              simp at e
              subst e
              refine ⟨qa, s, g, th, by rw [List.getElem?_append_right (by omega), lr, lw]; simp, keep eq, by rw [lw]; exact htr, wayOk_imp wo fun y hy => (enear y).mpr hy⟩
            · rw [List.getElem?_eq_none (by simp; omega)] at e; cases e
    · rintro σ H5 ⟨y5, y6, y7, y8, rs, ws, rfl, sm5, kt, eW, lr, lw, hw⟩
      refine ⟨_, rfl, W, _, rfl, .inl ⟨SqL.of eW, fun u nu => ?_⟩⟩
      have s6 := same_new (o := .tup (rs.map V.ref)) nu
      have lr : rs.length = 3 := lr
      have lw : ws.length = 3 := lw
      match rs, lr, ws, lw with
      | [r1, r2, r3], _, [w1, w2, w3], _ =>
        obtain ⟨_, _, _, _, a1, a2, a3, a4⟩ := hw 0 w1 rfl
        obtain ⟨_, _, _, _, b1, b2, b3, b4⟩ := hw 1 w2 rfl
        obtain ⟨_, _, _, _, c1, c2, c3, c4⟩ := hw 2 w3 rfl
        cases a1; cases a3; cases b1; cases b3; cases c1; cases c3
        exact q _ _ (sm5.trans s6) (.inr ⟨u, r1, r2, r3, w1, w2, w3, rfl, upd_same, s6 _ _ a2, s6 _ _ b2, s6 _ _ c2, a4, b4, c4⟩)
theorem ok_three (A : Here K mg "find_three" sThree ["neighbors"]) (T : Top mg) (DW : Df P w K mg base "ways_of" ["neighbors", "a", "b", "c"] 2 spWays) : Df P w K mg base "find_three" ["neighbors"] 3 spThree := by
  refine A.df scThree (fun vs H Q E h => ?_) (fun f cdv A outer sh H vs Q E hr h => ?_)
  · obtain ⟨p, nb, n, adj, rfl, _⟩ := h; rfl
  · obtain ⟨p, nb, n, adj, rfl, hp, gr, q⟩ := h
    have nd := scThree.nd
    refine ⟨_, pss_cons (ps_set (i := 1) nd rfl (.inl rfl) (pe_callB call_len_seq rfl T.len PySem.boot_len (pa_cons (pv 0) pa_nil)))
      (pss_cons (ps_for PassesOwn.never rfl (pi_range1 rfl T.range (pa_cons (pv 1) pa_nil)) (pg_name (i := 2) nd rfl (.inl rfl))
        (pss_one (ps_for PassesOwn.never rfl (pi_range2 rfl T.range (pa_cons (pe_op op_add (pv 2) pe_int) (pa_cons (pv 1) pa_nil))) (pg_name (i := 3) nd rfl (.inl rfl))
          (pss_one (ps_for PassesOwn.never rfl (pi_range2 rfl T.range (pa_cons (pe_op op_add (pv 3) pe_int) (pa_cons (pv 1) pa_nil))) (pg_name (i := 4) nd rfl (.inl rfl))
            (pss_cons (ps_set (i := 5) nd rfl (.inl rfl) (pe_df DW hr rfl (pa_cons (pv 0) (pa_cons (pv 2) (pa_cons (pv 3) (pa_cons (pv 4) pa_nil))))))
            (pss_one (ps_if (pt_cmpR op_notN (pv 5) pe_non (nomark _)) (pss_one (ps_ret (pe_tup (pa_cons (pe_tup (pa_cons (pv 2) (pa_cons (pv 3) (pa_cons (pv 4) pa_nil)))) (pa_cons (pv 5) pa_nil))))) pss_nil))))))))
      (pss_one (ps_ret pe_non))), ?_⟩
    obtain ⟨rs, e1, e2, e3⟩ := id hp
    have ln : (rs.map V.ref).length = n := by rw [List.length_map, e2, gr.len]
    have n24 := gr.n24
    refine ⟨_, rfl, p, _, rfl, .inl (SqL.of e1), ?_⟩
    rw [ln]
    refine ⟨_, rfl, _, rfl, by omega, by omega, for_range (lo := 0) (n := ((n : Nat) : Int).toNat) (fun i σ H1 => ∃ y2 y3 y4 y5, σ = [some (.ref p), some (.int (n : Nat)), y2, y3, y4, y5] ∧ Same H H1 ∧ ∀ a < i, ∀ b c, a < b → b < c → c < n → ¬ TT3 adj a b c)
      ⟨none, none, none, none, rfl, Same.refl _, fun v hv => absurd hv (Nat.not_lt_zero v)⟩ ?_ ?_⟩
    · rintro a σ H1 ha ⟨y2, y3, y4, y5, rfl, sm1, all⟩
      have an : a < n := by omega
      have ev : (0 : Int) + (a : Nat) = (a : Nat) := by omega
      rw [ev]
      refine ⟨_, rfl, _, _, rfl, rfl, _, rfl, _, _, rfl, ⟨by omega, by omega, by omega, by omega⟩, for_range (lo := ((a : Nat) : Int) + 1) (n := (((n : Nat) : Int) - (((a : Nat) : Int) + 1)).toNat) (fun i σ H2 => ∃ y3 y4 y5, σ = [some (.ref p), some (.int (n : Nat)), some (.int (a : Nat)), y3, y4, y5] ∧ Same H H2 ∧ ∀ b < a + 1 + i, ∀ c, a < b → b < c → c < n → ¬ TT3 adj a b c)
        ⟨_, _, _, rfl, sm1, fun b hb c lt => absurd lt (by omega)⟩ ?_ ?_⟩
      · rintro i σ H2 hb ⟨y3, y4, y5, rfl, sm2, all2⟩
        have ev : ((a : Nat) : Int) + 1 + (i : Nat) = ((a + 1 + i : Nat) : Int) := by omega
        rw [ev]
        have bn : a + 1 + i < n := by omega
        generalize hbe : a + 1 + i = b at bn all2 ⊢
        refine ⟨_, rfl, _, _, rfl, rfl, _, rfl, _, _, rfl, ⟨by omega, by omega, by omega, by omega⟩, for_range (lo := ((b : Nat) : Int) + 1) (n := (((n : Nat) : Int) - (((b : Nat) : Int) + 1)).toNat) (fun i σ H2 => ∃ y4 y5, σ = [some (.ref p), some (.int (n : Nat)), some (.int (a : Nat)), some (.int (b : Nat)), y4, y5] ∧ Same H H2 ∧ ∀ c < b + 1 + i, b < c → c < n → ¬ TT3 adj a b c)
          ⟨_, _, rfl, sm2, fun c hc lt => absurd lt (by omega)⟩ ?_ ?_⟩
        · rintro k σ H3 hk ⟨y4, y5, rfl, sm3, all3⟩
          have ev : ((b : Nat) : Int) + 1 + (k : Nat) = ((b + 1 + k : Nat) : Int) := by omega
          rw [ev]
          have cn : b + 1 + k < n := by omega
          generalize hce : b + 1 + k = c at cn all3 ⊢
          refine ⟨_, rfl, _, rfl, _, rfl, _, rfl, p, nb, n, a, b, c, adj, rfl, hp.mono sm3, gr, an, bn, cn, fun H4 u sm4 alt => ?_⟩
          rcases alt with ⟨rfl, no⟩ | wa
          · refine ⟨_, rfl, rfl, _, rfl, ?_⟩
            refine iteDn (fun c => (c rfl).elim) (fun _ => ⟨_, _, rfl, sm3.trans sm4, fun c' hc' => ?_⟩)
            by_cases c1 : c' < c
            · exact all3 c' c1
            · have : c' = c := by omega
              subst this
              exact fun _ _ => no
          · have tt := wa.tt gr.sy
            have wa' := wa
            obtain ⟨qa, _, _, _, _, _, _, rfl, _⟩ := wa'
            refine ⟨_, rfl, rfl, _, rfl, ?_⟩
            refine iteDn (fun _ => ?_) (fun c => nomatch c)
            refine ⟨_, rfl, _, rfl, _, rfl, (by show 3 ≤ sizeLine; decide), fun t nt => ⟨_, rfl, (by show 2 ≤ sizeLine; decide), fun z nz => ?_⟩⟩
            have s5 := same_new (o := .tup [.int (a : Nat), .int (b : Nat), .int (c : Nat)]) nt
            have s6 := same_new (o := .tup [.ref t, .ref qa]) nz
            refine q _ _ (sm3.trans (sm4.trans (s5.trans s6))) (.inr ⟨⟨z, t, qa, a, b, c, rfl, upd_same, s6 _ _ upd_same, by omega, by omega, cn, wa.mono (s5.trans s6)⟩, fun nt => nt a b c tt⟩)
        · rintro σ H3 ⟨y4, y5, rfl, sm3, all3⟩
          refine ⟨_, _, _, rfl, sm3, fun b' hb' c lt1 lt2 lt3 => ?_⟩
          by_cases c1 : b' < b
          · exact all2 b' c1 c lt1 lt2 lt3
          · have : b' = b := by omega
            subst this
            exact all3 c (by omega) lt2 lt3
      · rintro σ H2 ⟨y3, y4, y5, rfl, sm2, all2⟩
        refine ⟨_, _, _, _, rfl, sm2, fun a' ha' b c lt1 lt2 lt3 => ?_⟩
        by_cases c1 : a' < a
        · exact all a' c1 b c lt1 lt2 lt3
        · have : a' = a := by omega
          subst this
          exact all2 b (by omega) c lt1 lt2 lt3
    · rintro σ H1 ⟨y2, y3, y4, y5, rfl, sm1, all⟩
      exact q H1 .non sm1 (.inl ⟨rfl, noThree_of gr.sy gr.lt fun a b c l1 l2 l3 => all a (by omega) b c l1 l2 l3⟩)
end
end Up
end
section
set_option Elab.async false
set_option linter.all false
set_option maxRecDepth 100000
set_option maxHeartbeats 400000
namespace Up
open PySem PySem.Spec PyProof.Rows L2
section
variable {X : Cx}
/-! ### sorted(t), t a tuple of ints -/
def rSortedTI (K : PySem.W.Frag) : List V → Hp → VK → Prop := fun vs H Q => ∃ (t : Addr) (ks : List Int), vs = [V.ref t] ∧ SqT K H t (ks.map V.int) ∧ ∀ (js : List Int) (p : Addr), js.Perm ks → js.Pairwise (· ≤ ·) → H p = none → Q (.ref p) (upd H p (.lst (js.map V.int)))
theorem cr_sortedTI : CallR X (.builtin "sorted") (rSortedTI X.K) := by
  intro pins s σ H vs us Q I r h
  obtain ⟨t, ks, rfl, ht, q⟩ := h
  obtain ⟨its, rv, pT, hz⟩ := I.tuple ht
  rw [Vals.ref1 r]
  have hi := rv.ints
  have hzi : its.length ≤ sizeLine := by rw [← rv.length]; exact hz
  obtain ⟨o, ho, hc, n, hd⟩ := id pT
  refine Calls.call_function_entry kind_sorted plain_sorted entry_sorted (args_sorted1 _) ?_
  unfold Builtin.«sorted»
  refine wpAny_bind (m := checkCount "sorted" 1 1 _) (wpAny_pure ?_)
  refine wpAny_bind (wpAny_collect_seq t (.inr rfl) ho hc hd (fun h2 kp => ?_) (by rw [List.size_toArray]; exact hzi))
  refine wpAny_bind (wpAny_newList ?_ hzi)
  have hob : (h2.push (seqObj "list" its.toArray 0)).get? h2.objs.size = some (seqObj "list" its.toArray 0) := Heap.get?_push_size _ rfl
  refine wpAny_bind (wpAny_holding (wpAny_call_entry slot_list_sort ⟨_, hob, rfl⟩ entry_list_sort (SrtO.list_sort_ord SrtO.swo_int hob hzi (fun n2 => SrtO.ints_sortable hi n2) fun out h3 h4 => ⟨_, rfl, wpAny_pure ⟨_, rfl, ?_⟩⟩) (args_list_sort _)))
  obtain ⟨k1, k2, k3⟩ := SrtO.ints_out hi h3 h4
  obtain ⟨ep, he⟩ := sortedHeap_at (vs := its) (out := out.toArray) hob
  have I2 : Inv X pins σ H { s with heap := h2, toks := s.toks } := I.kept kp
  have lo : ((out.map SrtO.iv).map V.int).length ≤ sizeLine := by
    rw [List.length_map, k2.length_eq]
    rw [List.length_map] at hz
    exact hz
  have old : ∀ b u, h2.get? b = some u → (sortedHeap (h2.push (seqObj "list" its.toArray 0)) h2.objs.size its out.toArray).get? b = some u := fun b u hb => by
    have lt := Heap.lt_size hb
    rw [sortedHeap_old (Nat.ne_of_lt lt) (by rw [size_push']; exact Nat.lt_succ_of_lt lt)]
    exact Heap.get?_push_of_some _ hb
  exact ⟨.ref _, upd H h2.objs.size (.lst ((out.map SrtO.iv).map V.int)), I2.laid (t' := s.toks) old (Nat.le_refl _) ⟨lo, out, ep, vals_of_ints k1, he⟩, rfl, q _ _ k2 k3 (I2.hok.fresh (Nat.le_refl _))⟩
/-! ### a < b < c < d, all the links true (the last one may be false) -/
def tCh3 (r r' r'' : R2) (ta tb tc td : TE) : TT := fun σ H Q => ta σ H fun x H1 => tb σ H1 fun y H2 => r x y H2 fun z H3 => z = .bl true ∧ tc σ H3 fun u H4 => r' y u H4 fun z' H5 => z' = .bl true ∧ td σ H5 fun v H6 => r'' u v H6 fun z'' H7 => ∃ k, z'' = .bl k ∧ Q k H7
theorem pt_chain3 {a b c d : Expr} {ta tb tc td : TE} {pos : Pos} {op op' op'' : CmpOp} {r r' r'' : R2} (ho : OpR X (compareOp op) r) (ho' : OpR X (compareOp op') r') (ho'' : OpR X (compareOp op'') r'') (ha : PE X a ta) (hb : PE X b tb) (hc : PE X c tc) (hd : PE X d td)
    (hm : lastMarks [op, op', op''] [b, c, d] = false := by with_unfolding_all rfl) : PT X (.Compare a [op, op', op''] [b, c, d] pos) (tCh3 r r' r'' ta tb tc td) := by
  refine ⟨fun pins s σ H Q I h => ?_⟩
  refine isTrue_chain (thn (ha.run pins s σ H _ I h) fun v s1 ⟨x, H1, I1, r1, q1⟩ => test_link (thn (hb.run pins s1 σ H1 _ I1 q1) fun u s2 ⟨y, H2, I2, r2, q2⟩ =>
    thn (ho pins s2 σ H2 x y v u _ I2 r1 r2 q2) fun d1 s3 ⟨z, H3, I3, r3, e, q3⟩ => ?_)) hm
  subst e
  cases r3
  refine wpAny_truthy_bool (ite_tt (test_link (thn (hc.run pins s3 σ H3 _ I3 q3) fun u' s4 ⟨y', H4, I4, r4, q4⟩ => thn (ho' pins s4 σ H4 y y' u u' _ I4 r2 r4 q4) fun d2 s5 ⟨z', H5, I5, r5, e', q5⟩ => ?_)))
  subst e'
  cases r5
  refine wpAny_truthy_bool (ite_tt (test_last (thn (hd.run pins s5 σ H5 _ I5 q5) fun w' s6 ⟨y2, H6, I6, r6, q6⟩ => thn (ho'' pins s6 σ H6 y' y2 u' w' _ I6 r4 r6 q6) fun d3 s7 ⟨z2, H7, I7, r7, k2, e2, q7⟩ => ?_)))
  subst e2
  cases r7
  exact wpAny_truthy_bool ⟨H7, I7, q7⟩
end
end Up
end
section
set_option Elab.async false
set_option linter.all false
set_option maxRecDepth 100000
set_option maxHeartbeats 400000
namespace Up
open PySem PySem.Spec PyProof.Rows L2
section
variable {X : Cx}
/-! ### t >= u, pairs of ints -/
def rGeP (K : PySem.W.Frag) : R2 := fun x y H Q => ∃ (a b : Addr) (i j k l : Int), x = .ref a ∧ y = .ref b ∧ H a = some (.tup [.int i, .int j]) ∧ H b = some (.tup [.int k, .int l]) ∧ Q (.bl (!decide (i < k ∨ (i = k ∧ j < l)))) H
theorem eqAtI (A : Around) (s : Shared) (a b : Int) (t u : Tok) : SeqAt.EqAt A s (.int a t) (.int b u) (decide (a = b)) := by
  have z : (a == b) = decide (a = b) := by
    by_cases q : a = b
    · subst q; simp
    · simp [q]
  rw [← z]
  exact SeqAt.EqAt.int_int _ _ _ _
theorem lex_ge (i j k l : Int) : Ob.lexAt (fun m => decide (([i, j] : List Int).getD m 0 = ([k, l] : List Int).getD m 0)) (fun m => decide (([k, l] : List Int).getD m 0 ≤ ([i, j] : List Int).getD m 0)) true 0 2 = !decide (i < k ∨ (i = k ∧ j < l)) := by
  rw [Ob.lexAt_succ, Ob.lexAt_succ, Ob.lexAt_zero]
  show (if decide (i = k) = true then (if decide (j = l) = true then true else decide (l ≤ j)) else decide (k ≤ i)) = _
  by_cases c1 : i = k
  · rw [decide_eq_true c1, if_pos rfl]
    by_cases c2 : j = l
    · rw [decide_eq_true c2, if_pos rfl, decide_eq_false (by omega)]; rfl
    · rw [decide_eq_false c2, if_neg (by decide)]
      by_cases c3 : j < l
      · rw [decide_eq_false (by omega), decide_eq_true (by omega)]; rfl
      · rw [decide_eq_true (by omega), decide_eq_false (by omega)]; rfl
  · rw [decide_eq_false c1, if_neg (by decide)]
    by_cases c3 : i < k
    · rw [decide_eq_false (by omega), decide_eq_true (by omega)]; rfl
    · rw [decide_eq_true (by omega), decide_eq_false (by omega)]; rfl
theorem op_geP (hu : X.A.units < cLine) : OpR X (compareOp .GtE) (rGeP X.K) := by
  intro pins s σ H x y v u Q I rx ry h
  obtain ⟨a, b, i, j, k, l, rfl, rfl, ha, hb, q⟩ := h
  cases rx
  cases ry
  obtain ⟨its, r1, p1, _⟩ := I.tuple (SqT.of ha)
  obtain ⟨its2, r2, p2, _⟩ := I.tuple (SqT.of hb)
  have i1 : IntsAre its [i, j] := Vals.ints (ns := [i, j]) r1
  have i2 : IntsAre its2 [k, l] := Vals.ints (ns := [k, l]) r2
  have e1 : its.toArray.size = 2 := by rw [List.size_toArray]; exact i1.length
  have e2 : its2.toArray.size = 2 := by rw [List.size_toArray]; exact i2.length
  have g1 : ∀ m (h1 : m < its.toArray.size), ∃ t, its.toArray[m] = .int (([i, j] : List Int).getD m 0) t := fun m h1 => PyProof.Rows.IntsAre.int_at i1 _ _ (by simp at h1; simp [h1])
  have g2 : ∀ m (h1 : m < its2.toArray.size), ∃ t, its2.toArray[m] = .int (([k, l] : List Int).getD m 0) t := fun m h1 => PyProof.Rows.IntsAre.int_at i2 _ _ (by simp at h1; simp [h1])
  have R := Ob.RcOp.tuples_ge (A := X.A) (s := s) (e := fun m => decide (([i, j] : List Int).getD m 0 = ([k, l] : List Int).getD m 0)) (r := fun m => decide (([k, l] : List Int).getD m 0 ≤ ([i, j] : List Int).getD m 0)) p1 p2 hu (fun m h1 h2 => by
    obtain ⟨t, et⟩ := g1 m h1
    obtain ⟨t', et'⟩ := g2 m h2
    rw [et, et']
    exact eqAtI _ _ _ _ _ _) (fun m h1 h2 _ => by
    obtain ⟨t, et⟩ := g1 m h1
    obtain ⟨t', et'⟩ := g2 m h2
    rw [et, et']
    exact Ob.RcOp.ge_int _ _ _ _)
  rw [e1, e2] at R
  have e3 : decide ((2 : Nat) ≥ 2) = true := rfl
  have e4 : min (2 : Nat) 2 = 2 := rfl
  rw [e3, e4, lex_ge] at R
  exact R _ _ _ _ ⟨.bl _, H, I, rfl, q⟩
end
end Up
end
section
set_option Elab.async false
set_option linter.all false
set_option maxRecDepth 100000
set_option maxHeartbeats 400000
namespace Up
open PySem PySem.Spec PyProof.Rows L2
section
variable {X : Cx}
/-! ### lists and tuples of pairs -/
def prD (p : Nat × Nat) : PyData := .tuple [.int (p.1 : Nat), .int (p.2 : Nat)]
def prV (p : Nat × Nat) : List V := [.int (p.1 : Nat), .int (p.2 : Nat)]
/-- these trees hold these pairs -/
def PrsAt (H : Hp) (xs : List V) (ps : List (Nat × Nat)) : Prop := xs.length = ps.length ∧ ∀ (i : Nat) p, ps[i]? = some p → ∃ t, xs[i]? = some (.ref t) ∧ H t = some (.tup (prV p))
theorem PrsAt.mono {H H' : Hp} {xs : List V} {ps : List (Nat × Nat)} (h : PrsAt H xs ps) (s : Same H H') : PrsAt H' xs ps :=
  ⟨h.1, fun i p e => by
    obtain ⟨t, h1, h2⟩ := h.2 i p e
    exact ⟨t, h1, s _ _ h2⟩⟩
theorem PrsAt.nil (H : Hp) : PrsAt H [] [] := ⟨rfl, fun i p e => by simp at e⟩
theorem PrsAt.cons_inv {H : Hp} {x : V} {xs : List V} {p : Nat × Nat} {ps : List (Nat × Nat)} (h : PrsAt H (x :: xs) (p :: ps)) : (∃ t, x = .ref t ∧ H t = some (.tup (prV p))) ∧ PrsAt H xs ps := by
  obtain ⟨h1, h2⟩ := h
  refine ⟨?_, by simpa using h1, fun i q e => ?_⟩
  · obtain ⟨t, e, k⟩ := h2 0 p rfl
    exact ⟨t, Option.some.inj e, k⟩
  · obtain ⟨t, e', k⟩ := h2 (i + 1) q (by simpa using e)
    exact ⟨t, by simpa using e', k⟩
theorem PrsAt.snoc {H : Hp} {xs : List V} {ps : List (Nat × Nat)} {t : Addr} {p : Nat × Nat} (h : PrsAt H xs ps) (k : H t = some (.tup (prV p))) : PrsAt H (xs ++ [.ref t]) (ps ++ [p]) := by
  refine ⟨by simp [h.1], fun i q e => ?_⟩
  have hl := h.1
  by_cases c : i < ps.length
  · rw [List.getElem?_append_left c] at e
    obtain ⟨t', e', k'⟩ := h.2 i q e
    exact ⟨t', by rw [List.getElem?_append_left (by omega)]; exact e', k'⟩
  · rw [List.getElem?_append_right (by omega)] at e
    by_cases d : i = ps.length
    · subst d
      simp at e
      subst e
      exact ⟨t, by rw [List.getElem?_append_right (by omega), hl]; simp, k⟩
    · rw [List.getElem?_eq_none (by simp; omega)] at e; cases e
theorem PrsAt.dp {K : PySem.W.Frag} {H : Hp} : ∀ {ps : List (Nat × Nat)} {xs : List V}, PrsAt H xs ps → DpAll K H xs (ps.map prD)
  | [], [], _ => .nil
  | [], _ :: _, h => by have := h.1; simp at this
  | _ :: _, [], h => by have := h.1; simp at this
  | p :: ps, x :: xs, h => by
    obtain ⟨⟨t, rfl, k⟩, h2⟩ := h.cons_inv
    exact .cons (.tup (SqT.of k) (.cons (.int _) (.cons (.int _) .nil))) h2.dp
theorem prD_eqv (p q : Nat × Nat) : PyData.eqv (prD p) (prD q) = decide (p = q) := by
  obtain ⟨a, b⟩ := p
  obtain ⟨c, d⟩ := q
  show PyData.eqv (.tuple [.int (a : Nat), .int (b : Nat)]) (.tuple [.int (c : Nat), .int (d : Nat)]) = _
  simp only [PyData.eqv, PyData.eqvAll]
  rw [Bool.and_true, Bool.eq_iff_iff, Bool.and_eq_true, beq_iff_eq, beq_iff_eq, decide_eq_true_eq, Prod.mk.injEq]
  omega
theorem prs_any (q : Nat × Nat) (ps : List (Nat × Nat)) : ((ps.map prD).any fun z => PyData.eqv z (prD q)) = decide (q ∈ ps) := by
  rw [List.any_map]
  induction ps with
  | nil => simp
  | cons p ps ih =>
    rw [List.any_cons, ih]
    show (PyData.eqv (prD p) (prD q) || _) = _
    rw [prD_eqv]
    by_cases h : p = q
    · subst h; simp
    · have h' : ¬ q = p := fun e => h e.symm
      simp [h, h']
theorem prs_lay : ∀ ps : List (Nat × Nat), PyData.canLayAll0 (ps.map prD) = true
  | [] => by simp [PyData.canLayAll0]
  | p :: ps => by simp [prD, PyData.canLayAll0, PyData.canLay0, prs_lay ps]
theorem prs_depth : ∀ ps : List (Nat × Nat), PyData.depthAll (ps.map prD) ≤ 1
  | [] => by simp [PyData.depthAll]
  | p :: ps => by
    have := prs_depth ps
    simp only [List.map_cons, PyData.depthAll, prD, PyData.depth]
    omega
theorem prs_plain : ∀ ps : List (Nat × Nat), PyData.plainAll (ps.map prD) = true
  | [] => by simp [PyData.plainAll]
  | p :: ps => by simp [prD, PyData.plainAll, PyData.plain, prs_plain ps]
theorem prD_lay (p : Nat × Nat) : (prD p).canLay0 = true := by simp [prD, PyData.canLay0, PyData.canLayAll0]
theorem prD_plain (p : Nat × Nat) : (prD p).plain = true := by simp [prD, PyData.plain, PyData.plainAll]
theorem prD_depth (p : Nat × Nat) : (prD p).depth = 1 := by simp [prD, PyData.depth, PyData.depthAll]
/-- pair in the list or tuple of pairs -/
def rInP (K : PySem.W.Frag) : R2 := fun x y H Q => ∃ (a b : Addr) (p : Nat × Nat) (xs : List V) (ps : List (Nat × Nat)), x = .ref a ∧ y = .ref b ∧ H a = some (.tup (prV p)) ∧ (SqL K H b xs ∨ SqT K H b xs) ∧ PrsAt H xs ps ∧ Q (.bl (decide (p ∈ ps))) H
theorem op_inP (hu : X.A.units + 64 < cLine) : OpR X (compareOp .In) (rInP X.K) := by
  intro pins s σ H x y v u Q I rx ry h
  obtain ⟨a, b, p, xs, ps, rfl, rfl, ha, hb, hp, q⟩ := h
  have d1 : Dp X.K H (.ref a) (prD p) := .tup (SqT.of ha) (.cons (.int _) (.cons (.int _) .nil))
  obtain ⟨as, r1⟩ := Dp.reads I _ _ v d1 rx
  have room : X.A.units + 1 + min (PyData.depthAll (ps.map prD)) (prD p).depth < cLine := by
    have := prs_depth ps
    omega
  rw [← prs_any] at q
  rcases hb with hb | hb
  · obtain ⟨bs, r2⟩ := Dp.reads I _ _ u (Dp.lst hb hp.dp) ry
    exact SeqAt.in_list_reads r2 r1 (prs_lay ps) (prD_lay p) room ⟨.bl _, H, I, rfl, q⟩
  · obtain ⟨bs, r2⟩ := Dp.reads I _ _ u (Dp.tup hb hp.dp) ry
    exact SeqAt.in_tuple_reads r2 r1 (prs_lay ps) (prD_lay p) room ⟨.bl _, H, I, rfl, q⟩
end
end Up
end
section
set_option Elab.async false
set_option linter.all false
set_option maxRecDepth 100000
set_option maxHeartbeats 400000
namespace Up
open PySem PySem.Spec PyProof.Rows L2
section
variable {X : Cx}
def rRemP : V → List V → Hp → VK → Prop := fun x vs H Q => ∃ (l a : Addr) (xs : List V) (ps : List (Nat × Nat)) (p : Nat × Nat) (j : Nat), x = .ref l ∧ vs = [.ref a] ∧ H l = some (.lst xs) ∧ H a = some (.tup (prV p)) ∧ PrsAt H xs ps ∧ ps[j]? = some p ∧ (∀ m : Nat, m < j → ps[m]? ≠ some p) ∧ Q .non (upd H l (.lst (xs.eraseIdx j)))
theorem prs_place {ps : List (Nat × Nat)} {p : Nat × Nat} {j : Nat} (h : ps[j]? = some p) (no : ∀ m : Nat, m < j → ps[m]? ≠ some p) : SeqAt.dataPlace (ps.map prD) (prD p) = some j := by
  unfold SeqAt.dataPlace
  rw [List.findIdx?_eq_some_iff_getElem]
  obtain ⟨hj, e⟩ := List.getElem?_eq_some_iff.mp h
  refine ⟨by rw [List.length_map]; exact hj, ?_, fun m hm => ?_⟩
  · rw [List.getElem_map, e, prD_eqv]; exact decide_eq_true rfl
  · rw [List.getElem_map, prD_eqv]
    have hml : m < ps.length := by omega
    intro e2
    exact no m hm (by rw [List.getElem?_eq_getElem hml, of_decide_eq_true e2])
theorem mt_remP (hu : X.A.units + 64 < cLine) : MtM X "list.remove" rRemP := by
  intro pins s σ H x xs v us Q I rx rxs h
  obtain ⟨l, a, ys, ps, p, j, rfl, rfl, hH, ha, hp, hj, hno, q⟩ := h
  cases rx
  obtain ⟨u, rfl, ru⟩ := rxs.one
  obtain ⟨z, its, n, r, hl, e⟩ := I.lstM hH
  obtain ⟨as, r1⟩ := Dp.reads I _ _ u (Dp.tup (K := X.K) (SqT.of ha) (.cons (.int (p.1 : Nat)) (.cons (.int (p.2 : Nat)) .nil))) ru
  obtain ⟨bs, r2⟩ := Dp.readsAll I _ _ its (PrsAt.dp (K := X.K) hp) r
  have room : X.A.units + 1 + min (PyData.depthAll (ps.map prD)) (prD p).depth < cLine := by
    have := prs_depth ps
    omega
  refine SeqAt.remove_list_data (vs := its.toArray) ⟨_, e, rfl, n, rfl⟩ r2 r1 (prs_plain ps) (prD_plain p) room (prs_place hj hno) (by rw [List.size_toArray]; omega) ?_
  refine ⟨.non, _, I.lset (its' := its.eraseIdx j) (t' := s.toks) hH e ?_ (r.eraseIdx j) ?_, rfl, q⟩
  · show its.toArray.eraseIdxIfInBounds j = (its.eraseIdx j).toArray
    rw [List.eraseIdxIfInBounds_toArray]
  · have := len_erase ys j
    omega
end
end Up
end
section
set_option Elab.async false
set_option linter.all false
set_option maxRecDepth 100000
set_option maxHeartbeats 400000
namespace Up
open PySem PySem.Spec PyProof.Rows L2
/-! ### check_meetings, neighbors_of -/
abbrev sCheckM : Stmt := topS 9
abbrev sNeigh : Stmt := topS 10
theorem scCheckM : FnScope ["n", "pairs", "at", "pair"] ["n", "pairs"] (defScope sCheckM) := ⟨rfl, rfl, rfl, by decide +kernel, rfl, by decide +kernel, by decide +kernel⟩
theorem scNeigh : FnScope ["n", "pairs", "found", "i", "j", "_", "told"] ["n", "pairs"] (defScope sNeigh) := ⟨rfl, rfl, rfl, by decide +kernel, rfl, by decide +kernel, by decide +kernel⟩
structure PsOk (n : Nat) (ps : List (Nat × Nat)) : Prop where
  n1 : 1 ≤ n
  n24 : n ≤ 24
  rng : ∀ p ∈ ps, p.1 < p.2 ∧ p.2 < n
  asc : ps.Pairwise fun p q => p.1 < q.1 ∨ (p.1 = q.1 ∧ p.2 < q.2)
  few : ps.length ≤ 1000
def spCheckM : Sp := fun vs H Q _ => ∃ (n : Nat) (q : Addr) (xs : List V) (ps : List (Nat × Nat)), vs = [.int (n : Nat), .ref q] ∧ H q = some (.tup xs) ∧ PrsAt H xs ps ∧ PsOk n ps ∧ Q (.ref q) H
def adjOf (ps : List (Nat × Nat)) (i j : Nat) : Prop := (i, j) ∈ ps ∨ (j, i) ∈ ps
def spNeigh : Sp := fun vs H Q _ => ∃ (n : Nat) (q : Addr) (xs : List V) (ps : List (Nat × Nat)), vs = [.int (n : Nat), .ref q] ∧ H q = some (.tup xs) ∧ PrsAt H xs ps ∧ PsOk n ps ∧ ∀ H' a nb, Same H H' → RowsAt .lst H' a nb → GrOk (adjOf ps) n nb → Q (.ref a) H'
theorem PrsAt.get {H : Hp} {xs : List V} {ps : List (Nat × Nat)} (h : PrsAt H xs ps) {i : Nat} {v : V} (e : xs[i]? = some v) : ∃ p t, ps[i]? = some p ∧ v = .ref t ∧ H t = some (.tup (prV p)) := by
  have il := (List.getElem?_eq_some_iff.mp e).1
  rw [h.1] at il
  obtain ⟨t, h1, h2⟩ := h.2 i _ (List.getElem?_eq_getElem il)
  rw [h1] at e
  exact ⟨_, t, List.getElem?_eq_getElem il, (Option.some.inj e).symm, h2⟩
section
variable {P : Program} {w : World} {K : PySem.W.Frag} {mg : Str → Option Value} {base : Heap}
theorem ok_check_meetings (A : Here K mg "check_meetings" sCheckM ["n", "pairs"]) (T : Top mg) (D : Df P w K mg base "is_size" ["n"] 1 spIsSize) : Df P w K mg base "check_meetings" ["n", "pairs"] 2 spCheckM := by
  refine A.df scCheckM (fun vs H Q E h => ?_) (fun f cdv A outer sh H vs Q E hr h => ?_)
  · obtain ⟨n, q, xs, ps, rfl, _⟩ := h; rfl
  · obtain ⟨n, qa, xs, ps, rfl, hq, hp, ok, q⟩ := h
    have nd := scCheckM.nd
    refine ⟨_, pss_cons (ps_if (pt_not (pt_val (pe_df D hr rfl (pa_cons (pv 0) pa_nil)))) (pss_one ps_never) pss_nil)
      (pss_cons (ps_for PassesOwn.never rfl (pi_range1 rfl T.range (pa_cons (pe_callB call_len_seq rfl T.len PySem.boot_len (pa_cons (pv 1) pa_nil)) pa_nil)) (pg_name (i := 2) nd rfl (.inl rfl))
        (pss_cons (ps_set (i := 3) nd rfl (.inl rfl) (pe_ix ix_tup (pv 1) (pv 2) (fun _ _ => rfl)))
        (pss_cons (ps_if (PW.pt (pw_or (pt_cmpR op_ne (pe_callB call_len_seq rfl T.len PySem.boot_len (pa_cons (pv 3) pa_nil)) pe_int (nomark _))
            (pw_or1 (pt_not (pt_chain3 op_le op_lt op_lt pe_int (pe_ix ix_tup (pv 3) pe_int (fun _ _ => rfl)) (pe_ix ix_tup (pv 3) pe_int (fun _ _ => rfl)) (pv 0)))))) (pss_one ps_never) pss_nil)
        (pss_one (ps_if (PW.pt (pw_and (pt_cmpR op_gt (pv 2) pe_int (nomark _)) (pw_and1 (pt_cmpR (op_geP hr.units0) (pe_ix ix_tup (pv 1) (pe_op op_sub (pv 2) pe_int) (fun _ _ => rfl)) (pv 3) (nomark _))))) (pss_one ps_never) pss_nil)))))
      (pss_one (ps_ret (pv 1)))), ?_⟩
    have n1 := ok.n1
    have n24 := ok.n24
    have few := ok.few
    have hl := hp.1
    refine ⟨_, rfl, (n : Int), rfl, by omega, by omega, true, rfl, iteF ?_⟩
    refine ⟨_, rfl, qa, xs, rfl, .inr (SqT.of hq), _, rfl, by omega, by omega, for_range (lo := 0) (n := ((xs.length : Nat) : Int).toNat) (fun i σ H1 => ∃ y2 y3, σ = [some (.int (n : Nat)), some (.ref qa), y2, y3] ∧ H1 = H)
      ⟨none, none, rfl, rfl⟩ ?_ ?_⟩
    · rintro i σ H1 hi ⟨y2, y3, rfl, rfl⟩
      have ev : (0 : Int) + (i : Nat) = (i : Nat) := by omega
      rw [ev]
      have il : i < ps.length := by omega
      have hpi : ps[i]? = some ps[i] := List.getElem?_eq_getElem il
      obtain ⟨t, h1, h2⟩ := hp.2 i _ hpi
      obtain ⟨r1, r2⟩ := ok.rng _ (List.getElem_mem il)
      generalize hpe : ps[i] = p at hpi h2 r1 r2
      refine ⟨_, rfl, _, rfl, qa, _, _, _, rfl, rfl, SqT.of hq, atI_nat h1, ?_⟩
      refine ⟨_, rfl, t, _, rfl, .inr (SqT.of h2), rfl, _, rfl, ?_⟩
      refine iteDn (fun c => (c rfl).elim) (fun _ => ?_)
      refine ⟨_, rfl, t, _, 0, _, rfl, rfl, SqT.of h2, atI_nat (j := 0) rfl, _, _, rfl, rfl, ?_⟩
      refine ⟨congrArg V.bl (decide_eq_true (by omega)), _, rfl, t, _, 1, _, rfl, rfl, SqT.of h2, atI_nat (j := 1) rfl, _, _, rfl, rfl, congrArg V.bl (decide_eq_true (by omega)), _, rfl, _, _, rfl, rfl, _, rfl, ?_⟩
      refine iteDn (fun c => (c (by omega)).elim) (fun _ => ?_)
      refine ⟨_, rfl, _, _, rfl, rfl, _, rfl, iteD (fun c => ?_) (fun c => ?_)⟩
      · have c' : 0 < i := by omega
        have jl : i - 1 < ps.length := by omega
        have hpj : ps[i - 1]? = some ps[i - 1] := List.getElem?_eq_getElem jl
        obtain ⟨t', h1', h2'⟩ := hp.2 (i - 1) _ hpj
        have lt := List.pairwise_iff_getElem.mp ok.asc (i - 1) i jl il (by omega)
        rw [hpe] at lt
        generalize hpje : ps[i - 1] = p' at hpj h2' lt
        have ej : ((i : Nat) : Int) - 1 = ((i - 1 : Nat) : Int) := by omega
        refine ⟨_, rfl, _, rfl, _, _, rfl, rfl, qa, xs, _, _, rfl, rfl, SqT.of hq, ?_, _, rfl, t', t, _, _, _, _, rfl, rfl, h2', h2, _, rfl, ?_⟩
        · rw [ej]; exact atI_nat h1'
        · refine iteDn (fun c => (c ?_).elim) (fun _ => ?_)
          · omega
          · exact ⟨_, _, rfl, rfl⟩
      · exact ⟨_, _, rfl, rfl⟩
    · rintro σ H1 ⟨y2, y3, rfl, rfl⟩
      exact ⟨_, rfl, q⟩
end
end Up
end
section
set_option Elab.async false
set_option linter.all false
set_option maxRecDepth 100000
set_option maxHeartbeats 400000
namespace Up
open PySem PySem.Spec PyProof.Rows L2
/-- a list of lists of persons, each list by itself and new since H0 -/
def RowsD (H0 H : Hp) (F : Addr) (rs : List Addr) (ls : List (List Nat)) : Prop :=
  H F = some (.lst (rs.map V.ref)) ∧ rs.length = ls.length ∧ rs.Nodup ∧ (∀ r ∈ rs, H0 r = none) ∧ (∀ r ∈ rs, r ≠ F) ∧ ∀ (i : Nat) l, ls[i]? = some l → ∃ r, rs[i]? = some r ∧ H r = some (.lst (natVs l))
theorem RowsD.push {H0 H : Hp} {F : Addr} {rs : List Addr} {ls : List (List Nat)} (h : RowsD H0 H F rs ls) {i : Nat} {r : Addr} {l : List Nat} (hr : rs[i]? = some r) (hl : ls[i]? = some l) (x : Nat) : RowsD H0 (upd H r (.lst (natVs l ++ [.int (x : Nat)]))) F rs (ls.set i (l ++ [x])) := by
  obtain ⟨h1, h2, h3, h4, h5, h6⟩ := h
  have rm := List.mem_of_getElem? hr
  refine ⟨by rw [upd_ne (Ne.symm (h5 r rm))]; exact h1, by rw [List.length_set]; exact h2, h3, h4, h5, fun j l' e => ?_⟩
  by_cases c : j = i
  · subst c
    have il := (List.getElem?_eq_some_iff.mp hl).1
    rw [List.getElem?_set_self il] at e
    cases e
    exact ⟨r, hr, by rw [upd_same, natVs_app]; rfl⟩
  · rw [List.getElem?_set_ne (Ne.symm c)] at e
    obtain ⟨r', k1, k2⟩ := h6 j l' e
    refine ⟨r', k1, ?_⟩
    have : r' ≠ r := fun e' => by
      subst e'
      obtain ⟨a1, b1⟩ := List.getElem?_eq_some_iff.mp k1
      obtain ⟨a2, b2⟩ := List.getElem?_eq_some_iff.mp hr
      exact c ((List.getElem_inj h3).mp (b1.trans b2.symm))
    rw [upd_ne this]; exact k2
/-- what the lists hold behind some pairs -/
def NbOk (n : Nat) (qs : List (Nat × Nat)) (ls : List (List Nat)) : Prop := ls.length = n ∧ ∀ (i : Nat) l, ls[i]? = some l → l.Nodup ∧ ∀ x, x ∈ l ↔ adjOf qs i x
theorem NbOk.push {n : Nat} {qs : List (Nat × Nat)} {ls : List (List Nat)} (h : NbOk n qs ls) {i j : Nat} {li lj : List Nat} (ij : i < j) (no : (i, j) ∉ qs) (no2 : (j, i) ∉ qs) (hi : ls[i]? = some li) (hj : ls[j]? = some lj) : NbOk n (qs ++ [(i, j)]) ((ls.set i (li ++ [j])).set j (lj ++ [i])) := by
  obtain ⟨h1, h2⟩ := h
  refine ⟨by rw [List.length_set, List.length_set]; exact h1, fun k l e => ?_⟩
  have il := (List.getElem?_eq_some_iff.mp hi).1
  have jl := (List.getElem?_eq_some_iff.mp hj).1
  have ad : ∀ k x, adjOf (qs ++ [(i, j)]) k x ↔ adjOf qs k x ∨ (k = i ∧ x = j) ∨ (x = i ∧ k = j) := fun k x => by
    unfold adjOf
    simp only [List.mem_append, List.mem_singleton, Prod.mk.injEq]
    constructor
    · rintro ((h | h) | (h | h))
      · exact .inl (.inl h)
      · exact .inr (.inl h)
      · exact .inl (.inr h)
      · exact .inr (.inr h)
    · rintro ((h | h) | (h | h))
      · exact .inl (.inl h)
      · exact .inr (.inl h)
      · exact .inl (.inr h)
      · exact .inr (.inr h)
  by_cases c : k = j
  · subst c
    rw [List.getElem?_set_self (by rw [List.length_set]; exact jl)] at e
    cases e
    obtain ⟨n1, n2⟩ := h2 k lj hj
    refine ⟨List.nodup_append.mpr ⟨n1, by simp, fun a ha b hb e => ?_⟩, fun x => ?_⟩
    · rw [List.mem_singleton.mp hb] at e
      subst e
      rcases (n2 a).mp ha with h | h
      · exact no2 h
      · exact no h
    · rw [List.mem_append, List.mem_singleton, n2 x, ad]
      constructor
      · rintro (h | h)
        · exact .inl h
        · exact .inr (.inr ⟨h, rfl⟩)
      · rintro (h | ⟨h, _⟩ | ⟨h, _⟩)
        · exact .inl h
        · omega
        · exact .inr h
  · rw [List.getElem?_set_ne (Ne.symm c)] at e
    by_cases d : k = i
    · subst d
      rw [List.getElem?_set_self il] at e
      cases e
      obtain ⟨n1, n2⟩ := h2 k li hi
      refine ⟨List.nodup_append.mpr ⟨n1, by simp, fun a ha b hb e => ?_⟩, fun x => ?_⟩
      · rw [List.mem_singleton.mp hb] at e
        subst e
        rcases (n2 a).mp ha with h | h
        · exact no h
        · exact no2 h
      · rw [List.mem_append, List.mem_singleton, n2 x, ad]
        constructor
        · rintro (h | h)
          · exact .inl h
          · exact .inr (.inl ⟨rfl, h⟩)
        · rintro (h | ⟨_, h⟩ | ⟨_, h⟩)
          · exact .inl h
          · exact .inr h
          · omega
    · rw [List.getElem?_set_ne (Ne.symm d)] at e
      obtain ⟨n1, n2⟩ := h2 k l e
      refine ⟨n1, fun x => ?_⟩
      rw [n2 x, ad]
      constructor
      · exact .inl
      · rintro (h | ⟨h, _⟩ | ⟨_, h⟩)
        · exact h
        · exact (d h).elim
        · exact (c h).elim
theorem NbOk.small {n : Nat} {ps qs : List (Nat × Nat)} {ls : List (List Nat)} (ok : PsOk n ps) (sub : ∀ p ∈ qs, p ∈ ps) (h : NbOk n qs ls) {i : Nat} {l : List Nat} (e : ls[i]? = some l) : l.length ≤ 24 := by
  obtain ⟨n1, n2⟩ := h.2 i l e
  refine Nat.le_trans (Gr.nodup_le (n := n) n1 fun x hx => ?_) ok.n24
  rcases (n2 x).mp hx with h | h
  · exact (ok.rng _ (sub _ h)).2
  · have := ok.rng _ (sub _ h)
    omega
theorem PsOk.nodup {n : Nat} {ps : List (Nat × Nat)} (ok : PsOk n ps) : ps.Nodup := by
  rw [List.nodup_iff_pairwise_ne]
  exact ok.asc.imp fun {a b} h e => by
    subst e
    omega
theorem PsOk.gr {n : Nat} {ps : List (Nat × Nat)} (ok : PsOk n ps) {nb : List (List Nat)} (len : nb.length = n) (h : ∀ (i : Nat) l, nb[i]? = some l → l.Pairwise (· < ·) ∧ ∀ x, x ∈ l ↔ adjOf ps i x) : GrOk (adjOf ps) n nb where
  len := len
  n24 := ok.n24
  mem := fun i l e j => (h i l e).2 j
  asc := fun i l e => (h i l e).1
  sy := fun a b h => h.elim .inr .inl
  ir := fun a h => by
    rcases h with h | h <;> exact absurd (ok.rng _ h).1 (Nat.lt_irrefl _)
  lt := fun a b h => by
    rcases h with h | h
    · have := ok.rng _ h
      exact ⟨Nat.lt_trans this.1 this.2, this.2⟩
    · have := ok.rng _ h
      exact ⟨this.2, Nat.lt_trans this.1 this.2⟩
theorem pairwise_lt {l : List Nat} (h : l.Pairwise (· ≤ ·)) (nd : l.Nodup) : l.Pairwise (· < ·) := by
  have := h.and (List.nodup_iff_pairwise_ne.mp nd)
  exact this.imp fun {a b} h => Nat.lt_of_le_of_ne h.1 h.2
section
variable {P : Program} {w : World} {K : PySem.W.Frag} {mg : Str → Option Value} {base : Heap}
theorem ok_neighbors (A : Here K mg "neighbors_of" sNeigh ["n", "pairs"]) (T : Top mg) : Df P w K mg base "neighbors_of" ["n", "pairs"] 1 spNeigh := by
  refine A.df scNeigh (fun vs H Q E h => ?_) (fun f cdv A outer sh H vs Q E hr h => ?_)
  · obtain ⟨n, q, xs, ps, rfl, _⟩ := h; rfl
  · obtain ⟨n, qa, xs, ps, rfl, hq, hp, ok, q⟩ := h
    have nd := scNeigh.nd
    refine ⟨_, pss_cons (ps_setLc (i := 2) (own := [("_", 5)]) (g := gName 5) (tt := tYes) rfl nd rfl rfl (sw_true rfl rfl rfl (by decide +kernel)) (pi_range1 rfl T.range (pa_cons (pv 0) pa_nil)) (blkOk_by (N := ["n", "pairs", "found", "i", "j", "_", "told"]) (sc := defScope sNeigh) (by decide +kernel))
        (fun _ _ _ _ _ => pg_name (i := 5) nd rfl (.inl rfl)) (fun _ _ _ _ _ => pts_nil) (fun _ _ _ _ _ => pe_lst pa_nil))
      (pss_cons (ps_for PassesOwn.never rfl (pi_tup (pv 1)) (pg_tup rfl (pgs_cons (pg_name (i := 3) nd rfl (.inl rfl)) (pgs_cons (pg_name (i := 4) nd rfl (.inl rfl)) pgs_nil)))
        (pss_cons (ps_expr (pe_bm PySem.F.plainAttrs_list PySem.F.slot_list_append PySem.F.type_list_append mt_append (pe_ix ix_list (pv 2) (pv 3) (fun _ _ => rfl)) (pa_cons (pv 4) pa_nil)))
        (pss_one (ps_expr (pe_bm PySem.F.plainAttrs_list PySem.F.slot_list_append PySem.F.type_list_append mt_append (pe_ix ix_list (pv 2) (pv 4) (fun _ _ => rfl)) (pa_cons (pv 3) pa_nil))))))
      (pss_one (ps_ret (pe_lc (own := [("told", 6)]) (g := gName 6) (tt := tYes) (te := tCB (rSortedI K) (tCons (tVar 6) tNil)) rfl nd (pi_list (pv 2)) (blkOk_by (N := ["n", "pairs", "found", "i", "j", "_", "told"]) (sc := defScope sNeigh) (by decide +kernel))
        (fun _ _ _ _ _ => pg_name (i := 6) nd rfl (.inl rfl)) (fun _ _ _ _ _ => pts_nil) (fun _ _ _ _ _ => pe_callB cr_sortedI rfl T.sorted (by decide +kernel) (pa_cons (pv 6) pa_nil)))))), ?_⟩
    have n1 := ok.n1
    have n24 := ok.n24
    refine ⟨_, rfl, _, rfl, by omega, by omega, fun F nF => lc_range (lo := 0) (n := ((n : Nat) : Int).toNat) (fun i H1 => Same H H1 ∧ ∃ rs, rs.length = i ∧ RowsD H H1 F rs (List.replicate i []))
      ⟨same_new nF, [], rfl, upd_same, rfl, .nil, (fun r hr => by simp at hr), (fun r hr => by simp at hr), fun i l e => by simp at e⟩ ?_ ?_⟩
    · rintro i H1 hi ⟨sm1, rs, lr, d1, d2, d3, d4, d5, d6⟩
      refine ⟨rfl, yes ⟨Nat.zero_le _, fun r nr => ⟨_, same_new nr _ _ d1, small1000 (by rw [List.length_map]; omega), ?_⟩⟩⟩
      have s2 := same_new (o := .lst []) nr
      have rF : r ≠ F := fun e => by rw [e, d1] at nr; cases nr
      have keep : ∀ {c : Addr} {u : HO}, (upd H1 r (.lst [])) c = some u → c ≠ F → (upd (upd H1 r (.lst [])) F (.lst (rs.map V.ref ++ [.ref r]))) c = some u := fun e ne => by rw [upd_ne ne]; exact e
      refine ⟨fun c u e => ?_, rs ++ [r], by simp [lr], by rw [upd_same, List.map_append]; rfl, by simp [lr], ?_, ?_, ?_, fun j l e => ?_⟩
      · have cF : c ≠ F := fun e' => by rw [← e', e] at nF; cases nF
        exact keep (s2 _ _ (sm1 _ _ e)) cF
      · refine List.nodup_append.mpr ⟨d3, by simp, fun a ha b hb e => ?_⟩
        rw [List.mem_singleton.mp hb] at e
        subst e
        obtain ⟨j, hj, ej⟩ := List.mem_iff_getElem.mp ha
        obtain ⟨r', k1, k2⟩ := d6 j [] (by rw [List.getElem?_replicate, if_pos (by omega)])
        rw [List.getElem?_eq_getElem hj, ej] at k1
        cases k1
        rw [k2] at nr; cases nr
      · intro r' hr'
        rcases List.mem_append.mp hr' with h | h
        · exact d4 r' h
        · rw [List.mem_singleton.mp h]
          exact sm1.free nr
      · intro r' hr'
        rcases List.mem_append.mp hr' with h | h
        · exact d5 r' h
        · rw [List.mem_singleton.mp h]; exact rF
      · have jl : j < i + 1 := by have := (List.getElem?_eq_some_iff.mp e).1; simpa using this
        have el : l = [] := by
          rw [List.getElem?_replicate, if_pos jl] at e
          exact (Option.some.inj e).symm
        subst el
        by_cases c : j < i
        · obtain ⟨r', k1, k2⟩ := d6 j [] (by rw [List.getElem?_replicate, if_pos c])
          exact ⟨r', by rw [List.getElem?_append_left (by omega)]; exact k1, keep (s2 _ _ k2) (d5 r' (List.mem_of_getElem? k1))⟩
        · have : j = i := by omega
          subst this
          exact ⟨r, by rw [List.getElem?_append_right (by omega), lr]; simp, keep upd_same rF⟩
    · rintro H1 ⟨sm1, rs, lr, rd⟩
      have en : ((n : Nat) : Int).toNat = n := Int.toNat_natCast n
      rw [en] at rd lr
      have nFH := nF
      refine ⟨_, rfl, qa, rfl, ⟨_, SqT.of (sm1 _ _ hq)⟩, for_tup (K := K) (a := qa) (xs := xs) (fun k σ H2 => ∃ y3 y4 y5 y6 ls, σ = [some (.int (n : Nat)), some (.ref qa), some (.ref F), y3, y4, y5, y6] ∧ Same H H2 ∧ RowsD H H2 F rs ls ∧ NbOk n (ps.take k) ls)
        ⟨none, none, none, none, List.replicate n [], rfl, sm1, rd, by simp, fun i l e => ?_⟩ (fun i σ H2 _ ⟨_, _, _, _, _, _, sm, _⟩ => SqT.of (sm _ _ hq)) ?_ ?_⟩
      · have il : i < n := by have := (List.getElem?_eq_some_iff.mp e).1; simpa using this
        rw [List.getElem?_replicate, if_pos il] at e
        cases e
        exact ⟨.nil, fun x => ⟨fun h => by simp at h, fun h => by simp [adjOf] at h⟩⟩
      · rintro k v σ H2 hk ⟨y3, y4, y5, y6, ls, rfl, sm2, rd2, nb⟩
        obtain ⟨⟨i, j⟩, t, hpk, rfl, ht⟩ := hp.get hk
        have et : ps.take (k + 1) = ps.take k ++ [(i, j)] := by rw [List.take_add_one, hpk]; rfl
        obtain ⟨ij, jn⟩ := ok.rng _ (List.mem_of_getElem? hpk)
        have ij : i < j := ij
        have jn : j < n := jn
        have kl := (List.getElem?_eq_some_iff.mp hpk).1
        have sub : ∀ p ∈ ps.take k, p ∈ ps := fun p hp => List.mem_of_mem_take hp
        have no : (i, j) ∉ ps.take k := fun h => by
          obtain ⟨m, hm, em⟩ := List.mem_iff_getElem.mp h
          rw [List.getElem_take] at em
          rw [List.length_take] at hm
          obtain ⟨h2, e2⟩ := List.getElem?_eq_some_iff.mp hpk
          have := (List.getElem_inj ok.nodup).mp (em.trans e2.symm)
          omega
        have no2 : (j, i) ∉ ps.take k := fun h => by
          have : j < i := (ok.rng _ (sub _ h)).1
          omega
        have ll := nb.1
        obtain ⟨li, hli⟩ : ∃ l, ls[i]? = some l := ⟨_, List.getElem?_eq_getElem (by omega)⟩
        obtain ⟨lj, hlj⟩ : ∃ l, ls[j]? = some l := ⟨_, List.getElem?_eq_getElem (by omega)⟩
        have si := nb.small ok sub hli
        have sj := nb.small ok sub hlj
        obtain ⟨ri, a1, a2⟩ := rd2.2.2.2.2.2 i li hli
        have gi : (rs.map V.ref)[i]? = some (.ref ri) := by rw [List.getElem?_map, a1]; rfl
        refine ⟨t, _, rfl, SqT.of (sm2 _ _ ht), rfl, _, _, rfl, _, _, rfl, rfl, ?_⟩
        refine ⟨_, rfl, _, rfl, F, _, _, _, rfl, rfl, SqL.of rd2.1, atI_nat gi, .inl ⟨rfl, _, SqL.of a2⟩, _, rfl, ri, _, _, rfl, rfl, a2, small1000 (by rw [natVs_len]; omega), ?_⟩
        have rd3 := rd2.push a1 hli j
        have hlj3 : (ls.set i (li ++ [j]))[j]? = some lj := by rw [List.getElem?_set_ne (by omega)]; exact hlj
        obtain ⟨rj, b1, b2⟩ := rd3.2.2.2.2.2 j lj hlj3
        have gj : (rs.map V.ref)[j]? = some (.ref rj) := by rw [List.getElem?_map, b1]; rfl
        refine ⟨_, rfl, _, rfl, F, _, _, _, rfl, rfl, SqL.of rd3.1, atI_nat gj, .inl ⟨rfl, _, SqL.of b2⟩, _, rfl, rj, _, _, rfl, rfl, b2, small1000 (by rw [natVs_len]; omega), ?_⟩
        refine ⟨_, _, _, _, _, rfl, fun c u e => ?_, rd3.push b1 hlj3 i, by rw [et]; exact nb.push ij no no2 hli hlj⟩
        have n1 := rd2.2.2.2.1
        have c1 : c ≠ ri := fun e' => by rw [← e'] at a1; rw [n1 c (List.mem_of_getElem? a1)] at e; cases e
        have c2 : c ≠ rj := fun e' => by rw [← e'] at b1; rw [n1 c (List.mem_of_getElem? b1)] at e; cases e
        rw [upd_ne c2, upd_ne c1]
        exact sm2 _ _ e
      · rintro σ H2 ⟨y3, y4, y5, y6, ls, rfl, sm2, rd2, nb⟩
        have hx := hp.1
        rw [hx, List.take_length] at nb
        obtain ⟨d1, d2, d3, d4, d5, d6⟩ := rd2
        have ll := nb.1
        refine ⟨_, rfl, F, rfl, ⟨_, SqL.of d1⟩, fun D nD => lc_list (K := K) (a := F) (xs := rs.map V.ref) (fun i H3 => Same H2 H3 ∧ ∃ gs gl, H3 D = some (.lst ((gs : List Addr).map V.ref)) ∧ gs.length = i ∧ (gl : List (List Nat)).length = i ∧ (∀ (j : Nat) l, gl[j]? = some l → ∃ r, gs[j]? = some r ∧ H3 r = some (.lst (natVs l))) ∧ (∀ (j : Nat) l, gl[j]? = some l → l.Pairwise (· < ·) ∧ ∀ x, x ∈ l ↔ adjOf ps j x) ∧ ∀ r ∈ gs, r ≠ D)
          ⟨same_new nD, [], [], upd_same, rfl, rfl, (fun j l e => by simp at e), (fun j l e => by simp at e), fun r hr => by simp at hr⟩ (fun i H3 _ ⟨sm, _⟩ => SqL.of (sm _ _ d1)) ?_ ?_⟩
        · rintro i v H3 hi ⟨sm3, gs, gl, e1, e2, e3, e4, e5, e6⟩
          have il : i < ls.length := by
            have := (List.getElem?_eq_some_iff.mp hi).1
            rw [List.length_map] at this; omega
          have hli : ls[i]? = some ls[i] := List.getElem?_eq_getElem il
          obtain ⟨r, k1, k2⟩ := d6 i _ hli
          have ev : v = .ref r := by
            rw [List.getElem?_map, k1] at hi
            exact (Option.some.inj hi).symm
          subst ev
          obtain ⟨ndl, ml⟩ := nb.2 i _ hli
          generalize ls[i] = l at hli k2 ndl ml
          refine ⟨rfl, yes ⟨_, rfl, r, l.map fun n : Nat => (n : Int), rfl, SqL.of (by rw [← natVs_eq]; exact sm3 _ _ k2), fun ns' z pm pw nz => ?_⟩⟩
          have s4 := same_new (o := .lst (ns'.map V.int)) nz
          obtain ⟨g, g1, g2, g3⟩ := nat_perm pm
          have zD : z ≠ D := fun e => by rw [e, e1] at nz; cases nz
          have pg : g.Pairwise (· < ·) := by
            refine pairwise_lt ?_ (g2.symm.nodup ndl)
            rw [g3, List.pairwise_map] at pw
            exact pw.imp fun {a b} h => by omega
          refine ⟨_, s4 _ _ e1, small1000 (by rw [List.length_map]; omega), fun c u e => ?_, gs ++ [z], gl ++ [g], by rw [upd_same, List.map_append]; rfl, by simp [e2], by simp [e3], fun j l' e => ?_, fun j l' e => ?_, fun r' hr' => ?_⟩
          · have cD : c ≠ D := ne_of_none e nD
            rw [upd_ne cD]; exact s4 _ _ (sm3 _ _ e)
          · by_cases c : j < gl.length
            · rw [List.getElem?_append_left c] at e
              obtain ⟨r', m1, m2⟩ := e4 j l' e
              refine ⟨r', by rw [List.getElem?_append_left (by omega)]; exact m1, ?_⟩
              rw [upd_ne (e6 r' (List.mem_of_getElem? m1))]; exact s4 _ _ m2
            · rw [List.getElem?_append_right (by omega)] at e
              by_cases c2 : j = gl.length
              · subst c2
                simp at e
                subst e
                refine ⟨z, by rw [List.getElem?_append_right (by omega), e2, e3]; simp, ?_⟩
                rw [upd_ne zD, upd_same, g1]
              · rw [List.getElem?_eq_none (by simp; omega)] at e; cases e
          · by_cases c : j < gl.length
            · rw [List.getElem?_append_left c] at e
              exact e5 j l' e
            · rw [List.getElem?_append_right (by omega)] at e
              by_cases c2 : j = gl.length
              · subst c2
                simp at e
                subst e
                refine ⟨pg, fun x => ?_⟩
                rw [g2.mem_iff, e3]; exact ml x
              · rw [List.getElem?_eq_none (by simp; omega)] at e; cases e
          · rcases List.mem_append.mp hr' with h | h
            · exact e6 r' h
            · rw [List.mem_singleton.mp h]; exact zD
        · rintro H3 ⟨sm3, gs, gl, e1, e2, e3, e4, e5, e6⟩
          rw [List.length_map] at e2 e3
          refine q H3 D gl (sm2.trans sm3) ⟨gs, e1, by rw [e2, e3], e4⟩ (ok.gr (by rw [e3, d2, ll]) e5)
end
end Up
end
section
set_option Elab.async false
set_option linter.all false
set_option maxRecDepth 100000
set_option maxHeartbeats 400000
namespace Up
open PySem PySem.Spec PyProof.Rows L2
/-! ### hours_of, visits -/
abbrev sHours : Stmt := topS 42
abbrev sVisits : Stmt := topS 43
theorem scHours : FnScope ["n", "groups", "order", "hours", "person", "times", "time"] ["n", "groups", "order"] (defScope sHours) := ⟨rfl, rfl, rfl, by decide +kernel, rfl, by decide +kernel, by decide +kernel⟩
theorem scVisits : FnScope ["n", "pairs", "neighbors", "ring", "three", "groups", "sets", "person", "tree", "index"] ["n", "pairs"] (defScope sVisits) := ⟨rfl, rfl, rfl, by decide +kernel, rfl, by decide +kernel, by decide +kernel⟩
/-- person x is in the group that the time τ names -/
def atB (gs : List (List Nat)) (o : List Int) (x τ : Nat) : Bool := match o[τ]? with
  | some k => decide (x ∈ gs.getD k.toNat [])
  | none => false
theorem atB_at {gs : List (List Nat)} {o : List Int} (hp : o.Perm ((List.range gs.length).map fun i : Nat => (i : Int))) {x τ : Nat} : atB gs o x τ = true ↔ Gr.At gs o x τ := by
  unfold atB Gr.At
  cases e : o[τ]? with
  | none => simp
  | some k =>
    have hm := hp.mem_iff.mp (List.mem_of_getElem? e)
    obtain ⟨j, hj, rfl⟩ := List.mem_map.mp hm
    have hj' := List.mem_range.mp hj
    show decide (x ∈ gs.getD ((j : Nat) : Int).toNat []) = true ↔ _
    rw [Int.toNat_natCast, List.getD_eq_getElem?_getD, List.getElem?_eq_getElem hj', decide_eq_true_eq]
    constructor
    · intro h
      exact ⟨j, _, rfl, List.getElem?_eq_getElem hj', h⟩
    · rintro ⟨k, g, e1, e2, h⟩
      have : (j : Int) = (k : Int) := Option.some.inj e1
      have : j = k := by omega
      subst this
      rw [List.getElem?_eq_getElem hj'] at e2
      cases e2
      exact h
/-- the hours of the persons -/
def HsOk (gs : List (List Nat)) (o : List Int) (hs : List (Nat × Nat)) : Prop := ∀ (x : Nat) p, hs[x]? = some p → Gr.At gs o x p.1 ∧ Gr.At gs o x p.2 ∧ ∀ τ, Gr.At gs o x τ → p.1 ≤ τ ∧ τ ≤ p.2
def spHours : Sp := fun vs H Q _ => ∃ (n : Nat) (a oa : Addr) (gs : List (List Nat)) (o : List Int), vs = [.int (n : Nat), .ref a, .ref oa] ∧ RowsAt .tup H a gs ∧ H oa = some (.lst (o.map V.int)) ∧ o.Perm ((List.range gs.length).map fun i : Nat => (i : Int)) ∧ gs.length ≤ 24 ∧ n ≤ 24 ∧
  (∀ x, x < n → ∃ g ∈ gs, x ∈ g) ∧ ∀ H' q xs hs, Same H H' → H' q = some (.tup xs) → PrsAt H' xs hs → hs.length = n → HsOk gs o hs → Q (.ref q) H'
section
variable {P : Program} {w : World} {K : PySem.W.Frag} {mg : Str → Option Value} {base : Heap}
theorem ok_hours (A : Here K mg "hours_of" sHours ["n", "groups", "order"]) (T : Top mg) : Df P w K mg base "hours_of" ["n", "groups", "order"] 1 spHours := by
  refine A.df scHours (fun vs H Q E h => ?_) (fun f cdv A outer sh H vs Q E hr h => ?_)
  · obtain ⟨n, a, oa, gs, o, rfl, _⟩ := h; rfl
  · obtain ⟨n, a, oa, gs, o, rfl, ha, ho, pm, g24, n24, cov, q⟩ := h
    have nd := scHours.nd
    refine ⟨_, pss_cons (ps_set (i := 3) nd rfl (.inl rfl) (pe_lst pa_nil))
      (pss_cons (ps_for PassesOwn.never rfl (pi_range1 rfl T.range (pa_cons (pv 0) pa_nil)) (pg_name (i := 4) nd rfl (.inr rfl))
        (pss_cons (ps_setLc (i := 5) (own := [("time", 6)]) (g := gName 6) (tt := tTest (tOp (rIn K false) (tVar 4) (tOp (rIxL K) (tVar 1) (tOp (rIxL K) (tVar 2) (tVar 6))))) rfl nd rfl rfl (sw_true rfl rfl rfl (by decide +kernel)) (pi_range1 rfl T.range (pa_cons (pe_callB call_len_seq rfl T.len PySem.boot_len (pa_cons (pv 2) pa_nil)) pa_nil)) (blkOk_by (N := ["n", "groups", "order", "hours", "person", "times", "time"]) (sc := defScope sHours) (by decide +kernel))
            (fun _ _ _ _ _ => pg_name (i := 6) nd rfl (.inl rfl)) (fun _ _ _ _ _ => pts_one (pt_cmpR (r := rIn K false) op_in_seq (pv 4) (pe_ix (r := rIxL K) ix_list (pv 1) (pe_ix (r := rIxL K) ix_list (pv 2) (pv 6) (fun _ _ => rfl)) (fun _ _ => rfl)) (by rfl))) (fun _ _ _ _ _ => pv 6))
        (pss_one (ps_expr (pe_bm PySem.F.plainAttrs_list PySem.F.slot_list_append PySem.F.type_list_append mt_append (pv 3) (pa_cons (pe_tup (pa_cons (pe_callB (cr_min rfl) rfl T.min (by decide +kernel) (pa_cons (pv 5) pa_nil)) (pa_cons (pe_callB (cr_max rfl) rfl T.max (by decide +kernel) (pa_cons (pv 5) pa_nil)) pa_nil))) pa_nil))))))
      (pss_one (ps_ret (pe_callTy call_tuple_of rfl T.tuple (by decide +kernel) (pa_cons (pv 3) pa_nil))))), ?_⟩
    have lo : o.length = gs.length := by rw [pm.length_eq, List.length_map, List.length_range]
    refine ⟨Nat.zero_le _, fun L nL => ?_⟩
    have s1 := same_new (o := .lst []) nL
    have hL : ∀ {c u}, H c = some u → c ≠ L := fun e => ne_of_none e nL
    refine ⟨_, rfl, _, rfl, by omega, by omega, for_range (lo := 0) (n := ((n : Nat) : Int).toNat) (fun i σ H1 => ∃ y4 y5 y6 xs hs, σ = [some (.int (n : Nat)), some (.ref a), some (.ref oa), some (.ref L), y4, y5, y6] ∧ Same H H1 ∧ H1 L = some (.lst xs) ∧ PrsAt H1 xs hs ∧ hs.length = i ∧ HsOk gs o hs)
      ⟨none, none, none, [], [], rfl, s1, upd_same, PrsAt.nil _, rfl, fun x p e => by simp at e⟩ ?_ ?_⟩
    · rintro x σ H1 hx ⟨y4, y5, y6, xs, hs, rfl, sm1, eL, hp, lh, hok⟩
      have xn : x < n := by omega
      have ev : (0 : Int) + (x : Nat) = (x : Nat) := by omega
      rw [ev]
      have ho1 := sm1 _ _ ho
      refine ⟨_, rfl, oa, _, rfl, .inl (SqL.of ho1), _, rfl, by omega, by rw [List.length_map]; omega, fun D nD => lc_range (lo := 0) (n := (((o.map V.int).length : Nat) : Int).toNat) (fun i H2 => H2 D = some (.lst (natVs ((List.range i).filter (atB gs o x)))) ∧ Same H1 H2)
        ⟨upd_same, same_new nD⟩ ?_ ?_⟩
      · rintro τ H2 hτ ⟨e2, sm2⟩
        have eτ : (0 : Int) + (τ : Nat) = (τ : Nat) := by omega
        rw [eτ]
        rw [List.length_map] at hτ
        have hτ' : τ < o.length := by omega
        have hoτ : o[τ]? = some o[τ] := List.getElem?_eq_getElem hτ'
        have hm := pm.mem_iff.mp (List.getElem_mem hτ')
        obtain ⟨k, hk, ek⟩ := List.mem_map.mp hm
        have hk' := List.mem_range.mp hk
        have hgk : gs[k]? = some gs[k] := List.getElem?_eq_getElem hk'
        obtain ⟨ys, r, f1, f2, f3, f4⟩ := (ha.mono (sm1.trans sm2)).get hgk
        have go : (o.map V.int)[τ]? = some (.int (k : Nat)) := by rw [List.getElem?_map, hoτ, ← ek]; rfl
        have ab : atB gs o x τ = decide (x ∈ gs[k]) := by
          unfold atB
          rw [hoτ, ← ek]
          show decide (x ∈ gs.getD ((k : Nat) : Int).toNat []) = _
          rw [Int.toNat_natCast, List.getD_eq_getElem?_getD, hgk]; rfl
        refine ⟨rfl, _, rfl, _, rfl, _, rfl, _, rfl, oa, _, _, _, rfl, rfl, SqL.of (sm2 _ _ ho1), atI_nat go, a, ys, _, _, rfl, rfl, SqL.of f1, atI_nat f3, in_row (.inr f4) ⟨_, rfl, ?_⟩⟩
        rw [← ab]
        cases c : atB gs o x τ with
        | true =>
          refine iteT ⟨_, rfl, _, e2, small1000 ?_, ?_, fun q' u eu => ?_⟩
          · rw [natVs_len]
            have := List.length_filter_le (atB gs o x) (List.range τ)
            rw [List.length_range] at this
            omega
          · rw [upd_same, List.range_succ, List.filter_append, natVs_app]
            have : List.filter (atB gs o x) [τ] = [τ] := by rw [List.filter_cons, if_pos c]; rfl
            rw [this]; rfl
          · rw [upd_ne (ne_of_none eu nD)]; exact sm2 _ _ eu
        | false =>
          refine iteF ⟨?_, sm2⟩
          have : List.filter (atB gs o x) [τ] = [] := by rw [List.filter_cons, if_neg (by rw [c]; decide)]; rfl
          rw [e2, List.range_succ, List.filter_append, this, List.append_nil]
      · rintro H2 ⟨e2, sm2⟩
        have el : (((o.map V.int).length : Nat) : Int).toNat = o.length := by rw [List.length_map]; exact Int.toNat_natCast _
        rw [el] at e2
        have mem : ∀ τ, τ ∈ (List.range o.length).filter (atB gs o x) ↔ Gr.At gs o x τ := fun τ => by
          rw [List.mem_filter, List.mem_range, atB_at pm]
          constructor
          · exact fun h => h.2
          · intro h
            obtain ⟨k, g, e, _⟩ := id h
            exact ⟨(List.getElem?_eq_some_iff.mp e).1, h⟩
        obtain ⟨τ0, h0⟩ : ∃ τ, Gr.At gs o x τ := by
          obtain ⟨g, hg, xg⟩ := cov x xn
          obtain ⟨k, hk, ek⟩ := List.mem_iff_getElem.mp hg
          have : (k : Int) ∈ o := pm.mem_iff.mpr (List.mem_map.mpr ⟨k, List.mem_range.mpr hk, rfl⟩)
          obtain ⟨τ, hτ, eτ⟩ := List.mem_iff_getElem.mp this
          exact ⟨τ, k, g, by rw [List.getElem?_eq_getElem hτ, eτ], by rw [List.getElem?_eq_getElem hk, ek], xg⟩
        generalize (List.range o.length).filter (atB gs o x) = ts at e2 mem
        have tpos : 0 < (ts.map fun n : Nat => (n : Int)).length := by
          rw [List.length_map]
          exact List.length_pos_of_mem ((mem τ0).mpr h0)
        have sq : ∀ {H3 : Hp}, Same H2 H3 → SqL K H3 D ((ts.map fun n : Nat => (n : Int)).map V.int) := fun sm => SqL.of (by rw [← natVs_eq]; exact sm _ _ e2)
        have eL2 := sm2 _ _ eL
        refine ⟨_, rfl, .inl ⟨rfl, _, SqL.of eL2⟩, _, rfl, D, _, rfl, sq (Same.refl _), tpos, fun m1 hm1 le1 => ⟨_, rfl, D, _, rfl, sq (Same.refl _), tpos, fun m2 hm2 le2 => ⟨(by show 2 ≤ sizeLine; decide), fun t nt => ?_⟩⟩⟩
        obtain ⟨t1, ht1, rfl⟩ := List.mem_map.mp hm1
        obtain ⟨t2, ht2, rfl⟩ := List.mem_map.mp hm2
        have s3 := same_new (o := .tup [.int (t1 : Nat), .int (t2 : Nat)]) nt
        have tL : t ≠ L := fun e => by rw [e, eL2] at nt; cases nt
        refine ⟨L, _, _, rfl, rfl, s3 _ _ eL2, small1000 (by rw [hp.1]; omega), ?_⟩
        have hp3 := (hp.mono sm2).mono s3
        have keep : ∀ {c : Addr} {u : HO}, (upd H2 t (.tup [.int (t1 : Nat), .int (t2 : Nat)])) c = some u → c ≠ L → (upd (upd H2 t (.tup [.int (t1 : Nat), .int (t2 : Nat)])) L (.lst (xs ++ [.ref t]))) c = some u := fun e ne => by rw [upd_ne ne]; exact e
        have hp4 : PrsAt (upd (upd H2 t (.tup [.int (t1 : Nat), .int (t2 : Nat)])) L (.lst (xs ++ [.ref t]))) xs hs := ⟨hp3.1, fun i p e => by
          obtain ⟨t', k1, k2⟩ := hp3.2 i p e
          exact ⟨t', k1, keep k2 (fun e' => by rw [e', s3 _ _ eL2] at k2; cases k2)⟩⟩
        refine ⟨_, _, _, _, hs ++ [(t1, t2)], rfl, fun c u e => keep (s3 _ _ (sm2 _ _ (sm1 _ _ e))) (hL e), upd_same, hp4.snoc (keep upd_same tL), by simp [lh], fun y p e => ?_⟩
        by_cases c : y < hs.length
        · rw [List.getElem?_append_left c] at e
          exact hok y p e
        · rw [List.getElem?_append_right (by omega)] at e
          by_cases c2 : y = hs.length
          · subst c2
            simp at e
            subst e
            rw [lh]
            refine ⟨(mem t1).mp ht1, (mem t2).mp ht2, fun τ hτ => ?_⟩
            have := le1 _ (List.mem_map.mpr ⟨τ, (mem τ).mpr hτ, rfl⟩)
            have := le2 _ (List.mem_map.mpr ⟨τ, (mem τ).mpr hτ, rfl⟩)
            show t1 ≤ τ ∧ τ ≤ t2
            omega
          · rw [List.getElem?_eq_none (by simp; omega)] at e; cases e
    · rintro σ H1 ⟨y4, y5, y6, xs, hs, rfl, sm1, eL, hp, lh, hok⟩
      refine ⟨_, rfl, L, xs, rfl, .inl ⟨SqL.of eL, fun z nz => ?_⟩⟩
      have s2 := same_new (o := .tup xs) nz
      exact q _ z xs hs (sm1.trans s2) upd_same (hp.mono s2) (by rw [lh]; exact Int.toNat_natCast n) hok
end
end Up
end
section
set_option Elab.async false
set_option linter.all false
set_option maxRecDepth 100000
set_option maxHeartbeats 400000
namespace Up
open PySem PySem.Spec PyProof.Rows L2
/-- what visits answers -/
inductive VisAt (adj : Nat → Nat → Prop) (n : Nat) (H : Hp) : V → Prop
  | hours {q a : Addr} {xs : List V} {hs : List (Nat × Nat)} : H q = some (.tup [.str "hours", .ref a]) → H a = some (.tup xs) → PrsAt H xs hs → hs.length = n → (∀ (x : Nat) p, hs[x]? = some p → p.1 ≤ p.2) →
      (∀ (x y : Nat) p r, x ≠ y → hs[x]? = some p → hs[y]? = some r → (adj x y ↔ p.1 ≤ r.2 ∧ r.1 ≤ p.2)) → VisAt adj n H (.ref q)
  | ring {q a : Addr} : H q = some (.tup [.str "ring", .ref a]) → RingAt adj n H (.ref a) → VisAt adj n H (.ref q)
  | three {q t u : Addr} {a b c : Nat} : H q = some (.tup [.str "three", .ref t, .ref u]) → H t = some (.tup [.int (a : Nat), .int (b : Nat), .int (c : Nat)]) → a < b → b < c → c < n → WaysAt adj n a b c H (.ref u) → ¬ Gr.NoThree adj → VisAt adj n H (.ref q)
def spVisits : Sp := fun vs H Q _ => ∃ (n : Nat) (q : Addr) (xs : List V) (ps : List (Nat × Nat)), vs = [.int (n : Nat), .ref q] ∧ H q = some (.tup xs) ∧ PrsAt H xs ps ∧ PsOk n ps ∧ ∀ H' v, Same H H' → VisAt (adjOf ps) n H' v → Q v H'
theorem setOf_get {gs : List (List Nat)} {n x : Nat} {S : List Int} (h : ((List.range n).map (Gr.setOf gs))[x]? = some S) : S = Gr.setOf gs x := by
  rw [List.getElem?_map] at h
  cases e : (List.range n)[x]? with
  | none => rw [e] at h; cases h
  | some y =>
    rw [e] at h
    obtain ⟨hx, ey⟩ := List.getElem?_eq_some_iff.mp e
    rw [List.getElem_range] at ey
    subst ey
    exact (Option.some.inj h).symm
section
variable {P : Program} {w : World} {K : PySem.W.Frag} {mg : Str → Option Value} {base : Heap}
theorem ok_visits (A : Here K mg "visits" sVisits ["n", "pairs"]) (T : Top mg) (DC : Df P w K mg base "check_meetings" ["n", "pairs"] 2 spCheckM) (DN : Df P w K mg base "neighbors_of" ["n", "pairs"] 1 spNeigh) (DR : Df P w K mg base "find_ring" ["neighbors"] 3 spFindRing)
    (DT : Df P w K mg base "find_three" ["neighbors"] 3 spThree) (DG : Df P w K mg base "greatest_groups" ["neighbors"] 3 spGreat) (DA : Df P w K mg base "reduced_by_all" ["tree", "sets"] 80 spRedAll) (DP : Df P w K mg base "plain_tree" ["n"] 3 spPlain)
    (DH : Df P w K mg base "hours_of" ["n", "groups", "order"] 1 spHours) (DL : Df P w K mg base "listed" ["tree"] 25 (spListed 24)) : Df P w K mg base "visits" ["n", "pairs"] 81 spVisits := by
  refine A.df scVisits (fun vs H Q E h => ?_) (fun f cdv A outer sh H vs Q E hr h => ?_)
  · obtain ⟨n, q, xs, ps, rfl, _⟩ := h; rfl
  · obtain ⟨n, qa, xs, ps, rfl, hq, hp, ok, q⟩ := h
    have nd := scVisits.nd
    refine ⟨_, pss_cons (ps_expr (pe_df DC (hr.mono (by decide)) rfl (pa_cons (pv 0) (pa_cons (pv 1) pa_nil))))
      (pss_cons (ps_set (i := 2) nd rfl (.inl rfl) (pe_df DN (hr.mono (by decide)) rfl (pa_cons (pv 0) (pa_cons (pv 1) pa_nil))))
      (pss_cons (ps_set (i := 3) nd rfl (.inl rfl) (pe_df DR (hr.mono (by decide)) rfl (pa_cons (pv 2) pa_nil)))
      (pss_cons (ps_if (pt_cmpR op_notN (pv 3) pe_non (nomark _)) (pss_one (ps_ret (pe_tup (pa_cons pe_str (pa_cons (pv 3) pa_nil))))) pss_nil)
      (pss_cons (ps_set (i := 4) nd rfl (.inl rfl) (pe_df DT (hr.mono (by decide)) rfl (pa_cons (pv 2) pa_nil)))
      (pss_cons (ps_if (pt_cmpR op_notN (pv 4) pe_non (nomark _)) (pss_one (ps_ret (pe_tup (pa_cons pe_str (pa_cons (pe_ix ix_tup (pv 4) pe_int (fun _ _ => rfl)) (pa_cons (pe_ix ix_tup (pv 4) pe_int (fun _ _ => rfl)) pa_nil)))))) pss_nil)
      (pss_cons (ps_set (i := 5) nd rfl (.inr rfl) (pe_df DG (hr.mono (by decide)) rfl (pa_cons (pv 2) pa_nil)))
      (pss_cons (ps_set (i := 6) nd rfl (.inl rfl) (pe_lst pa_nil))
      (pss_cons (ps_for PassesOwn.never rfl (pi_range1 rfl T.range (pa_cons (pv 0) pa_nil)) (pg_name (i := 7) nd rfl (.inr rfl))
        (pss_one (ps_expr (pe_bm PySem.F.plainAttrs_list PySem.F.slot_list_append PySem.F.type_list_append mt_append (pv 6) (pa_cons (pe_callTy call_tuple_of rfl T.tuple (by decide +kernel) (pa_cons
          (pe_lc (own := [("index", 9)]) (g := gName 9) (tt := tTest (tOp (rIn K false) (tVar 7) (tOp (rIxL K) (tVar 5) (tVar 9)))) rfl nd (pi_range1 rfl T.range (pa_cons (pe_callB call_len_seq rfl T.len PySem.boot_len (pa_cons (pv 5) pa_nil)) pa_nil)) (blkOk_by (N := ["n", "pairs", "neighbors", "ring", "three", "groups", "sets", "person", "tree", "index"]) (sc := defScope sVisits) (by decide +kernel))
            (fun _ _ _ _ _ => pg_name (i := 9) nd rfl (.inl rfl)) (fun _ _ _ _ _ => pts_one (pt_cmpR (r := rIn K false) op_in_seq (pv 7) (pe_ix (r := rIxL K) ix_list (pv 5) (pv 9) (fun _ _ => rfl)) (by rfl))) (fun _ _ _ _ _ => pv 9)) pa_nil)) pa_nil)))))
      (pss_cons (ps_set (i := 8) nd rfl (.inl rfl) (pe_df DA hr rfl (pa_cons (pe_df DP (hr.mono (by decide)) rfl (pa_cons (pe_callB call_len_seq rfl T.len PySem.boot_len (pa_cons (pv 5) pa_nil)) pa_nil)) (pa_cons (pv 6) pa_nil))))
      (pss_one (ps_ret (pe_tup (pa_cons pe_str (pa_cons (pe_df DH (hr.mono (by decide)) rfl (pa_cons (pv 0) (pa_cons (pv 5) (pa_cons (pe_df DL (hr.mono (by decide)) rfl (pa_cons (pv 8) pa_nil)) pa_nil)))) pa_nil)))))))))))))), ?_⟩
    have n1 := ok.n1
    have n24 := ok.n24
    refine ⟨_, rfl, _, rfl, n, qa, xs, ps, rfl, hq, hp, ok, ?_⟩
    refine ⟨_, rfl, _, rfl, n, qa, xs, ps, rfl, hq, hp, ok, fun H1 na nb sm1 hnb gr => ?_⟩
    refine ⟨_, rfl, na, nb, n, _, rfl, hnb, gr, fun H2 u sm2 alt => ?_⟩
    have s02 := sm1.trans sm2
    rcases alt with ⟨rfl, nr⟩ | ra
    · refine ⟨_, rfl, rfl, _, rfl, iteDn (fun c => (c rfl).elim) (fun _ => ?_)⟩
      refine ⟨_, rfl, na, nb, n, _, rfl, hnb.mono sm2, gr, fun H3 u sm3 alt => ?_⟩
      have s03 := s02.trans sm3
      rcases alt with ⟨rfl, nt⟩ | ⟨ta, nnt⟩
      · refine ⟨_, rfl, rfl, _, rfl, iteDn (fun c => (c rfl).elim) (fun _ => ?_)⟩
        obtain ⟨lo, hi, md⟩ := Gr.exists_model gr.sy gr.ir nr nt n (Gr.card (fun x => x < n) n) (fun x => x < n) (fun x h => h) (Nat.le_refl _)
        refine ⟨_, rfl, na, nb, n, _, lo, hi, rfl, (hnb.mono sm2).mono sm3, gr, md, fun H4 ga gs sm4 hgs grp => ?_⟩
        have s04 := s03.trans sm4
        have g24 : gs.length ≤ 24 := Nat.le_trans grp.len n24
        have g1 : 1 ≤ gs.length := by
          obtain ⟨g, hg, _⟩ := grp.cov 0 0 (by omega) (by omega) (.inl rfl)
          exact List.length_pos_of_mem hg
        -- sets
        refine ⟨Nat.zero_le _, fun Z nZ => ?_⟩
        have s5 := same_new (o := .lst []) nZ
        have hZ : ∀ {c u}, H4 c = some u → c ≠ Z := fun e => ne_of_none e nZ
        refine ⟨_, rfl, _, rfl, by omega, by omega, for_range (lo := 0) (n := ((n : Nat) : Int).toNat) (fun i σ H5 => ∃ y7 y8 y9 cs, σ = [some (.int (n : Nat)), some (.ref qa), some (.ref na), some .non, some .non, some (.ref ga), some (.ref Z), y7, y8, y9] ∧ Same H4 H5 ∧ H5 Z = some (.lst cs) ∧ cs.length = i ∧ ∀ x : Nat, x < i → ∃ c, cs[x]? = some (.ref c) ∧ H5 c = some (.tup ((Gr.setOf gs x).map V.int)))
          ⟨none, none, none, [], rfl, s5, upd_same, rfl, fun x hx => absurd hx (Nat.not_lt_zero x)⟩ ?_ ?_⟩
        · rintro x σ H5 hx ⟨y7, y8, y9, cs, rfl, sm5, eZ, lc, hc⟩
          have ev : (0 : Int) + (x : Nat) = (x : Nat) := by omega
          rw [ev]
          obtain ⟨rs, e1, e2, e3⟩ := hgs.mono sm5
          refine ⟨_, rfl, .inl ⟨rfl, _, SqL.of eZ⟩, _, rfl, ga, _, rfl, .inl (SqL.of e1), _, rfl, by omega, by rw [List.length_map]; omega, fun D nD => lc_range (lo := 0) (n := (((rs.map V.ref).length : Nat) : Int).toNat) (fun i H6 => H6 D = some (.lst (natVs ((List.range i).filter fun k => decide (x ∈ gs.getD k [])))) ∧ Same H5 H6)
            ⟨upd_same, same_new nD⟩ ?_ ?_⟩
          · rintro k H6 hk ⟨e6, sm6⟩
            have ek : (0 : Int) + (k : Nat) = (k : Nat) := by omega
            rw [ek]
            rw [List.length_map] at hk
            have hk' : k < gs.length := by omega
            have hgk : gs[k]? = some gs[k] := List.getElem?_eq_getElem hk'
            obtain ⟨r, k1, k2⟩ := e3 k _ hgk
            have gk : (rs.map V.ref)[k]? = some (.ref r) := by rw [List.getElem?_map, k1]; rfl
            have gd : gs.getD k [] = gs[k] := by rw [List.getD_eq_getElem?_getD, hgk]; rfl
            refine ⟨rfl, _, rfl, _, rfl, _, rfl, ga, _, _, _, rfl, rfl, SqL.of (sm6 _ _ e1), atI_nat gk, in_row (.inr (sm6 _ _ k2)) ⟨_, rfl, iteD (fun c => ?_) (fun c => ?_)⟩⟩
            · refine ⟨_, rfl, _, e6, small1000 ?_, ?_, fun q' u eu => ?_⟩
              · rw [natVs_len]
                have := List.length_filter_le (fun k => decide (x ∈ gs.getD k [])) (List.range k)
                rw [List.length_range] at this
                omega
              · rw [upd_same, List.range_succ, List.filter_append, natVs_app]
                have : List.filter (fun k => decide (x ∈ gs.getD k [])) [k] = [k] := by rw [List.filter_cons, if_pos (by rw [gd]; exact decide_eq_true c)]; rfl
                rw [this]; rfl
              · rw [upd_ne (ne_of_none eu nD)]; exact sm6 _ _ eu
            · refine ⟨?_, sm6⟩
              have : List.filter (fun k => decide (x ∈ gs.getD k [])) [k] = [] := by rw [List.filter_cons, if_neg (by rw [gd]; simpa using c)]; rfl
              rw [e6, List.range_succ, List.filter_append, this, List.append_nil]
          · rintro H6 ⟨e6, sm6⟩
            have el : (((rs.map V.ref).length : Nat) : Int).toNat = gs.length := by rw [List.length_map, Int.toNat_natCast]; exact e2
            rw [el] at e6
            refine ⟨D, _, rfl, .inl ⟨SqL.of e6, fun t nt => ?_⟩⟩
            have s7 := same_new (o := .tup (natVs ((List.range gs.length).filter fun k => decide (x ∈ gs.getD k [])))) nt
            have eZ6 := sm6 _ _ eZ
            have tZ : t ≠ Z := fun e => by rw [e, eZ6] at nt; cases nt
            refine ⟨Z, _, _, rfl, rfl, s7 _ _ eZ6, small1000 (by omega), ?_⟩
            have keep : ∀ {c : Addr} {u : HO}, (upd H6 t (.tup (natVs ((List.range gs.length).filter fun k => decide (x ∈ gs.getD k []))))) c = some u → c ≠ Z → (upd (upd H6 t (.tup (natVs ((List.range gs.length).filter fun k => decide (x ∈ gs.getD k []))))) Z (.lst (cs ++ [.ref t]))) c = some u := fun e ne => by rw [upd_ne ne]; exact e
            refine ⟨_, _, _, cs ++ [.ref t], rfl, fun c u e => keep (s7 _ _ (sm6 _ _ (sm5 _ _ e))) (hZ e), upd_same, by simp [lc], fun y hy => ?_⟩
            by_cases c : y < x
            · obtain ⟨c', k1, k2⟩ := hc y c
              exact ⟨c', by rw [List.getElem?_append_left (by omega)]; exact k1, keep (s7 _ _ (sm6 _ _ k2)) (fun e' => by rw [e', eZ] at k2; cases k2)⟩
            · have : y = x := by omega
              subst this
              refine ⟨t, by rw [List.getElem?_append_right (by omega), lc]; simp, keep ?_ tZ⟩
              rw [upd_same, natVs_eq]; rfl
        · rintro σ H5 ⟨y7, y8, y9, cs, rfl, sm5, eZ, lc, hc⟩
          have en : ((n : Nat) : Int).toNat = n := Int.toNat_natCast n
          rw [en] at lc hc
          have s05 := s04.trans sm5
          obtain ⟨rs, e1, e2, e3⟩ := hgs.mono sm5
          have el : (rs.map V.ref).length = gs.length := by rw [List.length_map]; exact e2
          refine ⟨_, rfl, ga, _, rfl, .inl (SqL.of e1), ?_⟩
          rw [el]
          refine ⟨gs.length, rfl, g1, g24, fun H6 v6 sm6 ht => ?_⟩
          have pg := Pq.plain_good g1
          have ndl : ((List.range gs.length).map fun i : Nat => (i : Int)).Nodup := by
            have h0 : (List.range gs.length).Nodup := List.nodup_range
            rw [List.nodup_iff_pairwise_ne] at h0 ⊢
            rw [List.pairwise_map]
            exact h0.imp fun {a b} h e => h (by omega)
          have ll : ((List.range gs.length).map fun i : Nat => (i : Int)).length ≤ 24 := by rw [List.length_map, List.length_range]; exact g24
          have sub : ∀ S ∈ (List.range n).map (Gr.setOf gs), ∀ x ∈ S, x ∈ (List.range gs.length).map fun i : Nat => (i : Int) := fun S hS x hx => by
            obtain ⟨y, _, rfl⟩ := List.mem_map.mp hS
            unfold Gr.setOf at hx
            obtain ⟨k, hk, rfl⟩ := List.mem_map.mp hx
            exact List.mem_map.mpr ⟨k, (List.mem_filter.mp hk).1, rfl⟩
          refine ⟨_, rfl, v6, _, Z, (List.range n).map (Gr.setOf gs), (List.range gs.length).map fun i : Nat => (i : Int), rfl, ht, pg, ndl, ll, ⟨cs, sm6 _ _ eZ, by simp [lc], fun i S e => ?_⟩, sub, fun H7 v7 r sm7 hr7 ov => ?_⟩
          · have il : i < n := by have := (List.getElem?_eq_some_iff.mp e).1; simpa using this
            rw [setOf_get e]
            obtain ⟨c, k1, k2⟩ := hc i il
            exact ⟨c, k1, sm6 _ _ k2⟩
          obtain ⟨o, po, to⟩ := Gr.exists_order gr.sy md (by omega) grp.mx
          obtain ⟨t', rfl, gt, tell⟩ := hr7.good ndl ll pg sub (Pq.plain_tells po) (fun S hS => by
            obtain ⟨y, hy, rfl⟩ := List.mem_map.mp hS
            exact to y (List.mem_range.mp hy))
          have tt : TreeAt H7 v7 t' := ov
          have tg := (tell _ (Pq.tells_listed t')).2
          have lt : (Pq.listed t').length ≤ 24 := by rw [gt.perm.length_eq]; exact ll
          have dt := gt.wf.depth_lt
          have s47 := sm5.trans (sm6.trans sm7)
          refine ⟨_, rfl, _, rfl, _, rfl, v7, t', rfl, tt, by omega, by omega, fun H8 la sm8 nla ela => ?_⟩
          have s48 := s47.trans sm8
          refine ⟨n, ga, la, gs, Pq.listed t', rfl, hgs.mono s48, ela, gt.perm, g24, n24, fun x hx => ?_, fun H9 hq9 xs9 hs sm9 eq9 ph lh hok => ?_⟩
          · obtain ⟨g, hg, xg, _⟩ := grp.cov x x hx hx (.inl rfl)
            exact ⟨g, hg, xg⟩
          refine ⟨(by show 2 ≤ sizeLine; decide), fun z nz => ?_⟩
          have s10 := same_new (o := .tup [.str "hours", .ref hq9]) nz
          refine q _ _ (s04.trans (s48.trans (sm9.trans s10))) (.hours upd_same (s10 _ _ eq9) (ph.mono s10) lh (fun x p e => ?_) fun x y p r ne e1 e2 => ?_)
          · obtain ⟨a1, a2, a3⟩ := hok x p e
            exact (a3 _ a1).2
          · have xl := (List.getElem?_eq_some_iff.mp e1).1
            have yl := (List.getElem?_eq_some_iff.mp e2).1
            have val : ∀ u, u < n → ∃ pu, hs[u]? = some pu := fun u hu => ⟨_, List.getElem?_eq_getElem (by omega)⟩
            have key := Gr.hours_ok grp gt.perm (fun u hu => tg _ (List.mem_map.mpr ⟨u, List.mem_range.mpr hu, rfl⟩)) (mn := fun u => ((hs[u]?).getD (0, 0)).1) (mx := fun u => ((hs[u]?).getD (0, 0)).2)
              (fun u hu => by
                obtain ⟨pu, eu⟩ := val u hu
                rw [eu]; exact (hok u pu eu).1)
              (fun u hu => by
                obtain ⟨pu, eu⟩ := val u hu
                rw [eu]; exact (hok u pu eu).2.1)
              (fun u hu τ hτ => by
                obtain ⟨pu, eu⟩ := val u hu
                rw [eu]; exact (hok u pu eu).2.2 τ hτ) x y (by omega) (by omega) ne
            rw [e1, e2] at key
            exact key
      · obtain ⟨q3, t, u', a, b, c, rfl, h1, h2, l1, l2, l3, wa⟩ := ta
        refine ⟨_, rfl, rfl, _, rfl, iteDn (fun _ => ?_) (fun c => nomatch c)⟩
        refine ⟨_, rfl, q3, _, 0, _, rfl, rfl, SqT.of h1, atI_nat (j := 0) rfl, _, rfl, q3, _, 1, _, rfl, rfl, SqT.of h1, atI_nat (j := 1) rfl, (by show 3 ≤ sizeLine; decide), fun z nz => ?_⟩
        have s4 := same_new (o := .tup [.str "three", .ref t, .ref u']) nz
        exact q _ _ (s03.trans s4) (.three upd_same (s4 _ _ h2) l1 l2 l3 (wa.mono s4) nnt)
    · obtain ⟨q2, r, rfl, h1, h2, h3, h4⟩ := ra
      refine ⟨_, rfl, rfl, _, rfl, iteDn (fun _ => ?_) (fun c => nomatch c)⟩
      refine ⟨_, rfl, (by show 2 ≤ sizeLine; decide), fun z nz => ?_⟩
      have s4 := same_new (o := .tup [.str "ring", .ref q2]) nz
      exact q _ _ (s02.trans s4) (.ring upd_same ⟨q2, r, rfl, s4 _ _ h1, h2, h3, h4⟩)
end
end Up
end
section
set_option Elab.async false
set_option linter.all false
set_option maxRecDepth 100000
set_option maxHeartbeats 400000
namespace Up
open PySem PySem.Spec PyProof.Rows L2
/-! ### the law's helpers: cell, digits, rich, met, explains -/
abbrev sCell : Stmt := topS 45
abbrev sDigits : Stmt := topS 46
abbrev sRich : Stmt := topS 47
abbrev sExpl : Stmt := topS 49
abbrev sMet : Stmt := topS 50
theorem scCell : FnScope ["_law_script", "_law_k"] ["_law_script", "_law_k"] (defScope sCell) := ⟨rfl, rfl, rfl, by decide +kernel, rfl, by decide +kernel, by decide +kernel⟩
theorem scDigits : FnScope ["_law_cell_here", "_law_sizes", "_law_row", "_law_size"] ["_law_cell_here", "_law_sizes"] (defScope sDigits) := ⟨rfl, rfl, rfl, by decide +kernel, rfl, by decide +kernel, by decide +kernel⟩
theorem scRich : FnScope ["_law_cell_here", "_law_low", "_law_high"] ["_law_cell_here"] (defScope sRich) := ⟨rfl, rfl, rfl, by decide +kernel, rfl, by decide +kernel, by decide +kernel⟩
theorem scExpl : FnScope ["_law_n", "_law_pairs_here", "_law_hours", "_law_i", "_law_j", "_law_is_together"] ["_law_n", "_law_pairs_here", "_law_hours"] (defScope sExpl) := ⟨rfl, rfl, rfl, by decide +kernel, rfl, by decide +kernel, by decide +kernel⟩
theorem scMet : FnScope ["_law_pairs_here", "_law_i", "_law_j"] ["_law_pairs_here", "_law_i", "_law_j"] (defScope sMet) := ⟨rfl, rfl, rfl, by decide +kernel, rfl, by decide +kernel, by decide +kernel⟩
def spCell (K : PySem.W.Frag) : Sp := fun vs H Q _ => ∃ (a : Addr) (k : Nat) (ns : List Int), vs = [.ref a, .int (k : Nat)] ∧ SqL K H a (ns.map V.int) ∧ Q (.int (ns.getD k 0)) H
def spDigits : Sp := fun vs H Q _ => ∃ (c : Int) (p : Addr) (szs : List Int), vs = [.int c, .ref p] ∧ H p = some (.lst (szs.map V.int)) ∧ szs.length ≤ 1000 ∧ (∀ z ∈ szs, 0 < z ∧ z < 1073741824) ∧
  ∀ H' q ds, Same H H' → H' q = some (.lst ((ds : List Int).map V.int)) → ds.length = szs.length → (∀ d ∈ ds, 0 ≤ d) → Q (.ref q) H'
def richI (c : Int) : Int := if 10 ^ 18 ≤ c then c else ((c * 48271 + 11) % 2147483647) * 2147483629 + (((c * 48271 + 11) % 2147483647) * 69621 + c / 7 + 5) % 2147483629
def spRich : Sp := fun vs H Q _ => ∃ c : Int, vs = [.int c] ∧ Q (.int (richI c)) H
section
variable {P : Program} {w : World} {K : PySem.W.Frag} {mg : Str → Option Value} {base : Heap}
theorem ok_cell (A : Here K mg "_law_cell" sCell ["_law_script", "_law_k"]) (T : Top mg) : Df P w K mg base "_law_cell" ["_law_script", "_law_k"] 1 (spCell K) := by
  refine A.df scCell (fun vs H Q E h => ?_) (fun f cdv A outer sh H vs Q E hr h => ?_)
  · obtain ⟨a, k, ns, rfl, _⟩ := h; rfl
  · obtain ⟨a, k, ns, rfl, ha, q⟩ := h
    have nd := scCell.nd
    refine ⟨_, pss_cons (ps_if (pt_cmpR op_lt (pv 1) (pe_callB call_len_seq rfl T.len PySem.boot_len (pa_cons (pv 0) pa_nil)) (nomark _)) (pss_one (ps_ret (pe_ix ix_list (pv 0) (pv 1) (fun _ _ => rfl)))) pss_nil)
      (pss_one (ps_ret pe_int)), ?_⟩
    refine ⟨_, rfl, _, rfl, a, _, rfl, .inl ha, _, _, rfl, rfl, _, rfl, ite2 (fun c => ?_) (fun c => ?_)⟩
    · have kl : k < ns.length := by
        have : ((k : Nat) : Int) < (((ns.map V.int).length : Nat) : Int) := of_decide_eq_true c
        rw [List.length_map] at this; omega
      refine ⟨_, rfl, _, rfl, a, _, _, _, rfl, rfl, ha, atI_nat (j := k) (v := .int (ns.getD k 0)) ?_, q⟩
      rw [List.getElem?_map, List.getElem?_eq_getElem kl, List.getD_eq_getElem?_getD, List.getElem?_eq_getElem kl]; rfl
    · have kl : ns.length ≤ k := by
        have : ¬ ((k : Nat) : Int) < (((ns.map V.int).length : Nat) : Int) := fun h => c (decide_eq_true h)
        rw [List.length_map] at this; omega
      have e : ns.getD k 0 = 0 := by rw [List.getD_eq_getElem?_getD, List.getElem?_eq_none kl]; rfl
      rw [e] at q
      exact q
theorem ok_digits (A : Here K mg "_law_digits" sDigits ["_law_cell_here", "_law_sizes"]) (T : Top mg) : Df P w K mg base "_law_digits" ["_law_cell_here", "_law_sizes"] 1 spDigits := by
  refine A.df scDigits (fun vs H Q E h => ?_) (fun f cdv A outer sh H vs Q E hr h => ?_)
  · obtain ⟨c, p, szs, rfl, _⟩ := h; rfl
  · obtain ⟨c, p, szs, rfl, hp, few, hz, q⟩ := h
    have nd := scDigits.nd
    refine ⟨_, pss_cons (ps_set (i := 2) nd rfl (.inl rfl) (pe_lst pa_nil))
      (pss_cons (ps_for PassesOwn.never rfl (pi_list (pv 1)) (pg_name (i := 3) nd rfl (.inl rfl))
        (pss_cons (ps_expr (pe_bm PySem.F.plainAttrs_list PySem.F.slot_list_append PySem.F.type_list_append mt_append (pv 2) (pa_cons (pe_op op_mod (pe_callTy call_int1 rfl T.int (by decide +kernel) (pa_cons (pv 0) pa_nil)) (pv 3)) pa_nil)))
        (pss_one (ps_set (i := 0) nd rfl (.inl rfl) (pe_op op_fdiv (pv 0) (pv 3))))))
      (pss_one (ps_ret (pv 2)))), ?_⟩
    refine ⟨Nat.zero_le _, fun R nR => ?_⟩
    have s1 := same_new (o := .lst []) nR
    refine ⟨_, rfl, p, rfl, ⟨_, SqL.of (s1 _ _ hp)⟩, for_list (K := K) (a := p) (xs := szs.map V.int) (fun i σ H1 => ∃ c y ds, σ = [some (.int c), some (.ref p), some (.ref R), y] ∧ Same H H1 ∧ H1 R = some (.lst ((ds : List Int).map V.int)) ∧ ds.length = i ∧ ∀ d ∈ ds, 0 ≤ d)
      ⟨c, none, [], rfl, s1, upd_same, rfl, fun d hd => by simp at hd⟩ (fun i σ H1 _ ⟨_, _, _, _, sm, _⟩ => SqL.of (sm _ _ hp)) ?_ ?_⟩
    · rintro i v σ H1 hi ⟨c, y, ds, rfl, sm1, eR, ld, hd⟩
      obtain ⟨z, hzi, rfl⟩ : ∃ z, szs[i]? = some z ∧ v = .int z := by
        rw [List.getElem?_map] at hi
        cases e : szs[i]? with
        | none => rw [e] at hi; cases hi
        | some z => rw [e] at hi; exact ⟨z, rfl, (Option.some.inj hi).symm⟩
      have il := (List.getElem?_eq_some_iff.mp hzi).1
      obtain ⟨z1, z2⟩ := hz z (List.mem_of_getElem? hzi)
      refine ⟨_, rfl, .inl ⟨rfl, _, SqL.of eR⟩, _, rfl, .inl ⟨_, rfl, _, rfl, _, _, rfl, rfl, z1, R, _, _, rfl, rfl, eR, small1000 (by rw [List.length_map]; omega), ?_⟩⟩
      refine ⟨_, rfl, _, rfl, _, _, rfl, rfl, ⟨z1, z2⟩, ?_⟩
      refine ⟨_, _, ds ++ [c % z], rfl, fun b u e => ?_, by rw [upd_same, List.map_append]; rfl, by simp [ld], fun d hd' => ?_⟩
      · rw [upd_ne (ne_of_none e nR)]; exact sm1 _ _ e
      · rcases List.mem_append.mp hd' with h | h
        · exact hd d h
        · rw [List.mem_singleton.mp h]; exact Int.emod_nonneg _ (by omega)
    · rintro σ H1 ⟨c, y, ds, rfl, sm1, eR, ld, hd⟩
      rw [List.length_map] at ld
      exact ⟨_, rfl, q H1 R ds sm1 eR ld hd⟩
theorem ok_rich (A : Here K mg "_law_rich" sRich ["_law_cell_here"]) (T : Top mg) : Df P w K mg base "_law_rich" ["_law_cell_here"] 1 spRich := by
  refine A.df scRich (fun vs H Q E h => ?_) (fun f cdv A outer sh H vs Q E hr h => ?_)
  · obtain ⟨c, rfl, _⟩ := h; rfl
  · obtain ⟨c, rfl, q⟩ := h
    have nd := scRich.nd
    refine ⟨_, pss_cons (ps_if (pt_cmpR op_ge (pv 0) (pe_op op_pow pe_int pe_int) (nomark _)) (pss_one (ps_ret (pv 0))) pss_nil)
      (pss_cons (ps_set (i := 1) nd rfl (.inl rfl) (pe_op op_mod (pe_callTy call_int1 rfl T.int (by decide +kernel) (pa_cons (pe_op op_add (pe_op op_mul (pv 0) pe_int) pe_int) pa_nil)) pe_int))
      (pss_cons (ps_set (i := 2) nd rfl (.inl rfl) (pe_op op_mod (pe_callTy call_int1 rfl T.int (by decide +kernel) (pa_cons (pe_op op_add (pe_op op_add (pe_op op_mul (pv 1) pe_int) (pe_op op_fdiv (pv 0) pe_int)) pe_int) pa_nil)) pe_int))
      (pss_one (ps_ret (pe_op op_add (pe_op op_mul (pv 1) pe_int) (pv 2)))))), ?_⟩
    refine ⟨_, rfl, _, _, rfl, rfl, ⟨by decide, by decide, by decide⟩, _, _, rfl, rfl, _, rfl, iteD (fun c1 => ?_) (fun c1 => ?_)⟩
    · refine ⟨_, rfl, ?_⟩
      have : richI c = c := if_pos c1
      rw [this] at q
      exact q
    · have e : richI c = ((c * 48271 + 11) % 2147483647) * 2147483629 + (((c * 48271 + 11) % 2147483647) * 69621 + c / 7 + 5) % 2147483629 := if_neg c1
      rw [e] at q
      refine ⟨_, rfl, _, _, rfl, rfl, .inr (by decide), _, _, rfl, rfl, .inl ⟨_, rfl, _, _, rfl, rfl, (by show (0 : Int) < 2147483647; decide), ?_⟩⟩
      refine ⟨_, rfl, _, _, rfl, rfl, .inr (by decide), _, rfl, _, _, rfl, rfl, ⟨by decide, by decide⟩, _, _, rfl, rfl, _, _, rfl, rfl, .inl ⟨_, rfl, _, _, rfl, rfl, (by show (0 : Int) < 2147483629; decide), ?_⟩⟩
      exact ⟨_, rfl, _, _, rfl, rfl, .inr (by decide), _, rfl, _, _, rfl, rfl, q⟩
end
end Up
end
section
set_option Elab.async false
set_option linter.all false
set_option maxRecDepth 100000
set_option maxHeartbeats 400000
namespace Up
open PySem PySem.Spec PyProof.Rows L2
def prI (p : Int × Int) : List V := [.int p.1, .int p.2]
/-- these trees hold these hours -/
def HrsAt (H : Hp) (xs : List V) (hs : List (Int × Int)) : Prop := xs.length = hs.length ∧ ∀ (i : Nat) p, hs[i]? = some p → ∃ t, xs[i]? = some (.ref t) ∧ H t = some (.tup (prI p))
theorem HrsAt.mono {H H' : Hp} {xs : List V} {hs : List (Int × Int)} (h : HrsAt H xs hs) (s : Same H H') : HrsAt H' xs hs :=
  ⟨h.1, fun i p e => by
    obtain ⟨t, h1, h2⟩ := h.2 i p e
    exact ⟨t, h1, s _ _ h2⟩⟩
theorem HrsAt.nil (H : Hp) : HrsAt H [] [] := ⟨rfl, fun i p e => by simp at e⟩
theorem HrsAt.snoc {H : Hp} {xs : List V} {hs : List (Int × Int)} {t : Addr} {p : Int × Int} (h : HrsAt H xs hs) (k : H t = some (.tup (prI p))) : HrsAt H (xs ++ [.ref t]) (hs ++ [p]) := by
  refine ⟨by simp [h.1], fun i q e => ?_⟩
  have hl := h.1
  by_cases c : i < hs.length
  · rw [List.getElem?_append_left c] at e
    obtain ⟨t', e', k'⟩ := h.2 i q e
    exact ⟨t', by rw [List.getElem?_append_left (by omega)]; exact e', k'⟩
  · rw [List.getElem?_append_right (by omega)] at e
    by_cases d : i = hs.length
    · subst d
      simp at e
      subst e
      exact ⟨t, by rw [List.getElem?_append_right (by omega), hl]; simp, k⟩
    · rw [List.getElem?_eq_none (by simp; omega)] at e; cases e
def castP (p : Nat × Nat) : Int × Int := ((p.1 : Int), (p.2 : Int))
theorem PrsAt.hrs {H : Hp} {xs : List V} {ps : List (Nat × Nat)} (h : PrsAt H xs ps) : HrsAt H xs (ps.map castP) := by
  refine ⟨by rw [List.length_map]; exact h.1, fun i p e => ?_⟩
  rw [List.getElem?_map] at e
  cases e2 : ps[i]? with
  | none => rw [e2] at e; cases e
  | some r =>
    rw [e2] at e
    cases e
    exact h.2 i r e2
/-- two persons' hours overlap -/
def ov (p r : Int × Int) : Prop := p.1 ≤ r.2 ∧ r.1 ≤ p.2
def RowOk (ps : List (Nat × Nat)) (hs : List (Int × Int)) (k : Nat) : Prop := (∀ p, hs[k]? = some p → p.1 ≤ p.2) ∧ ∀ (j : Nat) p r, k < j → hs[k]? = some p → hs[j]? = some r → (ov p r ↔ (k, j) ∈ ps)
def Expl (n : Nat) (ps : List (Nat × Nat)) (hs : List (Int × Int)) : Prop := ∀ k < n, RowOk ps hs k
def spExpl : Sp := fun vs H Q _ => ∃ (n : Nat) (q h : Addr) (xs ys : List V) (ps : List (Nat × Nat)) (hs : List (Int × Int)), vs = [.int (n : Nat), .ref q, .ref h] ∧ H q = some (.tup xs) ∧ PrsAt H xs ps ∧ H h = some (.tup ys) ∧ HrsAt H ys hs ∧ hs.length = n ∧ n ≤ 24 ∧
  ∀ H' (b : Bool), Same H H' → (b = true ↔ Expl n ps hs) → Q (.bl b) H'
def spMet : Sp := fun vs H Q _ => ∃ (q : Addr) (i j : Nat) (xs : List V) (ps : List (Nat × Nat)), vs = [.ref q, .int (i : Nat), .int (j : Nat)] ∧ H q = some (.tup xs) ∧ PrsAt H xs ps ∧ ∀ H', Same H H' → Q (.bl (decide ((min i j, max i j) ∈ ps))) H'
section
variable {P : Program} {w : World} {K : PySem.W.Frag} {mg : Str → Option Value} {base : Heap}
theorem ok_met (A : Here K mg "_law_met" sMet ["_law_pairs_here", "_law_i", "_law_j"]) (T : Top mg) : Df P w K mg base "_law_met" ["_law_pairs_here", "_law_i", "_law_j"] 1 spMet := by
  refine A.df scMet (fun vs H Q E h => ?_) (fun f cdv A outer sh H vs Q E hr h => ?_)
  · obtain ⟨q, i, j, xs, ps, rfl, _⟩ := h; rfl
  · obtain ⟨qa, i, j, xs, ps, rfl, hq, hp, q⟩ := h
    have nd := scMet.nd
    refine ⟨_, pss_one (ps_ret (pe_cmpR (op_inP hr.units) (pe_tup (pa_cons (pe_callB (call_min2 rfl) rfl T.min (by decide +kernel) (pa_cons (pv 1) (pa_cons (pv 2) pa_nil))) (pa_cons (pe_callB (call_max2 rfl) rfl T.max (by decide +kernel) (pa_cons (pv 1) (pa_cons (pv 2) pa_nil))) pa_nil))) (pv 0) (by rfl))), ?_⟩
    refine ⟨_, rfl, _, rfl, _, _, rfl, _, rfl, _, rfl, _, _, rfl, (by show 2 ≤ sizeLine; decide), fun t nt => ?_⟩
    have s1 := same_new (o := .tup [.int (if ((j : Nat) : Int) < (i : Nat) then ((j : Nat) : Int) else (i : Nat)), .int (if ((j : Nat) : Int) > (i : Nat) then ((j : Nat) : Int) else (i : Nat))]) nt
    have e1 : (if ((j : Nat) : Int) < (i : Nat) then ((j : Nat) : Int) else (i : Nat)) = ((min i j : Nat) : Int) := by
      split <;> omega
    have e2 : (if ((j : Nat) : Int) > (i : Nat) then ((j : Nat) : Int) else (i : Nat)) = ((max i j : Nat) : Int) := by
      split <;> omega
    refine ⟨_, rfl, t, qa, (min i j, max i j), xs, ps, rfl, rfl, ?_, .inr (SqT.of (s1 _ _ hq)), hp.mono s1, q _ s1⟩
    rw [upd_same, e1, e2]; rfl
theorem ok_expl (A : Here K mg "_law_explains" sExpl ["_law_n", "_law_pairs_here", "_law_hours"]) (T : Top mg) : Df P w K mg base "_law_explains" ["_law_n", "_law_pairs_here", "_law_hours"] 1 spExpl := by
  refine A.df scExpl (fun vs H Q E h => ?_) (fun f cdv A outer sh H vs Q E hr h => ?_)
  · obtain ⟨n, q, h', xs, ys, ps, hs, rfl, _⟩ := h; rfl
  · obtain ⟨n, qa, ha, xs, ys, ps, hs, rfl, hq, hp, hh, hy, lh, n24, q⟩ := h
    have nd := scExpl.nd
    refine ⟨_, pss_cons (ps_if (pt_cmpR op_ne (pe_callB call_len_seq rfl T.len PySem.boot_len (pa_cons (pv 2) pa_nil)) (pv 0) (nomark _)) (pss_one (ps_ret pe_bl)) pss_nil)
      (pss_cons (ps_for PassesOwn.never rfl (pi_range1 rfl T.range (pa_cons (pv 0) pa_nil)) (pg_name (i := 3) nd rfl (.inl rfl))
        (pss_cons (ps_if (PW.pt (pw_or (pt_cmpR op_ne (pe_callB call_len_seq rfl T.len PySem.boot_len (pa_cons (pe_ix ix_tup (pv 2) (pv 3) (fun _ _ => rfl)) pa_nil)) pe_int (nomark _))
            (pw_or1 (pt_cmpR op_gt (pe_ix ix_tup (pe_ix ix_tup (pv 2) (pv 3) (fun _ _ => rfl)) pe_int (fun _ _ => rfl)) (pe_ix ix_tup (pe_ix ix_tup (pv 2) (pv 3) (fun _ _ => rfl)) pe_int (fun _ _ => rfl)) (nomark _))))) (pss_one (ps_ret pe_bl)) pss_nil)
        (pss_one (ps_for PassesOwn.never rfl (pi_range2 rfl T.range (pa_cons (pe_op op_add (pv 3) pe_int) (pa_cons (pv 0) pa_nil))) (pg_name (i := 4) nd rfl (.inl rfl))
          (C8.pss_cut (ps_set (i := 5) nd rfl (.inl rfl) (pe_and (pe_cmpR op_le (pe_ix ix_tup (pe_ix ix_tup (pv 2) (pv 3) (fun _ _ => rfl)) pe_int (fun _ _ => rfl)) (pe_ix ix_tup (pe_ix ix_tup (pv 2) (pv 4) (fun _ _ => rfl)) pe_int (fun _ _ => rfl)) (nomark _))
              (pe_one (pe_cmpR op_le (pe_ix ix_tup (pe_ix ix_tup (pv 2) (pv 4) (fun _ _ => rfl)) pe_int (fun _ _ => rfl)) (pe_ix ix_tup (pe_ix ix_tup (pv 2) (pv 3) (fun _ _ => rfl)) pe_int (fun _ _ => rfl)) (nomark _)))))
          (pss_one (ps_if (pt_cmpR op_ne (pv 5) (pe_cmpR (op_inP hr.units) (pe_tup (pa_cons (pv 3) (pa_cons (pv 4) pa_nil))) (pv 1) (by rfl)) (nomark _)) (pss_one (ps_ret pe_bl)) pss_nil)))))))
      (pss_one (ps_ret pe_bl))), ?_⟩
    have ly := hy.1
    refine ⟨_, rfl, ha, ys, rfl, .inr (SqT.of hh), _, rfl, rfl, _, rfl, iteDn (fun c => (c (by rw [ly, lh])).elim) (fun _ => ?_)⟩
    refine ⟨_, rfl, _, rfl, by omega, by omega, for_range (lo := 0) (n := ((n : Nat) : Int).toNat) (fun i σ H1 => ∃ y3 y4 y5, σ = [some (.int (n : Nat)), some (.ref qa), some (.ref ha), y3, y4, y5] ∧ Same H H1 ∧ ∀ k < i, RowOk ps hs k)
      ⟨none, none, none, rfl, Same.refl _, fun k hk => absurd hk (Nat.not_lt_zero k)⟩ ?_ ?_⟩
    · rintro i σ H1 hi ⟨y3, y4, y5, rfl, sm1, all⟩
      have iN : i < n := by omega
      have ev : (0 : Int) + (i : Nat) = (i : Nat) := by omega
      rw [ev]
      obtain ⟨p, hpi⟩ : ∃ p, hs[i]? = some p := ⟨_, List.getElem?_eq_getElem (by omega)⟩
      obtain ⟨t, h1, h2⟩ := hy.2 i p hpi
      have hh1 := sm1 _ _ hh
      have h21 := sm1 _ _ h2
      refine ⟨_, rfl, _, rfl, ha, _, _, _, rfl, rfl, SqT.of hh1, atI_nat h1, t, _, rfl, .inr (SqT.of h21), rfl, _, rfl, iteDn (fun c => (c rfl).elim) (fun _ => ?_)⟩
      refine ⟨_, rfl, _, rfl, ha, _, _, _, rfl, rfl, SqT.of hh1, atI_nat h1, t, _, 0, _, rfl, rfl, SqT.of h21, atI_nat (j := 0) rfl, _, rfl, _, rfl, ha, _, _, _, rfl, rfl, SqT.of hh1, atI_nat h1, t, _, 1, _, rfl, rfl, SqT.of h21, atI_nat (j := 1) rfl, _, _, rfl, rfl, _, rfl, iteD (fun c => ?_) (fun c => ?_)⟩
      · refine q H1 false sm1 ⟨fun e => (by cases e), fun ex => ?_⟩
        have := (ex i iN).1 p hpi
        omega
      · refine ⟨_, rfl, _, _, rfl, rfl, _, rfl, _, _, rfl, ⟨by omega, by omega, by omega, by omega⟩, for_range (lo := ((i : Nat) : Int) + 1) (n := (((n : Nat) : Int) - (((i : Nat) : Int) + 1)).toNat) (fun m σ H2 => ∃ y4 y5, σ = [some (.int (n : Nat)), some (.ref qa), some (.ref ha), some (.int (i : Nat)), y4, y5] ∧ Same H H2 ∧ ∀ j < i + 1 + m, ∀ r, i < j → hs[j]? = some r → (ov p r ↔ (i, j) ∈ ps))
          ⟨_, _, rfl, sm1, fun j hj r lt => absurd lt (by omega)⟩ ?_ ?_⟩
        · rintro m σ H2 hm ⟨y4, y5, rfl, sm2, all2⟩
          have ev : ((i : Nat) : Int) + 1 + (m : Nat) = ((i + 1 + m : Nat) : Int) := by omega
          rw [ev]
          have jN : i + 1 + m < n := by omega
          generalize hje : i + 1 + m = j at jN all2 ⊢
          obtain ⟨r, hrj⟩ : ∃ r, hs[j]? = some r := ⟨_, List.getElem?_eq_getElem (by omega)⟩
          obtain ⟨t', h1', h2'⟩ := hy.2 j r hrj
          have hh2 := sm2 _ _ hh
          have h22 := sm2 _ _ h2
          have h22' := sm2 _ _ h2'
          refine ⟨fun σ' H' => ∃ b : Bool, σ' = [some (.int (n : Nat)), some (.ref qa), some (.ref ha), some (.int (i : Nat)), some (.int (j : Nat)), some (.bl b)] ∧ H' = H2 ∧ (b = true ↔ ov p r), ?_, ?_⟩
          · refine ⟨_, rfl, _, rfl, ha, _, _, _, rfl, rfl, SqT.of hh2, atI_nat h1, t, _, 0, _, rfl, rfl, SqT.of h22, atI_nat (j := 0) rfl, _, rfl, _, rfl, ha, _, _, _, rfl, rfl, SqT.of hh2, atI_nat h1', t', _, 1, _, rfl, rfl, SqT.of h22', atI_nat (j := 1) rfl, _, _, rfl, rfl, _, rfl, iteD (fun c1 => ?_) (fun c1 => ?_)⟩
            · refine ⟨_, rfl, _, rfl, ha, _, _, _, rfl, rfl, SqT.of hh2, atI_nat h1', t', _, 0, _, rfl, rfl, SqT.of h22', atI_nat (j := 0) rfl, _, rfl, _, rfl, ha, _, _, _, rfl, rfl, SqT.of hh2, atI_nat h1, t, _, 1, _, rfl, rfl, SqT.of h22, atI_nat (j := 1) rfl, _, _, rfl, rfl, ?_⟩
              refine ⟨_, rfl, rfl, ?_⟩
              rw [decide_eq_true_eq]
              exact ⟨fun h => ⟨c1, h⟩, fun h => h.2⟩
            · refine ⟨false, rfl, rfl, ⟨fun e => (by cases e), fun h => (c1 h.1).elim⟩⟩
          · rintro σ' H' ⟨b, rfl, rfl, hb⟩
            refine ⟨_, rfl, _, rfl, _, rfl, (by show 2 ≤ sizeLine; decide), fun z nz => ?_⟩
            have s3 := same_new (o := .tup [.int (i : Nat), .int (j : Nat)]) nz
            refine ⟨_, rfl, z, qa, (i, j), xs, ps, rfl, rfl, upd_same, .inr (SqT.of (s3 _ _ (sm2 _ _ hq))), (hp.mono sm2).mono s3, rfl, _, rfl, ?_⟩
            have sm3 := sm2.trans s3
            refine iteDn (fun c => ?_) (fun c => ?_)
            · refine q _ false sm3 ⟨fun e => (by cases e), fun ex => (c ?_).elim⟩
              have := (ex i iN).2 j p r (by omega) hpi hrj
              have e : b = decide ((i, j) ∈ ps) := by
                rw [Bool.eq_iff_iff, hb, decide_eq_true_eq]
                exact this
              rw [e]
            · refine ⟨_, _, rfl, sm3, fun j' hj' r' lt e' => ?_⟩
              by_cases c2 : j' < j
              · exact all2 j' c2 r' lt e'
              · have : j' = j := by omega
                subst this
                rw [hrj] at e'
                cases e'
                rw [← hb]
                have : b = decide ((i, j') ∈ ps) := by
                  have := V.bl.inj c
                  exact this
                rw [this, decide_eq_true_eq]
        · rintro σ H2 ⟨y4, y5, rfl, sm2, all2⟩
          refine ⟨_, _, _, rfl, sm2, fun k hk => ?_⟩
          by_cases c2 : k < i
          · exact all k c2
          · have : k = i := by omega
            subst this
            refine ⟨fun p' e' => ?_, fun j p' r lt e1 e2 => ?_⟩
            · rw [hpi] at e'; cases e'
              omega
            · rw [hpi] at e1; cases e1
              have := (List.getElem?_eq_some_iff.mp e2).1
              exact all2 j (by omega) r lt e2
    · rintro σ H1 ⟨y3, y4, y5, rfl, sm1, all⟩
      exact q H1 true sm1 ⟨fun _ k hk => all k (by omega), fun _ => rfl⟩
end
end Up
end
section
set_option Elab.async false
set_option linter.all false
set_option maxRecDepth 100000
set_option maxHeartbeats 400000
namespace Up
open PySem PySem.Spec PyProof.Rows L2
/-! ### pairs of the law -/
abbrev sPairs : Stmt := topS 48
theorem scPairs : FnScope ["_law_script", "_law_at", "_law_n", "_law_hours", "_law_person", "_law_d", "_law_pairs_here", "_law_i", "_law_j", "_law_change", "_law_k", "_law_pair"] ["_law_script", "_law_at", "_law_n"] (defScope sPairs) := ⟨rfl, rfl, rfl, by decide +kernel, rfl, by decide +kernel, by decide +kernel⟩
/-- the pair that stands at a tree -/
def natP (H : Hp) (v : V) : Nat × Nat := match v with
  | .ref t => (match H t with
    | some (.tup [.int a, .int b]) => (a.toNat, b.toNat)
    | _ => (0, 0))
  | _ => (0, 0)
theorem natP_eq {H : Hp} {t : Addr} {p : Nat × Nat} (h : H t = some (.tup (prV p))) : natP H (.ref t) = p := by
  unfold natP
  simp only [h, prV]
  rw [Int.toNat_natCast, Int.toNat_natCast]
theorem PrsAt.map_eq {H : Hp} {xs : List V} {ps : List (Nat × Nat)} (h : PrsAt H xs ps) : xs.map (natP H) = ps := by
  refine List.ext_getElem? fun i => ?_
  rw [List.getElem?_map]
  cases e : ps[i]? with
  | none =>
    have : xs[i]? = none := List.getElem?_eq_none (by rw [h.1]; exact List.getElem?_eq_none_iff.mp e)
    rw [this]; rfl
  | some p =>
    obtain ⟨t, h1, h2⟩ := h.2 i p e
    rw [h1]
    show some (natP H (.ref t)) = _
    rw [natP_eq h2]
theorem prsAt_of {H : Hp} {ys : List V} (h : ∀ y ∈ ys, ∃ t p, y = .ref t ∧ H t = some (.tup (prV p))) : PrsAt H ys (ys.map (natP H)) := by
  refine ⟨by rw [List.length_map], fun i p e => ?_⟩
  rw [List.getElem?_map] at e
  cases e2 : ys[i]? with
  | none => rw [e2] at e; cases e
  | some y =>
    rw [e2] at e
    obtain ⟨t, p', rfl, k⟩ := h y (List.mem_of_getElem? e2)
    have : natP H (.ref t) = p := Option.some.inj e
    rw [natP_eq k] at this
    subst this
    exact ⟨t, rfl, k⟩
theorem PrsAt.mem {H : Hp} {xs : List V} {ps : List (Nat × Nat)} (h : PrsAt H xs ps) : ∀ x ∈ xs, ∃ t p, x = .ref t ∧ H t = some (.tup (prV p)) ∧ p ∈ ps := fun x hx => by
  obtain ⟨i, hi, e⟩ := List.mem_iff_getElem.mp hx
  have il : i < ps.length := by rw [← h.1]; exact hi
  obtain ⟨t, h1, h2⟩ := h.2 i _ (List.getElem?_eq_getElem il)
  rw [List.getElem?_eq_getElem hi, e] at h1
  exact ⟨t, _, Option.some.inj h1, h2, List.getElem_mem il⟩
theorem PrsAt.erase {H : Hp} {xs : List V} {ps : List (Nat × Nat)} (h : PrsAt H xs ps) (j : Nat) : PrsAt H (xs.eraseIdx j) (ps.eraseIdx j) := by
  refine ⟨?_, fun i p e => ?_⟩
  · rw [List.length_eraseIdx, List.length_eraseIdx, h.1]
  · rw [List.getElem?_eraseIdx] at e ⊢
    split at e
    · rename_i c
      rw [if_pos c]
      exact h.2 i p e
    · rename_i c
      rw [if_neg c]
      exact h.2 (i + 1) p e
/-- pairs of persons, each once -/
structure PsIn (n : Nat) (ps : List (Nat × Nat)) : Prop where
  nd : ps.Nodup
  rng : ∀ p ∈ ps, p.1 < p.2 ∧ p.2 < n
theorem PsIn.few {n : Nat} {ps : List (Nat × Nat)} (h : PsIn n ps) (n24 : n ≤ 24) : ps.length ≤ 576 := by
  have h1 : (ps.map fun p => p.1 * 24 + p.2).Nodup := by
    rw [List.nodup_iff_pairwise_ne, List.pairwise_map]
    refine List.Pairwise.imp_of_mem (fun {a b} ha hb ne e => ne ?_) (List.nodup_iff_pairwise_ne.mp h.nd)
    have := h.rng a ha
    have := h.rng b hb
    exact Prod.ext (by omega) (by omega)
  have := Gr.nodup_le (n := 576) h1 fun x hx => by
    obtain ⟨p, hp, rfl⟩ := List.mem_map.mp hx
    have := h.rng p hp
    show p.1 * 24 + p.2 < 576
    omega
  rwa [List.length_map] at this
theorem PsIn.erase {n : Nat} {ps : List (Nat × Nat)} (h : PsIn n ps) (j : Nat) : PsIn n (ps.eraseIdx j) :=
  ⟨h.nd.sublist (List.eraseIdx_sublist _ _), fun p hp => h.rng p ((List.eraseIdx_sublist _ _).subset hp)⟩
theorem PsIn.snoc {n : Nat} {ps : List (Nat × Nat)} (h : PsIn n ps) {p : Nat × Nat} (no : p ∉ ps) (r : p.1 < p.2 ∧ p.2 < n) : PsIn n (ps ++ [p]) := by
  refine ⟨List.nodup_append.mpr ⟨h.nd, by simp, fun a ha b hb e => ?_⟩, fun q hq => ?_⟩
  · rw [List.mem_singleton.mp hb] at e
    exact no (e ▸ ha)
  · rcases List.mem_append.mp hq with hq | hq
    · exact h.rng q hq
    · rw [List.mem_singleton.mp hq]; exact r
/-- the drawn hours overlap -/
def ovN (hs : List (Int × Int)) (p : Nat × Nat) : Prop := ∃ a b, hs[p.1]? = some a ∧ hs[p.2]? = some b ∧ ov a b
theorem drawn_mdl {n : Nat} {ps : List (Nat × Nat)} {hs : List (Int × Int)} (lh : hs.length = n) (le : ∀ p ∈ hs, p.1 ≤ p.2) (h : ∀ p, p ∈ ps ↔ p.1 < p.2 ∧ p.2 < n ∧ ovN hs p) : ∃ lo hi : Nat → Int, Gr.Mdl (adjOf ps) (fun x => x < n) lo hi := by
  have val : ∀ x, x < n → ∃ a, hs[x]? = some a := fun x hx => ⟨_, List.getElem?_eq_getElem (by omega)⟩
  refine ⟨fun x => ((hs[x]?).getD (0, 0)).1, fun x => ((hs[x]?).getD (0, 0)).2, ⟨fun x hx => ?_, fun x y hx hy ne => ?_⟩⟩
  · obtain ⟨a, ea⟩ := val x hx
    rw [ea]
    exact le a (List.mem_of_getElem? ea)
  · obtain ⟨a, ea⟩ := val x hx
    obtain ⟨b, eb⟩ := val y hy
    rw [ea, eb]
    show adjOf ps x y ↔ a.1 ≤ b.2 ∧ b.1 ≤ a.2
    unfold adjOf
    rw [h, h]
    constructor
    · rintro (⟨_, _, a', b', e1, e2, o⟩ | ⟨_, _, a', b', e1, e2, o⟩)
      · rw [ea] at e1; rw [eb] at e2; cases e1; cases e2
        exact o
      · rw [eb] at e1; rw [ea] at e2; cases e1; cases e2
        exact ⟨o.2, o.1⟩
    · intro o
      rcases Nat.lt_or_gt_of_ne ne with l | l
      · exact .inl ⟨l, hy, a, b, ea, eb, o⟩
      · exact .inr ⟨l, hx, b, a, eb, ea, ⟨o.2, o.1⟩⟩
def spPairs (K : PySem.W.Frag) : Sp := fun vs H Q _ => ∃ (a : Addr) (n : Nat) (ns : List Int), vs = [.ref a, .int 2, .int (n : Nat)] ∧ SqL K H a (ns.map V.int) ∧ 1 ≤ n ∧ n ≤ 24 ∧
  ∀ H' q xs ps, Same H H' → H' q = some (.tup xs) → PrsAt H' xs ps → PsOk n ps → (richI (ns.getD 1 0) % 4 = 0 → ∃ lo hi : Nat → Int, Gr.Mdl (adjOf ps) (fun x => x < n) lo hi) → Q (.ref q) H'
section
variable {P : Program} {w : World} {K : PySem.W.Frag} {mg : Str → Option Value} {base : Heap}
theorem ok_pairs (A : Here K mg "_law_pairs" sPairs ["_law_script", "_law_at", "_law_n"]) (T : Top mg) (DC : Df P w K mg base "_law_cell" ["_law_script", "_law_k"] 1 (spCell K)) (DR : Df P w K mg base "_law_rich" ["_law_cell_here"] 1 spRich)
    (DD : Df P w K mg base "_law_digits" ["_law_cell_here", "_law_sizes"] 1 spDigits) : Df P w K mg base "_law_pairs" ["_law_script", "_law_at", "_law_n"] 2 (spPairs K) := by
  refine A.df scPairs (fun vs H Q E h => ?_) (fun f cdv A outer sh H vs Q E hr h => ?_)
  · obtain ⟨a, n, ns, rfl, _⟩ := h; rfl
  · obtain ⟨a, n, ns, rfl, ha, n1, n24, q⟩ := h
    have nd := scPairs.nd
    refine ⟨_, pss_cons (ps_set (i := 3) nd rfl (.inl rfl) (pe_lst pa_nil))
      (pss_cons (ps_for PassesOwn.never rfl (pi_range1 rfl T.range (pa_cons (pv 2) pa_nil)) (pg_name (i := 4) nd rfl (.inl rfl))
        (pss_cons (ps_set (i := 5) nd rfl (.inl rfl) (pe_df DD hr rfl (pa_cons (pe_df DR hr rfl (pa_cons (pe_op op_add (pe_df DC hr rfl (pa_cons (pv 0) (pa_cons (pe_op op_add (pv 1) (pv 4)) pa_nil))) (pv 4)) pa_nil)) (pa_cons (pe_lst (pa_cons pe_int (pa_cons pe_int pa_nil))) pa_nil))))
        (pss_one (ps_expr (pe_bm PySem.F.plainAttrs_list PySem.F.slot_list_append PySem.F.type_list_append mt_append (pv 3) (pa_cons (pe_tup (pa_cons (pe_ix ix_list (pv 5) pe_int (fun _ _ => rfl)) (pa_cons (pe_op op_add (pe_ix ix_list (pv 5) pe_int (fun _ _ => rfl)) (pe_ix ix_list (pv 5) pe_int (fun _ _ => rfl))) pa_nil))) pa_nil))))))
      (pss_cons (ps_set (i := 6) nd rfl (.inl rfl) (pe_lst pa_nil))
      (pss_cons (ps_for PassesOwn.never rfl (pi_range1 rfl T.range (pa_cons (pv 2) pa_nil)) (pg_name (i := 7) nd rfl (.inl rfl))
        (pss_one (ps_for PassesOwn.never rfl (pi_range2 rfl T.range (pa_cons (pe_op op_add (pv 7) pe_int) (pa_cons (pv 2) pa_nil))) (pg_name (i := 8) nd rfl (.inl rfl))
          (pss_one (ps_if (PW.pt (pw_and (pt_cmpR op_le (pe_ix ix_tup (pe_ix ix_list (pv 3) (pv 7) (fun _ _ => rfl)) pe_int (fun _ _ => rfl)) (pe_ix ix_tup (pe_ix ix_list (pv 3) (pv 8) (fun _ _ => rfl)) pe_int (fun _ _ => rfl)) (nomark _))
              (pw_and1 (pt_cmpR op_le (pe_ix ix_tup (pe_ix ix_list (pv 3) (pv 8) (fun _ _ => rfl)) pe_int (fun _ _ => rfl)) (pe_ix ix_tup (pe_ix ix_list (pv 3) (pv 7) (fun _ _ => rfl)) pe_int (fun _ _ => rfl)) (nomark _)))))
            (pss_one (ps_expr (pe_bm PySem.F.plainAttrs_list PySem.F.slot_list_append PySem.F.type_list_append mt_append (pv 6) (pa_cons (pe_tup (pa_cons (pv 7) (pa_cons (pv 8) pa_nil))) pa_nil)))) pss_nil)))))
      (pss_cons (ps_set (i := 9) nd rfl (.inl rfl) (pe_df DR hr rfl (pa_cons (pe_df DC hr rfl (pa_cons (pv 0) (pa_cons (pe_op op_sub (pv 1) pe_int) pa_nil))) pa_nil)))
      (pss_cons (ps_for PassesOwn.never rfl (pi_range1 rfl T.range (pa_cons (pe_op op_mod (pe_callTy call_int1 rfl T.int (by decide +kernel) (pa_cons (pv 9) pa_nil)) pe_int) pa_nil)) (pg_name (i := 10) nd rfl (.inl rfl))
        (pss_cons (ps_set (i := 9) nd rfl (.inl rfl) (pe_op op_add (pe_op op_fdiv (pv 9) pe_int) (pe_op op_mul pe_int (pv 10))))
        (pss_cons (ps_set (i := 7) nd rfl (.inl rfl) (pe_op op_mod (pe_callTy call_int1 rfl T.int (by decide +kernel) (pa_cons (pv 9) pa_nil)) (pv 2)))
        (pss_cons (ps_set (i := 8) nd rfl (.inl rfl) (pe_op op_mod (pe_callTy call_int1 rfl T.int (by decide +kernel) (pa_cons (pe_op op_fdiv (pv 9) (pv 2)) pa_nil)) (pv 2)))
        (pss_cons (ps_set (i := 11) nd rfl (.inl rfl) (pe_tup (pa_cons (pe_callB (call_min2 rfl) rfl T.min (by decide +kernel) (pa_cons (pv 7) (pa_cons (pv 8) pa_nil))) (pa_cons (pe_callB (call_max2 rfl) rfl T.max (by decide +kernel) (pa_cons (pv 7) (pa_cons (pv 8) pa_nil))) pa_nil))))
        (pss_one (ps_if (pt_cmpR (op_inP hr.units) (pv 11) (pv 6) (by rfl))
          (pss_one (ps_expr (pe_bm PySem.F.plainAttrs_list PySem.F.slot_list_remove PySem.F.type_list_remove (mt_remP hr.units) (pv 6) (pa_cons (pv 11) pa_nil))))
          (pss_one (ps_if (pt_cmpR op_ne (pv 7) (pv 8) (nomark _)) (pss_one (ps_expr (pe_bm PySem.F.plainAttrs_list PySem.F.slot_list_append PySem.F.type_list_append mt_append (pv 6) (pa_cons (pv 11) pa_nil)))) pss_nil)))))))))
      (pss_one (ps_ret (pe_callTy call_tuple_of rfl T.tuple (by decide +kernel) (pa_cons (pe_callB cr_sortedPO rfl T.sorted (by decide +kernel) (pa_cons (pv 6) pa_nil)) pa_nil))))))))), ?_⟩
    refine ⟨Nat.zero_le _, fun L nL => ?_⟩
    have s1 := same_new (o := .lst []) nL
    have hL : ∀ {c u}, H c = some u → c ≠ L := fun e => ne_of_none e nL
    -- hours
    refine ⟨_, rfl, _, rfl, by omega, by omega, for_range (lo := 0) (n := ((n : Nat) : Int).toNat) (fun i σ H1 => ∃ y4 y5 xs hs, σ = [some (.ref a), some (.int 2), some (.int (n : Nat)), some (.ref L), y4, y5, none, none, none, none, none, none] ∧ Same H H1 ∧ H1 L = some (.lst xs) ∧ HrsAt H1 xs hs ∧ hs.length = i ∧ ∀ p ∈ hs, p.1 ≤ p.2)
      ⟨none, none, [], [], rfl, s1, upd_same, HrsAt.nil _, rfl, fun p hp => by simp at hp⟩ ?_ ?_⟩
    · rintro i σ H1 hi ⟨y4, y5, xs, hs, rfl, sm1, eL, hx, lh, hle⟩
      have ev : (0 : Int) + (i : Nat) = (i : Nat) := by omega
      rw [ev]
      refine ⟨_, rfl, _, rfl, _, rfl, _, _, rfl, rfl, a, 2 + i, ns, by rw [Int.natCast_add]; rfl, sm1.seq ha, ?_⟩
      refine ⟨_, rfl, _, _, rfl, rfl, _, rfl, (by show 2 ≤ sizeLine; decide), fun z nz => ?_⟩
      have s2 := same_new (o := .lst [.int 12, .int 6]) nz
      refine ⟨_, z, [12, 6], rfl, upd_same, by decide, by decide, fun H3 q3 ds sm3 e3 l3 d3 => ?_⟩
      have sm13 := s2.trans sm3
      match ds, l3, d3 with
      | [d0, d1], _, d3 =>
        have eL3 := sm13 _ _ eL
        refine ⟨_, rfl, .inl ⟨rfl, _, SqL.of eL3⟩, _, rfl, q3, _, 0, _, rfl, rfl, SqL.of e3, atI_nat (j := 0) rfl, _, rfl, q3, _, 0, _, rfl, rfl, SqL.of e3, atI_nat (j := 0) rfl, _, rfl, q3, _, 1, _, rfl, rfl, SqL.of e3, atI_nat (j := 1) rfl, _, _, rfl, rfl, (by show 2 ≤ sizeLine; decide), fun t nt => ?_⟩
        have s4 := same_new (o := .tup [.int d0, .int (d0 + d1)]) nt
        have tL : t ≠ L := fun e => by rw [e, eL3] at nt; cases nt
        have hx3 := (hx.mono sm13).mono s4
        refine ⟨L, _, _, rfl, rfl, s4 _ _ eL3, small1000 (by rw [hx.1]; omega), ?_⟩
        have keep : ∀ {c : Addr} {u : HO}, (upd H3 t (.tup [.int d0, .int (d0 + d1)])) c = some u → c ≠ L → (upd (upd H3 t (.tup [.int d0, .int (d0 + d1)])) L (.lst (xs ++ [.ref t]))) c = some u := fun e ne => by rw [upd_ne ne]; exact e
        have hx4 : HrsAt (upd (upd H3 t (.tup [.int d0, .int (d0 + d1)])) L (.lst (xs ++ [.ref t]))) xs hs := ⟨hx3.1, fun i p e => by
          obtain ⟨t', k1, k2⟩ := hx3.2 i p e
          exact ⟨t', k1, keep k2 (fun e' => by rw [e', s4 _ _ eL3] at k2; cases k2)⟩⟩
        refine ⟨_, _, _, hs ++ [(d0, d0 + d1)], rfl, fun c u e => keep (s4 _ _ (sm13 _ _ (sm1 _ _ e))) (hL e), upd_same, hx4.snoc (keep upd_same tL), by simp [lh], fun p hp => ?_⟩
        rcases List.mem_append.mp hp with hp | hp
        · exact hle p hp
        · rw [List.mem_singleton.mp hp]
          have := d3 d1 (by simp)
          show d0 ≤ d0 + d1
          omega
    rintro σ H1 ⟨y4, y5, xs, hs, rfl, sm1, eL, hx, lh, hle⟩
    have lh : hs.length = n := by rw [lh]; exact Int.toNat_natCast n
    -- pairs_here
    refine ⟨Nat.zero_le _, fun Z nZ => ?_⟩
    have s2 := same_new (o := .lst []) nZ
    have hZ : ∀ {c u}, H1 c = some u → c ≠ Z := fun e => ne_of_none e nZ
    refine ⟨_, rfl, _, rfl, by omega, by omega, for_range (lo := 0) (n := ((n : Nat) : Int).toNat) (fun i σ H2 => ∃ y7 y8 zs ps, σ = [some (.ref a), some (.int 2), some (.int (n : Nat)), some (.ref L), y4, y5, some (.ref Z), y7, y8, none, none, none] ∧ Same H1 H2 ∧ H2 Z = some (.lst zs) ∧ PrsAt H2 zs ps ∧ PsIn n ps ∧ ∀ p, p ∈ ps ↔ p.1 < i ∧ p.1 < p.2 ∧ p.2 < n ∧ ovN hs p)
      ⟨none, none, [], [], rfl, s2, upd_same, PrsAt.nil _, ⟨.nil, fun p hp => by simp at hp⟩, fun p => by simp⟩ ?_ ?_⟩
    · rintro i σ H2 hi ⟨y7, y8, zs, ps, rfl, sm2, eZ, hp, pi, hm⟩
      have iN : i < n := by omega
      have ev : (0 : Int) + (i : Nat) = (i : Nat) := by omega
      rw [ev]
      obtain ⟨p, hpi⟩ : ∃ p, hs[i]? = some p := ⟨_, List.getElem?_eq_getElem (by omega)⟩
      obtain ⟨t, h1, h2⟩ := hx.2 i p hpi
      refine ⟨_, rfl, _, _, rfl, rfl, _, rfl, _, _, rfl, ⟨by omega, by omega, by omega, by omega⟩, for_range (lo := ((i : Nat) : Int) + 1) (n := (((n : Nat) : Int) - (((i : Nat) : Int) + 1)).toNat) (fun m σ H3 => ∃ y8 zs ps, σ = [some (.ref a), some (.int 2), some (.int (n : Nat)), some (.ref L), y4, y5, some (.ref Z), some (.int (i : Nat)), y8, none, none, none] ∧ Same H1 H3 ∧ H3 Z = some (.lst zs) ∧ PrsAt H3 zs ps ∧ PsIn n ps ∧ ∀ p, p ∈ ps ↔ (p.1 < i ∨ (p.1 = i ∧ p.2 < i + 1 + m)) ∧ p.1 < p.2 ∧ p.2 < n ∧ ovN hs p)
        ⟨_, zs, ps, rfl, sm2, eZ, hp, pi, fun p => ?_⟩ ?_ ?_⟩
      · rw [hm p]
        constructor
        · exact fun h => ⟨.inl h.1, h.2⟩
        · rintro ⟨h | h, h2⟩
          · exact ⟨h, h2⟩
          · omega
      · rintro m σ H3 hmm ⟨y8, zs, ps, rfl, sm3, eZ, hp, pi, hm⟩
        have ev : ((i : Nat) : Int) + 1 + (m : Nat) = ((i + 1 + m : Nat) : Int) := by omega
        rw [ev]
        have jN : i + 1 + m < n := by omega
        have hm' : ∀ p : Nat × Nat, (p.1 < i ∨ (p.1 = i ∧ p.2 < i + 1 + (m + 1))) ↔ ((p.1 < i ∨ (p.1 = i ∧ p.2 < i + 1 + m)) ∨ (p.1 = i ∧ p.2 = i + 1 + m)) := fun (p : Nat × Nat) => by omega
        have ij : i < i + 1 + m := by omega
        generalize hje : i + 1 + m = j at jN hm hm' ij ⊢
        obtain ⟨r, hrj⟩ : ∃ r, hs[j]? = some r := ⟨_, List.getElem?_eq_getElem (by omega)⟩
        obtain ⟨t', h1', h2'⟩ := hx.2 j r hrj
        have eL3 := sm3 _ _ eL
        have h23 := sm3 _ _ h2
        have h23' := sm3 _ _ h2'
        have stay : ¬ ov p r → ∀ q : Nat × Nat, q ∈ ps ↔ (q.1 < i ∨ (q.1 = i ∧ q.2 < i + 1 + (m + 1))) ∧ q.1 < q.2 ∧ q.2 < n ∧ ovN hs q := fun no q => by
          rw [hm q, hm' q]
          constructor
          · exact fun h => ⟨.inl h.1, h.2⟩
          · rintro ⟨h | ⟨e1, e2⟩, h2⟩
            · exact ⟨h, h2⟩
            · obtain ⟨_, _, a', b', k1, k2, o⟩ := h2
              rw [e1, hpi] at k1; rw [e2, hrj] at k2
              cases k1; cases k2
              exact (no o).elim
        refine ⟨_, rfl, _, rfl, L, _, _, _, rfl, rfl, SqL.of eL3, atI_nat h1, t, _, 0, _, rfl, rfl, SqT.of h23, atI_nat (j := 0) rfl, _, rfl, _, rfl, L, _, _, _, rfl, rfl, SqL.of eL3, atI_nat h1', t', _, 1, _, rfl, rfl, SqT.of h23', atI_nat (j := 1) rfl, _, _, rfl, rfl, _, rfl, iteD (fun c1 => ?_) (fun c1 => ?_)⟩
        · refine ⟨_, rfl, _, rfl, L, _, _, _, rfl, rfl, SqL.of eL3, atI_nat h1', t', _, 0, _, rfl, rfl, SqT.of h23', atI_nat (j := 0) rfl, _, rfl, _, rfl, L, _, _, _, rfl, rfl, SqL.of eL3, atI_nat h1, t, _, 1, _, rfl, rfl, SqT.of h23, atI_nat (j := 1) rfl, _, _, rfl, rfl, _, rfl, iteD (fun c2 => ?_) (fun c2 => ?_)⟩
          · have few := pi.few n24
            refine ⟨_, rfl, .inl ⟨rfl, _, SqL.of eZ⟩, _, rfl, _, rfl, (by show 2 ≤ sizeLine; decide), fun u nu => ?_⟩
            have s4 := same_new (o := .tup [.int (i : Nat), .int (j : Nat)]) nu
            have uZ : u ≠ Z := fun e => by rw [e, eZ] at nu; cases nu
            refine ⟨Z, _, _, rfl, rfl, s4 _ _ eZ, small1000 (by rw [hp.1]; omega), ?_⟩
            have keep : ∀ {c : Addr} {o : HO}, (upd H3 u (.tup [.int (i : Nat), .int (j : Nat)])) c = some o → c ≠ Z → (upd (upd H3 u (.tup [.int (i : Nat), .int (j : Nat)])) Z (.lst (zs ++ [.ref u]))) c = some o := fun e ne => by rw [upd_ne ne]; exact e
            have hp4 : PrsAt (upd (upd H3 u (.tup [.int (i : Nat), .int (j : Nat)])) Z (.lst (zs ++ [.ref u]))) zs ps := ⟨hp.1, fun k q e => by
              obtain ⟨t', k1, k2⟩ := (hp.mono s4).2 k q e
              exact ⟨t', k1, keep k2 (fun e' => by rw [e', s4 _ _ eZ] at k2; cases k2)⟩⟩
            have no : (i, j) ∉ ps := fun h => by
              have := ((hm (i, j)).mp h).1
              have e : (i, j).1 = i ∧ (i, j).2 = j := ⟨rfl, rfl⟩
              omega
            refine ⟨_, _, ps ++ [(i, j)], rfl, fun c o e => keep (s4 _ _ (sm3 _ _ e)) (hZ e), upd_same, hp4.snoc (p := (i, j)) (keep upd_same uZ), pi.snoc no ⟨ij, jN⟩, fun q => ?_⟩
            rw [List.mem_append, List.mem_singleton, hm q, hm' q]
            constructor
            · rintro (h | rfl)
              · exact ⟨.inl h.1, h.2⟩
              · exact ⟨.inr ⟨rfl, rfl⟩, ij, jN, p, r, hpi, hrj, c1, c2⟩
            · rintro ⟨h | ⟨e1, e2⟩, h2⟩
              · exact .inl ⟨h, h2⟩
              · exact .inr (Prod.ext e1 e2)
          · exact ⟨_, zs, ps, rfl, sm3, eZ, hp, pi, stay fun o => c2 o.2⟩
        · exact ⟨_, zs, ps, rfl, sm3, eZ, hp, pi, stay fun o => c1 o.1⟩
      · rintro σ H3 ⟨y8, zs, ps, rfl, sm3, eZ, hp, pi, hm⟩
        refine ⟨_, _, zs, ps, rfl, sm3, eZ, hp, pi, fun q => ?_⟩
        rw [hm q]
        constructor
        · rintro ⟨h | h, h2⟩
          · exact ⟨by omega, h2⟩
          · exact ⟨by omega, h2⟩
        · rintro ⟨h, h2⟩
          exact ⟨by omega, h2⟩
    rintro σ H2 ⟨y7, y8, zs, ps, rfl, sm2, eZ, hp, pi, hm⟩
    have hm0 : ∀ p, p ∈ ps ↔ p.1 < p.2 ∧ p.2 < n ∧ ovN hs p := fun p => by
      rw [hm p]
      constructor
      · exact fun h => h.2
      · exact fun h => ⟨by omega, h⟩
    have s02 := sm1.trans sm2
    have hZ0 : ∀ {c u}, H c = some u → c ≠ Z := fun e => hZ (sm1 _ _ e)
    -- change
    refine ⟨_, rfl, _, rfl, _, _, rfl, rfl, a, 1, ns, rfl, s02.seq ha, _, rfl, ?_⟩
    have m4 := Int.emod_nonneg (richI (ns.getD 1 0)) (by decide : (4 : Int) ≠ 0)
    have m4' := Int.emod_lt_of_pos (richI (ns.getD 1 0)) (by decide : (0 : Int) < 4)
    refine ⟨_, rfl, .inl ⟨_, rfl, _, _, rfl, rfl, (by show (0 : Int) < 4; decide), _, rfl, by omega, by omega, for_range (lo := 0) (n := (richI (ns.getD 1 0) % 4).toNat) (fun i σ H3 => ∃ c y7 y8 y10 y11 zs qs, σ = [some (.ref a), some (.int 2), some (.int (n : Nat)), some (.ref L), y4, y5, some (.ref Z), y7, y8, some (.int c), y10, y11] ∧ Same H H3 ∧ H3 Z = some (.lst zs) ∧ PrsAt H3 zs qs ∧ PsIn n qs ∧ (i = 0 → qs = ps))
      ⟨_, y7, y8, none, none, zs, ps, rfl, s02, eZ, hp, pi, fun _ => rfl⟩ ?_ ?_⟩⟩
    · rintro i σ H3 hi ⟨c, y7, y8, y10, y11, zs, qs, rfl, sm3, eZ, hp, pi, _⟩
      have few := pi.few n24
      have npos : (0 : Int) < (n : Nat) := by omega
      -- change, i, j
      refine ⟨_, rfl, _, _, rfl, rfl, ⟨by decide, by decide⟩, _, rfl, _, _, rfl, rfl, .inl ⟨by decide, by decide⟩, _, _, rfl, rfl, ?_⟩
      dsimp only
      generalize hc' : c / 5 + 31 * (0 + ((i : Nat) : Int)) = c'
      refine ⟨_, rfl, .inl ⟨_, rfl, _, rfl, _, _, rfl, rfl, npos, ?_⟩⟩
      refine ⟨_, rfl, _, rfl, _, _, rfl, rfl, ⟨npos, by omega⟩, .inl ⟨_, rfl, _, rfl, _, _, rfl, rfl, npos, ?_⟩⟩
      obtain ⟨x, ex⟩ := Int.eq_ofNat_of_zero_le (Int.emod_nonneg c' (by omega : ((n : Nat) : Int) ≠ 0))
      obtain ⟨y, ey⟩ := Int.eq_ofNat_of_zero_le (Int.emod_nonneg (c' / ((n : Nat) : Int)) (by omega : ((n : Nat) : Int) ≠ 0))
      have xn : x < n := by
        have := Int.emod_lt_of_pos c' npos
        omega
      have yn : y < n := by
        have := Int.emod_lt_of_pos (c' / ((n : Nat) : Int)) npos
        omega
      dsimp only
      rw [ex, ey]
      -- pair
      refine ⟨_, rfl, _, rfl, _, _, rfl, _, rfl, _, rfl, _, _, rfl, (by show 2 ≤ sizeLine; decide), fun t nt => ?_⟩
      have e1 : (if ((y : Nat) : Int) < (x : Nat) then ((y : Nat) : Int) else (x : Nat)) = ((min x y : Nat) : Int) := by
        split <;> omega
      have e2 : (if ((y : Nat) : Int) > (x : Nat) then ((y : Nat) : Int) else (x : Nat)) = ((max x y : Nat) : Int) := by
        split <;> omega
      have et : (upd H3 t (.tup [.int (if ((y : Nat) : Int) < (x : Nat) then ((y : Nat) : Int) else (x : Nat)), .int (if ((y : Nat) : Int) > (x : Nat) then ((y : Nat) : Int) else (x : Nat))])) t = some (.tup (prV (min x y, max x y))) := by
        rw [upd_same, e1, e2]; rfl
      have s4 := same_new (o := .tup [.int (if ((y : Nat) : Int) < (x : Nat) then ((y : Nat) : Int) else (x : Nat)), .int (if ((y : Nat) : Int) > (x : Nat) then ((y : Nat) : Int) else (x : Nat))]) nt
      have tZ : t ≠ Z := fun e => by rw [e, eZ] at nt; cases nt
      generalize upd H3 t (.tup [.int (if ((y : Nat) : Int) < (x : Nat) then ((y : Nat) : Int) else (x : Nat)), .int (if ((y : Nat) : Int) > (x : Nat) then ((y : Nat) : Int) else (x : Nat))]) = H4 at et s4 ⊢
      have sm4 := sm3.trans s4
      have eZ4 := s4 _ _ eZ
      have hp4 := hp.mono s4
      have keepP : ∀ {ws : List V}, PrsAt (upd H4 Z (.lst ws)) zs qs := fun {ws} => ⟨hp.1, fun k q e => by
        obtain ⟨t', k1, k2⟩ := hp4.2 k q e
        exact ⟨t', k1, by rw [upd_ne (fun e' => by rw [e', eZ4] at k2; cases k2)]; exact k2⟩⟩
      have keepS : ∀ {ws : List V}, Same H (upd H4 Z (.lst ws)) := fun {ws} c o e => by
        rw [upd_ne (hZ0 e)]; exact sm4 _ _ e
      refine ⟨_, rfl, _, rfl, t, Z, (min x y, max x y), zs, qs, rfl, rfl, et, .inl (SqL.of eZ4), hp4, _, rfl, iteD (fun c1 => ?_) (fun c1 => ?_)⟩
      · obtain ⟨j, hj, ej⟩ := List.mem_iff_getElem.mp c1
        have hjj : qs[j]? = some (min x y, max x y) := by rw [List.getElem?_eq_getElem hj, ej]
        refine ⟨_, rfl, .inl ⟨rfl, _, SqL.of eZ4⟩, _, rfl, Z, t, zs, qs, _, j, rfl, rfl, eZ4, et, hp4, hjj, fun m hm e => ?_, ?_⟩
        · obtain ⟨h1, h2⟩ := List.getElem?_eq_some_iff.mp e
          have := (List.getElem_inj pi.nd).mp (h2.trans ej.symm)
          omega
        · exact ⟨_, _, _, _, _, _, qs.eraseIdx j, rfl, keepS, upd_same, keepP.erase j, pi.erase j, fun h => by omega⟩
      · refine ⟨_, rfl, _, rfl, rfl, _, rfl, iteDn (fun c2 => ?_) (fun c2 => ?_)⟩
        · have ne : x ≠ y := fun e => c2 (by rw [e])
          refine ⟨_, rfl, .inl ⟨rfl, _, SqL.of eZ4⟩, _, rfl, Z, _, _, rfl, rfl, eZ4, small1000 (by rw [hp.1]; omega), ?_⟩
          refine ⟨_, _, _, _, _, _, qs ++ [(min x y, max x y)], rfl, keepS, upd_same, keepP.snoc (by rw [upd_ne tZ]; exact et), pi.snoc c1 ⟨?_, ?_⟩, fun h => by omega⟩
          · show min x y < max x y
            omega
          · show max x y < n
            omega
        · exact ⟨_, _, _, _, _, _, qs, rfl, sm4, eZ4, hp4, pi, fun h => by omega⟩
    · rintro σ H3 ⟨c, y7, y8, y10, y11, zs, qs, rfl, sm3, eZ, hp, pi, h0⟩
      have few := pi.few n24
      refine ⟨_, rfl, Z, zs, fun v => (((natP H3 v).1 : Int), ((natP H3 v).2 : Int)), rfl, SqL.of eZ, fun v hv => ?_, fun ys z srt stb nz => ?_⟩
      · obtain ⟨t, p, rfl, k, _⟩ := hp.mem v hv
        exact ⟨t, rfl, by dsimp only; rw [natP_eq k]; exact k⟩
      have s4 := same_new (o := .lst ys) nz
      have hys : ∀ y ∈ ys, ∃ t p, y = .ref t ∧ H3 t = some (.tup (prV p)) := fun y hy => by
        obtain ⟨t, p, e, k, _⟩ := hp.mem y (stb.perm.mem_iff.mp hy)
        exact ⟨t, p, e, k⟩
      have py := prsAt_of hys
      have pm : (ys.map (natP H3)).Perm qs := by
        have := stb.perm.map (natP H3)
        rwa [hp.map_eq] at this
      have ndq : (ys.map (natP H3)).Nodup := pm.symm.nodup pi.nd
      have ok : PsOk n (ys.map (natP H3)) := by
        refine ⟨n1, n24, fun p hp' => pi.rng p (pm.mem_iff.mp hp'), ?_, by rw [pm.length_eq]; omega⟩
        have a1 := List.nodup_iff_pairwise_ne.mp ndq
        rw [List.pairwise_map] at a1 ⊢
        refine (srt.and a1).imp fun {u v} h => ?_
        have h1 := SrtO.lexB_no.mp h.1
        have h1 : ¬ (((natP H3 v).1 : Int) < ((natP H3 u).1 : Int) ∨ (((natP H3 v).1 : Int) = ((natP H3 u).1 : Int) ∧ ((natP H3 v).2 : Int) < ((natP H3 u).2 : Int))) := h1
        have h2 : ¬ ((natP H3 u).1 = (natP H3 v).1 ∧ (natP H3 u).2 = (natP H3 v).2) := fun e => h.2 (Prod.ext e.1 e.2)
        omega
      refine ⟨z, ys, rfl, .inl ⟨SqL.of upd_same, fun b nb => ?_⟩⟩
      have s5 := same_new (o := .tup ys) nb
      refine q _ b ys _ (sm3.trans (s4.trans s5)) upd_same ((py.mono s4).mono s5) ok fun e => ?_
      have eq : qs = ps := h0 (by rw [e]; rfl)
      refine drawn_mdl lh hle fun p => ?_
      rw [pm.mem_iff, eq, hm0 p]
end
end Up
end
section
set_option Elab.async false
set_option linter.all false
set_option maxRecDepth 100000
set_option maxHeartbeats 400000
namespace Up
open PySem PySem.Spec PyProof.Rows L2
/-! ### is_ring, is_way, avoid -/
abbrev sIsRing : Stmt := topS 51
abbrev sIsWay : Stmt := topS 52
abbrev sAvoid : Stmt := topS 53
theorem scIsRing : FnScope ["_law_n", "_law_pairs_here", "_law_ring", "_law_i", "_law_j", "_law_beside", "_law_person"] ["_law_n", "_law_pairs_here", "_law_ring"] (defScope sIsRing) := ⟨rfl, rfl, rfl, by decide +kernel, rfl, by decide +kernel, by decide +kernel⟩
theorem scIsWay : FnScope ["_law_n", "_law_pairs_here", "_law_way", "_law_start", "_law_goal", "_law_third", "_law_k"] ["_law_n", "_law_pairs_here", "_law_way", "_law_start", "_law_goal", "_law_third"] (defScope sIsWay) := ⟨rfl, rfl, rfl, by decide +kernel, rfl, by decide +kernel, by decide +kernel⟩
theorem scAvoid : FnScope ["_law_n", "_law_pairs_here", "_law_persons", "_law_ways", "_law_a", "_law_b", "_law_c", "_law_person"] ["_law_n", "_law_pairs_here", "_law_persons", "_law_ways"] (defScope sAvoid) := ⟨rfl, rfl, rfl, by decide +kernel, rfl, by decide +kernel, by decide +kernel⟩
theorem met_adj {n : Nat} {ps : List (Nat × Nat)} (ok : PsOk n ps) {x y : Nat} : (min x y, max x y) ∈ ps ↔ adjOf ps x y := by
  unfold adjOf
  rcases Nat.lt_trichotomy x y with l | l | l
  · rw [Nat.min_eq_left (by omega), Nat.max_eq_right (by omega)]
    constructor
    · exact .inl
    · rintro (h | h)
      · exact h
      · have : y < x := (ok.rng _ h).1
        omega
  · subst l
    constructor
    · intro h
      have : min x x < max x x := (ok.rng _ h).1
      omega
    · rintro (h | h)
      · have : x < x := (ok.rng _ h).1
        omega
      · have : x < x := (ok.rng _ h).1
        omega
  · rw [Nat.min_eq_right (by omega), Nat.max_eq_left (by omega)]
    constructor
    · exact .inr
    · rintro (h | h)
      · have : x < y := (ok.rng _ h).1
        omega
      · exact h
theorem sort_filter {n : Nat} {l : List Nat} (nd : l.Nodup) (lt : ∀ x ∈ l, x < n) {js : List Int} (pm : js.Perm (l.map fun n : Nat => (n : Int))) (pw : js.Pairwise (· ≤ ·)) : js = (((List.range n).filter fun x => decide (x ∈ l)).map fun n : Nat => (n : Int)) := by
  have pf : ((List.range n).filter fun x => decide (x ∈ l)).Perm l := by
    refine (List.perm_ext_iff_of_nodup (List.nodup_range.filter _) nd).mpr fun x => ?_
    rw [List.mem_filter, List.mem_range, decide_eq_true_eq]
    exact ⟨fun h => h.2, fun h => ⟨lt x h, h⟩⟩
  have p2 := pm.trans (pf.map fun n : Nat => (n : Int)).symm
  refine ((Pq.sorted_eq p2 pw).mp ?_).symm
  rw [List.pairwise_map]
  exact (List.pairwise_lt_range.filter _).imp fun {a b} h => by omega
def spIsRing : Sp := fun vs H Q _ => ∃ (n : Nat) (q r : Addr) (xs : List V) (ps : List (Nat × Nat)) (ring : List Nat), vs = [.int (n : Nat), .ref q, .ref r] ∧ H q = some (.tup xs) ∧ PrsAt H xs ps ∧ PsOk n ps ∧ H r = some (.tup (natVs ring)) ∧ Gr.RingOk (adjOf ps) n ring ∧ ring.length ≤ 25 ∧ ∀ H', Same H H' → Q (.bl true) H'
def spIsWay : Sp := fun vs H Q _ => ∃ (n : Nat) (q r : Addr) (xs : List V) (ps : List (Nat × Nat)) (w : List Nat) (s g th : Nat), vs = [.int (n : Nat), .ref q, .ref r, .int (s : Nat), .int (g : Nat), .int (th : Nat)] ∧ H q = some (.tup xs) ∧ PrsAt H xs ps ∧ PsOk n ps ∧ H r = some (.tup (natVs w)) ∧ Gr.WayOk (adjOf ps) (near (adjOf ps) th) n s g w ∧ ∀ H', Same H H' → Q (.bl true) H'
def spAvoid : Sp := fun vs H Q _ => ∃ (n : Nat) (q t u : Addr) (xs : List V) (ps : List (Nat × Nat)) (a b c : Nat), vs = [.int (n : Nat), .ref q, .ref t, .ref u] ∧ H q = some (.tup xs) ∧ PrsAt H xs ps ∧ PsOk n ps ∧ H t = some (.tup (natVs [a, b, c])) ∧ a < b ∧ b < c ∧ c < n ∧ WaysAt (adjOf ps) n a b c H (.ref u) ∧ ∀ H', Same H H' → Q (.bl true) H'
section
variable {P : Program} {w : World} {K : PySem.W.Frag} {mg : Str → Option Value} {base : Heap}
theorem ok_is_ring (A : Here K mg "_law_is_ring" sIsRing ["_law_n", "_law_pairs_here", "_law_ring"]) (T : Top mg) (DM : Df P w K mg base "_law_met" ["_law_pairs_here", "_law_i", "_law_j"] 1 spMet) : Df P w K mg base "_law_is_ring" ["_law_n", "_law_pairs_here", "_law_ring"] 2 spIsRing := by
  refine A.df scIsRing (fun vs H Q E h => ?_) (fun f cdv A outer sh H vs Q E hr h => ?_)
  · obtain ⟨n, q, r, xs, ps, ring, rfl, _⟩ := h; rfl
  · obtain ⟨n, qa, ra, xs, ps, ring, rfl, hq, hp, ok, hring, ro, r25, q⟩ := h
    have nd := scIsRing.nd
    refine ⟨_, pss_cons (ps_if (PW.pt (pw_or (pt_cmpR op_lt (pe_callB call_len_seq rfl T.len PySem.boot_len (pa_cons (pv 2) pa_nil)) pe_int (nomark _))
        (pw_or1 (pt_cmpR (op_neD hr.units) (pe_callB cr_sortedTI rfl T.sorted (by decide +kernel) (pa_cons (pv 2) pa_nil))
          (pe_lc (own := [("_law_person", 6)]) (g := gName 6) (tt := tTest (tOp (rIn K false) (tVar 6) (tVar 2))) rfl nd (pi_range1 rfl T.range (pa_cons (pv 0) pa_nil)) (blkOk_by (N := ["_law_n", "_law_pairs_here", "_law_ring", "_law_i", "_law_j", "_law_beside", "_law_person"]) (sc := defScope sIsRing) (by decide +kernel))
            (fun _ _ _ _ _ => pg_name (i := 6) nd rfl (.inl rfl)) (fun _ _ _ _ _ => pts_one (pt_cmpR (r := rIn K false) op_in_seq (pv 6) (pv 2) (by rfl))) (fun _ _ _ _ _ => pv 6)) (nomark _))))) (pss_one (ps_ret pe_bl)) pss_nil)
      (pss_cons (ps_for PassesOwn.never rfl (pi_range1 rfl T.range (pa_cons (pe_callB call_len_seq rfl T.len PySem.boot_len (pa_cons (pv 2) pa_nil)) pa_nil)) (pg_name (i := 3) nd rfl (.inl rfl))
        (pss_one (ps_for PassesOwn.never rfl (pi_range1 rfl T.range (pa_cons (pv 3) pa_nil)) (pg_name (i := 4) nd rfl (.inl rfl))
          (C8.pss_cut (ps_set (i := 5) nd rfl (.inl rfl) (pe_or (pe_cmpR op_eq (pe_op op_sub (pv 3) (pv 4)) pe_int (nomark _)) (pe_one (pe_cmpR op_eq (pe_op op_sub (pv 3) (pv 4)) (pe_op op_sub (pe_callB call_len_seq rfl T.len PySem.boot_len (pa_cons (pv 2) pa_nil)) pe_int) (nomark _)))))
          (pss_one (ps_if (pt_cmpR op_ne (pe_df DM hr rfl (pa_cons (pv 1) (pa_cons (pe_ix ix_tup (pv 2) (pv 3) (fun _ _ => rfl)) (pa_cons (pe_ix ix_tup (pv 2) (pv 4) (fun _ _ => rfl)) pa_nil)))) (pv 5) (nomark _)) (pss_one (ps_ret pe_bl)) pss_nil))))))
      (pss_one (ps_ret pe_bl))), ?_⟩
    have n24 := ok.n24
    have n1 := ok.n1
    have four := ro.four
    refine ⟨_, rfl, ra, _, rfl, .inr (SqT.of hring), _, _, rfl, rfl, _, rfl, iteD (fun c => ?_) (fun _ => ?_)⟩
    · rw [natVs_len] at c; omega
    refine ⟨_, rfl, ra, ring.map fun n : Nat => (n : Int), rfl, SqT.of (by rw [← natVs_eq]; exact hring), fun js z pm pw nz => ?_⟩
    have s1 := same_new (o := .lst (js.map V.int)) nz
    refine ⟨_, rfl, _, rfl, by omega, by omega, fun D nD => lc_range (lo := 0) (n := ((n : Nat) : Int).toNat) (fun i H2 => H2 D = some (.lst (natVs ((List.range i).filter fun x => decide (x ∈ ring)))) ∧ Same (upd H z (.lst (js.map V.int))) H2)
      ⟨upd_same, same_new nD⟩ ?_ ?_⟩
    · rintro x H2 hx ⟨e2, sm2⟩
      have ev : (0 : Int) + (x : Nat) = (x : Nat) := by omega
      rw [ev]
      refine ⟨rfl, _, rfl, _, rfl, in_row (.inr (sm2 _ _ (s1 _ _ hring))) ⟨_, rfl, iteD (fun c => ?_) (fun c => ?_)⟩⟩
      · refine ⟨_, rfl, _, e2, small1000 ?_, ?_, fun q' u eu => ?_⟩
        · rw [natVs_len]
          have := List.length_filter_le (fun x => decide (x ∈ ring)) (List.range x)
          rw [List.length_range] at this
          omega
        · have : List.filter (fun x => decide (x ∈ ring)) [x] = [x] := by rw [List.filter_cons, if_pos (decide_eq_true c)]; rfl
          rw [upd_same, List.range_succ, List.filter_append, natVs_app, this]; rfl
        · rw [upd_ne (ne_of_none eu nD)]; exact sm2 _ _ eu
      · refine ⟨?_, sm2⟩
        have : List.filter (fun x => decide (x ∈ ring)) [x] = [] := by rw [List.filter_cons, if_neg (by simpa using c)]; rfl
        rw [e2, List.range_succ, List.filter_append, this, List.append_nil]
    · rintro H2 ⟨e2, sm2⟩
      rw [Int.toNat_natCast, natVs_eq] at e2
      have sf := sort_filter ro.nd ro.lt pm pw
      rw [← sf] at e2
      have s02 := s1.trans sm2
      refine ⟨_, _, .lst (SqL.of (sm2 _ _ upd_same)) (dpAll_ints js), .lst (SqL.of e2) (dpAll_ints js), shaped_ints _, shaped_ints _, ?_⟩
      rw [eqv_ints, decide_eq_true rfl]
      refine ⟨_, rfl, iteF ?_⟩
      have hr2 := s02 _ _ hring
      refine ⟨_, rfl, ra, _, rfl, .inr (SqT.of hr2), _, rfl, by omega, by rw [natVs_len]; omega, for_range (lo := 0) (n := (((natVs ring).length : Nat) : Int).toNat) (fun i σ H3 => ∃ y3 y4 y5 y6, σ = [some (.int (n : Nat)), some (.ref qa), some (.ref ra), y3, y4, y5, y6] ∧ Same H H3)
        ⟨_, _, _, _, rfl, s02⟩ ?_ ?_⟩
      · rintro i σ H3 hi ⟨y3, y4, y5, y6, rfl, sm3⟩
        rw [natVs_len] at hi
        have ev : (0 : Int) + (i : Nat) = (i : Nat) := by omega
        rw [ev]
        obtain ⟨x, hx⟩ : ∃ x, ring[i]? = some x := ⟨_, List.getElem?_eq_getElem (by omega)⟩
        refine ⟨_, rfl, _, rfl, by omega, by omega, for_range (lo := 0) (n := ((i : Nat) : Int).toNat) (fun j σ H3 => ∃ y4 y5 y6, σ = [some (.int (n : Nat)), some (.ref qa), some (.ref ra), some (.int (i : Nat)), y4, y5, y6] ∧ Same H H3)
          ⟨_, _, _, rfl, sm3⟩ ?_ ?_⟩
        · rintro j σ H4 hj ⟨y4, y5, y6, rfl, sm4⟩
          have ev : (0 : Int) + (j : Nat) = (j : Nat) := by omega
          rw [ev]
          have ji : j < i := by omega
          obtain ⟨y, hy⟩ : ∃ y, ring[j]? = some y := ⟨_, List.getElem?_eq_getElem (by omega)⟩
          have key := ro.adj i j x y ji hx hy
          have hr4 := sm4 _ _ hring
          refine ⟨fun σ' H' => ∃ b : Bool, σ' = [some (.int (n : Nat)), some (.ref qa), some (.ref ra), some (.int (i : Nat)), some (.int (j : Nat)), some (.bl b), y6] ∧ H' = H4 ∧ (b = true ↔ (i - j = 1 ∨ i - j = ring.length - 1)), ?_, ?_⟩
          · refine ⟨_, rfl, _, rfl, _, _, rfl, rfl, rfl, _, rfl, iteD (fun c => ?_) (fun c => ?_)⟩
            · have := V.int.inj c
              exact ⟨true, rfl, rfl, fun _ => .inl (by omega), fun _ => rfl⟩
            · have c' : i - j ≠ 1 := fun e => c (congrArg V.int (by omega))
              refine ⟨_, rfl, _, rfl, _, _, rfl, rfl, _, rfl, ra, _, rfl, .inr (SqT.of hr4), _, _, rfl, rfl, rfl, _, rfl, rfl, ?_⟩
              rw [decide_eq_true_eq, natVs_len]
              constructor
              · intro e
                have := V.int.inj e
                exact .inr (by omega)
              · rintro (e | e)
                · exact (c' e).elim
                · exact congrArg V.int (by omega)
          · rintro σ' H' ⟨b, rfl, rfl, hb⟩
            refine ⟨_, rfl, _, rfl, _, rfl, ra, _, _, _, rfl, rfl, SqT.of hr4, atI_nat (natVs_get hx), _, rfl, _, rfl, ra, _, _, _, rfl, rfl, SqT.of hr4, atI_nat (natVs_get hy), qa, x, y, xs, ps, rfl, sm4 _ _ hq, hp.mono sm4, fun H5 sm5 => ?_⟩
            refine ⟨_, rfl, rfl, _, rfl, iteDn (fun c => (c ?_).elim) (fun _ => ⟨_, _, _, rfl, sm4.trans sm5⟩)⟩
            refine congrArg V.bl ?_
            rw [Bool.eq_iff_iff, decide_eq_true_eq, met_adj ok, key, hb]
        · rintro σ H4 ⟨y4, y5, y6, rfl, sm4⟩
          exact ⟨_, _, _, _, rfl, sm4⟩
      · rintro σ H3 ⟨y3, y4, y5, y6, rfl, sm3⟩
        exact q H3 sm3
end
end Up
end
section
set_option Elab.async false
set_option linter.all false
set_option maxRecDepth 100000
set_option maxHeartbeats 400000
namespace Up
open PySem PySem.Spec PyProof.Rows L2
section
variable {P : Program} {w : World} {K : PySem.W.Frag} {mg : Str → Option Value} {base : Heap}
theorem ok_is_way (A : Here K mg "_law_is_way" sIsWay ["_law_n", "_law_pairs_here", "_law_way", "_law_start", "_law_goal", "_law_third"]) (T : Top mg) (DM : Df P w K mg base "_law_met" ["_law_pairs_here", "_law_i", "_law_j"] 1 spMet) : Df P w K mg base "_law_is_way" ["_law_n", "_law_pairs_here", "_law_way", "_law_start", "_law_goal", "_law_third"] 2 spIsWay := by
  refine A.df scIsWay (fun vs H Q E h => ?_) (fun f cdv A outer sh H vs Q E hr h => ?_)
  · obtain ⟨n, q, r, xs, ps, w, s, g, th, rfl, _⟩ := h; rfl
  · obtain ⟨n, qa, ra, xs, ps, ww, s, g, th, rfl, hq, hp, ok, hw, wo, q⟩ := h
    have nd := scIsWay.nd
    refine ⟨_, pss_cons (ps_if (PW.pt (pw_or (pt_cmpR op_eq (pe_callB call_len_seq rfl T.len PySem.boot_len (pa_cons (pv 2) pa_nil)) pe_int (nomark _))
        (pw_or (pt_cmpR op_ne (pe_ix ix_tup (pv 2) pe_int (fun _ _ => rfl)) (pv 3) (nomark _))
        (pw_or1 (pt_cmpR op_ne (pe_ix ix_tup (pv 2) (pe_un un_neg pe_int) (fun _ _ => rfl)) (pv 4) (nomark _)))))) (pss_one (ps_ret pe_bl)) pss_nil)
      (pss_cons (ps_for PassesOwn.never rfl (pi_range1 rfl T.range (pa_cons (pe_callB call_len_seq rfl T.len PySem.boot_len (pa_cons (pv 2) pa_nil)) pa_nil)) (pg_name (i := 6) nd rfl (.inl rfl))
        (pss_cons (ps_if (PW.pt (pw_or (pt_cmpR op_lt (pe_ix ix_tup (pv 2) (pv 6) (fun _ _ => rfl)) pe_int (nomark _))
            (pw_or (pt_cmpR op_ge (pe_ix ix_tup (pv 2) (pv 6) (fun _ _ => rfl)) (pv 0) (nomark _))
            (pw_or (pt_cmpR op_eq (pe_ix ix_tup (pv 2) (pv 6) (fun _ _ => rfl)) (pv 5) (nomark _))
            (pw_or1 (pt_val (pe_df DM hr rfl (pa_cons (pv 1) (pa_cons (pe_ix ix_tup (pv 2) (pv 6) (fun _ _ => rfl)) (pa_cons (pv 5) pa_nil)))))))))) (pss_one (ps_ret pe_bl)) pss_nil)
        (pss_one (ps_if (PW.pt (pw_and (pt_cmpR op_gt (pv 6) pe_int (nomark _)) (pw_and1 (pt_not (pt_val (pe_df DM hr rfl (pa_cons (pv 1) (pa_cons (pe_ix ix_tup (pv 2) (pe_op op_sub (pv 6) pe_int) (fun _ _ => rfl)) (pa_cons (pe_ix ix_tup (pv 2) (pv 6) (fun _ _ => rfl)) pa_nil))))))))) (pss_one (ps_ret pe_bl)) pss_nil))))
      (pss_one (ps_ret pe_bl))), ?_⟩
    have n24 := ok.n24
    have gr : GrOk (adjOf ps) n ((List.range n).map fun _ => []) → True := fun _ => trivial
    have ir : ∀ a, ¬ adjOf ps a a := fun a h => by
      rcases h with h | h <;> exact absurd (ok.rng _ h).1 (Nat.lt_irrefl _)
    have lw : ww.length ≤ 24 := Nat.le_trans (Gr.nodup_le (wo.ind.nodup ir) wo.lt) n24
    have w0 : ww[0]? = some s := by rw [← List.head?_eq_getElem?]; exact wo.head
    have l0 : 0 < ww.length := (List.getElem?_eq_some_iff.mp w0).1
    have hat : atI (natVs ww) (-1) = some (.int (g : Nat)) := by
      obtain ⟨d, hd⟩ := List.getLast?_eq_some_iff.mp wo.last
      rw [hd, natVs_app]
      exact atI_last _ _
    refine ⟨_, rfl, ra, _, rfl, .inr (SqT.of hw), rfl, _, rfl, iteD (fun c => ?_) (fun _ => ?_)⟩
    · have := V.int.inj c
      rw [natVs_len] at this; omega
    refine ⟨_, rfl, ra, _, 0, _, rfl, rfl, SqT.of hw, atI_nat (j := 0) (natVs_get w0), _, rfl, rfl, _, rfl, iteDn (fun c => (c rfl).elim) (fun _ => ?_)⟩
    refine ⟨_, rfl, 1, rfl, ra, _, -1, _, rfl, rfl, SqT.of hw, hat, _, rfl, rfl, _, rfl, iteDn (fun c => (c rfl).elim) (fun _ => ?_)⟩
    refine ⟨_, rfl, ra, _, rfl, .inr (SqT.of hw), _, rfl, by omega, by rw [natVs_len]; omega, for_range (lo := 0) (n := (((natVs ww).length : Nat) : Int).toNat) (fun i σ H3 => ∃ y6, σ = [some (.int (n : Nat)), some (.ref qa), some (.ref ra), some (.int (s : Nat)), some (.int (g : Nat)), some (.int (th : Nat)), y6] ∧ Same H H3)
      ⟨_, rfl, Same.refl _⟩ ?_ ?_⟩
    · rintro i σ H1 hi ⟨y6, rfl, sm1⟩
      rw [natVs_len] at hi
      have ev : (0 : Int) + (i : Nat) = (i : Nat) := by omega
      rw [ev]
      obtain ⟨x, hx⟩ : ∃ x, ww[i]? = some x := ⟨_, List.getElem?_eq_getElem (by omega)⟩
      have xm := List.mem_of_getElem? hx
      have xn := wo.lt x xm
      have xf := wo.free x xm
      have hw1 := sm1 _ _ hw
      refine ⟨_, rfl, _, rfl, ra, _, _, _, rfl, rfl, SqT.of hw1, atI_nat (natVs_get hx), _, _, rfl, rfl, _, rfl, iteD (fun c => ?_) (fun _ => ?_)⟩
      · omega
      refine ⟨_, rfl, _, rfl, ra, _, _, _, rfl, rfl, SqT.of hw1, atI_nat (natVs_get hx), _, rfl, _, _, rfl, rfl, _, rfl, iteD (fun c => ?_) (fun _ => ?_)⟩
      · omega
      refine ⟨_, rfl, _, rfl, ra, _, _, _, rfl, rfl, SqT.of hw1, atI_nat (natVs_get hx), _, rfl, rfl, _, rfl, iteD (fun c => ?_) (fun _ => ?_)⟩
      · exact (xf (.inr (vint_eq.mp c))).elim
      refine ⟨_, rfl, _, rfl, _, rfl, ra, _, _, _, rfl, rfl, SqT.of hw1, atI_nat (natVs_get hx), _, rfl, qa, x, th, xs, ps, rfl, sm1 _ _ hq, hp.mono sm1, fun H2 sm2 => ⟨_, rfl, iteD (fun c => ?_) (fun _ => ?_)⟩⟩
      · have := (met_adj ok).mp c
        exact (xf (.inl (this.elim .inr .inl))).elim
      have sm02 := sm1.trans sm2
      have hw2 := sm02 _ _ hw
      refine ⟨_, rfl, _, _, rfl, rfl, _, rfl, iteD (fun c => ?_) (fun _ => ⟨_, rfl, sm02⟩)⟩
      have i0 : 0 < i := by omega
      obtain ⟨y, hy⟩ : ∃ y, ww[i - 1]? = some y := ⟨_, List.getElem?_eq_getElem (by omega)⟩
      have ei : ((i : Nat) : Int) - 1 = ((i - 1 : Nat) : Int) := by omega
      have ad : adjOf ps y x := (Gr.ind_get ww (i - 1) i y x wo.ind (by omega) hy hx).1.mpr (by omega)
      refine ⟨_, rfl, _, rfl, _, rfl, _, _, rfl, rfl, ra, _, _, _, rfl, rfl, SqT.of hw2, by rw [ei]; exact atI_nat (natVs_get hy), _, rfl, _, rfl, ra, _, _, _, rfl, rfl, SqT.of hw2, atI_nat (natVs_get hx), qa, y, x, xs, ps, rfl, sm02 _ _ hq, hp.mono sm02, fun H3 sm3 => ⟨_, rfl, iteDn (fun c => ?_) (fun _ => ⟨_, rfl, sm02.trans sm3⟩)⟩⟩
      exact (c ((met_adj ok).mpr ad)).elim
    · rintro σ H1 ⟨y6, rfl, sm1⟩
      exact q H1 sm1
theorem ok_avoid (A : Here K mg "_law_avoid" sAvoid ["_law_n", "_law_pairs_here", "_law_persons", "_law_ways"]) (T : Top mg) (DW : Df P w K mg base "_law_is_way" ["_law_n", "_law_pairs_here", "_law_way", "_law_start", "_law_goal", "_law_third"] 2 spIsWay) : Df P w K mg base "_law_avoid" ["_law_n", "_law_pairs_here", "_law_persons", "_law_ways"] 3 spAvoid := by
  refine A.df scAvoid (fun vs H Q E h => ?_) (fun f cdv A outer sh H vs Q E hr h => ?_)
  · obtain ⟨n, q, t, u, xs, ps, a, b, c, rfl, _⟩ := h; rfl
  · obtain ⟨n, qa, ta, ua, xs, ps, a, b, c, rfl, hq, hp, ok, ht, l1, l2, l3, wa, q⟩ := h
    have nd := scAvoid.nd
    refine ⟨_, pss_cons (ps_if (PW.pt (pw_or (pt_cmpR op_ne (pe_callB call_len_seq rfl T.len PySem.boot_len (pa_cons (pv 2) pa_nil)) pe_int (nomark _))
        (pw_or (pt_cmpR (op_neD hr.units) (pe_callB cr_sortedTI rfl T.sorted (by decide +kernel) (pa_cons (pv 2) pa_nil))
          (pe_lc (own := [("_law_person", 7)]) (g := gName 7) (tt := tTest (tOp (rIn K false) (tVar 7) (tVar 2))) rfl nd (pi_range1 rfl T.range (pa_cons (pv 0) pa_nil)) (blkOk_by (N := ["_law_n", "_law_pairs_here", "_law_persons", "_law_ways", "_law_a", "_law_b", "_law_c", "_law_person"]) (sc := defScope sAvoid) (by decide +kernel))
            (fun _ _ _ _ _ => pg_name (i := 7) nd rfl (.inl rfl)) (fun _ _ _ _ _ => pts_one (pt_cmpR (r := rIn K false) op_in_seq (pv 7) (pv 2) (by rfl))) (fun _ _ _ _ _ => pv 7)) (nomark _))
        (pw_or1 (pt_cmpR op_ne (pe_callB call_len_seq rfl T.len PySem.boot_len (pa_cons (pv 3) pa_nil)) pe_int (nomark _)))))) (pss_one (ps_ret pe_bl)) pss_nil)
      (pss_cons (ps_asg (pv 2) (pg_tup (by rfl) (pgs_cons (pg_name (i := 4) nd rfl (.inl rfl)) (pgs_cons (pg_name (i := 5) nd rfl (.inl rfl)) (pgs_cons (pg_name (i := 6) nd rfl (.inl rfl)) pgs_nil)))))
      (pss_cons (ps_if (PW.pt (pw_or (pt_not (pt_val (pe_df DW hr rfl (pa_cons (pv 0) (pa_cons (pv 1) (pa_cons (pe_ix ix_tup (pv 3) pe_int (fun _ _ => rfl)) (pa_cons (pv 4) (pa_cons (pv 5) (pa_cons (pv 6) pa_nil)))))))))
          (pw_or1 (pt_not (pt_val (pe_df DW hr rfl (pa_cons (pv 0) (pa_cons (pv 1) (pa_cons (pe_ix ix_tup (pv 3) pe_int (fun _ _ => rfl)) (pa_cons (pv 4) (pa_cons (pv 6) (pa_cons (pv 5) pa_nil))))))))))) ) (pss_one (ps_ret pe_bl)) pss_nil)
      (pss_one (ps_ret (pe_df DW hr rfl (pa_cons (pv 0) (pa_cons (pv 1) (pa_cons (pe_ix ix_tup (pv 3) pe_int (fun _ _ => rfl)) (pa_cons (pv 5) (pa_cons (pv 6) (pa_cons (pv 4) pa_nil))))))))))), ?_⟩
    have n24 := ok.n24
    have n1 := ok.n1
    obtain ⟨q0, r1, r2, r3, w1, w2, w3, e0, hu, k1, k2, k3, o1, o2, o3⟩ := wa
    cases e0
    refine ⟨_, rfl, ta, _, rfl, .inr (SqT.of ht), rfl, _, rfl, iteDn (fun c => (c rfl).elim) (fun _ => ?_)⟩
    refine ⟨_, rfl, ta, [a, b, c].map fun n : Nat => (n : Int), rfl, SqT.of (by rw [← natVs_eq]; exact ht), fun js z pm pw nz => ?_⟩
    have s1 := same_new (o := .lst (js.map V.int)) nz
    have ndp : ([a, b, c] : List Nat).Nodup := by
      rw [List.nodup_iff_pairwise_ne]
      simp
      omega
    have ltp : ∀ x ∈ ([a, b, c] : List Nat), x < n := fun x hx => by
      simp at hx
      omega
    generalize hpers : ([a, b, c] : List Nat) = pers at ht pm ndp ltp
    refine ⟨_, rfl, _, rfl, by omega, by omega, fun D nD => lc_range (lo := 0) (n := ((n : Nat) : Int).toNat) (fun i H2 => H2 D = some (.lst (natVs ((List.range i).filter fun x => decide (x ∈ pers)))) ∧ Same (upd H z (.lst (js.map V.int))) H2)
      ⟨upd_same, same_new nD⟩ ?_ ?_⟩
    · rintro x H2 hx ⟨e2, sm2⟩
      have ev : (0 : Int) + (x : Nat) = (x : Nat) := by omega
      rw [ev]
      refine ⟨rfl, _, rfl, _, rfl, in_row (.inr (sm2 _ _ (s1 _ _ ht))) ⟨_, rfl, iteD (fun c => ?_) (fun c => ?_)⟩⟩
      · refine ⟨_, rfl, _, e2, small1000 ?_, ?_, fun q' u eu => ?_⟩
        · rw [natVs_len]
          have := List.length_filter_le (fun x => decide (x ∈ pers)) (List.range x)
          rw [List.length_range] at this
          omega
        · have : List.filter (fun x => decide (x ∈ pers)) [x] = [x] := by rw [List.filter_cons, if_pos (decide_eq_true c)]; rfl
          rw [upd_same, List.range_succ, List.filter_append, natVs_app, this]; rfl
        · rw [upd_ne (ne_of_none eu nD)]; exact sm2 _ _ eu
      · refine ⟨?_, sm2⟩
        have : List.filter (fun x => decide (x ∈ pers)) [x] = [] := by rw [List.filter_cons, if_neg (by simpa using c)]; rfl
        rw [e2, List.range_succ, List.filter_append, this, List.append_nil]
    · rintro H2 ⟨e2, sm2⟩
      rw [Int.toNat_natCast, natVs_eq] at e2
      have sf := sort_filter ndp ltp pm pw
      rw [← sf] at e2
      subst hpers
      have s02 := s1.trans sm2
      refine ⟨_, _, .lst (SqL.of (sm2 _ _ upd_same)) (dpAll_ints js), .lst (SqL.of e2) (dpAll_ints js), shaped_ints _, shaped_ints _, ?_⟩
      rw [eqv_ints, decide_eq_true rfl]
      refine ⟨_, rfl, iteF ?_⟩
      refine ⟨_, rfl, ua, _, rfl, .inr (SqT.of (s02 _ _ hu)), rfl, _, rfl, iteDn (fun c => (c rfl).elim) (fun _ => ?_)⟩
      -- a, b, c = persons
      refine ⟨_, rfl, ta, _, rfl, SqT.of (s02 _ _ ht), rfl, _, _, rfl, _, _, rfl, _, _, rfl, rfl, ?_⟩
      refine ⟨_, rfl, _, rfl, _, rfl, ua, _, 0, _, rfl, rfl, SqT.of (s02 _ _ hu), atI_nat (j := 0) rfl, _, rfl, _, rfl, _, rfl, n, qa, r1, xs, ps, w1, a, b, c, rfl, s02 _ _ hq, hp.mono s02, ok, s02 _ _ k1, o1, fun H3 sm3 => ⟨true, rfl, iteF ?_⟩⟩
      have s03 := s02.trans sm3
      refine ⟨_, rfl, _, rfl, _, rfl, ua, _, 1, _, rfl, rfl, SqT.of (s03 _ _ hu), atI_nat (j := 1) rfl, _, rfl, _, rfl, _, rfl, n, qa, r2, xs, ps, w2, a, c, b, rfl, s03 _ _ hq, hp.mono s03, ok, s03 _ _ k2, o2, fun H4 sm4 => ⟨true, rfl, iteF ?_⟩⟩
      have s04 := s03.trans sm4
      exact ⟨_, rfl, _, rfl, _, rfl, ua, _, 2, _, rfl, rfl, SqT.of (s04 _ _ hu), atI_nat (j := 2) rfl, _, rfl, _, rfl, _, rfl, n, qa, r3, xs, ps, w3, b, c, a, rfl, s04 _ _ hq, hp.mono s04, ok, s04 _ _ k3, o3, fun H5 sm5 => q H5 (s04.trans sm5)⟩
end
end Up
end
section
set_option Elab.async false
set_option linter.all false
set_option maxRecDepth 100000
set_option maxHeartbeats 400000
namespace Up
open PySem PySem.Spec PyProof.Rows L2
/-! ### the law -/
abbrev sLaw : Stmt := topS 54
theorem scLaw : FnScope ["_law_script", "_law_n", "_law_pairs_here", "_law_told", "_law_hours", "_law_k", "_law_person", "_law_e"] ["_law_script"] (defScope sLaw) := ⟨rfl, rfl, rfl, by decide +kernel, rfl, by decide +kernel, by decide +kernel⟩
def spLaw (K : PySem.W.Frag) : Sp := fun vs H Q _ => ∃ (a : Addr) (ns : List Int), vs = [.ref a] ∧ SqL K H a (ns.map V.int) ∧ ns.length ≤ 63 ∧ ∀ H', Q (.bl true) H'
theorem expl_mdl {n : Nat} {ps : List (Nat × Nat)} {hs : List (Int × Int)} (ok : PsOk n ps) (lh : hs.length = n) (h : Expl n ps hs) : ∃ lo hi : Nat → Int, Gr.Mdl (adjOf ps) (fun x => x < n) lo hi := by
  refine drawn_mdl lh (fun p hp => ?_) fun p => ?_
  · obtain ⟨k, hk, e⟩ := List.mem_iff_getElem.mp hp
    exact (h k (by omega)).1 p (by rw [List.getElem?_eq_getElem hk, e])
  · constructor
    · intro hp
      obtain ⟨h1, h2⟩ := ok.rng p hp
      have e1 : hs[p.1]? = some hs[p.1] := List.getElem?_eq_getElem (by omega)
      have e2 : hs[p.2]? = some hs[p.2] := List.getElem?_eq_getElem (by omega)
      exact ⟨h1, h2, _, _, e1, e2, ((h p.1 (by omega)).2 p.2 _ _ h1 e1 e2).mpr hp⟩
    · rintro ⟨h1, h2, a, b, e1, e2, o⟩
      exact ((h p.1 (by omega)).2 p.2 _ _ h1 e1 e2).mp o
theorem PsOk.sy {ps : List (Nat × Nat)} : ∀ a b, adjOf ps a b → adjOf ps b a := fun a b h => h.elim .inr .inl
theorem PsOk.ir {n : Nat} {ps : List (Nat × Nat)} (ok : PsOk n ps) : ∀ a, ¬ adjOf ps a a := fun a h => by
  rcases h with h | h <;> exact absurd (ok.rng _ h).1 (Nat.lt_irrefl _)
theorem PsOk.inU {n : Nat} {ps : List (Nat × Nat)} (ok : PsOk n ps) : ∀ a b, adjOf ps a b → a < n := fun a b h => by
  rcases h with h | h
  · have := ok.rng _ h
    exact Nat.lt_trans this.1 this.2
  · exact (ok.rng _ h).2
theorem draw_n (c : Int) (k : Bool) : ∃ n : Nat, 1 ≤ n ∧ n ≤ 24 ∧ atI [V.int (1 + c % 9), V.int 24] (if k = true then 1 else 0) = some (.int (n : Nat)) := by
  cases k with
  | true => exact ⟨24, by decide, by decide, rfl⟩
  | false =>
    have h1 := Int.emod_nonneg c (by decide : (9 : Int) ≠ 0)
    have h2 := Int.emod_lt_of_pos c (by decide : (0 : Int) < 9)
    refine ⟨(1 + c % 9).toNat, by omega, by omega, ?_⟩
    have : (((1 + c % 9).toNat : Nat) : Int) = 1 + c % 9 := by omega
    rw [this]; rfl
/-- not the hours: a ring or three persons, and no hours explain -/
theorem vis_other {n : Nat} {ps : List (Nat × Nat)} (ok : PsOk n ps) {H : Hp} {v : V} (h : VisAt (adjOf ps) n H v) :
    (∃ (q a : Addr) (xs : List V) (hs : List (Nat × Nat)), v = .ref q ∧ H q = some (.tup [.str "hours", .ref a]) ∧ H a = some (.tup xs) ∧ PrsAt H xs hs ∧ hs.length = n ∧ Expl n ps (hs.map castP)) ∨
    ∃ (q : Addr) (z : Str) (y : Addr) (rest : List V), v = .ref q ∧ H q = some (.tup (.str z :: .ref y :: rest)) ∧ z ≠ "hours" ∧ (¬ ∃ lo hi : Nat → Int, Gr.Mdl (adjOf ps) (fun x => x < n) lo hi) ∧
      ((z = "ring" ∧ rest = [] ∧ ∃ r, H y = some (.tup (natVs r)) ∧ r.length ≤ 25 ∧ Gr.RingOk (adjOf ps) n r) ∨
       (z = "three" ∧ ∃ u a b c, rest = [.ref u] ∧ H y = some (.tup (natVs [a, b, c])) ∧ a < b ∧ b < c ∧ c < n ∧ WaysAt (adjOf ps) n a b c H (.ref u))) := by
  cases h with
  | @hours q a xs hs h1 h2 h3 h4 h5 h6 =>
    refine .inl ⟨q, a, xs, hs, rfl, h1, h2, h3, h4, fun k hk => ⟨fun p e => ?_, fun j p r lt e1 e2 => ?_⟩⟩
    · rw [List.getElem?_map] at e
      cases e2 : hs[k]? with
      | none => rw [e2] at e; cases e
      | some p' =>
        rw [e2] at e; cases e
        have := h5 k p' e2
        show (p'.1 : Int) ≤ (p'.2 : Int)
        omega
    · rw [List.getElem?_map] at e1 e2
      cases g1 : hs[k]? with
      | none => rw [g1] at e1; cases e1
      | some p' =>
        cases g2 : hs[j]? with
        | none => rw [g2] at e2; cases e2
        | some r' =>
          rw [g1] at e1; rw [g2] at e2
          cases e1; cases e2
          have key := h6 k j p' r' (by omega) g1 g2
          have e3 : ov (castP p') (castP r') ↔ p'.1 ≤ r'.2 ∧ r'.1 ≤ p'.2 := by
            unfold ov castP
            show ((p'.1 : Int) ≤ (r'.2 : Int) ∧ (r'.1 : Int) ≤ (p'.2 : Int)) ↔ _
            omega
          rw [e3, ← key]
          unfold adjOf
          constructor
          · rintro (h | h)
            · exact h
            · have : j < k := (ok.rng _ h).1
              omega
          · exact .inl
  | @ring q a h1 h2 =>
    obtain ⟨q', r, e, k1, k2, k3, k4⟩ := h2
    cases e
    exact .inr ⟨q, "ring", a, [], rfl, h1, by decide, fun ⟨lo, hi, m⟩ => k4 (m.noRing PsOk.sy ok.inU ok.ir), .inl ⟨rfl, rfl, r, k1, k2, k3⟩⟩
  | @three q t u a b c h1 h2 l1 l2 l3 wa nt =>
    exact .inr ⟨q, "three", t, [.ref u], rfl, h1, by decide, fun ⟨lo, hi, m⟩ => nt (m.noThree PsOk.sy ok.inU ok.ir), .inr ⟨rfl, u, a, b, c, rfl, h2, l1, l2, l3, wa⟩⟩
section
variable {P : Program} {w : World} {K : PySem.W.Frag} {mg : Str → Option Value} {base : Heap}
theorem ok_law {f : Addr} {fd : FuncData} (A : Fun K "law" "law" sLaw f fd) (T : Top mg) (DC : Df P w K mg base "_law_cell" ["_law_script", "_law_k"] 1 (spCell K)) (DR : Df P w K mg base "_law_rich" ["_law_cell_here"] 1 spRich)
    (DD : Df P w K mg base "_law_digits" ["_law_cell_here", "_law_sizes"] 1 spDigits) (DP : Df P w K mg base "_law_pairs" ["_law_script", "_law_at", "_law_n"] 2 (spPairs K)) (DV : Df P w K mg base "visits" ["n", "pairs"] 81 spVisits)
    (DE : Df P w K mg base "_law_explains" ["_law_n", "_law_pairs_here", "_law_hours"] 1 spExpl) (DG : Df P w K mg base "_law_is_ring" ["_law_n", "_law_pairs_here", "_law_ring"] 2 spIsRing)
    (DA : Df P w K mg base "_law_avoid" ["_law_n", "_law_pairs_here", "_law_persons", "_law_ways"] 3 spAvoid) : FnOk P w K mg base CX0 82 f fd ["_law_script"] (spLaw K) := by
  refine A.ok scLaw (fun vs H Q E h => ?_) (fun cdv A outer sh H vs Q E hr h => ?_)
  · obtain ⟨a, ns, rfl, _⟩ := h; rfl
  · obtain ⟨a, ns, rfl, ha, hl, q⟩ := h
    have nd := scLaw.nd
    have r1 : Room 1 _ := hr.mono (by decide)
    have r2 : Room 2 _ := hr.mono (by decide)
    have r3 : Room 3 _ := hr.mono (by decide)
    refine ⟨_, pss_cons (ps_set (i := 1) nd rfl (.inl rfl) (pe_ix (r := rIxL K) ix_list (pe_lst (pa_cons (pe_op op_add pe_int (pe_op op_mod (pe_callTy call_int1 rfl T.int (by decide +kernel) (pa_cons (pe_df DC r1 rfl (pa_cons (pv 0) (pa_cons pe_int pa_nil))) pa_nil)) pe_int)) (pa_cons pe_int pa_nil)))
        (pe_callTy call_int1 rfl T.int (by decide +kernel) (pa_cons (pe_cmpR op_eq (pe_op op_mod (pe_callTy call_int1 rfl T.int (by decide +kernel) (pa_cons (pe_op op_fdiv (pe_df DC r1 rfl (pa_cons (pv 0) (pa_cons pe_int pa_nil))) pe_int) pa_nil)) pe_int) pe_int (nomark _)) pa_nil)) (fun _ _ => rfl)))
      (pss_cons (ps_set (i := 2) nd rfl (.inl rfl) (pe_df DP r2 rfl (pa_cons (pv 0) (pa_cons pe_int (pa_cons (pv 1) pa_nil)))))
      (pss_cons (ps_set (i := 3) nd rfl (.inl rfl) (pe_df DV hr rfl (pa_cons (pv 1) (pa_cons (pv 2) pa_nil))))
      (pss_cons (ps_if (PW.pt (pw_or (pt_not (pt_val (pe_callB call_isi rfl T.isinstance (by decide +kernel) (pa_cons (pv 3) (pa_cons (pe_bltn (v := .ty "tuple") rfl T.tuple (by decide +kernel) rfl) pa_nil))))) (pw_or1 (pt_cmpR op_lt (pe_callB call_len_seq rfl T.len PySem.boot_len (pa_cons (pv 3) pa_nil)) pe_int (nomark _))))) (pss_one (ps_ret pe_bl)) pss_nil)
      (pss_cons (ps_if (pt_cmpR op_eq (pe_ix (r := rIxT K) ix_tup (pv 3) pe_int (fun _ _ => rfl)) pe_str (nomark _))
        (pss_cons (ps_if (PW.pt (pw_or (pt_cmpR op_ne (pe_callB call_len_seq rfl T.len PySem.boot_len (pa_cons (pv 3) pa_nil)) pe_int (nomark _))
            (pw_or (pt_not (pt_val (pe_callB call_isi rfl T.isinstance (by decide +kernel) (pa_cons (pe_ix (r := rIxT K) ix_tup (pv 3) pe_int (fun _ _ => rfl)) (pa_cons (pe_bltn (v := .ty "tuple") rfl T.tuple (by decide +kernel) rfl) pa_nil)))))
            (pw_or1 (pt_cmpR (op_neNil hr.units0) (pe_lc (own := [("_law_hours", 4)]) (g := gName 4) (tt := tNot (tB (tCB (rIsi K) (tCons (tVar 4) (tCons (tC (.ty "tuple")) tNil))))) rfl nd (pi_tup (pe_ix (r := rIxT K) ix_tup (pv 3) pe_int (fun _ _ => rfl))) (blkOk_by (N := ["_law_script", "_law_n", "_law_pairs_here", "_law_told", "_law_hours", "_law_k", "_law_person", "_law_e"]) (sc := defScope sLaw) (by decide +kernel))
              (fun _ _ _ _ _ => pg_name (i := 4) nd rfl (.inl rfl)) (fun _ _ _ _ _ => pts_one (pt_not (pt_val (pe_callB call_isi rfl T.isinstance (by decide +kernel) (pa_cons (pv 4) (pa_cons (pe_bltn (v := .ty "tuple") rfl T.tuple (by decide +kernel) rfl) pa_nil)))))) (fun _ _ _ _ _ => pv 4)) (pe_lst pa_nil) (nomark _)))))) (pss_one (ps_ret pe_bl)) pss_nil)
        (pss_one (ps_ret (pe_df DE r1 rfl (pa_cons (pv 1) (pa_cons (pv 2) (pa_cons (pe_ix (r := rIxT K) ix_tup (pv 3) pe_int (fun _ _ => rfl)) pa_nil))))))) pss_nil)
      (C8.pss_cut (ps_if (pt_cmpR op_eq (pe_ix (r := rIxT K) ix_tup (pv 3) pe_int (fun _ _ => rfl)) pe_str (nomark _))
        (pss_one (ps_if (PW.pt (pw_or (pt_cmpR op_ne (pe_callB call_len_seq rfl T.len PySem.boot_len (pa_cons (pv 3) pa_nil)) pe_int (nomark _))
            (pw_or1 (pt_not (pt_val (pe_df DG r2 rfl (pa_cons (pv 1) (pa_cons (pv 2) (pa_cons (pe_ix (r := rIxT K) ix_tup (pv 3) pe_int (fun _ _ => rfl)) pa_nil))))))))) (pss_one (ps_ret pe_bl)) pss_nil))
        (pss_one (ps_if (PW.pt (pw_or (pt_cmpR op_ne (pe_ix (r := rIxT K) ix_tup (pv 3) pe_int (fun _ _ => rfl)) pe_str (nomark _))
            (pw_or (pt_cmpR op_ne (pe_callB call_len_seq rfl T.len PySem.boot_len (pa_cons (pv 3) pa_nil)) pe_int (nomark _))
            (pw_or (pt_not (pt_val (pe_df DA r3 rfl (pa_cons (pv 1) (pa_cons (pv 2) (pa_cons (pe_ix (r := rIxT K) ix_tup (pv 3) pe_int (fun _ _ => rfl)) (pa_cons (pe_ix (r := rIxT K) ix_tup (pv 3) pe_int (fun _ _ => rfl)) pa_nil)))))))
            (pw_or1 (pt_cmpR (op_neD hr.units) (pe_callTy call_list_of rfl T.list (by decide +kernel) (pa_cons (pe_ix (r := rIxT K) ix_tup (pv 3) pe_int (fun _ _ => rfl)) pa_nil)) (pe_callB cr_sortedTI rfl T.sorted (by decide +kernel) (pa_cons (pe_ix (r := rIxT K) ix_tup (pv 3) pe_int (fun _ _ => rfl)) pa_nil)) (nomark _))))))) (pss_one (ps_ret pe_bl)) pss_nil)))
      (pss_cons (ps_if (pt_cmpR op_eq (pe_op op_mod (pe_callTy call_int1 rfl T.int (by decide +kernel) (pa_cons (pe_df DR r1 rfl (pa_cons (pe_df DC r1 rfl (pa_cons (pv 0) (pa_cons pe_int pa_nil))) pa_nil)) pa_nil)) pe_int) pe_int (nomark _)) (pss_one (ps_ret pe_bl)) pss_nil)
      (pss_cons (ps_for PassesOwn.never rfl (pi_range1 rfl T.range (pa_cons pe_int pa_nil)) (pg_name (i := 5) nd rfl (.inl rfl))
        (pss_cons (ps_set (i := 4) nd rfl (.inl rfl) (pe_lst pa_nil))
        (pss_cons (ps_for PassesOwn.never rfl (pi_range1 rfl T.range (pa_cons (pv 1) pa_nil)) (pg_name (i := 6) nd rfl (.inl rfl))
          (pss_cons (ps_set (i := 7) nd rfl (.inl rfl) (pe_df DD r1 rfl (pa_cons (pe_df DR r1 rfl (pa_cons (pe_op op_add (pe_df DC r1 rfl (pa_cons (pv 0) (pa_cons (pe_op op_add pe_int (pv 6)) pa_nil))) (pe_op op_mul (pv 5) (pv 6))) pa_nil)) (pa_cons (pe_lst (pa_cons pe_int (pa_cons pe_int (pa_cons pe_int (pa_cons pe_int pa_nil))))) pa_nil))))
          (pss_one (ps_expr (pe_bm PySem.F.plainAttrs_list PySem.F.slot_list_append PySem.F.type_list_append mt_append (pv 4) (pa_cons (pe_tup (pa_cons (pe_op op_sub (pe_ix (r := rIxL K) ix_list (pv 7) pe_int (fun _ _ => rfl)) (pe_ix (r := rIxL K) ix_list (pv 7) pe_int (fun _ _ => rfl)))
            (pa_cons (pe_callB (call_max2 rfl) rfl T.max (by decide +kernel) (pa_cons (pe_op op_sub (pe_ix (r := rIxL K) ix_list (pv 7) pe_int (fun _ _ => rfl)) (pe_ix (r := rIxL K) ix_list (pv 7) pe_int (fun _ _ => rfl))) (pa_cons (pe_op op_sub (pe_op op_add (pe_ix (r := rIxL K) ix_list (pv 7) pe_int (fun _ _ => rfl)) (pe_ix (r := rIxL K) ix_list (pv 7) pe_int (fun _ _ => rfl))) (pe_ix (r := rIxL K) ix_list (pv 7) pe_int (fun _ _ => rfl))) pa_nil))) pa_nil))) pa_nil))))))
        (pss_one (ps_if (pt_val (pe_df DE r1 rfl (pa_cons (pv 1) (pa_cons (pv 2) (pa_cons (pe_callTy call_tuple_of rfl T.tuple (by decide +kernel) (pa_cons (pv 4) pa_nil)) pa_nil))))) (pss_one (ps_ret pe_bl)) pss_nil)))))
      (pss_one (ps_ret pe_bl))))))))), ?_⟩
    -- n
    obtain ⟨n, n1, n24, hat⟩ := draw_n (ns.getD 0 0) (decide (V.int (ns.getD 0 0 / 9 % 16) = V.int 7))
    refine ⟨_, rfl, a, 0, ns, rfl, ha, .inl ⟨_, rfl, _, _, rfl, rfl, (by show (0 : Int) < 9; decide), _, _, rfl, rfl, (by show 2 ≤ sizeLine; decide), fun z nz => ?_⟩⟩
    have s1 := same_new (o := .lst [.int (1 + ns.getD 0 0 % 9), .int 24]) nz
    refine ⟨_, rfl, a, 0, ns, rfl, s1.seq ha, _, _, rfl, rfl, ⟨by decide, by decide⟩, .inl ⟨_, rfl, _, _, rfl, rfl, (by show (0 : Int) < 16; decide), rfl, .inr ⟨_, rfl, z, _, _, _, rfl, rfl, SqL.of upd_same, hat, ?_⟩⟩⟩
    -- pairs, told
    refine ⟨_, rfl, _, rfl, a, n, ns, rfl, s1.seq ha, n1, n24, fun H2 qa xs ps sm2 hq hp ok mdl => ?_⟩
    refine ⟨_, rfl, _, rfl, n, qa, xs, ps, rfl, hq, hp, ok, fun H3 v sm3 va => ?_⟩
    have s03 := s1.trans (sm2.trans sm3)
    have hq3 := sm3 _ _ hq
    have hp3 := hp.mono sm3
    rcases vis_other ok va with ⟨q3, ah, hx, hs, rfl, h1, h2, h3, h4, ex⟩ | ⟨q3, zz, y, rest, rfl, h1, zne, noM, alt⟩
    · refine ⟨_, rfl, _, _, _, _, true, rfl, .ty "tuple", .base (.tup h1), kit_ty (by decide +kernel), _, rfl, iteF ?_⟩
      refine ⟨_, rfl, q3, _, rfl, .inr (SqT.of h1), _, _, rfl, rfl, _, rfl, iteD (fun c => (by simp only [List.length_cons, List.length_nil] at c; omega)) (fun _ => ?_)⟩
      refine ⟨_, rfl, q3, _, 0, _, rfl, rfl, SqT.of h1, atI_nat (j := 0) rfl, rfl, _, rfl, iteD (fun _ => ?_) (fun c => (c rfl).elim)⟩
      refine ⟨_, rfl, q3, _, rfl, .inr (SqT.of h1), rfl, _, rfl, iteDn (fun c => (c rfl).elim) (fun _ => ?_)⟩
      refine ⟨_, rfl, q3, _, 1, _, rfl, rfl, SqT.of h1, atI_nat (j := 1) rfl, _, _, _, _, true, rfl, .ty "tuple", .base (.tup h2), kit_ty (by decide +kernel), _, rfl, iteF ?_⟩
      refine ⟨_, rfl, q3, _, 1, _, rfl, rfl, SqT.of h1, atI_nat (j := 1) rfl, ah, rfl, ⟨_, SqT.of h2⟩, fun D nD => lc_tup (K := K) (a := ah) (xs := hx) (fun i H4 => H4 D = some (.lst []) ∧ Same H3 H4)
        ⟨upd_same, same_new nD⟩ (fun i H4 _ ⟨_, sm4⟩ => SqT.of (sm4 _ _ h2)) ?_ ?_⟩
      · rintro i v H4 hi ⟨e4, sm4⟩
        obtain ⟨p, t, _, rfl, ht⟩ := h3.get hi
        exact ⟨rfl, _, rfl, _, _, _, _, true, rfl, .ty "tuple", .base (.tup (sm4 _ _ ht)), kit_ty (by decide +kernel), _, rfl, iteF ⟨e4, sm4⟩⟩
      · rintro H4 ⟨e4, sm4⟩
        refine ⟨Nat.zero_le _, fun z0 nz0 => ?_⟩
        have s5 := same_new (o := .lst []) nz0
        have sm5 := sm4.trans s5
        refine ⟨D, z0, _, rfl, rfl, SqL.of (s5 _ _ e4), SqL.of upd_same, _, rfl, ite2 (fun c => Bool.noConfusion c) (fun _ => ?_)⟩
        refine ⟨_, rfl, _, rfl, _, rfl, q3, _, 1, _, rfl, rfl, SqT.of (sm5 _ _ h1), atI_nat (j := 1) rfl, n, qa, ah, xs, hx, ps, hs.map castP, rfl, sm5 _ _ hq3, hp3.mono sm5, sm5 _ _ h2, (h3.hrs).mono sm5, by rw [List.length_map, h4], n24, fun H6 b sm6 hb => ?_⟩
        have : b = true := hb.mpr ex
        subst this
        exact q H6
    · refine ⟨_, rfl, _, _, _, _, true, rfl, .ty "tuple", .base (.tup h1), kit_ty (by decide +kernel), _, rfl, iteF ?_⟩
      refine ⟨_, rfl, q3, _, rfl, .inr (SqT.of h1), _, _, rfl, rfl, _, rfl, iteD (fun c => ?_) (fun _ => ?_)⟩
      · simp only [List.length_cons] at c
        omega
      refine ⟨_, rfl, q3, _, 0, _, rfl, rfl, SqT.of h1, atI_nat (j := 0) rfl, rfl, _, rfl, iteD (fun c => absurd (V.str.inj c) zne) (fun _ => ?_)⟩
      refine ⟨fun σ' H' => σ' = [some (.ref a), some (.int (n : Nat)), some (.ref qa), some (.ref q3), none, none, none, none] ∧ Same H3 H', ?_, ?_⟩
      · rcases alt with ⟨rfl, rfl, r, k1, k2, k3⟩ | ⟨rfl, u, a', b', c', rfl, k1, l1, l2, l3, wa⟩
        · refine ⟨_, rfl, q3, _, 0, _, rfl, rfl, SqT.of h1, atI_nat (j := 0) rfl, rfl, _, rfl, iteD (fun _ => ?_) (fun c => (c rfl).elim)⟩
          refine ⟨_, rfl, q3, _, rfl, .inr (SqT.of h1), rfl, _, rfl, iteDn (fun c => (c rfl).elim) (fun _ => ?_)⟩
          exact ⟨_, rfl, _, rfl, _, rfl, q3, _, 1, _, rfl, rfl, SqT.of h1, atI_nat (j := 1) rfl, n, qa, y, xs, ps, r, rfl, hq3, hp3, ok, k1, k3, k2, fun H4 sm4 => ⟨_, rfl, iteF ⟨rfl, sm4⟩⟩⟩
        · refine ⟨_, rfl, q3, _, 0, _, rfl, rfl, SqT.of h1, atI_nat (j := 0) rfl, rfl, _, rfl, iteD (fun c => absurd (V.str.inj c) (by decide)) (fun _ => ?_)⟩
          refine ⟨_, rfl, q3, _, 0, _, rfl, rfl, SqT.of h1, atI_nat (j := 0) rfl, rfl, _, rfl, iteDn (fun c => (c rfl).elim) (fun _ => ?_)⟩
          refine ⟨_, rfl, q3, _, rfl, .inr (SqT.of h1), rfl, _, rfl, iteDn (fun c => (c rfl).elim) (fun _ => ?_)⟩
          refine ⟨_, rfl, _, rfl, _, rfl, q3, _, 1, _, rfl, rfl, SqT.of h1, atI_nat (j := 1) rfl, _, rfl, q3, _, 2, _, rfl, rfl, SqT.of h1, atI_nat (j := 2) rfl, n, qa, y, u, xs, ps, a', b', c', rfl, hq3, hp3, ok, k1, l1, l2, l3, wa, fun H4 sm4 => ⟨_, rfl, iteF ?_⟩⟩
          have h14 := sm4 _ _ h1
          have k14 := sm4 _ _ k1
          refine ⟨_, rfl, q3, _, 1, _, rfl, rfl, SqT.of h14, atI_nat (j := 1) rfl, y, _, rfl, .inr (SqT.of k14), fun l nl => ?_⟩
          have s5 := same_new (o := .lst (natVs [a', b', c'])) nl
          refine ⟨_, rfl, q3, _, 1, _, rfl, rfl, SqT.of (s5 _ _ h14), atI_nat (j := 1) rfl, y, [a', b', c'].map fun n : Nat => (n : Int), rfl, SqT.of (by rw [← natVs_eq]; exact s5 _ _ k14), fun js z2 pm pw nz2 => ?_⟩
          have s6 := same_new (o := .lst (js.map V.int)) nz2
          have ej : js = [a', b', c'].map fun n : Nat => (n : Int) := by
            refine ((Pq.sorted_eq pm pw).mp ?_).symm
            simp
            omega
          refine ⟨_, _, .lst (SqL.of (by rw [s6 _ _ upd_same, natVs_eq])) (dpAll_ints _), .lst (SqL.of upd_same) (dpAll_ints js), shaped_ints _, shaped_ints _, ?_⟩
          rw [eqv_ints, decide_eq_true ej.symm]
          exact ⟨_, rfl, iteF ⟨rfl, sm4.trans (s5.trans s6)⟩⟩
      · rintro σ' H' ⟨rfl, sm4⟩
        have s04 := s03.trans sm4
        refine ⟨_, rfl, a, 1, ns, rfl, s04.seq ha, _, rfl, .inl ⟨_, rfl, _, _, rfl, rfl, (by show (0 : Int) < 4; decide), rfl, _, rfl, iteD (fun c => (noM (mdl (V.int.inj c))).elim) (fun _ => ?_)⟩⟩
        refine ⟨_, rfl, by decide, by decide, for_range (lo := 0) (n := ((4 : Int)).toNat) (fun k σ H4 => ∃ y4 y5 y6 y7, σ = [some (.ref a), some (.int (n : Nat)), some (.ref qa), some (.ref q3), y4, y5, y6, y7] ∧ Same H3 H4)
          ⟨_, _, _, _, rfl, sm4⟩ ?_ ?_⟩
        · rintro k σ H4 hk ⟨y4, y5, y6, y7, rfl, sm4⟩
          have k4 : k < 4 := hk
          have ek : (0 : Int) + (k : Nat) = (k : Nat) := by omega
          rw [ek]
          refine ⟨Nat.zero_le _, fun L nL => ?_⟩
          have s5 := same_new (o := .lst []) nL
          have hL : ∀ {c u}, H4 c = some u → c ≠ L := fun e => ne_of_none e nL
          refine ⟨_, rfl, _, rfl, by omega, by omega, for_range (lo := 0) (n := ((n : Nat) : Int).toNat) (fun i σ H5 => ∃ y6 y7 zs hs, σ = [some (.ref a), some (.int (n : Nat)), some (.ref qa), some (.ref q3), some (.ref L), some (.int (k : Nat)), y6, y7] ∧ Same H4 H5 ∧ H5 L = some (.lst zs) ∧ HrsAt H5 zs hs ∧ hs.length = i)
            ⟨_, _, [], [], rfl, s5, upd_same, HrsAt.nil _, rfl⟩ ?_ ?_⟩
          · rintro i σ H5 hi ⟨y6, y7, zs, hs, rfl, sm5, eL, hz, lh⟩
            have ei : (0 : Int) + (i : Nat) = (i : Nat) := by omega
            rw [ei]
            have s05 := s03.trans (sm4.trans sm5)
            refine ⟨_, rfl, _, rfl, _, _, rfl, rfl, a, 2 + i, ns, by rw [Int.natCast_add]; rfl, s05.seq ha, _, rfl, _, rfl, _, _, rfl, rfl, .inl ⟨by omega, by omega⟩, _, _, rfl, rfl, _, rfl, (by show 4 ≤ sizeLine; decide), fun z nz => ?_⟩
            have s6 := same_new (o := .lst [.int 12, .int 6, .int 3, .int 3]) nz
            refine ⟨_, z, [12, 6, 3, 3], rfl, upd_same, by decide, by decide, fun H7 q7 ds sm7 e7 l7 d7 => ?_⟩
            have sm57 := s6.trans sm7
            match ds, l7 with
            | [d0, d1, d2, d3], _ =>
              have eL7 := sm57 _ _ eL
              refine ⟨_, rfl, .inl ⟨rfl, _, SqL.of eL7⟩, _, rfl, q7, _, 0, _, rfl, rfl, SqL.of e7, atI_nat (j := 0) rfl, _, rfl, q7, _, 2, _, rfl, rfl, SqL.of e7, atI_nat (j := 2) rfl, _, _, rfl, rfl,
                _, rfl, q7, _, 0, _, rfl, rfl, SqL.of e7, atI_nat (j := 0) rfl, _, rfl, q7, _, 2, _, rfl, rfl, SqL.of e7, atI_nat (j := 2) rfl, _, _, rfl, rfl,
                _, rfl, q7, _, 0, _, rfl, rfl, SqL.of e7, atI_nat (j := 0) rfl, _, rfl, q7, _, 1, _, rfl, rfl, SqL.of e7, atI_nat (j := 1) rfl, _, _, rfl, rfl, _, rfl, q7, _, 3, _, rfl, rfl, SqL.of e7, atI_nat (j := 3) rfl, _, _, rfl, rfl, _, _, rfl, (by show 2 ≤ sizeLine; decide), fun t nt => ?_⟩
              have s8 := same_new (o := .tup [.int (d0 - d2), .int (if d0 + d1 - d3 > d0 - d2 then d0 + d1 - d3 else d0 - d2)]) nt
              have tL : t ≠ L := fun e => by rw [e, eL7] at nt; cases nt
              have hz7 := (hz.mono sm57).mono s8
              refine ⟨L, _, _, rfl, rfl, s8 _ _ eL7, small1000 (by rw [hz.1]; omega), ?_⟩
              have keep : ∀ {c : Addr} {u : HO} {ws : List V}, (upd H7 t (.tup [.int (d0 - d2), .int (if d0 + d1 - d3 > d0 - d2 then d0 + d1 - d3 else d0 - d2)])) c = some u → c ≠ L → (upd (upd H7 t (.tup [.int (d0 - d2), .int (if d0 + d1 - d3 > d0 - d2 then d0 + d1 - d3 else d0 - d2)])) L (.lst ws)) c = some u := fun e ne => by rw [upd_ne ne]; exact e
              have hz8 : HrsAt (upd (upd H7 t (.tup [.int (d0 - d2), .int (if d0 + d1 - d3 > d0 - d2 then d0 + d1 - d3 else d0 - d2)])) L (.lst (zs ++ [.ref t]))) zs hs := ⟨hz7.1, fun i p e => by
                obtain ⟨t', k1, k2⟩ := hz7.2 i p e
                exact ⟨t', k1, keep k2 (fun e' => by rw [e', s8 _ _ eL7] at k2; cases k2)⟩⟩
              exact ⟨_, _, _, hs ++ [(d0 - d2, if d0 + d1 - d3 > d0 - d2 then d0 + d1 - d3 else d0 - d2)], rfl, fun c u e => keep (s8 _ _ (sm57 _ _ (sm5 _ _ e))) (hL e), upd_same, hz8.snoc (keep upd_same tL), by simp [lh]⟩
          · rintro σ H5 ⟨y6, y7, zs, hs, rfl, sm5, eL, hz, lh⟩
            rw [Int.toNat_natCast] at lh
            refine ⟨_, rfl, _, rfl, _, rfl, L, zs, rfl, .inl ⟨SqL.of eL, fun t nt => ?_⟩⟩
            have s6 := same_new (o := .tup zs) nt
            have s36 := sm4.trans (sm5.trans s6)
            refine ⟨n, qa, t, xs, zs, ps, hs, rfl, s36 _ _ hq3, hp3.mono s36, upd_same, hz.mono s6, lh, n24, fun H7 b sm7 hb => ⟨_, rfl, ?_⟩⟩
            cases b with
            | true => exact (noM (expl_mdl ok lh (hb.mp rfl))).elim
            | false => exact iteF ⟨_, _, _, _, rfl, s36.trans sm7⟩
        · rintro σ H4 ⟨y4, y5, y6, y7, rfl, sm4⟩
          exact q H4
end
end Up
end
section
set_option Elab.async false
set_option linter.all false
set_option maxRecDepth 100000
set_option maxHeartbeats 400000
namespace Up
open PySem PySem.Spec PyProof.Rows L2
/-! ### what the top has written -/
section
variable {K : PySem.W.Frag} {h : Heap} {mg : Str → Option Value}
theorem at_is_size (X : K.In h) (G : h.Ns mainGlobals mg) {f : Addr} {od an : Option Addr} {sl : Array (Option Value)} {oc kV dc pm cd ct : Value} (a : PySem.W.nsIn K mainGlobals "is_size" = some (some (.ref f)))
    (l : K.lookup f = some ⟨oc, od, .func (PySem.W.fnOf "is_size" "is_size" (defArgs sIsSize) (defBody sIsSize) (defScope sIsSize) .none kV dc pm an cd ct), sl⟩) (c : PySem.W.codeIn K cd "is_size" = true) (k : PySem.W.keepIn K (.ref f) = true) : Here K mg "is_size" sIsSize ["n"] :=
  ⟨f, _, PySem.W.mg_of X G a, fun_mk (st := sIsSize) l c k, (fun_mk (st := sIsSize) l c k).binds fun _ _ _ _ _ _ us hl => match us, hl with | [_], _ => rfl⟩
theorem at_check_things (X : K.In h) (G : h.Ns mainGlobals mg) {f : Addr} {od an : Option Addr} {sl : Array (Option Value)} {oc kV dc pm cd ct : Value} (a : PySem.W.nsIn K mainGlobals "check_things" = some (some (.ref f)))
    (l : K.lookup f = some ⟨oc, od, .func (PySem.W.fnOf "check_things" "check_things" (defArgs sCheckThings) (defBody sCheckThings) (defScope sCheckThings) .none kV dc pm an cd ct), sl⟩) (c : PySem.W.codeIn K cd "check_things" = true) (k : PySem.W.keepIn K (.ref f) = true) : Here K mg "check_things" sCheckThings ["n"] :=
  ⟨f, _, PySem.W.mg_of X G a, fun_mk (st := sCheckThings) l c k, (fun_mk (st := sCheckThings) l c k).binds fun _ _ _ _ _ _ us hl => match us, hl with | [_], _ => rfl⟩
theorem at_check_meetings (X : K.In h) (G : h.Ns mainGlobals mg) {f : Addr} {od an : Option Addr} {sl : Array (Option Value)} {oc kV dc pm cd ct : Value} (a : PySem.W.nsIn K mainGlobals "check_meetings" = some (some (.ref f)))
    (l : K.lookup f = some ⟨oc, od, .func (PySem.W.fnOf "check_meetings" "check_meetings" (defArgs sCheckM) (defBody sCheckM) (defScope sCheckM) .none kV dc pm an cd ct), sl⟩) (c : PySem.W.codeIn K cd "check_meetings" = true) (k : PySem.W.keepIn K (.ref f) = true) : Here K mg "check_meetings" sCheckM ["n", "pairs"] :=
  ⟨f, _, PySem.W.mg_of X G a, fun_mk (st := sCheckM) l c k, (fun_mk (st := sCheckM) l c k).binds fun _ _ _ _ _ _ us hl => match us, hl with | [_, _], _ => rfl⟩
theorem at_neighbors_of (X : K.In h) (G : h.Ns mainGlobals mg) {f : Addr} {od an : Option Addr} {sl : Array (Option Value)} {oc kV dc pm cd ct : Value} (a : PySem.W.nsIn K mainGlobals "neighbors_of" = some (some (.ref f)))
    (l : K.lookup f = some ⟨oc, od, .func (PySem.W.fnOf "neighbors_of" "neighbors_of" (defArgs sNeigh) (defBody sNeigh) (defScope sNeigh) .none kV dc pm an cd ct), sl⟩) (c : PySem.W.codeIn K cd "neighbors_of" = true) (k : PySem.W.keepIn K (.ref f) = true) : Here K mg "neighbors_of" sNeigh ["n", "pairs"] :=
  ⟨f, _, PySem.W.mg_of X G a, fun_mk (st := sNeigh) l c k, (fun_mk (st := sNeigh) l c k).binds fun _ _ _ _ _ _ us hl => match us, hl with | [_, _], _ => rfl⟩
theorem at_shortest_way (X : K.In h) (G : h.Ns mainGlobals mg) {f : Addr} {od an : Option Addr} {sl : Array (Option Value)} {oc kV dc pm cd ct : Value} (a : PySem.W.nsIn K mainGlobals "shortest_way" = some (some (.ref f)))
    (l : K.lookup f = some ⟨oc, od, .func (PySem.W.fnOf "shortest_way" "shortest_way" (defArgs sWay) (defBody sWay) (defScope sWay) .none kV dc pm an cd ct), sl⟩) (c : PySem.W.codeIn K cd "shortest_way" = true) (k : PySem.W.keepIn K (.ref f) = true) : Here K mg "shortest_way" sWay ["neighbors", "start", "goal", "barred"] :=
  ⟨f, _, PySem.W.mg_of X G a, fun_mk (st := sWay) l c k, (fun_mk (st := sWay) l c k).binds fun _ _ _ _ _ _ us hl => match us, hl with | [_, _, _, _], _ => rfl⟩
theorem at_is_thing (X : K.In h) (G : h.Ns mainGlobals mg) {f : Addr} {od an : Option Addr} {sl : Array (Option Value)} {oc kV dc pm cd ct : Value} (a : PySem.W.nsIn K mainGlobals "is_thing" = some (some (.ref f)))
    (l : K.lookup f = some ⟨oc, od, .func (PySem.W.fnOf "is_thing" "is_thing" (defArgs sIsThing) (defBody sIsThing) (defScope sIsThing) .none kV dc pm an cd ct), sl⟩) (c : PySem.W.codeIn K cd "is_thing" = true) (k : PySem.W.keepIn K (.ref f) = true) : Here K mg "is_thing" sIsThing ["tree"] :=
  ⟨f, _, PySem.W.mg_of X G a, fun_mk (st := sIsThing) l c k, (fun_mk (st := sIsThing) l c k).binds fun _ _ _ _ _ _ us hl => match us, hl with | [_], _ => rfl⟩
theorem at_listed (X : K.In h) (G : h.Ns mainGlobals mg) {f : Addr} {od an : Option Addr} {sl : Array (Option Value)} {oc kV dc pm cd ct : Value} (a : PySem.W.nsIn K mainGlobals "listed" = some (some (.ref f)))
    (l : K.lookup f = some ⟨oc, od, .func (PySem.W.fnOf "listed" "listed" (defArgs sListed) (defBody sListed) (defScope sListed) .none kV dc pm an cd ct), sl⟩) (c : PySem.W.codeIn K cd "listed" = true) (k : PySem.W.keepIn K (.ref f) = true) : Here K mg "listed" sListed ["tree"] :=
  ⟨f, _, PySem.W.mg_of X G a, fun_mk (st := sListed) l c k, (fun_mk (st := sListed) l c k).binds fun _ _ _ _ _ _ us hl => match us, hl with | [_], _ => rfl⟩
theorem at_least_thing (X : K.In h) (G : h.Ns mainGlobals mg) {f : Addr} {od an : Option Addr} {sl : Array (Option Value)} {oc kV dc pm cd ct : Value} (a : PySem.W.nsIn K mainGlobals "least_thing" = some (some (.ref f)))
    (l : K.lookup f = some ⟨oc, od, .func (PySem.W.fnOf "least_thing" "least_thing" (defArgs sLeast) (defBody sLeast) (defScope sLeast) .none kV dc pm an cd ct), sl⟩) (c : PySem.W.codeIn K cd "least_thing" = true) (k : PySem.W.keepIn K (.ref f) = true) : Here K mg "least_thing" sLeast ["tree"] :=
  ⟨f, _, PySem.W.mg_of X G a, fun_mk (st := sLeast) l c k, (fun_mk (st := sLeast) l c k).binds fun _ _ _ _ _ _ us hl => match us, hl with | [_], _ => rfl⟩
theorem at_make_any (X : K.In h) (G : h.Ns mainGlobals mg) {f : Addr} {od an : Option Addr} {sl : Array (Option Value)} {oc kV dc pm cd ct : Value} (a : PySem.W.nsIn K mainGlobals "make_any" = some (some (.ref f)))
    (l : K.lookup f = some ⟨oc, od, .func (PySem.W.fnOf "make_any" "make_any" (defArgs sMakeAny) (defBody sMakeAny) (defScope sMakeAny) .none kV dc pm an cd ct), sl⟩) (c : PySem.W.codeIn K cd "make_any" = true) (k : PySem.W.keepIn K (.ref f) = true) : Here K mg "make_any" sMakeAny ["parts"] :=
  ⟨f, _, PySem.W.mg_of X G a, fun_mk (st := sMakeAny) l c k, (fun_mk (st := sMakeAny) l c k).binds fun _ _ _ _ _ _ us hl => match us, hl with | [_], _ => rfl⟩
theorem at_make_row (X : K.In h) (G : h.Ns mainGlobals mg) {f : Addr} {od an : Option Addr} {sl : Array (Option Value)} {oc kV dc pm cd ct : Value} (a : PySem.W.nsIn K mainGlobals "make_row" = some (some (.ref f)))
    (l : K.lookup f = some ⟨oc, od, .func (PySem.W.fnOf "make_row" "make_row" (defArgs sMakeRow) (defBody sMakeRow) (defScope sMakeRow) .none kV dc pm an cd ct), sl⟩) (c : PySem.W.codeIn K cd "make_row" = true) (k : PySem.W.keepIn K (.ref f) = true) : Here K mg "make_row" sMakeRow ["parts"] :=
  ⟨f, _, PySem.W.mg_of X G a, fun_mk (st := sMakeRow) l c k, (fun_mk (st := sMakeRow) l c k).binds fun _ _ _ _ _ _ us hl => match us, hl with | [_], _ => rfl⟩
theorem at_normalized (X : K.In h) (G : h.Ns mainGlobals mg) {f : Addr} {od an : Option Addr} {sl : Array (Option Value)} {oc kV dc pm cd ct : Value} (a : PySem.W.nsIn K mainGlobals "normalized" = some (some (.ref f)))
    (l : K.lookup f = some ⟨oc, od, .func (PySem.W.fnOf "normalized" "normalized" (defArgs sNormalized) (defBody sNormalized) (defScope sNormalized) .none kV dc pm an cd ct), sl⟩) (c : PySem.W.codeIn K cd "normalized" = true) (k : PySem.W.keepIn K (.ref f) = true) : Here K mg "normalized" sNormalized ["tree"] :=
  ⟨f, _, PySem.W.mg_of X G a, fun_mk (st := sNormalized) l c k, (fun_mk (st := sNormalized) l c k).binds fun _ _ _ _ _ _ us hl => match us, hl with | [_], _ => rfl⟩
theorem at_plain_tree (X : K.In h) (G : h.Ns mainGlobals mg) {f : Addr} {od an : Option Addr} {sl : Array (Option Value)} {oc kV dc pm cd ct : Value} (a : PySem.W.nsIn K mainGlobals "plain_tree" = some (some (.ref f)))
    (l : K.lookup f = some ⟨oc, od, .func (PySem.W.fnOf "plain_tree" "plain_tree" (defArgs sPlain) (defBody sPlain) (defScope sPlain) .none kV dc pm an cd ct), sl⟩) (c : PySem.W.codeIn K cd "plain_tree" = true) (k : PySem.W.keepIn K (.ref f) = true) : Here K mg "plain_tree" sPlain ["n"] :=
  ⟨f, _, PySem.W.mg_of X G a, fun_mk (st := sPlain) l c k, (fun_mk (st := sPlain) l c k).binds fun _ _ _ _ _ _ us hl => match us, hl with | [_], _ => rfl⟩
theorem at_share (X : K.In h) (G : h.Ns mainGlobals mg) {f : Addr} {od an : Option Addr} {sl : Array (Option Value)} {oc kV dc pm cd ct : Value} (a : PySem.W.nsIn K mainGlobals "share" = some (some (.ref f)))
    (l : K.lookup f = some ⟨oc, od, .func (PySem.W.fnOf "share" "share" (defArgs sShare) (defBody sShare) (defScope sShare) .none kV dc pm an cd ct), sl⟩) (c : PySem.W.codeIn K cd "share" = true) (k : PySem.W.keepIn K (.ref f) = true) : Here K mg "share" sShare ["tree", "chosen"] :=
  ⟨f, _, PySem.W.mg_of X G a, fun_mk (st := sShare) l c k, (fun_mk (st := sShare) l c k).binds fun _ _ _ _ _ _ us hl => match us, hl with | [_, _], _ => rfl⟩
theorem at_with_share (X : K.In h) (G : h.Ns mainGlobals mg) {f : Addr} {od an : Option Addr} {sl : Array (Option Value)} {oc kV dc pm cd ct : Value} (a : PySem.W.nsIn K mainGlobals "with_share" = some (some (.ref f)))
    (l : K.lookup f = some ⟨oc, od, .func (PySem.W.fnOf "with_share" "with_share" (defArgs sWithShare) (defBody sWithShare) (defScope sWithShare) .none kV dc pm an cd ct), sl⟩) (c : PySem.W.codeIn K cd "with_share" = true) (k : PySem.W.keepIn K (.ref f) = true) : Here K mg "with_share" sWithShare ["parts", "chosen", "wanted"] :=
  ⟨f, _, PySem.W.mg_of X G a, fun_mk (st := sWithShare) l c k, (fun_mk (st := sWithShare) l c k).binds fun _ _ _ _ _ _ us hl => match us, hl with | [_, _, _], _ => rfl⟩
theorem at_split_any (X : K.In h) (G : h.Ns mainGlobals mg) {f : Addr} {od an : Option Addr} {sl : Array (Option Value)} {oc kV dc pm cd ct : Value} (a : PySem.W.nsIn K mainGlobals "split_any" = some (some (.ref f)))
    (l : K.lookup f = some ⟨oc, od, .func (PySem.W.fnOf "split_any" "split_any" (defArgs sSplitAny) (defBody sSplitAny) (defScope sSplitAny) .none kV dc pm an cd ct), sl⟩) (c : PySem.W.codeIn K cd "split_any" = true) (k : PySem.W.keepIn K (.ref f) = true) : Here K mg "split_any" sSplitAny ["parts", "chosen"] :=
  ⟨f, _, PySem.W.mg_of X G a, fun_mk (st := sSplitAny) l c k, (fun_mk (st := sSplitAny) l c k).binds fun _ _ _ _ _ _ us hl => match us, hl with | [_, _], _ => rfl⟩
theorem at_ascends (X : K.In h) (G : h.Ns mainGlobals mg) {f : Addr} {od an : Option Addr} {sl : Array (Option Value)} {oc kV dc pm cd ct : Value} (a : PySem.W.nsIn K mainGlobals "ascends" = some (some (.ref f)))
    (l : K.lookup f = some ⟨oc, od, .func (PySem.W.fnOf "ascends" "ascends" (defArgs sAscends) (defBody sAscends) (defScope sAscends) .none kV dc pm an cd ct), sl⟩) (c : PySem.W.codeIn K cd "ascends" = true) (k : PySem.W.keepIn K (.ref f) = true) : Here K mg "ascends" sAscends ["shares"] :=
  ⟨f, _, PySem.W.mg_of X G a, fun_mk (st := sAscends) l c k, (fun_mk (st := sAscends) l c k).binds fun _ _ _ _ _ _ us hl => match us, hl with | [_], _ => rfl⟩
theorem at_split_row (X : K.In h) (G : h.Ns mainGlobals mg) {f : Addr} {od an : Option Addr} {sl : Array (Option Value)} {oc kV dc pm cd ct : Value} (a : PySem.W.nsIn K mainGlobals "split_row" = some (some (.ref f)))
    (l : K.lookup f = some ⟨oc, od, .func (PySem.W.fnOf "split_row" "split_row" (defArgs sSplitRow) (defBody sSplitRow) (defScope sSplitRow) .none kV dc pm an cd ct), sl⟩) (c : PySem.W.codeIn K cd "split_row" = true) (k : PySem.W.keepIn K (.ref f) = true) : Here K mg "split_row" sSplitRow ["parts", "chosen"] :=
  ⟨f, _, PySem.W.mg_of X G a, fun_mk (st := sSplitRow) l c k, (fun_mk (st := sSplitRow) l c k).binds fun _ _ _ _ _ _ us hl => match us, hl with | [_, _], _ => rfl⟩
theorem at_split (X : K.In h) (G : h.Ns mainGlobals mg) {f : Addr} {od an : Option Addr} {sl : Array (Option Value)} {oc kV dc pm cd ct : Value} (a : PySem.W.nsIn K mainGlobals "split" = some (some (.ref f)))
    (l : K.lookup f = some ⟨oc, od, .func (PySem.W.fnOf "split" "split" (defArgs sSplit) (defBody sSplit) (defScope sSplit) .none kV dc pm an cd ct), sl⟩) (c : PySem.W.codeIn K cd "split" = true) (k : PySem.W.keepIn K (.ref f) = true) : Here K mg "split" sSplit ["tree", "chosen"] :=
  ⟨f, _, PySem.W.mg_of X G a, fun_mk (st := sSplit) l c k, (fun_mk (st := sSplit) l c k).binds fun _ _ _ _ _ _ us hl => match us, hl with | [_, _], _ => rfl⟩
theorem at_joined_any (X : K.In h) (G : h.Ns mainGlobals mg) {f : Addr} {od an : Option Addr} {sl : Array (Option Value)} {oc kV dc pm cd ct : Value} (a : PySem.W.nsIn K mainGlobals "joined_any" = some (some (.ref f)))
    (l : K.lookup f = some ⟨oc, od, .func (PySem.W.fnOf "joined_any" "joined_any" (defArgs sJoinAny) (defBody sJoinAny) (defScope sJoinAny) .none kV dc pm an cd ct), sl⟩) (c : PySem.W.codeIn K cd "joined_any" = true) (k : PySem.W.keepIn K (.ref f) = true) : Here K mg "joined_any" sJoinAny ["parts", "chosen"] :=
  ⟨f, _, PySem.W.mg_of X G a, fun_mk (st := sJoinAny) l c k, (fun_mk (st := sJoinAny) l c k).binds fun _ _ _ _ _ _ us hl => match us, hl with | [_, _], _ => rfl⟩
theorem at_joined_row (X : K.In h) (G : h.Ns mainGlobals mg) {f : Addr} {od an : Option Addr} {sl : Array (Option Value)} {oc kV dc pm cd ct : Value} (a : PySem.W.nsIn K mainGlobals "joined_row" = some (some (.ref f)))
    (l : K.lookup f = some ⟨oc, od, .func (PySem.W.fnOf "joined_row" "joined_row" (defArgs sJoinRow) (defBody sJoinRow) (defScope sJoinRow) .none kV dc pm an cd ct), sl⟩) (c : PySem.W.codeIn K cd "joined_row" = true) (k : PySem.W.keepIn K (.ref f) = true) : Here K mg "joined_row" sJoinRow ["parts", "chosen"] :=
  ⟨f, _, PySem.W.mg_of X G a, fun_mk (st := sJoinRow) l c k, (fun_mk (st := sJoinRow) l c k).binds fun _ _ _ _ _ _ us hl => match us, hl with | [_, _], _ => rfl⟩
theorem at_joined (X : K.In h) (G : h.Ns mainGlobals mg) {f : Addr} {od an : Option Addr} {sl : Array (Option Value)} {oc kV dc pm cd ct : Value} (a : PySem.W.nsIn K mainGlobals "joined" = some (some (.ref f)))
    (l : K.lookup f = some ⟨oc, od, .func (PySem.W.fnOf "joined" "joined" (defArgs sJoined) (defBody sJoined) (defScope sJoined) .none kV dc pm an cd ct), sl⟩) (c : PySem.W.codeIn K cd "joined" = true) (k : PySem.W.keepIn K (.ref f) = true) : Here K mg "joined" sJoined ["tree", "chosen"] :=
  ⟨f, _, PySem.W.mg_of X G a, fun_mk (st := sJoined) l c k, (fun_mk (st := sJoined) l c k).binds fun _ _ _ _ _ _ us hl => match us, hl with | [_, _], _ => rfl⟩
theorem at_reduced_by (X : K.In h) (G : h.Ns mainGlobals mg) {f : Addr} {od an : Option Addr} {sl : Array (Option Value)} {oc kV dc pm cd ct : Value} (a : PySem.W.nsIn K mainGlobals "reduced_by" = some (some (.ref f)))
    (l : K.lookup f = some ⟨oc, od, .func (PySem.W.fnOf "reduced_by" "reduced_by" (defArgs sRedBy) (defBody sRedBy) (defScope sRedBy) .none kV dc pm an cd ct), sl⟩) (c : PySem.W.codeIn K cd "reduced_by" = true) (k : PySem.W.keepIn K (.ref f) = true) : Here K mg "reduced_by" sRedBy ["tree", "chosen"] :=
  ⟨f, _, PySem.W.mg_of X G a, fun_mk (st := sRedBy) l c k, (fun_mk (st := sRedBy) l c k).binds fun _ _ _ _ _ _ us hl => match us, hl with | [_, _], _ => rfl⟩
theorem at_reduced_by_all (X : K.In h) (G : h.Ns mainGlobals mg) {f : Addr} {od an : Option Addr} {sl : Array (Option Value)} {oc kV dc pm cd ct : Value} (a : PySem.W.nsIn K mainGlobals "reduced_by_all" = some (some (.ref f)))
    (l : K.lookup f = some ⟨oc, od, .func (PySem.W.fnOf "reduced_by_all" "reduced_by_all" (defArgs sRedAll) (defBody sRedAll) (defScope sRedAll) .none kV dc pm an cd ct), sl⟩) (c : PySem.W.codeIn K cd "reduced_by_all" = true) (k : PySem.W.keepIn K (.ref f) = true) : Here K mg "reduced_by_all" sRedAll ["tree", "sets"] :=
  ⟨f, _, PySem.W.mg_of X G a, fun_mk (st := sRedAll) l c k, (fun_mk (st := sRedAll) l c k).binds fun _ _ _ _ _ _ us hl => match us, hl with | [_, _], _ => rfl⟩
theorem at_is_group (X : K.In h) (G : h.Ns mainGlobals mg) {f : Addr} {od an : Option Addr} {sl : Array (Option Value)} {oc kV dc pm cd ct : Value} (a : PySem.W.nsIn K mainGlobals "is_group" = some (some (.ref f)))
    (l : K.lookup f = some ⟨oc, od, .func (PySem.W.fnOf "is_group" "is_group" (defArgs sIsGroup) (defBody sIsGroup) (defScope sIsGroup) .none kV dc pm an cd ct), sl⟩) (c : PySem.W.codeIn K cd "is_group" = true) (k : PySem.W.keepIn K (.ref f) = true) : Here K mg "is_group" sIsGroup ["neighbors", "persons"] :=
  ⟨f, _, PySem.W.mg_of X G a, fun_mk (st := sIsGroup) l c k, (fun_mk (st := sIsGroup) l c k).binds fun _ _ _ _ _ _ us hl => match us, hl with | [_, _], _ => rfl⟩
theorem at_group_of (X : K.In h) (G : h.Ns mainGlobals mg) {f : Addr} {od an : Option Addr} {sl : Array (Option Value)} {oc kV dc pm cd ct : Value} (a : PySem.W.nsIn K mainGlobals "group_of" = some (some (.ref f)))
    (l : K.lookup f = some ⟨oc, od, .func (PySem.W.fnOf "group_of" "group_of" (defArgs sGroupOf) (defBody sGroupOf) (defScope sGroupOf) .none kV dc pm an cd ct), sl⟩) (c : PySem.W.codeIn K cd "group_of" = true) (k : PySem.W.keepIn K (.ref f) = true) : Here K mg "group_of" sGroupOf ["neighbors", "left", "person"] :=
  ⟨f, _, PySem.W.mg_of X G a, fun_mk (st := sGroupOf) l c k, (fun_mk (st := sGroupOf) l c k).binds fun _ _ _ _ _ _ us hl => match us, hl with | [_, _, _], _ => rfl⟩
theorem at_next_person (X : K.In h) (G : h.Ns mainGlobals mg) {f : Addr} {od an : Option Addr} {sl : Array (Option Value)} {oc kV dc pm cd ct : Value} (a : PySem.W.nsIn K mainGlobals "next_person" = some (some (.ref f)))
    (l : K.lookup f = some ⟨oc, od, .func (PySem.W.fnOf "next_person" "next_person" (defArgs sNext) (defBody sNext) (defScope sNext) .none kV dc pm an cd ct), sl⟩) (c : PySem.W.codeIn K cd "next_person" = true) (k : PySem.W.keepIn K (.ref f) = true) : Here K mg "next_person" sNext ["neighbors", "left"] :=
  ⟨f, _, PySem.W.mg_of X G a, fun_mk (st := sNext) l c k, (fun_mk (st := sNext) l c k).binds fun _ _ _ _ _ _ us hl => match us, hl with | [_, _], _ => rfl⟩
theorem at_greatest_groups (X : K.In h) (G : h.Ns mainGlobals mg) {f : Addr} {od an : Option Addr} {sl : Array (Option Value)} {oc kV dc pm cd ct : Value} (a : PySem.W.nsIn K mainGlobals "greatest_groups" = some (some (.ref f)))
    (l : K.lookup f = some ⟨oc, od, .func (PySem.W.fnOf "greatest_groups" "greatest_groups" (defArgs sGreat) (defBody sGreat) (defScope sGreat) .none kV dc pm an cd ct), sl⟩) (c : PySem.W.codeIn K cd "greatest_groups" = true) (k : PySem.W.keepIn K (.ref f) = true) : Here K mg "greatest_groups" sGreat ["neighbors"] :=
  ⟨f, _, PySem.W.mg_of X G a, fun_mk (st := sGreat) l c k, (fun_mk (st := sGreat) l c k).binds fun _ _ _ _ _ _ us hl => match us, hl with | [_], _ => rfl⟩
theorem at_ring_through (X : K.In h) (G : h.Ns mainGlobals mg) {f : Addr} {od an : Option Addr} {sl : Array (Option Value)} {oc kV dc pm cd ct : Value} (a : PySem.W.nsIn K mainGlobals "ring_through" = some (some (.ref f)))
    (l : K.lookup f = some ⟨oc, od, .func (PySem.W.fnOf "ring_through" "ring_through" (defArgs sRing) (defBody sRing) (defScope sRing) .none kV dc pm an cd ct), sl⟩) (c : PySem.W.codeIn K cd "ring_through" = true) (k : PySem.W.keepIn K (.ref f) = true) : Here K mg "ring_through" sRing ["neighbors", "person", "one", "other"] :=
  ⟨f, _, PySem.W.mg_of X G a, fun_mk (st := sRing) l c k, (fun_mk (st := sRing) l c k).binds fun _ _ _ _ _ _ us hl => match us, hl with | [_, _, _, _], _ => rfl⟩
theorem at_find_ring (X : K.In h) (G : h.Ns mainGlobals mg) {f : Addr} {od an : Option Addr} {sl : Array (Option Value)} {oc kV dc pm cd ct : Value} (a : PySem.W.nsIn K mainGlobals "find_ring" = some (some (.ref f)))
    (l : K.lookup f = some ⟨oc, od, .func (PySem.W.fnOf "find_ring" "find_ring" (defArgs sFindRing) (defBody sFindRing) (defScope sFindRing) .none kV dc pm an cd ct), sl⟩) (c : PySem.W.codeIn K cd "find_ring" = true) (k : PySem.W.keepIn K (.ref f) = true) : Here K mg "find_ring" sFindRing ["neighbors"] :=
  ⟨f, _, PySem.W.mg_of X G a, fun_mk (st := sFindRing) l c k, (fun_mk (st := sFindRing) l c k).binds fun _ _ _ _ _ _ us hl => match us, hl with | [_], _ => rfl⟩
theorem at_ways_of (X : K.In h) (G : h.Ns mainGlobals mg) {f : Addr} {od an : Option Addr} {sl : Array (Option Value)} {oc kV dc pm cd ct : Value} (a : PySem.W.nsIn K mainGlobals "ways_of" = some (some (.ref f)))
    (l : K.lookup f = some ⟨oc, od, .func (PySem.W.fnOf "ways_of" "ways_of" (defArgs sWays) (defBody sWays) (defScope sWays) .none kV dc pm an cd ct), sl⟩) (c : PySem.W.codeIn K cd "ways_of" = true) (k : PySem.W.keepIn K (.ref f) = true) : Here K mg "ways_of" sWays ["neighbors", "a", "b", "c"] :=
  ⟨f, _, PySem.W.mg_of X G a, fun_mk (st := sWays) l c k, (fun_mk (st := sWays) l c k).binds fun _ _ _ _ _ _ us hl => match us, hl with | [_, _, _, _], _ => rfl⟩
theorem at_find_three (X : K.In h) (G : h.Ns mainGlobals mg) {f : Addr} {od an : Option Addr} {sl : Array (Option Value)} {oc kV dc pm cd ct : Value} (a : PySem.W.nsIn K mainGlobals "find_three" = some (some (.ref f)))
    (l : K.lookup f = some ⟨oc, od, .func (PySem.W.fnOf "find_three" "find_three" (defArgs sThree) (defBody sThree) (defScope sThree) .none kV dc pm an cd ct), sl⟩) (c : PySem.W.codeIn K cd "find_three" = true) (k : PySem.W.keepIn K (.ref f) = true) : Here K mg "find_three" sThree ["neighbors"] :=
  ⟨f, _, PySem.W.mg_of X G a, fun_mk (st := sThree) l c k, (fun_mk (st := sThree) l c k).binds fun _ _ _ _ _ _ us hl => match us, hl with | [_], _ => rfl⟩
theorem at_hours_of (X : K.In h) (G : h.Ns mainGlobals mg) {f : Addr} {od an : Option Addr} {sl : Array (Option Value)} {oc kV dc pm cd ct : Value} (a : PySem.W.nsIn K mainGlobals "hours_of" = some (some (.ref f)))
    (l : K.lookup f = some ⟨oc, od, .func (PySem.W.fnOf "hours_of" "hours_of" (defArgs sHours) (defBody sHours) (defScope sHours) .none kV dc pm an cd ct), sl⟩) (c : PySem.W.codeIn K cd "hours_of" = true) (k : PySem.W.keepIn K (.ref f) = true) : Here K mg "hours_of" sHours ["n", "groups", "order"] :=
  ⟨f, _, PySem.W.mg_of X G a, fun_mk (st := sHours) l c k, (fun_mk (st := sHours) l c k).binds fun _ _ _ _ _ _ us hl => match us, hl with | [_, _, _], _ => rfl⟩
theorem at_visits (X : K.In h) (G : h.Ns mainGlobals mg) {f : Addr} {od an : Option Addr} {sl : Array (Option Value)} {oc kV dc pm cd ct : Value} (a : PySem.W.nsIn K mainGlobals "visits" = some (some (.ref f)))
    (l : K.lookup f = some ⟨oc, od, .func (PySem.W.fnOf "visits" "visits" (defArgs sVisits) (defBody sVisits) (defScope sVisits) .none kV dc pm an cd ct), sl⟩) (c : PySem.W.codeIn K cd "visits" = true) (k : PySem.W.keepIn K (.ref f) = true) : Here K mg "visits" sVisits ["n", "pairs"] :=
  ⟨f, _, PySem.W.mg_of X G a, fun_mk (st := sVisits) l c k, (fun_mk (st := sVisits) l c k).binds fun _ _ _ _ _ _ us hl => match us, hl with | [_, _], _ => rfl⟩
theorem at__law_cell (X : K.In h) (G : h.Ns mainGlobals mg) {f : Addr} {od an : Option Addr} {sl : Array (Option Value)} {oc kV dc pm cd ct : Value} (a : PySem.W.nsIn K mainGlobals "_law_cell" = some (some (.ref f)))
    (l : K.lookup f = some ⟨oc, od, .func (PySem.W.fnOf "_law_cell" "_law_cell" (defArgs sCell) (defBody sCell) (defScope sCell) .none kV dc pm an cd ct), sl⟩) (c : PySem.W.codeIn K cd "_law_cell" = true) (k : PySem.W.keepIn K (.ref f) = true) : Here K mg "_law_cell" sCell ["_law_script", "_law_k"] :=
  ⟨f, _, PySem.W.mg_of X G a, fun_mk (st := sCell) l c k, (fun_mk (st := sCell) l c k).binds fun _ _ _ _ _ _ us hl => match us, hl with | [_, _], _ => rfl⟩
theorem at__law_digits (X : K.In h) (G : h.Ns mainGlobals mg) {f : Addr} {od an : Option Addr} {sl : Array (Option Value)} {oc kV dc pm cd ct : Value} (a : PySem.W.nsIn K mainGlobals "_law_digits" = some (some (.ref f)))
    (l : K.lookup f = some ⟨oc, od, .func (PySem.W.fnOf "_law_digits" "_law_digits" (defArgs sDigits) (defBody sDigits) (defScope sDigits) .none kV dc pm an cd ct), sl⟩) (c : PySem.W.codeIn K cd "_law_digits" = true) (k : PySem.W.keepIn K (.ref f) = true) : Here K mg "_law_digits" sDigits ["_law_cell_here", "_law_sizes"] :=
  ⟨f, _, PySem.W.mg_of X G a, fun_mk (st := sDigits) l c k, (fun_mk (st := sDigits) l c k).binds fun _ _ _ _ _ _ us hl => match us, hl with | [_, _], _ => rfl⟩
theorem at__law_rich (X : K.In h) (G : h.Ns mainGlobals mg) {f : Addr} {od an : Option Addr} {sl : Array (Option Value)} {oc kV dc pm cd ct : Value} (a : PySem.W.nsIn K mainGlobals "_law_rich" = some (some (.ref f)))
    (l : K.lookup f = some ⟨oc, od, .func (PySem.W.fnOf "_law_rich" "_law_rich" (defArgs sRich) (defBody sRich) (defScope sRich) .none kV dc pm an cd ct), sl⟩) (c : PySem.W.codeIn K cd "_law_rich" = true) (k : PySem.W.keepIn K (.ref f) = true) : Here K mg "_law_rich" sRich ["_law_cell_here"] :=
  ⟨f, _, PySem.W.mg_of X G a, fun_mk (st := sRich) l c k, (fun_mk (st := sRich) l c k).binds fun _ _ _ _ _ _ us hl => match us, hl with | [_], _ => rfl⟩
theorem at__law_pairs (X : K.In h) (G : h.Ns mainGlobals mg) {f : Addr} {od an : Option Addr} {sl : Array (Option Value)} {oc kV dc pm cd ct : Value} (a : PySem.W.nsIn K mainGlobals "_law_pairs" = some (some (.ref f)))
    (l : K.lookup f = some ⟨oc, od, .func (PySem.W.fnOf "_law_pairs" "_law_pairs" (defArgs sPairs) (defBody sPairs) (defScope sPairs) .none kV dc pm an cd ct), sl⟩) (c : PySem.W.codeIn K cd "_law_pairs" = true) (k : PySem.W.keepIn K (.ref f) = true) : Here K mg "_law_pairs" sPairs ["_law_script", "_law_at", "_law_n"] :=
  ⟨f, _, PySem.W.mg_of X G a, fun_mk (st := sPairs) l c k, (fun_mk (st := sPairs) l c k).binds fun _ _ _ _ _ _ us hl => match us, hl with | [_, _, _], _ => rfl⟩
theorem at__law_explains (X : K.In h) (G : h.Ns mainGlobals mg) {f : Addr} {od an : Option Addr} {sl : Array (Option Value)} {oc kV dc pm cd ct : Value} (a : PySem.W.nsIn K mainGlobals "_law_explains" = some (some (.ref f)))
    (l : K.lookup f = some ⟨oc, od, .func (PySem.W.fnOf "_law_explains" "_law_explains" (defArgs sExpl) (defBody sExpl) (defScope sExpl) .none kV dc pm an cd ct), sl⟩) (c : PySem.W.codeIn K cd "_law_explains" = true) (k : PySem.W.keepIn K (.ref f) = true) : Here K mg "_law_explains" sExpl ["_law_n", "_law_pairs_here", "_law_hours"] :=
  ⟨f, _, PySem.W.mg_of X G a, fun_mk (st := sExpl) l c k, (fun_mk (st := sExpl) l c k).binds fun _ _ _ _ _ _ us hl => match us, hl with | [_, _, _], _ => rfl⟩
theorem at__law_met (X : K.In h) (G : h.Ns mainGlobals mg) {f : Addr} {od an : Option Addr} {sl : Array (Option Value)} {oc kV dc pm cd ct : Value} (a : PySem.W.nsIn K mainGlobals "_law_met" = some (some (.ref f)))
    (l : K.lookup f = some ⟨oc, od, .func (PySem.W.fnOf "_law_met" "_law_met" (defArgs sMet) (defBody sMet) (defScope sMet) .none kV dc pm an cd ct), sl⟩) (c : PySem.W.codeIn K cd "_law_met" = true) (k : PySem.W.keepIn K (.ref f) = true) : Here K mg "_law_met" sMet ["_law_pairs_here", "_law_i", "_law_j"] :=
  ⟨f, _, PySem.W.mg_of X G a, fun_mk (st := sMet) l c k, (fun_mk (st := sMet) l c k).binds fun _ _ _ _ _ _ us hl => match us, hl with | [_, _, _], _ => rfl⟩
theorem at__law_is_ring (X : K.In h) (G : h.Ns mainGlobals mg) {f : Addr} {od an : Option Addr} {sl : Array (Option Value)} {oc kV dc pm cd ct : Value} (a : PySem.W.nsIn K mainGlobals "_law_is_ring" = some (some (.ref f)))
    (l : K.lookup f = some ⟨oc, od, .func (PySem.W.fnOf "_law_is_ring" "_law_is_ring" (defArgs sIsRing) (defBody sIsRing) (defScope sIsRing) .none kV dc pm an cd ct), sl⟩) (c : PySem.W.codeIn K cd "_law_is_ring" = true) (k : PySem.W.keepIn K (.ref f) = true) : Here K mg "_law_is_ring" sIsRing ["_law_n", "_law_pairs_here", "_law_ring"] :=
  ⟨f, _, PySem.W.mg_of X G a, fun_mk (st := sIsRing) l c k, (fun_mk (st := sIsRing) l c k).binds fun _ _ _ _ _ _ us hl => match us, hl with | [_, _, _], _ => rfl⟩
theorem at__law_is_way (X : K.In h) (G : h.Ns mainGlobals mg) {f : Addr} {od an : Option Addr} {sl : Array (Option Value)} {oc kV dc pm cd ct : Value} (a : PySem.W.nsIn K mainGlobals "_law_is_way" = some (some (.ref f)))
    (l : K.lookup f = some ⟨oc, od, .func (PySem.W.fnOf "_law_is_way" "_law_is_way" (defArgs sIsWay) (defBody sIsWay) (defScope sIsWay) .none kV dc pm an cd ct), sl⟩) (c : PySem.W.codeIn K cd "_law_is_way" = true) (k : PySem.W.keepIn K (.ref f) = true) : Here K mg "_law_is_way" sIsWay ["_law_n", "_law_pairs_here", "_law_way", "_law_start", "_law_goal", "_law_third"] :=
  ⟨f, _, PySem.W.mg_of X G a, fun_mk (st := sIsWay) l c k, (fun_mk (st := sIsWay) l c k).binds fun _ _ _ _ _ _ us hl => match us, hl with | [_, _, _, _, _, _], _ => rfl⟩
theorem at__law_avoid (X : K.In h) (G : h.Ns mainGlobals mg) {f : Addr} {od an : Option Addr} {sl : Array (Option Value)} {oc kV dc pm cd ct : Value} (a : PySem.W.nsIn K mainGlobals "_law_avoid" = some (some (.ref f)))
    (l : K.lookup f = some ⟨oc, od, .func (PySem.W.fnOf "_law_avoid" "_law_avoid" (defArgs sAvoid) (defBody sAvoid) (defScope sAvoid) .none kV dc pm an cd ct), sl⟩) (c : PySem.W.codeIn K cd "_law_avoid" = true) (k : PySem.W.keepIn K (.ref f) = true) : Here K mg "_law_avoid" sAvoid ["_law_n", "_law_pairs_here", "_law_persons", "_law_ways"] :=
  ⟨f, _, PySem.W.mg_of X G a, fun_mk (st := sAvoid) l c k, (fun_mk (st := sAvoid) l c k).binds fun _ _ _ _ _ _ us hl => match us, hl with | [_, _, _, _], _ => rfl⟩
end
section
variable {P : Program} {w : World} {K : PySem.W.Frag} {mg : Str → Option Value} {base : Heap}
theorem law_ok {f : Addr} {fd : FuncData} (F : Fun K "law" "law" sLaw f fd) (T : Top mg) (A_is_size : Here K mg "is_size" sIsSize ["n"]) (A_check_things : Here K mg "check_things" sCheckThings ["n"]) (A_check_meetings : Here K mg "check_meetings" sCheckM ["n", "pairs"]) (A_neighbors_of : Here K mg "neighbors_of" sNeigh ["n", "pairs"]) (A_shortest_way : Here K mg "shortest_way" sWay ["neighbors", "start", "goal", "barred"]) (A_is_thing : Here K mg "is_thing" sIsThing ["tree"]) (A_listed : Here K mg "listed" sListed ["tree"]) (A_least_thing : Here K mg "least_thing" sLeast ["tree"]) (A_make_any : Here K mg "make_any" sMakeAny ["parts"]) (A_make_row : Here K mg "make_row" sMakeRow ["parts"]) (A_normalized : Here K mg "normalized" sNormalized ["tree"]) (A_plain_tree : Here K mg "plain_tree" sPlain ["n"]) (A_share : Here K mg "share" sShare ["tree", "chosen"]) (A_with_share : Here K mg "with_share" sWithShare ["parts", "chosen", "wanted"]) (A_split_any : Here K mg "split_any" sSplitAny ["parts", "chosen"]) (A_ascends : Here K mg "ascends" sAscends ["shares"]) (A_split_row : Here K mg "split_row" sSplitRow ["parts", "chosen"]) (A_split : Here K mg "split" sSplit ["tree", "chosen"]) (A_joined_any : Here K mg "joined_any" sJoinAny ["parts", "chosen"]) (A_joined_row : Here K mg "joined_row" sJoinRow ["parts", "chosen"]) (A_joined : Here K mg "joined" sJoined ["tree", "chosen"]) (A_reduced_by : Here K mg "reduced_by" sRedBy ["tree", "chosen"]) (A_reduced_by_all : Here K mg "reduced_by_all" sRedAll ["tree", "sets"]) (A_is_group : Here K mg "is_group" sIsGroup ["neighbors", "persons"]) (A_group_of : Here K mg "group_of" sGroupOf ["neighbors", "left", "person"]) (A_next_person : Here K mg "next_person" sNext ["neighbors", "left"]) (A_greatest_groups : Here K mg "greatest_groups" sGreat ["neighbors"]) (A_ring_through : Here K mg "ring_through" sRing ["neighbors", "person", "one", "other"]) (A_find_ring : Here K mg "find_ring" sFindRing ["neighbors"]) (A_ways_of : Here K mg "ways_of" sWays ["neighbors", "a", "b", "c"]) (A_find_three : Here K mg "find_three" sThree ["neighbors"]) (A_hours_of : Here K mg "hours_of" sHours ["n", "groups", "order"]) (A_visits : Here K mg "visits" sVisits ["n", "pairs"]) (A__law_cell : Here K mg "_law_cell" sCell ["_law_script", "_law_k"]) (A__law_digits : Here K mg "_law_digits" sDigits ["_law_cell_here", "_law_sizes"]) (A__law_rich : Here K mg "_law_rich" sRich ["_law_cell_here"]) (A__law_pairs : Here K mg "_law_pairs" sPairs ["_law_script", "_law_at", "_law_n"]) (A__law_explains : Here K mg "_law_explains" sExpl ["_law_n", "_law_pairs_here", "_law_hours"]) (A__law_met : Here K mg "_law_met" sMet ["_law_pairs_here", "_law_i", "_law_j"]) (A__law_is_ring : Here K mg "_law_is_ring" sIsRing ["_law_n", "_law_pairs_here", "_law_ring"]) (A__law_is_way : Here K mg "_law_is_way" sIsWay ["_law_n", "_law_pairs_here", "_law_way", "_law_start", "_law_goal", "_law_third"]) (A__law_avoid : Here K mg "_law_avoid" sAvoid ["_law_n", "_law_pairs_here", "_law_persons", "_law_ways"]) : FnOk P w K mg base CX0 82 f fd ["_law_script"] (spLaw K) := by
  have dSize : Df P w K mg base "is_size" ["n"] 1 spIsSize := ok_is_size A_is_size T
  have dThings := ok_check_things A_check_things T dSize
  have dThing : Df P w K mg base "is_thing" ["tree"] 1 spIsThing := ok_is_thing A_is_thing T
  have dListed := ok_listed A_listed dThing 24
  have dLeast := ok_least A_least_thing T dListed
  have dAny : Df P w K mg base "make_any" ["parts"] 1 spMakeAny := ok_make_any A_make_any T
  have dRow := ok_make_row A_make_row T dAny
  have dNorm := ok_norm (e := 25) A_normalized T dThing dLeast 24
  have dPlain := ok_plain A_plain_tree T dThings dAny
  have dShare := ok_share A_share T dListed
  have dWith := ok_with_share A_with_share dShare
  have dAsc : Df P w K mg base "ascends" ["shares"] 1 spAscends := ok_ascends A_ascends T
  have dSplit := ok_split A_split A_split_any A_split_row T dWith dAny dAsc dShare
  have dJoined := ok_joined A_joined A_joined_any A_joined_row T dThing dShare dWith dAny dRow dSplit 24
  have dBy := ok_red_by A_reduced_by T dNorm dJoined
  have dAll := ok_red_all A_reduced_by_all dBy
  have dWay : Df P w K mg base "shortest_way" ["neighbors", "start", "goal", "barred"] 1 spWay := ok_way A_shortest_way T
  have dGroup : Df P w K mg base "is_group" ["neighbors", "persons"] 1 spIsGroup := ok_is_group A_is_group
  have dOf : Df P w K mg base "group_of" ["neighbors", "left", "person"] 1 spGroupOf := ok_group_of A_group_of T
  have dNext := ok_next A_next_person dGroup dOf
  have dGreat := ok_great A_greatest_groups T dNext dOf
  have dRing := ok_ring A_ring_through dWay
  have dFind := ok_find_ring A_find_ring T dRing
  have dWays := ok_ways A_ways_of T dWay
  have dThree := ok_three A_find_three T dWays
  have dMeet := ok_check_meetings A_check_meetings T dSize
  have dNeigh : Df P w K mg base "neighbors_of" ["n", "pairs"] 1 spNeigh := ok_neighbors A_neighbors_of T
  have dHours : Df P w K mg base "hours_of" ["n", "groups", "order"] 1 spHours := ok_hours A_hours_of T
  have dVisits := ok_visits A_visits T dMeet dNeigh dFind dThree dGreat dAll dPlain dHours dListed
  have dCell : Df P w K mg base "_law_cell" ["_law_script", "_law_k"] 1 (spCell K) := ok_cell A__law_cell T
  have dDigits : Df P w K mg base "_law_digits" ["_law_cell_here", "_law_sizes"] 1 spDigits := ok_digits A__law_digits T
  have dRich : Df P w K mg base "_law_rich" ["_law_cell_here"] 1 spRich := ok_rich A__law_rich T
  have dPairs := ok_pairs A__law_pairs T dCell dRich dDigits
  have dExpl : Df P w K mg base "_law_explains" ["_law_n", "_law_pairs_here", "_law_hours"] 1 spExpl := ok_expl A__law_explains T
  have dMet : Df P w K mg base "_law_met" ["_law_pairs_here", "_law_i", "_law_j"] 1 spMet := ok_met A__law_met T
  have dIsRing := ok_is_ring A__law_is_ring T dMet
  have dIsWay := ok_is_way A__law_is_way T dMet
  have dAvoid := ok_avoid A__law_avoid T dIsWay
  exact ok_law F T dCell dRich dDigits dPairs dVisits dExpl dIsRing dAvoid
end
theorem all_mk {l : PySem.W.OpenLaw} {w : World} {K : PySem.W.Frag} {h : Heap} {mg : Str → Option Value} {fa f : Addr} (X : K.In h) (G : h.Ns mainGlobals mg) (hfa : mg "law" = some (.ref fa)) {od an : Option Addr} {sl : Array (Option Value)} {oc kV dc pm cd ct : Value}
    (T : Top mg) (A_is_size : Here K mg "is_size" sIsSize ["n"]) (A_check_things : Here K mg "check_things" sCheckThings ["n"]) (A_check_meetings : Here K mg "check_meetings" sCheckM ["n", "pairs"]) (A_neighbors_of : Here K mg "neighbors_of" sNeigh ["n", "pairs"]) (A_shortest_way : Here K mg "shortest_way" sWay ["neighbors", "start", "goal", "barred"]) (A_is_thing : Here K mg "is_thing" sIsThing ["tree"]) (A_listed : Here K mg "listed" sListed ["tree"]) (A_least_thing : Here K mg "least_thing" sLeast ["tree"]) (A_make_any : Here K mg "make_any" sMakeAny ["parts"]) (A_make_row : Here K mg "make_row" sMakeRow ["parts"]) (A_normalized : Here K mg "normalized" sNormalized ["tree"]) (A_plain_tree : Here K mg "plain_tree" sPlain ["n"]) (A_share : Here K mg "share" sShare ["tree", "chosen"]) (A_with_share : Here K mg "with_share" sWithShare ["parts", "chosen", "wanted"]) (A_split_any : Here K mg "split_any" sSplitAny ["parts", "chosen"]) (A_ascends : Here K mg "ascends" sAscends ["shares"]) (A_split_row : Here K mg "split_row" sSplitRow ["parts", "chosen"]) (A_split : Here K mg "split" sSplit ["tree", "chosen"]) (A_joined_any : Here K mg "joined_any" sJoinAny ["parts", "chosen"]) (A_joined_row : Here K mg "joined_row" sJoinRow ["parts", "chosen"]) (A_joined : Here K mg "joined" sJoined ["tree", "chosen"]) (A_reduced_by : Here K mg "reduced_by" sRedBy ["tree", "chosen"]) (A_reduced_by_all : Here K mg "reduced_by_all" sRedAll ["tree", "sets"]) (A_is_group : Here K mg "is_group" sIsGroup ["neighbors", "persons"]) (A_group_of : Here K mg "group_of" sGroupOf ["neighbors", "left", "person"]) (A_next_person : Here K mg "next_person" sNext ["neighbors", "left"]) (A_greatest_groups : Here K mg "greatest_groups" sGreat ["neighbors"]) (A_ring_through : Here K mg "ring_through" sRing ["neighbors", "person", "one", "other"]) (A_find_ring : Here K mg "find_ring" sFindRing ["neighbors"]) (A_ways_of : Here K mg "ways_of" sWays ["neighbors", "a", "b", "c"]) (A_find_three : Here K mg "find_three" sThree ["neighbors"]) (A_hours_of : Here K mg "hours_of" sHours ["n", "groups", "order"]) (A_visits : Here K mg "visits" sVisits ["n", "pairs"]) (A__law_cell : Here K mg "_law_cell" sCell ["_law_script", "_law_k"]) (A__law_digits : Here K mg "_law_digits" sDigits ["_law_cell_here", "_law_sizes"]) (A__law_rich : Here K mg "_law_rich" sRich ["_law_cell_here"]) (A__law_pairs : Here K mg "_law_pairs" sPairs ["_law_script", "_law_at", "_law_n"]) (A__law_explains : Here K mg "_law_explains" sExpl ["_law_n", "_law_pairs_here", "_law_hours"]) (A__law_met : Here K mg "_law_met" sMet ["_law_pairs_here", "_law_i", "_law_j"]) (A__law_is_ring : Here K mg "_law_is_ring" sIsRing ["_law_n", "_law_pairs_here", "_law_ring"]) (A__law_is_way : Here K mg "_law_is_way" sIsWay ["_law_n", "_law_pairs_here", "_law_way", "_law_start", "_law_goal", "_law_third"]) (A__law_avoid : Here K mg "_law_avoid" sAvoid ["_law_n", "_law_pairs_here", "_law_persons", "_law_ways"]) (a : PySem.W.nsIn K mainGlobals "law" = some (some (.ref f)))
    (lk : K.lookup f = some ⟨oc, od, .func (PySem.W.fnOf "law" "law" (defArgs sLaw) (defBody sLaw) (defScope sLaw) .none kV dc pm an cd ct), sl⟩) (c : PySem.W.codeIn K cd "law" = true) (k : PySem.W.keepIn K (.ref f) = true) :
    ∃ fd : FuncData, (∀ (s : Shared) (v : Value), BindsTo s fd ⟨[v], []⟩ [("_law_script", v)]) ∧ ∀ base : Heap, K.In base → base.Ns mainGlobals mg → FnOk l.prog w K mg base CX0 82 fa fd ["_law_script"] (spLaw K) := by
  have e := hfa.symm.trans (PySem.W.mg_of X G a)
  cases e
  exact ⟨PySem.W.fnOf "law" "law" (defArgs sLaw) (defBody sLaw) (defScope sLaw) .none kV dc pm an cd ct, fun s v => .of_eq rfl, fun base _ _ =>
    law_ok (fun_mk (st := sLaw) lk c k) T A_is_size A_check_things A_check_meetings A_neighbors_of A_shortest_way A_is_thing A_listed A_least_thing A_make_any A_make_row A_normalized A_plain_tree A_share A_with_share A_split_any A_ascends A_split_row A_split A_joined_any A_joined_row A_joined A_reduced_by A_reduced_by_all A_is_group A_group_of A_next_person A_greatest_groups A_ring_through A_find_ring A_ways_of A_find_three A_hours_of A_visits A__law_cell A__law_digits A__law_rich A__law_pairs A__law_explains A__law_met A__law_is_ring A__law_is_way A__law_avoid⟩
theorem top_mk {K : PySem.W.Frag} {h : Heap} {mg : Str → Option Value} (X : K.In h) (G : h.Ns mainGlobals mg) {t : Tok} (z1 : PySem.W.nsIn K mainGlobals "len" = some none) (z2 : PySem.W.nsIn K mainGlobals "range" = some none) (z3 : PySem.W.nsIn K mainGlobals "sorted" = some none) (z4 : PySem.W.nsIn K mainGlobals "isinstance" = some none)
    (z5 : PySem.W.nsIn K mainGlobals "int" = some none) (z6 : PySem.W.nsIn K mainGlobals "tuple" = some none) (z7 : PySem.W.nsIn K mainGlobals "list" = some none) (z8 : PySem.W.nsIn K mainGlobals "min" = some none) (z9 : PySem.W.nsIn K mainGlobals "max" = some none)
    (z10 : PySem.W.nsIn K mainGlobals "enumerate" = some none) (z11 : PySem.W.nsIn K mainGlobals "any" = some none) (z12 : PySem.W.nsIn K mainGlobals "all" = some none) (z13 : PySem.W.nsIn K mainGlobals "MOST_THINGS" = some (some (.int 24 t))) : Top mg :=
  ⟨PySem.W.mg_none_of X G z1, PySem.W.mg_none_of X G z2, PySem.W.mg_none_of X G z3, PySem.W.mg_none_of X G z4, PySem.W.mg_none_of X G z5, PySem.W.mg_none_of X G z6, PySem.W.mg_none_of X G z7, PySem.W.mg_none_of X G z8, PySem.W.mg_none_of X G z9, PySem.W.mg_none_of X G z10, PySem.W.mg_none_of X G z11, PySem.W.mg_none_of X G z12, ⟨t, PySem.W.mg_of X G z13⟩⟩
end Up
end
open PySem PySem.W PyProof.Rows
set_option maxRecDepth 100000 in
set_option maxHeartbeats 0 in
theorem PySem.Challenge.cw_unpartedrows_k16_whole_visits_holds : PySem.Challenge.rw_unpartedrows_k16_whole_visits.Holds := by
  w_on; o_law; k_head; (case hw => w_witness2)
  k_fill
  refine L2.walk_of (l := PySem.Challenge.rw_unpartedrows_k16_whole_visits) (n := 63) (k := 82) (x := "_law_script") (CX := fun _ => L2.CX0) (sp := fun w => Up.spLaw _) rfl (by decide) rfl ⟨rfl, by decide, by decide⟩ (fun w h Y => PySem.W.kIn_of Y) ?F (fun _ _ a ns hl _ hS => ⟨a, ns, rfl, hS, hl, fun _ => rfl⟩) (fun _ _ _ _ _ z => z)
  case F =>
    intro w mg fa h KX G hmg
    refine' Up.all_mk KX G hmg (Up.top_mk KX G ?z1 ?z2 ?z3 ?z4 ?z5 ?z6 ?z7 ?z8 ?z9 ?z10 ?z11 ?z12 ?z13)
      (Up.at_is_size KX G ?a0 ?l0 ?c0 ?k0)
      (Up.at_check_things KX G ?a1 ?l1 ?c1 ?k1)
      (Up.at_check_meetings KX G ?a2 ?l2 ?c2 ?k2)
      (Up.at_neighbors_of KX G ?a3 ?l3 ?c3 ?k3)
      (Up.at_shortest_way KX G ?a4 ?l4 ?c4 ?k4)
      (Up.at_is_thing KX G ?a5 ?l5 ?c5 ?k5)
      (Up.at_listed KX G ?a6 ?l6 ?c6 ?k6)
      (Up.at_least_thing KX G ?a7 ?l7 ?c7 ?k7)
      (Up.at_make_any KX G ?a8 ?l8 ?c8 ?k8)
      (Up.at_make_row KX G ?a9 ?l9 ?c9 ?k9)
      (Up.at_normalized KX G ?a10 ?l10 ?c10 ?k10)
      (Up.at_plain_tree KX G ?a11 ?l11 ?c11 ?k11)
      (Up.at_share KX G ?a12 ?l12 ?c12 ?k12)
      (Up.at_with_share KX G ?a13 ?l13 ?c13 ?k13)
      (Up.at_split_any KX G ?a14 ?l14 ?c14 ?k14)
      (Up.at_ascends KX G ?a15 ?l15 ?c15 ?k15)
      (Up.at_split_row KX G ?a16 ?l16 ?c16 ?k16)
      (Up.at_split KX G ?a17 ?l17 ?c17 ?k17)
      (Up.at_joined_any KX G ?a18 ?l18 ?c18 ?k18)
      (Up.at_joined_row KX G ?a19 ?l19 ?c19 ?k19)
      (Up.at_joined KX G ?a20 ?l20 ?c20 ?k20)
      (Up.at_reduced_by KX G ?a21 ?l21 ?c21 ?k21)
      (Up.at_reduced_by_all KX G ?a22 ?l22 ?c22 ?k22)
      (Up.at_is_group KX G ?a23 ?l23 ?c23 ?k23)
      (Up.at_group_of KX G ?a24 ?l24 ?c24 ?k24)
      (Up.at_next_person KX G ?a25 ?l25 ?c25 ?k25)
      (Up.at_greatest_groups KX G ?a26 ?l26 ?c26 ?k26)
      (Up.at_ring_through KX G ?a27 ?l27 ?c27 ?k27)
      (Up.at_find_ring KX G ?a28 ?l28 ?c28 ?k28)
      (Up.at_ways_of KX G ?a29 ?l29 ?c29 ?k29)
      (Up.at_find_three KX G ?a30 ?l30 ?c30 ?k30)
      (Up.at_hours_of KX G ?a31 ?l31 ?c31 ?k31)
      (Up.at_visits KX G ?a32 ?l32 ?c32 ?k32)
      (Up.at__law_cell KX G ?a33 ?l33 ?c33 ?k33)
      (Up.at__law_digits KX G ?a34 ?l34 ?c34 ?k34)
      (Up.at__law_rich KX G ?a35 ?l35 ?c35 ?k35)
      (Up.at__law_pairs KX G ?a36 ?l36 ?c36 ?k36)
      (Up.at__law_explains KX G ?a37 ?l37 ?c37 ?k37)
      (Up.at__law_met KX G ?a38 ?l38 ?c38 ?k38)
      (Up.at__law_is_ring KX G ?a39 ?l39 ?c39 ?k39)
      (Up.at__law_is_way KX G ?a40 ?l40 ?c40 ?k40)
      (Up.at__law_avoid KX G ?a41 ?l41 ?c41 ?k41)
      ?a ?l ?c ?k
    (case z1 => k_is)
    (case z2 => k_is)
    (case z3 => k_is)
    (case z4 => k_is)
    (case z5 => k_is)
    (case z6 => k_is)
    (case z7 => k_is)
    (case z8 => k_is)
    (case z9 => k_is)
    (case z10 => k_is)
    (case z11 => k_is)
    (case z12 => k_is)
    (case z13 => k_is)
    (case a0 => k_is); (case l0 => k_is); (case c0 => k_is); (case k0 => k_is)
    (case a1 => k_is); (case l1 => k_is); (case c1 => k_is); (case k1 => k_is)
    (case a2 => k_is); (case l2 => k_is); (case c2 => k_is); (case k2 => k_is)
    (case a3 => k_is); (case l3 => k_is); (case c3 => k_is); (case k3 => k_is)
    (case a4 => k_is); (case l4 => k_is); (case c4 => k_is); (case k4 => k_is)
    (case a5 => k_is); (case l5 => k_is); (case c5 => k_is); (case k5 => k_is)
    (case a6 => k_is); (case l6 => k_is); (case c6 => k_is); (case k6 => k_is)
    (case a7 => k_is); (case l7 => k_is); (case c7 => k_is); (case k7 => k_is)
    (case a8 => k_is); (case l8 => k_is); (case c8 => k_is); (case k8 => k_is)
    (case a9 => k_is); (case l9 => k_is); (case c9 => k_is); (case k9 => k_is)
    (case a10 => k_is); (case l10 => k_is); (case c10 => k_is); (case k10 => k_is)
    (case a11 => k_is); (case l11 => k_is); (case c11 => k_is); (case k11 => k_is)
    (case a12 => k_is); (case l12 => k_is); (case c12 => k_is); (case k12 => k_is)
    (case a13 => k_is); (case l13 => k_is); (case c13 => k_is); (case k13 => k_is)
    (case a14 => k_is); (case l14 => k_is); (case c14 => k_is); (case k14 => k_is)
    (case a15 => k_is); (case l15 => k_is); (case c15 => k_is); (case k15 => k_is)
    (case a16 => k_is); (case l16 => k_is); (case c16 => k_is); (case k16 => k_is)
    (case a17 => k_is); (case l17 => k_is); (case c17 => k_is); (case k17 => k_is)
    (case a18 => k_is); (case l18 => k_is); (case c18 => k_is); (case k18 => k_is)
    (case a19 => k_is); (case l19 => k_is); (case c19 => k_is); (case k19 => k_is)
    (case a20 => k_is); (case l20 => k_is); (case c20 => k_is); (case k20 => k_is)
    (case a21 => k_is); (case l21 => k_is); (case c21 => k_is); (case k21 => k_is)
    (case a22 => k_is); (case l22 => k_is); (case c22 => k_is); (case k22 => k_is)
    (case a23 => k_is); (case l23 => k_is); (case c23 => k_is); (case k23 => k_is)
    (case a24 => k_is); (case l24 => k_is); (case c24 => k_is); (case k24 => k_is)
    (case a25 => k_is); (case l25 => k_is); (case c25 => k_is); (case k25 => k_is)
    (case a26 => k_is); (case l26 => k_is); (case c26 => k_is); (case k26 => k_is)
    (case a27 => k_is); (case l27 => k_is); (case c27 => k_is); (case k27 => k_is)
    (case a28 => k_is); (case l28 => k_is); (case c28 => k_is); (case k28 => k_is)
    (case a29 => k_is); (case l29 => k_is); (case c29 => k_is); (case k29 => k_is)
    (case a30 => k_is); (case l30 => k_is); (case c30 => k_is); (case k30 => k_is)
    (case a31 => k_is); (case l31 => k_is); (case c31 => k_is); (case k31 => k_is)
    (case a32 => k_is); (case l32 => k_is); (case c32 => k_is); (case k32 => k_is)
    (case a33 => k_is); (case l33 => k_is); (case c33 => k_is); (case k33 => k_is)
    (case a34 => k_is); (case l34 => k_is); (case c34 => k_is); (case k34 => k_is)
    (case a35 => k_is); (case l35 => k_is); (case c35 => k_is); (case k35 => k_is)
    (case a36 => k_is); (case l36 => k_is); (case c36 => k_is); (case k36 => k_is)
    (case a37 => k_is); (case l37 => k_is); (case c37 => k_is); (case k37 => k_is)
    (case a38 => k_is); (case l38 => k_is); (case c38 => k_is); (case k38 => k_is)
    (case a39 => k_is); (case l39 => k_is); (case c39 => k_is); (case k39 => k_is)
    (case a40 => k_is); (case l40 => k_is); (case c40 => k_is); (case k40 => k_is)
    (case a41 => k_is); (case l41 => k_is); (case c41 => k_is); (case k41 => k_is)
    (case a => k_is); (case l => k_is); (case c => k_is); (case k => k_is)
