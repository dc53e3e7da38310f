import PyProof.Rows.All
import Wide.All
import OpenK.AllK
import Wide.FinOn
import PyProof.StrOps2
import KE.GoesEnum
import HandS.ForMost
import HandS.Walk
import HandS.Style
import HandS.SortKw
import HandS.DictComp
import HandS.Lambda
import HandS.EndTab
import HandS.TupLe
import HandS.IsInst
import HandS.Wide
import HandS.StrMore
import HandS.Conv
import HandS.DictTup
import KE.SortKeyHeap
import HandS.Steps
import PySem.Challenge.RW_chumwords_k96_whole_least_way_bounds
set_option Elab.async false
set_option linter.all false
set_option maxRecDepth 100000
/-! Companies of two and three letters, words as lists of codes, steps, kinds, breadth-first distances: plain Lean, no program in sight. -/
namespace Cw
abbrev Wd := List Nat

/-! ### letters, friends, steps -/
def alph (k : Nat) : List Nat := (List.range k).map (· + 97)
theorem mem_alph {k x : Nat} : x ∈ alph k ↔ 97 ≤ x ∧ x < 97 + k := by
  unfold alph
  rw [List.mem_map]
  constructor
  · rintro ⟨a, ha, rfl⟩
    rw [List.mem_range] at ha
    omega
  · rintro ⟨h1, h2⟩
    exact ⟨x - 97, List.mem_range.mpr (by omega), by omega⟩
/-- the signs a and b are those of friends -/
def fr (t : List Nat) (a b : Nat) : Bool := t.getD (a - 97) 0 / 2 ^ (b - 97) % 2 == 1
def shS (t : List Nat) (w : Wd) (i : Nat) : List Wd :=
  if (w.getD i 0 == w.getD (i + 2) 0 && fr t (w.getD i 0) (w.getD (i + 1) 0)) = true then [w.take i ++ w.getD (i + 1) 0 :: w.drop (i + 3)] else []
def shorter (t : List Nat) (w : Wd) : List Wd := (List.range (w.length - 2)).flatMap (shS t w)
def loT (t : List Nat) (w : Wd) (i o : Nat) : List Wd := if fr t (w.getD i 0) o = true then [w.take i ++ o :: w.getD i 0 :: o :: w.drop (i + 1)] else []
def loS (t : List Nat) (k : Nat) (w : Wd) (i : Nat) : List Wd := (alph k).flatMap (loT t w i)
def longer (t : List Nat) (k : Nat) (w : Wd) : List Wd := (List.range w.length).flatMap (loS t k w)
def chD (k : Nat) (w : Wd) (i : Nat) : List Wd := ((alph k).filter fun s => s != w.getD i 0).map fun s => w.take i ++ s :: s :: w.drop (i + 2)
def chS (t : List Nat) (k : Nat) (w : Wd) (i : Nat) : List Wd :=
  if w.getD i 0 = w.getD (i + 1) 0 then chD k w i
  else if fr t (w.getD i 0) (w.getD (i + 1) 0) = true then [] else [w.take i ++ w.getD (i + 1) 0 :: w.getD i 0 :: w.drop (i + 2)]
def changed (t : List Nat) (k : Nat) (w : Wd) : List Wd := (List.range (w.length - 1)).flatMap (chS t k w)
def stepsR (t : List Nat) (k : Nat) (w : Wd) (m : Nat) : List Wd := shorter t w ++ changed t k w ++ if w.length + 2 ≤ m then longer t k w else []

/-! ### what a step is, by pieces -/
theorem cut1 {w : Wd} {i : Nat} (h : i < w.length) : w = w.take i ++ w.getD i 0 :: w.drop (i + 1) := by
  have e : w.drop i = w.getD i 0 :: w.drop (i + 1) := by
    rw [List.drop_eq_getElem_cons h, List.getD_eq_getElem?_getD, List.getElem?_eq_getElem h]
    rfl
  rw [← e, List.take_append_drop]
theorem cut2 {w : Wd} {i : Nat} (h : i + 1 < w.length) : w = w.take i ++ w.getD i 0 :: w.getD (i + 1) 0 :: w.drop (i + 2) := by
  have e : w.drop (i + 1) = w.getD (i + 1) 0 :: w.drop (i + 2) := by
    rw [List.drop_eq_getElem_cons h, List.getD_eq_getElem?_getD, List.getElem?_eq_getElem h]
    rfl
  have e2 := cut1 (w := w) (i := i) (by omega)
  rw [e] at e2
  exact e2
theorem cut3 {w : Wd} {i : Nat} (h : i + 2 < w.length) : w = w.take i ++ w.getD i 0 :: w.getD (i + 1) 0 :: w.getD (i + 2) 0 :: w.drop (i + 3) := by
  have e : w.drop (i + 2) = w.getD (i + 2) 0 :: w.drop (i + 3) := by
    rw [List.drop_eq_getElem_cons h, List.getD_eq_getElem?_getD, List.getElem?_eq_getElem h]
    rfl
  have e2 := cut2 (w := w) (i := i) (by omega)
  rw [e] at e2
  exact e2
def IsSh (t : List Nat) (x y : Wd) : Prop := ∃ u v a b, x = u ++ a :: b :: a :: v ∧ y = u ++ b :: v ∧ fr t a b = true
def IsLo (t : List Nat) (k : Nat) (x y : Wd) : Prop := ∃ u v a b, x = u ++ b :: v ∧ y = u ++ a :: b :: a :: v ∧ a ∈ alph k ∧ fr t b a = true
def IsDb (k : Nat) (x y : Wd) : Prop := ∃ u v a s, x = u ++ a :: a :: v ∧ y = u ++ s :: s :: v ∧ s ∈ alph k ∧ s ≠ a
def IsSw (t : List Nat) (x y : Wd) : Prop := ∃ u v a b, x = u ++ a :: b :: v ∧ y = u ++ b :: a :: v ∧ a ≠ b ∧ fr t a b = false
theorem getD_app {u v : Wd} {a j : Nat} : (u ++ v).getD (u.length + j) a = v.getD j a := by
  rw [List.getD_eq_getElem?_getD, List.getElem?_append_right (by omega), List.getD_eq_getElem?_getD]
  congr 2
  omega
theorem take_app {u v : Wd} : (u ++ v).take u.length = u := by simp
theorem drop_app {u v : Wd} {j : Nat} : (u ++ v).drop (u.length + j) = v.drop j := by
  rw [List.drop_append]
  have e : u.drop (u.length + j) = [] := List.drop_eq_nil_of_le (by omega)
  rw [e, List.nil_append]
  congr 1
  omega
theorem mem_shorter {t : List Nat} {x y : Wd} : y ∈ shorter t x ↔ IsSh t x y := by
  unfold shorter
  rw [List.mem_flatMap]
  constructor
  · rintro ⟨i, hi, hy⟩
    rw [List.mem_range] at hi
    unfold shS at hy
    split at hy
    · rename_i h
      rw [Bool.and_eq_true, beq_iff_eq] at h
      rw [List.mem_singleton] at hy
      refine ⟨x.take i, x.drop (i + 3), x.getD i 0, x.getD (i + 1) 0, ?_, hy, h.2⟩
      have e := cut3 (w := x) (i := i) (by omega)
      rw [← h.1] at e
      exact e
    · simp at hy
  · rintro ⟨u, v, a, b, rfl, rfl, h⟩
    refine ⟨u.length, List.mem_range.mpr (by simp; omega), ?_⟩
    have g0 : (u ++ a :: b :: a :: v).getD u.length 0 = a := getD_app (j := 0)
    have g1 : (u ++ a :: b :: a :: v).getD (u.length + 1) 0 = b := getD_app
    have g2 : (u ++ a :: b :: a :: v).getD (u.length + 2) 0 = a := getD_app
    unfold shS
    rw [g0, g1, g2, h, take_app, drop_app]
    simp
theorem mem_longer {t : List Nat} {k : Nat} {x y : Wd} : y ∈ longer t k x ↔ IsLo t k x y := by
  unfold longer loS loT
  rw [List.mem_flatMap]
  constructor
  · rintro ⟨i, hi, hy⟩
    rw [List.mem_range] at hi
    rw [List.mem_flatMap] at hy
    obtain ⟨o, ho, hy⟩ := hy
    split at hy
    · rename_i h
      rw [List.mem_singleton] at hy
      exact ⟨x.take i, x.drop (i + 1), o, x.getD i 0, cut1 hi, hy, ho, h⟩
    · simp at hy
  · rintro ⟨u, v, a, b, rfl, rfl, ha, h⟩
    refine ⟨u.length, List.mem_range.mpr (by simp), List.mem_flatMap.mpr ⟨a, ha, ?_⟩⟩
    have g0 : (u ++ b :: v).getD u.length 0 = b := getD_app (j := 0)
    rw [g0, h, take_app, drop_app]
    simp
theorem mem_changed {t : List Nat} {k : Nat} {x y : Wd} : y ∈ changed t k x ↔ IsDb k x y ∨ IsSw t x y := by
  unfold changed
  rw [List.mem_flatMap]
  constructor
  · rintro ⟨i, hi, hy⟩
    rw [List.mem_range] at hi
    have e := cut2 (w := x) (i := i) (by omega)
    unfold chS chD at hy
    split at hy
    · rename_i h
      rw [List.mem_map] at hy
      obtain ⟨s, hs, rfl⟩ := hy
      rw [List.mem_filter, bne_iff_ne] at hs
      rw [← h] at e
      exact .inl ⟨x.take i, x.drop (i + 2), x.getD i 0, s, e, rfl, hs.1, hs.2⟩
    · rename_i h
      split at hy
      · simp at hy
      · rename_i h2
        rw [List.mem_singleton] at hy
        exact .inr ⟨x.take i, x.drop (i + 2), x.getD i 0, x.getD (i + 1) 0, e, hy, h, by simpa using h2⟩
  · rintro (⟨u, v, a, s, rfl, rfl, hs, hn⟩ | ⟨u, v, a, b, rfl, rfl, hn, h⟩)
    · refine ⟨u.length, List.mem_range.mpr (by simp), ?_⟩
      have g0 : (u ++ a :: a :: v).getD u.length 0 = a := getD_app (j := 0)
      have g1 : (u ++ a :: a :: v).getD (u.length + 1) 0 = a := getD_app
      unfold chS chD
      rw [g0, g1, if_pos rfl, take_app, drop_app, List.mem_map]
      exact ⟨s, List.mem_filter.mpr ⟨hs, bne_iff_ne.mpr hn⟩, rfl⟩
    · refine ⟨u.length, List.mem_range.mpr (by simp), ?_⟩
      have g0 : (u ++ a :: b :: v).getD u.length 0 = a := getD_app (j := 0)
      have g1 : (u ++ a :: b :: v).getD (u.length + 1) 0 = b := getD_app
      unfold chS
      rw [g0, g1, if_neg hn, if_neg (by rw [h]; simp), take_app, drop_app]
      simp

/-- a company's facts that steps lean on -/
structure Gd (t : List Nat) (k : Nat) : Prop where
  symm : ∀ a ∈ alph k, ∀ b ∈ alph k, fr t a b = fr t b a
  irr : ∀ a ∈ alph k, fr t a a = false
/-- a word of the letters -/
def Ok (k : Nat) (w : Wd) : Prop := ∀ x ∈ w, x ∈ alph k
/-- one step with room m -/
def SR (t : List Nat) (k m : Nat) (x y : Wd) : Prop := IsSh t x y ∨ IsDb k x y ∨ IsSw t x y ∨ (IsLo t k x y ∧ x.length + 2 ≤ m)
theorem mem_stepsR {t : List Nat} {k m : Nat} {x y : Wd} : y ∈ stepsR t k x m ↔ SR t k m x y := by
  unfold stepsR SR
  rw [List.mem_append, List.mem_append, mem_shorter, mem_changed]
  by_cases h : x.length + 2 ≤ m
  · rw [if_pos h, mem_longer]
    simp [h, or_assoc]
  · rw [if_neg h]
    simp [h, or_assoc]
theorem IsSh.len {t : List Nat} {x y : Wd} (h : IsSh t x y) : x.length = y.length + 2 := by
  obtain ⟨u, v, a, b, rfl, rfl, _⟩ := h
  simp
  omega
theorem IsLo.len {t : List Nat} {k : Nat} {x y : Wd} (h : IsLo t k x y) : y.length = x.length + 2 := by
  obtain ⟨u, v, a, b, rfl, rfl, _⟩ := h
  simp
  omega
theorem IsDb.len {k : Nat} {x y : Wd} (h : IsDb k x y) : y.length = x.length := by
  obtain ⟨u, v, a, b, rfl, rfl, _⟩ := h
  simp
theorem IsSw.len {t : List Nat} {x y : Wd} (h : IsSw t x y) : y.length = x.length := by
  obtain ⟨u, v, a, b, rfl, rfl, _⟩ := h
  simp
theorem SR.ok {t : List Nat} {k m : Nat} {x y : Wd} (h : SR t k m x y) (o : Ok k x) : Ok k y := by
  intro z hz
  rcases h with ⟨u, v, a, b, rfl, rfl, _⟩ | ⟨u, v, a, b, rfl, rfl, hs, _⟩ | ⟨u, v, a, b, rfl, rfl, _, _⟩ | ⟨⟨u, v, a, b, rfl, rfl, hs, _⟩, _⟩
  · refine o z ?_
    simp at hz ⊢
    rcases hz with h | h | h <;> simp [h]
  · simp at hz
    rcases hz with h | h | h
    · exact o z (by simp [h])
    · rw [h]; exact hs
    · exact o z (by simp [h])
  · refine o z ?_
    simp at hz ⊢
    rcases hz with h | h | h | h <;> simp [h]
  · simp at hz
    rcases hz with h | h | h | h | h
    · exact o z (by simp [h])
    · rw [h]; exact hs
    · exact o z (by simp [h])
    · rw [h]; exact hs
    · exact o z (by simp [h])
theorem SR.len_le {t : List Nat} {k m : Nat} {x y : Wd} (h : SR t k m x y) (o : x.length ≤ m) : y.length ≤ m := by
  rcases h with h | h | h | ⟨h, hm⟩
  · have := h.len; omega
  · have := h.len; omega
  · have := h.len; omega
  · have := h.len; omega
theorem SR.len_diff {t : List Nat} {k m : Nat} {x y : Wd} (h : SR t k m x y) : x.length ≤ y.length + 2 ∧ y.length ≤ x.length + 2 := by
  rcases h with h | h | h | ⟨h, hm⟩
  · have := h.len; omega
  · have := h.len; omega
  · have := h.len; omega
  · have := h.len; omega
theorem SR.pos {t : List Nat} {k m : Nat} {x y : Wd} (h : SR t k m x y) : y ≠ [] := by
  rcases h with ⟨u, v, a, b, rfl, rfl, _⟩ | ⟨u, v, a, b, rfl, rfl, hs, _⟩ | ⟨u, v, a, b, rfl, rfl, _, _⟩ | ⟨⟨u, v, a, b, rfl, rfl, hs, _⟩, _⟩ <;> simp
theorem SR.symm {t : List Nat} {k m : Nat} {x y : Wd} (g : Gd t k) (h : SR t k m x y) (o : Ok k x) (hl : x.length ≤ m) : SR t k m y x := by
  have oy := h.ok o
  rcases h with h | h | h | ⟨h, hm⟩
  · have hl2 := h.len
    obtain ⟨u, v, a, b, rfl, rfl, hf⟩ := h
    have ha : a ∈ alph k := o a (by simp)
    have hb : b ∈ alph k := o b (by simp)
    exact .inr (.inr (.inr ⟨⟨u, v, a, b, rfl, rfl, ha, by rw [g.symm b hb a ha]; exact hf⟩, by omega⟩))
  · obtain ⟨u, v, a, s, rfl, rfl, hs, hn⟩ := h
    exact .inr (.inl ⟨u, v, s, a, rfl, rfl, o a (by simp), hn.symm⟩)
  · obtain ⟨u, v, a, b, rfl, rfl, hn, hf⟩ := h
    have ha : a ∈ alph k := o a (by simp)
    have hb : b ∈ alph k := o b (by simp)
    exact .inr (.inr (.inl ⟨u, v, b, a, rfl, rfl, hn.symm, by rw [g.symm b hb a ha]; exact hf⟩))
  · obtain ⟨u, v, a, b, rfl, rfl, ha, hf⟩ := h
    have hb : b ∈ alph k := o b (by simp)
    exact .inl ⟨u, v, a, b, rfl, rfl, by rw [g.symm a ha b hb]; exact hf⟩
/-- a step with any room whose both words have at most m signs is one with room m -/
theorem SR.room {t : List Nat} {k m n : Nat} {x y : Wd} (h : SR t k n x y) (hy : y.length ≤ m) : SR t k m x y := by
  rcases h with h | h | h | ⟨h, _⟩
  · exact .inl h
  · exact .inr (.inl h)
  · exact .inr (.inr (.inl h))
  · have := h.len
    exact .inr (.inr (.inr ⟨h, by omega⟩))

/-! ### paths and distances in any graph -/
section
variable {α : Type} {E : α → α → Prop}
def PathN (E : α → α → Prop) : Nat → α → α → Prop
  | 0, x, y => x = y
  | n + 1, x, y => ∃ z, PathN E n x z ∧ E z y
def IsDist (E : α → α → Prop) (x y : α) (d : Nat) : Prop := PathN E d x y ∧ ∀ e, e < d → ¬ PathN E e x y
theorem PathN.trans {x y : α} {n : Nat} (h : PathN E n x y) : ∀ {m : Nat} {z : α}, PathN E m y z → PathN E (n + m) x z
  | 0, z, h2 => by
    have e : y = z := h2
    subst e
    exact h
  | m + 1, z, ⟨u, h2, h3⟩ => ⟨u, h.trans h2, h3⟩
theorem PathN.inv {I : α → Prop} (hI : ∀ x y, I x → E x y → I y) : ∀ {n : Nat} {x y : α}, PathN E n x y → I x → I y
  | 0, x, y, h, i => by
    have e : x = y := h
    subst e
    exact i
  | n + 1, x, y, ⟨z, h, e⟩, i => hI z y (h.inv hI i) e
theorem PathN.symm {I : α → Prop} (hI : ∀ x y, I x → E x y → I y) (hs : ∀ x y, I x → E x y → E y x) : ∀ {n : Nat} {x y : α}, PathN E n x y → I x → PathN E n y x
  | 0, x, y, h, _ => (show x = y from h).symm
  | n + 1, x, y, ⟨z, h, e⟩, i => by
    have iz := h.inv hI i
    have h2 := h.symm hI hs i
    have h1 : PathN E 1 y z := ⟨y, rfl, hs z y iz e⟩
    have h3 := h1.trans h2
    rw [Nat.add_comm] at h3
    exact h3
theorem PathN.mono {F : α → α → Prop} (hF : ∀ x y, E x y → F x y) : ∀ {n : Nat} {x y : α}, PathN E n x y → PathN F n x y
  | 0, _, _, h => h
  | _ + 1, _, _, ⟨z, h, e⟩ => ⟨z, h.mono hF, hF _ _ e⟩
theorem dist_ex {x y : α} : ∀ {n : Nat}, PathN E n x y → ∃ d, d ≤ n ∧ IsDist E x y d := by
  intro n
  induction n using Nat.strongRecOn with
  | ind n ih =>
    intro h
    by_cases q : ∃ e, e < n ∧ PathN E e x y
    · obtain ⟨e, he, hp⟩ := q
      obtain ⟨d, hd, hi⟩ := ih e he hp
      exact ⟨d, by omega, hi⟩
    · exact ⟨n, Nat.le_refl _, h, fun e he hp => q ⟨e, he, hp⟩⟩
theorem IsDist.le {x y : α} {d n : Nat} (h : IsDist E x y d) (p : PathN E n x y) : d ≤ n := by
  by_cases q : n < d
  · exact absurd p (h.2 n q)
  · omega
theorem IsDist.uniq {x y : α} {d e : Nat} (h : IsDist E x y d) (h2 : IsDist E x y e) : d = e := Nat.le_antisymm (h.le h2.1) (h2.le h.1)
theorem IsDist.zero {x : α} : IsDist E x x 0 := ⟨rfl, fun _ h => absurd h (Nat.not_lt_zero _)⟩
theorem IsDist.back {x y : α} {n : Nat} (h : IsDist E x y (n + 1)) : ∃ z, IsDist E x z n ∧ E z y := by
  obtain ⟨⟨z, hz, e⟩, hm⟩ := h
  refine ⟨z, ⟨hz, fun i hi hp => ?_⟩, e⟩
  exact hm (i + 1) (by omega) ⟨z, hp, e⟩
theorem IsDist.next {x z y : α} {n : Nat} (h : IsDist E x z n) (e : E z y) : ∃ d, d ≤ n + 1 ∧ IsDist E x y d := dist_ex (n := n + 1) ⟨z, h.1, e⟩
theorem IsDist.below {x y : α} {n : Nat} : ∀ {m : Nat}, IsDist E x y (n + m) → ∃ z, IsDist E x z n
  | 0, h => ⟨y, h⟩
  | m + 1, h => by
    obtain ⟨z, hz, _⟩ := IsDist.back (n := n + m) h
    exact hz.below
theorem IsDist.symm {I : α → Prop} (hI : ∀ x y, I x → E x y → I y) (hs : ∀ x y, I x → E x y → E y x) {x y : α} {d : Nat} (ix : I x) (h : IsDist E x y d) : IsDist E y x d :=
  ⟨h.1.symm hI hs ix, fun e he hp => h.2 e he (hp.symm hI hs (h.1.inv hI ix))⟩

/-! ### breadth first: what is found, level by level -/
/-- all up to the level n -/
def Lvl (E : α → α → Prop) (x : α) (n : Nat) (fd : List (α × Nat)) : Prop := ∀ y d, (y, d) ∈ fd ↔ IsDist E x y d ∧ d ≤ n
/-- within the level n + 1: of it those in S -/
def Mid (E : α → α → Prop) (x : α) (n : Nat) (S : α → Prop) (fd : List (α × Nat)) : Prop := ∀ y d, (y, d) ∈ fd ↔ (IsDist E x y d ∧ d ≤ n) ∨ (d = n + 1 ∧ IsDist E x y (n + 1) ∧ S y)
theorem Lvl.start {x : α} : Lvl E x 0 [(x, 0)] := fun y d => by
  rw [List.mem_singleton, Prod.mk.injEq]
  constructor
  · rintro ⟨rfl, rfl⟩
    exact ⟨IsDist.zero, Nat.le_refl _⟩
  · rintro ⟨h, h2⟩
    have e : d = 0 := by omega
    subst e
    exact ⟨(show x = y from h.1).symm, rfl⟩
theorem Lvl.mid {x : α} {n : Nat} {fd : List (α × Nat)} (h : Lvl E x n fd) : Mid E x n (fun _ => False) fd := fun y d => by
  rw [h y d]
  simp
theorem Mid.lvl {x : α} {n : Nat} {S : α → Prop} {fd : List (α × Nat)} (h : Mid E x n S fd) (hS : ∀ y z, IsDist E x z n → E z y → S y) : Lvl E x (n + 1) fd := fun y d => by
  rw [h y d]
  constructor
  · rintro (⟨h1, h2⟩ | ⟨rfl, h1, _⟩)
    · exact ⟨h1, by omega⟩
    · exact ⟨h1, Nat.le_refl _⟩
  · rintro ⟨h1, h2⟩
    by_cases q : d ≤ n
    · exact .inl ⟨h1, q⟩
    · have e : d = n + 1 := by omega
      subst e
      obtain ⟨z, hz, ez⟩ := h1.back
      exact .inr ⟨rfl, h1, hS y z hz ez⟩
/-- what is met is there already -/
theorem Mid.old {x y z : α} {n d : Nat} {S : α → Prop} {fd : List (α × Nat)} (h : Mid E x n S fd) (hy : (y, d) ∈ fd) : Mid E x n (fun u => S u ∨ u = y) fd := fun u e => by
  constructor
  · intro hu
    rcases (h u e).mp hu with q | ⟨q1, q2, q3⟩
    · exact .inl q
    · exact .inr ⟨q1, q2, .inl q3⟩
  · rintro (q | ⟨rfl, q2, q3 | rfl⟩)
    · exact (h u e).mpr (.inl q)
    · exact (h u _).mpr (.inr ⟨rfl, q2, q3⟩)
    · rcases (h u d).mp hy with ⟨q, _⟩ | ⟨q, _, _⟩
      · rw [q2.uniq q]
        exact hy
      · rw [← q]
        exact hy
/-- what is met is new -/
theorem Mid.new {x y z : α} {n : Nat} {S : α → Prop} {fd : List (α × Nat)} (h : Mid E x n S fd) (hz : IsDist E x z n) (e : E z y) (hy : ∀ d, (y, d) ∉ fd) : IsDist E x y (n + 1) ∧ Mid E x n (fun u => S u ∨ u = y) (fd ++ [(y, n + 1)]) := by
  have hd : IsDist E x y (n + 1) := by
    obtain ⟨d, hd, hi⟩ := hz.next e
    by_cases q : d ≤ n
    · exact absurd ((h y d).mpr (.inl ⟨hi, q⟩)) (hy d)
    · have e : d = n + 1 := by omega
      subst e
      exact hi
  refine ⟨hd, fun u i => ?_⟩
  rw [List.mem_append, List.mem_singleton, Prod.mk.injEq, h u i]
  constructor
  · rintro ((q | ⟨q1, q2, q3⟩) | ⟨rfl, rfl⟩)
    · exact .inl q
    · exact .inr ⟨q1, q2, .inl q3⟩
    · exact .inr ⟨rfl, hd, .inr rfl⟩
  · rintro (q | ⟨rfl, q2, q3 | rfl⟩)
    · exact .inl (.inl q)
    · exact .inl (.inr ⟨rfl, q2, q3⟩)
    · exact .inr ⟨rfl, rfl⟩
/-- nothing at a level: all is found -/
theorem Lvl.all {x : α} {n : Nat} {fd : List (α × Nat)} (h : Lvl E x n fd) (hn : ∀ y, ¬ IsDist E x y n) : ∀ y d, (y, d) ∈ fd ↔ IsDist E x y d := fun y d => by
  rw [h y d]
  constructor
  · exact fun q => q.1
  · intro q
    refine ⟨q, ?_⟩
    by_cases l : d ≤ n
    · exact l
    · obtain ⟨m, rfl⟩ : ∃ m, d = n + m := ⟨d - n, by omega⟩
      obtain ⟨z, hz⟩ := q.below
      exact absurd hz (hn z)
end
end Cw

set_option maxHeartbeats 4000000
/-! Rules of our own, first part: text * int, chains of three, xs[i] read ahead of op=, enumerate of a tuple and of a text, xs[-2::-1]. -/
namespace Cw
open PySem PySem.Spec PyProof.Rows L2

/-! ### text * int -/
theorem fold_cps (x : Array Nat) : ∀ (n : Nat) (acc : Array Nat), ((List.replicate n x).foldl (· ++ ·) acc).toList = acc.toList ++ (List.replicate n x.toList).flatten
  | 0, acc => by simp
  | n + 1, acc => by
    rw [List.replicate_succ, List.foldl_cons, fold_cps x n (acc ++ x), List.replicate_succ, List.flatten_cons, Array.toList_append, List.append_assoc]
/-- z written n times -/
def repS (z : Str) (n : Nat) : Str := ⟨(List.replicate n z.cps.toList).flatten.toArray⟩
def rMulS : R2 := fun x y H Q => ∃ (z : Str) (n : Nat), x = .str z ∧ y = .int ((n : Nat) : Int) ∧ z.length * n ≤ 1000000 ∧ n ≤ 1000000 ∧ z.length ≤ 1000000 ∧ Q (.str (repS z n)) H
theorem op_mulS {X : Cx} : OpR X (binaryOp .Mult) rMulS := by
  intro pins s σ H x y v u Q I rx ry h
  obtain ⟨z, n, rfl, rfl, hz, hn, hl, q⟩ := h
  obtain ⟨t, rfl⟩ := rx
  obtain ⟨t', rfl⟩ := ry
  have zl : z.length = z.cps.toList.length := by simp [Str.length]
  refine P.mul_str ?_ (fun h1 h2 => ?_) (fun _ _ => ?_) ?_
  · have a1 : ¬ ((n : Nat) : Int) < -(2 ^ 63 : Int) := by omega
    have a2 : ¬ ((n : Nat) : Int) ≥ 2 ^ 63 := by omega
    rw [decide_eq_false a1, decide_eq_false a2] <;> rfl
  · have n1 : 1 ≤ n := by omega
    have e : (1000000 : Int) ≤ (2 ^ 63 - 1) / ((n : Nat) : Int) := Int.le_ediv_of_mul_le (by omega) (by omega)
    omega
  · unfold Builtin.Str.tooLong
    rw [decide_eq_false_iff_not, Int.toNat_natCast, Nat.not_lt]
    exact Nat.le_trans hz (by decide)
  · by_cases h0 : ((n : Nat) : Int) < 1
    · rw [if_pos h0]
      have e0 : n = 0 := by omega
      subst e0
      exact ⟨by decide, .str (repS z 0), H, I.tok _, ⟨_, rfl⟩, q⟩
    · rw [if_neg h0]
      by_cases h1 : ((((n : Nat) : Int) == 1) || z.length == 0) = true
      · rw [if_pos h1]
        have ez : repS z n = z := by
          apply TL.ext_tl
          show (List.replicate n z.cps.toList).flatten = z.cps.toList
          rw [Bool.or_eq_true, beq_iff_eq, beq_iff_eq] at h1
          rcases h1 with h1 | h1
          · have e1 : n = 1 := by omega
            subst e1
            simp
          · have e1 : z.cps.toList = [] := List.eq_nil_of_length_eq_zero (by omega)
            rw [e1]
            simp
        rw [ez] at q
        exact ⟨.str z, H, I, ⟨_, rfl⟩, q⟩
      · rw [if_neg h1]
        have ez : (⟨(List.replicate ((n : Nat) : Int).toNat z.cps).foldl (· ++ ·) #[]⟩ : Str) = repS z n := by
          apply TL.ext_tl
          show ((List.replicate ((n : Nat) : Int).toNat z.cps).foldl (· ++ ·) #[]).toList = (List.replicate n z.cps.toList).flatten
          rw [Int.toNat_natCast, fold_cps]
          simp
        rw [ez]
        refine ⟨?_, .str (repS z n), H, I.tok _, ⟨_, rfl⟩, q⟩
        have el : (repS z n).length = n * z.length := by
          show (List.replicate n z.cps.toList).flatten.toArray.size = _
          rw [List.size_toArray, List.length_flatten]
          simp [Str.length]
        rw [el, Nat.mul_comm]
        exact Nat.le_trans hz (by decide)

/-! ### a < b < c < d -/
def tChain3 (r1 r2 r3 : R2) (ta tb tc td : TE) : TE := fun σ H Q => ta σ H fun x H1 => tb σ H1 fun y H2 => r1 x y H2 fun z H3 => ∃ k, z = .bl k ∧
  (if k = true then tc σ H3 fun x2 H4 => r2 y x2 H4 fun z2 H5 => ∃ k2, z2 = .bl k2 ∧ (if k2 = true then td σ H5 fun x3 H6 => r3 x2 x3 H6 Q else Q (.bl false) H5) else Q (.bl false) H3)
theorem pe_chain3 {X : Cx} {o1 o2 o3 : CmpOp} {r1 r2 r3 : R2} {a b c d : Expr} {ta tb tc td : TE} {pos : Pos} (h1 : OpR X (compareOp o1) r1) (h2 : OpR X (compareOp o2) r2) (h3 : OpR X (compareOp o3) r3)
    (ha : PE X a ta) (hb : PE X b tb) (hc : PE X c tc) (hd : PE X d td) (hm : lastMarks [o1, o2, o3] [b, c, d] = false := by with_unfolding_all rfl) : PE X (.Compare a [o1, o2, o3] [b, c, d] pos) (tChain3 r1 r2 r3 ta tb tc td) := by
  refine ⟨fun pins s σ H Q I h => ?_⟩
  refine Compare_chain (thn (ha.run pins s σ H _ I h) fun v s1 ⟨x, H1, I1, rx, q1⟩ => chain_link (thn (hb.run pins s1 σ H1 _ I1 q1) fun u s2 ⟨y, H2, I2, ry, q2⟩ =>
    thn (h1 pins s2 σ H2 x y v u _ I2 rx ry q2) fun e s3 ⟨z, H3, I3, rz, k, ez, q3⟩ => ?_)) hm
  subst ez
  cases rz
  refine wpAny_truthy_bool ?_
  cases k with
  | false => exact ite_ff ⟨.bl false, H3, I3, rfl, q3⟩
  | true =>
    refine ite_tt (chain_link (thn (hc.run pins s3 σ H3 _ I3 q3) fun u2 s4 ⟨x2, H4, I4, rx2, q4⟩ => thn (h2 pins s4 σ H4 y x2 u u2 _ I4 ry rx2 q4) fun e2 s5 ⟨z2, H5, I5, rz2, k2, ez2, q5⟩ => ?_))
    subst ez2
    cases rz2
    refine wpAny_truthy_bool ?_
    cases k2 with
    | false => exact ite_ff ⟨.bl false, H5, I5, rfl, q5⟩
    | true => exact ite_tt (chain_last (thn (hd.run pins s5 σ H5 _ I5 q5) fun u3 s6 ⟨x3, H6, I6, rx3, q6⟩ => h3 pins s6 σ H6 x2 x3 u2 u3 Q I6 rx2 rx3 q6))

/-! ### xs[i], read ahead of an op= -/
def rGetL (K : PySem.W.Frag) : V → V → Hp → VK → Prop := fun o i H Q => ∃ (p : Addr) (xs : List V) (j : Nat) (v : V), o = .ref p ∧ i = .int ((j : Nat) : Int) ∧ SqL K H p xs ∧ xs[j]? = some v ∧ Q v H
theorem get_list {X : Cx} : PGet X (rGetL X.K) := by
  intro pins s σ H o i ov iv Q I ro ri h
  obtain ⟨p, xs, j, v, rfl, rfl, hx, hj, q⟩ := h
  cases ro
  obtain ⟨t, rfl⟩ := ri
  obtain ⟨its, rv, pl, hz⟩ := I.list hx
  obtain ⟨u, hu, ru⟩ := rv.get hj
  have hjl : j < xs.length := (List.getElem?_eq_some_iff.mp hj).1
  have h63 : ((j : Nat) : Int) < 2 ^ 63 := by
    have : sizeLine = 16777216 := sizeLine_eq
    omega
  exact wpAny_getItem_list pl.isList (Int.natCast_nonneg _) h63 (x := u) (by rw [Int.toNat_natCast]; simpa using hu) ⟨v, H, I, ru, q⟩

/-! ### xs[-2::-1] -/
theorem range_back (m : Nat) : sliceRange ((m : Int) - 1) (-1) (-1) = (List.range m).reverse := by
  apply List.ext_getElem?
  intro k
  unfold sliceRange
  rw [if_neg (show ¬ ((-1 : Int) > 0) by decide)]
  by_cases hm : (m : Int) - 1 > -1
  · rw [if_pos hm]
    have e : ((m : Int) - 1 - -1 - -1 - 1) / (- -1) = (m : Int) := by
      rw [show (- -1 : Int) = 1 by decide, Int.ediv_one]
      omega
    rw [e]
    show (List.map (fun k : Nat => ((m : Int) - 1 + -1 * (k : Int)).toNat) (List.range ((m : Int)).toNat))[k]? = _
    rw [Int.toNat_natCast, List.getElem?_map]
    by_cases hk : k < m
    · rw [List.getElem?_range hk, List.getElem?_reverse (by simpa using hk), List.length_range, List.getElem?_range (by omega)]
      have e2 : ((m : Int) - 1 + -1 * (k : Int)).toNat = m - 1 - k := by omega
      show some ((m : Int) - 1 + -1 * (k : Int)).toNat = some (m - 1 - k)
      rw [e2]
    · rw [List.getElem?_eq_none (by simp; omega), List.getElem?_eq_none (by simp; omega)] <;> rfl
  · rw [if_neg hm]
    have e : m = 0 := by omega
    subst e
    simp
theorem pick_range (its : List Value) : ∀ m, m ≤ its.length → (List.range m).filterMap (fun i => its.toArray[i]?) = its.take m
  | 0, _ => by simp
  | m + 1, h => by
    rw [List.range_succ, List.filterMap_append, pick_range its m (by omega), List.take_add_one]
    have e : its.toArray[m]? = some its[m] := by simp [show m < its.length by omega]
    have e2 : its[m]? = some its[m] := List.getElem?_eq_getElem (by omega)
    rw [e2]
    simp [show m < its.length by omega]
theorem back2_pick (its : List Value) : slicePick its.toArray (some (-2)) none (some (-1)) = its.dropLast.reverse.toArray := by
  have hb : sliceBounds (some (-2)) none (some (-1)) its.toArray.size = (((its.length - 1 : Nat) : Int) - 1, -1, -1) := by
    unfold sliceBounds
    simp only [Option.getD_some, List.size_toArray]
    rw [if_neg (show ¬ ((-1 : Int) > 0) by decide), if_pos (show ((-2 : Int) < 0) by decide), if_neg (show ¬ ((-1 : Int) > 0) by decide)]
    refine Prod.ext ?_ rfl
    show max (-1 : Int) (min (-2 + (its.length : Int)) ((its.length : Int) - 1)) = _
    omega
  unfold slicePick
  rw [hb]
  show ((sliceRange (((its.length - 1 : Nat) : Int) - 1) (-1) (-1)).filterMap (its.toArray[·]?)).toArray = _
  rw [range_back, List.filterMap_reverse, pick_range its (its.length - 1) (by omega), List.dropLast_eq_take]
def tBack2 (K : PySem.W.Frag) (te : TE) : TE := fun σ H Q => te σ H fun x H1 => ∃ a xs, x = .ref a ∧ SqL K H1 a xs ∧ ∀ p, H1 p = none → Q (.ref p) (upd H1 p (.lst xs.dropLast.reverse))
theorem pe_back2 {X : Cx} {e : Expr} {te : TE} {k k2 : Nat} {p1 p2 p3 p4 p5 pos : Pos} (he : PE X e te) :
    PE X (.Subscript e (.Slice (some (.UnaryOp .USub (.Constant (.int 2) k2 p4) p5)) none (some (.UnaryOp .USub (.Constant (.int 1) k p1) p2)) p3) pos) (tBack2 X.K te) := by
  refine ⟨fun pins s σ H Q I h => ?_⟩
  refine Subscript_ (thn (he.run pins s σ H _ I h) fun v s1 ⟨x, H1, I1, r1, q1⟩ => ?_)
  obtain ⟨a, xs, ex, hx, q⟩ := q1
  subst ex
  cases r1
  have hlo : PO X (some (.UnaryOp .USub (.Constant (.int 2) k2 p4) p5)) (tPart (tUn (rU fun i => .int (-i)) (tC (.int 2)))) := po_some (pe_un un_neg pe_int)
  have hstep : PO X (some (.UnaryOp .USub (.Constant (.int 1) k p1) p2)) (tPart (tUn (rU fun i => .int (-i)) (tC (.int 1)))) := po_some (pe_un un_neg pe_int)
  refine wpAny_Slice (thn (hlo.run pins s1 σ H1 (fun o H2 => o = some (-2) ∧ H2 = H1) I1 ⟨2, rfl, -2, rfl, rfl, rfl⟩) fun vl s2 ⟨l, H2, I2, pl, el, e2⟩ => ?_)
  subst el e2
  refine thn (po_none.run pins s2 σ H2 (fun o H3 => o = none ∧ H3 = H2) I2 ⟨rfl, rfl⟩) fun vu s3 ⟨u, H3, I3, pu, eu, e3⟩ => ?_
  subst eu e3
  refine thn (hstep.run pins s3 σ H3 (fun o H4 => o = some (-1) ∧ H4 = H3) I3 ⟨1, rfl, -1, rfl, rfl, rfl⟩) fun vs s4 ⟨o, H4, I4, ps, eo, e4⟩ => ?_
  subst eo e4
  have I5 : Inv X pins σ H4 { s4 with heap := s4.heap.push { cls := .type "slice", data := .fields #[vl, vu, vs] } } := I4.kept (t' := s4.toks) fun b ob q => Heap.get?_push_of_some _ q
  obtain ⟨its, r, ht, hz⟩ := I5.list hx
  have hlen := r.length
  refine tail_any (s := { s4 with heap := s4.heap.push { cls := .type "slice", data := .fields #[vl, vu, vs] } }) (ops := [.ref a, .ref s4.heap.objs.size]) ht.isList.typeIs (PySem.slot_list_getitem.lookup) ?_ (by with_unfolding_all rfl)
  refine wpAny_getItem_list_slice ht.isList (Heap.IsSliceOf.new _ vl vu vs) pl pu ps (by decide) ?_ (by rw [List.size_toArray]; omega)
  rw [back2_pick]
  have rd : Vals xs.dropLast its.dropLast := by
    rw [List.dropLast_eq_take, List.dropLast_eq_take, hlen]
    exact r.take _
  refine ⟨.ref _, _, I5.laid (t' := s4.toks) (o := .lst xs.dropLast.reverse) (fun b ob q => Heap.get?_push_of_some _ q) (Nat.le_refl _) ?_, rfl, q _ (I5.hok.fresh (Nat.le_refl _))⟩
  exact ⟨by rw [List.length_reverse, List.length_dropLast]; omega, _, 0, rd.reverse, Heap.get?_push_size _ rfl⟩
end Cw

set_option maxHeartbeats 4000000
/-! Rules of our own, second part: for i, x in enumerate(..) over a tuple and over a text. -/
namespace Cw
open PySem PySem.Spec PyProof.Rows L2

/-- pairs (i, x): n of them while G stands, the x by P -/
def Iten (G : Hp → Prop) (n : Nat) (R : Nat → V → Prop) : It :=
  ⟨fun i H => G H ∧ i < n, fun i H v H' => ∃ T x, v = .ref T ∧ H T = none ∧ H' = upd H T (.tup [.int ((i : Nat) : Int), x]) ∧ R i x, fun i H => G H ∧ i = n⟩
/-- one turn of an enumerate over anything that is drawn -/
theorem enum_turn {X : Cx} {pins : List (Addr × Obj)} {σ : L2.St} {H : Hp} {s : Shared} {E : Value → Shared → Prop} {e it : Addr} {fp : List Addr} {n i : Nat} {R : Nat → Value → Prop} {F : Nat → Heap → Prop} {old : Value}
    {elts : List Expr} {kk : Nat} {tpos : Pos} {Y : V → Hp → Shared → Prop} (I : Inv X pins σ H s) (hf : ∀ b ∈ [e, it], FpOk X pins H b) (D : Draws X.prog X.w X.A.in1 it fp n R F) (he : IsEnum s.heap e it ((i : Nat) : Int) old) (hst : F i s.heap)
    (hlt : i < n) (hne : e ≠ it) (hef : e ∉ fp)
    (hY : ∀ (T : Addr) (u : Value) (h'' : Heap) (tk : Nat), H T = none → R i u → (∃ old, IsEnum h'' e it ((i + 1 : Nat) : Int) old) → F (i + 1) h'' →
      (∀ x : V, RelV x u → Inv X pins σ (upd H T (.tup [.int ((i : Nat) : Int), x])) { s with heap := h'', toks := tk } ∧ ∀ b ∈ [e, it], upd H T (.tup [.int ((i : Nat) : Int), x]) b = none) →
      ∃ x H', Inv X pins σ H' { s with heap := h'', toks := tk } ∧ RelV x (.ref T) ∧ Y x H' { s with heap := h'', toks := tk }) :
    wpAny (model X.prog X.w) X.A (pyNext (.ref e)) (fun r s1 => ∃ u, r = some u ∧
      wpAny (model X.prog X.w) X.A (letOwnedTupleGo (.Tuple elts kk tpos) (.ref e) u) (fun _ s2 => ∃ x H', Inv X pins σ H' s2 ∧ RelV x u ∧ Y x H' s2) E s1) E s := by
  have hel : e < s.heap.objs.size := Heap.lt_size he
  have hil : it < s.heap.objs.size := by
    obtain ⟨o, ho⟩ := D.live _ _ hst
    exact Heap.lt_size ho
  refine wpAny_pyNext_enum_itemD D he hst hlt hne hef fun u h' tk hR ho hst' hT hsz hk => ?_
  refine ⟨_, rfl, wpAny_letOwnedTupleGo_enum (s := { s with heap := h', toks := tk + 1 }) ho fun h'' he' sb => ?_⟩
  have hT2 : h''.get? s.heap.objs.size = some { cls := .type "tuple", data := .seq #[.int ((i : Nat) : Int) tk, u] } := (sb.2 _ (Nat.ne_of_gt hel)).trans hT
  have e1 : (((i : Nat) : Int) + 1) = ((i + 1 : Nat) : Int) := by omega
  refine hY s.heap.objs.size u h'' (tk + 1) (I.hok.fresh (Nat.le_refl _)) hR ⟨u, by rw [← e1]; exact he'⟩ (D.frame _ _ _ hst' fun b hb o q => (sb.2 b fun z => hef (z ▸ hb)).trans q) fun x rx => ⟨?_, fun b hb => ?_⟩
  · have hn : ObjOk X.prog X.w (upd H s.heap.objs.size (.tup [.int ((i : Nat) : Int), x])) h'' s.heap.objs.size (.tup [.int ((i : Nat) : Int), x]) :=
      ⟨by show 2 ≤ sizeLine; decide, [.int ((i : Nat) : Int) tk, u], .cons ⟨_, rfl⟩ (.cons rx .nil), ⟨_, hT2, rfl, _, rfl⟩⟩
    exact I.turnedNew (ch := [e, it]) (fun b ob hb q => (sb.2 b (fun z => hb (by simp [z]))).trans (hk b ob (fun z => hb (by simp [z])) (fun z => hb (by simp [z])) q)) hf (Nat.le_refl _) hn
  · have hb' : b < s.heap.objs.size := by
      rcases List.mem_cons.mp hb with z | z
      · rw [z]; exact hel
      · rw [List.mem_singleton.mp z]; exact hil
    rw [upd_ne (Nat.ne_of_lt hb')]
    exact (hf b hb).1

/-! ### over a text -/
theorem turn_enS {P : Program} {w : World} {K : PySem.W.Frag} {elts : List Expr} {kk : Nat} {tpos : Pos} (e it : Addr) (x : Str) (t : Tok) :
    Turn P w K (.Tuple elts kk tpos) (Iten (fun _ => True) x.cps.size fun i v => ∃ c, x.cps[i]? = some c ∧ v = .str ⟨#[c]⟩) [e, it] e (fun i h => (∃ old, IsEnum h e it ((i : Nat) : Int) old) ∧ h.IsStrIter it (strIterType x) x t i ∧ e ≠ it) where
  mem := by simp
  obj := fun i h st b hb => by
    obtain ⟨⟨old, he⟩, ⟨o, ho, hc, hd⟩, _⟩ := st
    rcases List.mem_cons.mp hb with z | z
    · rw [z]; exact ⟨_, he, fun v q => nomatch q⟩
    · rw [List.mem_singleton.mp z]; exact ⟨o, ho, fun v q => by rw [hd] at q; cases q⟩
  keep := fun i h h' st k => by
    obtain ⟨⟨old, he⟩, ⟨o, ho, r⟩, hne⟩ := st
    exact ⟨⟨old, k e (by simp) _ he⟩, ⟨o, k it (by simp) o ho, r⟩, hne⟩
  item := by
    intro X hP hw hK hc i pins s σ H E I hf st hg
    subst hP hw hK
    obtain ⟨⟨old, he⟩, hit, hne⟩ := st
    refine enum_turn I hf (Draws.text (A := X.A.in1) (I.ok.hd hc) it x t) he hit hg.2 hne (by simpa using hne) fun T u h'' tk nT hR he2 hst2 hI => ?_
    obtain ⟨c, tu, hcx, rfl⟩ := hR
    obtain ⟨I2, fr⟩ := hI (.str ⟨#[c]⟩) ⟨_, rfl⟩
    exact ⟨.ref T, _, I2, rfl, ⟨T, _, rfl, nT, rfl, _, hcx, rfl⟩, ⟨he2, hst2, hne⟩, fr⟩
  done := by
    intro X hP hw hK hc i pins s σ H E I hf st hg
    subst hP hw hK
    obtain ⟨⟨old, he⟩, hit, hne⟩ := st
    obtain ⟨f0, f1, f2, f3, f4, f5⟩ := hf it (by simp)
    have hn := hg.2
    subst hn
    exact wpAny_pyNext_enum_endD (Draws.text (A := X.A.in1) (I.ok.hd hc) it x t) he hit fun h' eb => ⟨rfl, I.turned (t' := s.toks) (fun b o hb q => eb b o hb q) f0 f1 f3 f4 f5⟩
  self := fun A i s Q E st h => by
    obtain ⟨⟨_, he⟩, _⟩ := st
    exact wpAny_pyIter_enum he h

def iEnS (ta : TA) : TI := fun σ H R => ta σ H fun vs H1 => ∃ x, vs = [.str x] ∧ R (Iten (fun _ => True) x.cps.size fun i v => ∃ c, x.cps[i]? = some c ∧ v = .str ⟨#[c]⟩) H1
theorem pi_enS {X : Cx} {e : Expr} {ta : TA} {p pos tpos : Pos} {elts : List Expr} {kk : Nat} (hg : Gl X "enumerate") (hm : X.mg "enumerate" = none) (ha : PA X [e] ta) (hs : starEach [e] X.env = [(false, eval e X.env)] := by rfl) :
    PI X (.Tuple elts kk tpos) (.Call (.Name "enumerate" p) [e] [] pos) (iEnS ta) := by
  refine ⟨fun pins s σ H R I h => ?_⟩
  refine Call_ (ld_blt I hg hm boot_enumerate (PyProof.Rows.callWith_type1 (thn (ha.run pos pins s σ H _ I h) fun us s1 ⟨vs, H1, I1, r1, q1⟩ => ?_) hs rfl))
  obtain ⟨x, ex, q⟩ := q1
  subst ex
  cases r1 with
  | cons r rr =>
    cases rr
    obtain ⟨t, rfl⟩ := r
    refine call_enumerate_str fun h' he hit hsz hk => wpAny_pyIter_enum he ?_
    have I2 : Inv X pins σ H1 { s1 with heap := h' } := I1.kept (t' := s1.toks) hk
    refine ⟨_, [s1.heap.objs.size + 1, s1.heap.objs.size], _, _, H1, rfl, I2, turn_enS _ s1.heap.objs.size x t, ⟨⟨_, he⟩, hit, Nat.succ_ne_self _⟩, fun b hb => ?_, q⟩
    have hle : s1.heap.objs.size ≤ b := by
      rcases List.mem_cons.mp hb with z | z
      · rw [z]; exact Nat.le_add_right _ _
      · rw [List.mem_singleton.mp z]; exact Nat.le_refl _
    exact I1.fpOk hle (I1.hok.fresh hle)

/-! ### over a tuple -/
theorem meets_enumT (l : Addr) (its : Array Value) (n : Nat) (dd : Option Addr) (sl : Array (Option Value)) :
    Meets (Builtin.«enumerate.__new__» ⟨[.type "enumerate", .ref l], []⟩) (fun _ R s => s.heap.get? l = some { cls := .type "tuple", dict := dd, data := .seq its n, slots := sl } ∧
      R (.ok (.ret (.ref (s.heap.push { cls := .type "tuple_iterator", data := .fields #[.ref l, .int 0 0] }).objs.size)))
        { s with heap := (s.heap.push { cls := .type "tuple_iterator", data := .fields #[.ref l, .int 0 0] }).push { cls := .type "enumerate", data := .fields #[.none, .bool false, .ref s.heap.objs.size, rawInt 0, .none, .none] } }) := by
  refine .of_wp fun prog w A R s h => ?_
  obtain ⟨hp, g, d, tk, os⟩ := s
  obtain ⟨hl, h⟩ := h
  have hsub := sub_enumerate
  have hL : Heap.IsTuple (Shared.heap ⟨hp, g, d, tk, os⟩) l its := ⟨_, hl, rfl, n, rfl⟩
  wp_walk using AutoSeq1.wpAny_loadPart' hl
  refine wpAny_stack_any fun st => wpAny_pure ?_
  split
  · rename_i c _ _ _ _ _
    cases (c == Value.type "enumerate") <;> (wp_walk using AutoSeq1.wpAny_loadPart' hl, wpAny_pyIter_tuple hL; exact ⟨_, rfl, h⟩)
  · wp_walk using AutoSeq1.wpAny_loadPart' hl, wpAny_pyIter_tuple hL
    exact ⟨_, rfl, h⟩
theorem call_enumT {prog : Program} {w : World} {A : Around} {E : Value → Shared → Prop} {s : Shared} {l : Addr} {its : Array Value} {Q : Value → Shared → Prop} (hL : s.heap.IsTuple l its)
    (h : ∀ h', IsEnum h' (s.heap.objs.size + 1) s.heap.objs.size 0 .none → h'.IsTupleIter s.heap.objs.size l 0 → (∀ b o, s.heap.get? b = some o → h'.get? b = some o) → Q (.ref (s.heap.objs.size + 1)) { s with heap := h' }) :
    wpAny (model prog w) A (call (.type "enumerate") [.ref l]) Q E s := by
  obtain ⟨⟨c, dct, dt, sl⟩, hl, hc, n, hd⟩ := hL
  have hc' : c = .type "tuple" := hc
  have hd' : dt = .seq its n := hd
  subst hc' hd'
  refine callType_new F.called_enumerate (by decide) (F.typeCall_enumerate_1 _) (F.newCall_enumerate_1 _) (fun obj => F.args_object_init_2 obj _) F.entry_enumerate_new (meets_enumT l its n dct sl) ⟨hl, ?_⟩
  have hz : (s.heap.push { cls := .type "tuple_iterator", data := .fields #[.ref l, .int 0 0] }).objs.size = s.heap.objs.size + 1 := Heap.size_push ..
  show _ ∧ _
  rw [hz]
  have he : IsEnum ((s.heap.push { cls := .type "tuple_iterator", data := .fields #[.ref l, .int 0 0] }).push { cls := .type "enumerate", data := .fields #[.none, .bool false, .ref s.heap.objs.size, rawInt 0, .none, .none] }) (s.heap.objs.size + 1) s.heap.objs.size 0 .none := by
    have q := Heap.get?_push_size (s.heap.push { cls := .type "tuple_iterator", data := .fields #[.ref l, .int 0 0] }) (o := { cls := .type "enumerate", data := .fields #[.none, .bool false, .ref s.heap.objs.size, rawInt 0, .none, .none] }) rfl
    rw [hz] at q
    exact q
  exact ⟨⟨_, he, rfl⟩, h _ he ⟨_, Heap.get?_push_of_some _ (Heap.get?_push_size _ rfl), rfl, rfl⟩ fun b o x => Heap.get?_push_of_some _ (Heap.get?_push_of_some _ x)⟩
theorem turn_enT {P : Program} {w : World} {K : PySem.W.Frag} {elts : List Expr} {kk : Nat} {tpos : Pos} (e it a : Addr) (xs : List V) :
    Turn P w K (.Tuple elts kk tpos) (Iten (fun H => SqT K H a xs) xs.length fun i v => xs[i]? = some v) [e, it] e (fun i h => (∃ old, IsEnum h e it ((i : Nat) : Int) old) ∧ h.IsTupleIter it a i ∧ e ≠ it ∧ a ≠ it ∧ a ≠ e) where
  mem := by simp
  obj := fun i h st b hb => by
    obtain ⟨⟨old, he⟩, ⟨o, ho, hc, hd⟩, _⟩ := st
    rcases List.mem_cons.mp hb with z | z
    · rw [z]; exact ⟨_, he, fun v q => nomatch q⟩
    · rw [List.mem_singleton.mp z]; exact ⟨o, ho, fun v q => by rw [hd] at q; cases q⟩
  keep := fun i h h' st k => by
    obtain ⟨⟨old, he⟩, hi, hne⟩ := st
    exact ⟨⟨old, k e (by simp) _ he⟩, hi.at fun o q => k it (by simp) o q, hne⟩
  item := by
    intro X hP hw hK hc i pins s σ H E I hf st hg
    subst hP hw hK
    obtain ⟨⟨old, he⟩, hit, hne, hai, hae⟩ := st
    obtain ⟨its, rv, p, hz⟩ := I.tuple hg.1
    have hsz : its.toArray.size = xs.length := by rw [List.size_toArray, rv.length]
    refine enum_turn I hf (Draws.tuple (A := X.A.in1) (I.ok.hd hc) it a hai its.toArray) he ⟨hit, p⟩ (by rw [hsz]; exact hg.2) hne (by simp [hne, hae.symm]) fun T u h'' tk nT hR he2 hst2 hI => ?_
    obtain ⟨y, hy⟩ : ∃ y, xs[i]? = some y := ⟨_, List.getElem?_eq_getElem hg.2⟩
    obtain ⟨u2, hu2, ru⟩ := rv.get hy
    have eu : u2 = u := by
      have q : its[i]? = some u := by simpa using hR
      rw [hu2] at q
      exact Option.some.inj q
    subst eu
    obtain ⟨I2, fr⟩ := hI y ru
    exact ⟨.ref T, _, I2, rfl, ⟨T, _, rfl, nT, rfl, hy⟩, ⟨he2, hst2.1, hne, hai, hae⟩, fr⟩
  done := by
    intro X hP hw hK hc i pins s σ H E I hf st hg
    subst hP hw hK
    obtain ⟨⟨old, he⟩, hit, hne, hai, hae⟩ := st
    obtain ⟨f0, f1, f2, f3, f4, f5⟩ := hf it (by simp)
    obtain ⟨its, rv, p, hz⟩ := I.tuple hg.1
    have hsz : its.toArray.size = xs.length := by rw [List.size_toArray, rv.length]
    have hn : i = its.toArray.size := by rw [hsz]; exact hg.2
    subst hn
    exact wpAny_pyNext_enum_endD (Draws.tuple (A := X.A.in1) (I.ok.hd hc) it a hai its.toArray) he ⟨hit, p⟩ fun h' eb => ⟨rfl, I.turned (t' := s.toks) (fun b o hb q => eb b o hb q) f0 f1 f3 f4 f5⟩
  self := fun A i s Q E st h => by
    obtain ⟨⟨_, he⟩, _⟩ := st
    exact wpAny_pyIter_enum he h
def iEnT (K : PySem.W.Frag) (ta : TA) : TI := fun σ H R => ta σ H fun vs H1 => ∃ a xs, vs = [.ref a] ∧ SqT K H1 a xs ∧ R (Iten (fun H => SqT K H a xs) xs.length fun i v => xs[i]? = some v) H1
theorem pi_enT {X : Cx} {e : Expr} {ta : TA} {p pos tpos : Pos} {elts : List Expr} {kk : Nat} (hg : Gl X "enumerate") (hm : X.mg "enumerate" = none) (ha : PA X [e] ta) (hs : starEach [e] X.env = [(false, eval e X.env)] := by rfl) :
    PI X (.Tuple elts kk tpos) (.Call (.Name "enumerate" p) [e] [] pos) (iEnT X.K ta) := by
  refine ⟨fun pins s σ H R I h => ?_⟩
  refine Call_ (ld_blt I hg hm boot_enumerate (PyProof.Rows.callWith_type1 (thn (ha.run pos pins s σ H _ I h) fun us s1 ⟨vs, H1, I1, r1, q1⟩ => ?_) hs rfl))
  obtain ⟨a, xs, ex, hq, q⟩ := q1
  subst ex
  cases r1 with
  | cons r rr =>
    cases rr
    cases r
    obtain ⟨its, rv, p', hz⟩ := I1.tuple hq
    have hal : a < s1.heap.objs.size := p'.lt
    refine call_enumT p' fun h' he hit hk => wpAny_pyIter_enum he ?_
    have I2 : Inv X pins σ H1 { s1 with heap := h' } := I1.kept (t' := s1.toks) hk
    refine ⟨_, [s1.heap.objs.size + 1, s1.heap.objs.size], _, _, H1, rfl, I2, turn_enT _ s1.heap.objs.size a xs, ⟨⟨_, he⟩, hit, Nat.succ_ne_self _, Nat.ne_of_lt hal, Nat.ne_of_lt (Nat.lt_succ_of_lt hal)⟩, fun b hb => ?_, q⟩
    have hle : s1.heap.objs.size ≤ b := by
      rcases List.mem_cons.mp hb with z | z
      · rw [z]; exact Nat.le_add_right _ _
      · rw [List.mem_singleton.mp z]; exact Nat.le_refl _
    exact I1.fpOk hle (I1.hok.fresh hle)
/-- the walk of both -/
theorem walk_iten {G : Hp → Prop} {n : Nat} {R : Nat → V → Prop} : Walk (Iten G n R) n G (fun i H v H' => ∃ T x, v = .ref T ∧ H T = none ∧ H' = upd H T (.tup [.int ((i : Nat) : Int), x]) ∧ R i x) :=
  ⟨fun _ _ hi q => ⟨q, hi⟩, fun _ q => ⟨q, rfl⟩, fun _ _ _ _ _ _ y => y⟩
end Cw

set_option maxHeartbeats 4000000
/-! Rules of our own, third part: the lambda (len(other), other) called on a text; sorted(d, key=that) of a dict of texts. -/
namespace Cw
open PySem PySem.Spec PyProof.Rows L2

structure LamK (params : Arguments) (body : Expr) (scope : Scope) : Prop where
  bd : ∃ p1 p2 p3 p4 p5 kk, body = .Tuple [.Call (.Name "len" p1) [.Name "other" p2] [] p3, .Name "other" p4] kk p5
  kind : scope.kind = .function
  co : scope.isCoroutine = false
  gen : scope.isGenerator = false
  lo : scope.names.lookup ("other" : Str) = some NameKind.local
  gl : scope.names.lookup ("len" : Str) = some NameKind.globalImplicit
  cel : ∀ y ∈ scope.names, y.2 ≠ .cell
  fre : ∀ y ∈ scope.names, y.2 ≠ .free
  bind : ∀ (q : Str) (cl : List (Str × Addr)) (pm cv ctv v : Value), bindArgs (PySem.W.kla_fn "<lambda>" q params body scope cl pm cv ctv) ⟨[v], []⟩ = pure [(("other" : Str), v)]

theorem lam_key {prog : Program} {w : World} {A : Around} {s : Shared} {f c' : Addr} {q x : Str} {t : Tok} {params : Arguments} {body : Expr} {scope : Scope} {cl : List (Str × Addr)} {pm ctv : Value} {mg mb : Str → Option Value}
    (L : LamK params body scope) (ho : s.heap.get? f = some (PySem.W.kla_obj "<lambda>" q params body scope cl pm c' ctv)) (hcd : s.heap.CodeRec (.ref c') q) (hroom : A.depth < recursionLimit) (hg : s.heap.Ns mainGlobals mg) (hm : mg "len" = none)
    (hb : s.heap.Ns builtinsNs mb) (hbl : mb "len" = some (.builtin "len")) (lim : s.heap.NoLimit) (hz : x.length ≤ sizeLine) :
    wpAny (model prog w) A (call (.ref f) [.str x t]) (PySem.W.KeyPure (.tuple [.int (x.length : Int), .str x]) s) (fun _ _ => False) s := by
  obtain ⟨p1, p2, p3, p4, p5, kk, rfl⟩ := L.bd
  refine wpAny_call (PySem.W.kla_callFunE hroom ho rfl L.co L.gen rfl hcd ?_)
  rw [L.bind]
  refine wpAny_pure (wpAny_newFunctionEnv L.cel (fun y hy => ?_) (fun h₁ hns hsb => ⟨lim.fresh _ hsb, ?_⟩) L.kind)
  · rw [List.mem_singleton.mp hy]
    exact L.lo
  show codeAny _ _ (.expr _ (PySem.W.envX q scope s.heap.objs.size f (.ref c') cl)) _ _
  have kp : ∀ b o, s.heap.get? b = some o → h₁.get? b = some o := fun b o e => hsb.extBut b o (Nat.ne_of_lt (Heap.lt_size e)) (Heap.get?_push_of_some _ e)
  -- the frame's one name
  have nm : ∀ {s2 : Shared} {E : Value → Shared → Prop} {Q : Value → Shared → Prop} {A2 : Around} {pos : Pos}, (∀ b o, h₁.get? b = some o → s2.heap.get? b = some o) → Q (.str x t) s2 →
      wpAny (model prog w) A2 (eval (.Name "other" pos) (PySem.W.envX q scope s.heap.objs.size f (.ref c') cl)) Q E s2 := fun {s2 E Q A2 pos} k h =>
    wpAny_Name (wpAny_loadName_local (m := fun y => ([(("other" : Str), Value.str x t)] : List (Str × Value)).reverse.lookup y) L.kind L.lo (hns.keeps k) rfl h)
  have hline := line63
  refine PySem.W.kla_codeExpr (wpAny_Tuple_spliced ?_)
  show wpAny _ _ (spliced ((false, eval (.Call (.Name "len" p1) [.Name "other" p2] [] p3) (PySem.W.envX q scope s.heap.objs.size f (.ref c') cl)) :: backTo p5 (starEach [.Name "other" p4] (PySem.W.envX q scope s.heap.objs.size f (.ref c') cl)))) _ _ _
  refine Calls.spliced_cons ?_
  refine wpAny_Call_Name_kw (Calls.Name_function_global L.kind L.gl (Calls.loadGlobal_builtin (hg.keeps kp) hm (hb.keeps kp) hbl ?_))
  refine PyProof.Rows.callWith_builtin1 (Calls.spliced_cons (nm (fun _ _ e => e) (Calls.spliced_nil ?_)))
  refine len_str (by omega) ?_
  show wpAny _ _ (spliced ((false, eval (.Name "other" p4) (PySem.W.envX q scope s.heap.objs.size f (.ref c') cl)) :: backTo p5 (starEach [] (PySem.W.envX q scope s.heap.objs.size f (.ref c') cl)))) _ _ _
  refine Calls.spliced_cons (nm (fun _ _ e => e) (Calls.spliced_nil ⟨by show 2 ≤ sizeLine; decide, ?_⟩))
  refine ⟨_, _, rfl, fun b o e => Heap.get?_push_of_some _ (kp b o e), ?_⟩
  exact .tuple (Heap.get?_push_size _ rfl) rfl rfl (.cons (.int _ _) (.cons (.str _ _) .nil))
end Cw

set_option maxHeartbeats 4000000
/-! Rules of our own, fourth part: sorted(d, key=lambda other: (len(other), other)) of a dict of texts. -/
namespace Cw
open PySem PySem.Spec PyProof.Rows L2 LamX

/-- texts, item by item -/
theorem each_of_strs {us : List Value} {ks : List Str} (h : StrsAre us ks) : PySem.W.EachIs (fun (v : Value) (x : Str) => ∃ t, v = .str x t) us ks := by
  induction h with
  | nil => exact .nil
  | cons x t r ih => exact .cons ⟨t, rfl⟩ ih
theorem strs_of_each : ∀ {us : List Value} {ks : List Str}, PySem.W.EachIs (fun (v : Value) (x : Str) => ∃ t, v = .str x t) us ks → StrsAre us ks
  | _, _, .nil => .nil
  | _, _, .cons ⟨t, e⟩ r => by
    subst e
    exact .cons _ _ (strs_of_each r)
def keyD (x : Str) : PyData := .tuple [.int (x.length : Int), .str x]
theorem keyD_alike (ks : List Str) : PySem.W.AllAlike (ks.map keyD) := PySem.W.AllAlike.of fun b b' => by simp [keyD, PySem.W.alike, PySem.W.alikeAll]
theorem keyD_sort (ks : List Str) : PySem.W.Sortable (ks.map keyD) := PySem.W.Sortable.tuples fun b => ⟨_, _, rfl⟩
theorem keyD_depth (x : Str) : (keyD x).depth ≤ 8 := by simp [keyD, PyData.depth, PyData.depthAll]

/-- sorted(d, key=f) of a dict whose keys are the texts ks, f the lambda -/
theorem sorted_dict_key {X : Cx} {pins : List (Addr × Obj)} {σ : L2.St} {H : Hp} {s : Shared} {Q : VK} {d f : Addr} {kvs : List (Key × V)} {ks : List Str} {k : Nat} (hcalm : X.calm = true) (hr : Room k X.A) (I : Inv X pins σ H s) (hd : Rd H d (.dK kvs)) (hks : kvs.map (·.1) = ks.map Sum.inr)
    (hfn : ∀ (A : Around) (h : Heap) (tk : Nat) (x : Str) (t : Tok), A.depth < recursionLimit → x ∈ ks → (∀ b o, s.heap.get? b = some o → h.get? b = some o) →
      wpAny (model X.prog X.w) A (call (.ref f) [.str x t]) (PySem.W.KeyPure (keyD x) { s with heap := h, toks := tk }) (fun _ _ => False) { s with heap := h, toks := tk })
    (q : ∀ (ys : List Str) (p : Addr), ys.Perm ks → H p = none → Q (.ref p) (upd H p (.lst (ys.map V.str)))) :
    wpAny (model X.prog X.w) X.A (call (.builtin "sorted") [.ref d] [(Str.ofString "key", .ref f)]) (EP X pins σ Q) X.xe s := by
  obtain ⟨z, lo, vs, rel, dd⟩ := dk_rd I.hok hd
  obtain ⟨ep, hat⟩ := dd.dictAt
  have hkeys : vs.map (·.1) = ks.map Sum.inr := rel.keys.symm.trans hks
  have hl : vs.length = ks.length := by
    have e := congrArg List.length hkeys
    rw [List.length_map, List.length_map] at e
    exact e
  have hz : vs.length ≤ sizeLine := by rw [← rel.length]; exact z
  refine PyProof.Rows.call_function_entry_kw PyProof.Rows.kind_sorted PyProof.Rows.plain_sorted PyProof.Rows.entry_sorted (PyProof.Rows.ksk_s1 _ _) ?_
  unfold Builtin.«sorted»
  refine wpAny_bind (m := checkCount "sorted" 1 1 _) (wpAny_pure ?_)
  refine wpAny_bind (PySem.W.kdu_collect (A := X.A.in1) (PySem.W.kdl_dict (knd := mixKind X.prog X.w) (kvs := vs) (ep := ep) lo) (I.ok.hd hcalm) hat hz fun h' tk acc hk hacc => ?_)
  have hal : acc.toList.length = ks.length := by rw [Array.length_toList, hacc.1, hl]
  have hS : StrsAre acc.toList ks := L2.strs_at hal fun j v e => by
    obtain ⟨k, x, e1, e2⟩ := hacc.2 j v (by rw [← Array.getElem?_toList]; exact e)
    have e3 : (vs.map (·.1))[j]? = some k := by rw [List.getElem?_map, e1] <;> rfl
    rw [hkeys, List.getElem?_map] at e3
    cases e4 : ks[j]? with
    | none => rw [e4] at e3; cases e3
    | some y =>
      rw [e4] at e3
      have e5 : Sum.inr y = k := Option.some.inj e3
      subst e5
      obtain ⟨t, ev⟩ := Value.isStrOf_shape (x := y) (v := v) e2
      exact ⟨y, t, rfl, ev⟩
  have I1 : Inv X pins σ H { s with heap := h', toks := tk } := I.kept hk
  have hzk : acc.toList.length ≤ sizeLine := by rw [hal, ← hl]; exact hz
  refine wpAny_bind (wpAny_newList ?_ hzk)
  have hoL : (h'.push (seqObj "list" acc.toList.toArray 0)).get? h'.objs.size = some (seqObj "list" acc.toList.toArray 0) := Heap.get?_push_size _ rfl
  refine wpAny_bind (wpAny_holding (PySem.W.list_sort_key_data (A := X.A.in1) (s := { s with heap := h'.push (seqObj "list" acc.toList.toArray 0), toks := tk }) (b := false) (f := .ref f) keyD hoL (each_of_strs hS) (keyD_alike ks) (keyD_sort ks) (by rw [← hal]; exact hzk)
    (fun x _ => ?_) (PyProof.Rows.ksk_l1 _ _) (PyProof.Rows.ksk_t1 _ _) (fun v x hv hx h2 tk2 kp => ?_) fun out c h2 tk2 kp hat2 hlen ho => ?_))
  · have := hr.un
    have := keyD_depth x
    show X.A.units + 1 + 1 + (keyD x).depth < cLine
    omega
  · obtain ⟨t, rfl⟩ := hv
    refine hfn X.A.in1.in1 h2 tk2 x t hr.depth hx fun b o e => ?_
    have hb : b < h'.objs.size := Heap.lt_size (hk b o e)
    exact kp b o (Nat.ne_of_lt hb) (Heap.get?_push_of_some _ (hk b o e))
  · have hY := strs_of_each ho
    have hlen2 : ((ks.mergeSort (PySem.W.dataLe false keyD)).map V.str).length ≤ sizeLine := by
      rw [List.length_map, List.length_mergeSort, ← hal]
      exact hzk
    have e0 : out.toArray = (List.toArray out) := rfl
    refine wpAny_pure ⟨_, rfl, .ref h'.objs.size, upd H h'.objs.size (.lst ((ks.mergeSort (PySem.W.dataLe false keyD)).map V.str)), I1.laid (t' := tk2) (h' := h2) (fun b u e => ?_) (Nat.le_refl _) ⟨hlen2, out, c, vals_of_strs hY, hat2⟩, rfl, q _ _ (List.mergeSort_perm _ _) (I1.hok.fresh (Nat.le_refl _))⟩
    exact kp b u (Nat.ne_of_lt (Heap.lt_size e)) (Heap.get?_push_of_some _ e)

/-- what sorted(e, key=lambda other: (len(other), other)) asks: e is a dict of texts -/
def wSortLam (T : List (Addr × Str)) (Q : VK) (v : V) (H1 : Hp) : Prop := ∃ (d : Addr) (kvs : List (Key × V)) (ks : List Str), v = .ref d ∧ Rd H1 d (.dK kvs) ∧ kvs.map (·.1) = ks.map Sum.inr ∧ (∀ x ∈ ks, x.length ≤ sizeLine) ∧ Tabs T H1 ∧
  ∀ (H2 : Hp) (ys : List Str) (p : Addr), ExtN H1 H2 → Tabs T H2 → ys.Perm ks → H2 p = none → Q (.ref p) (upd H2 p (.lst (ys.map V.str)))
def tSortLam (T : List (Addr × Str)) (te : TE) : TE := fun σ H Q => te σ H fun v H1 => wSortLam T Q v H1
theorem pe_sortedLam {X : Cx} {T : List (Addr × Str)} {c P : Addr} {k : Nat} {e : Expr} {te : TE} {params : Arguments} {body : Expr} {scope : Scope} {p pos lpos kpos : Pos} (hg : Gl X "sorted") (hm : X.mg "sorted" = none) (hml : X.mg "len" = none) (he : PE X e te)
    (TB : TabB X.base X.mg c P) (hcode : X.env.code = .ref c) (hmT : (P, X.env.qual ++ "<lambda>") ∈ T) (hu : ∀ p ∈ T, p.1 = P → p.2 = X.env.qual ++ "<lambda>") (L : LamK params body scope) (hcalm : X.calm = true) (hr : Room k X.A)
    (hdef : defaultsOf params X.env = ([], [])) (hs : starEach [e] X.env = (false, eval e X.env) :: starEach [] X.env := by rfl) (hs2 : backTo pos (starEach [e] X.env) = (false, eval e X.env) :: backTo pos (starEach [] X.env) := by rfl) :
    PE X (.Call (.Name "sorted" p) [e] [⟨some "key", .Lambda params body scope lpos, kpos⟩] pos) (tSortLam T te) := by
  refine ⟨fun pins s σ H Q I h => ?_⟩
  refine wpAny_Call_Name_kw (ld_blt I hg hm (by decide +kernel : bootBuiltins "sorted" = some (.builtin "sorted")) ?_)
  refine PyProof.Rows.callWith_kw (thn ((pa_cons he pa_nil hs).run pos pins s σ H (fun vs H1 => match vs with | [v] => wSortLam T Q v H1 | _ => False) I h) fun us s1 ⟨vs, H1, I1, r1, q1⟩ => ?_) hs2 (by rw [hs2]; rfl) (by rfl) (by rfl)
  · obtain ⟨v, rfl⟩ : ∃ v, vs = [v] := by
      match vs, q1 with
      | [v], _ => exact ⟨v, rfl⟩
    obtain ⟨d, kvs, ks, rfl, hd, hks, hlen, hT, q⟩ := q1
    obtain rfl := Vals.ref1 r1
    show wpAny _ _ (evalAll ((do let v ← eval (.Lambda params body scope lpos) X.env; standAt pos; pure v) :: (backToKw pos (keywordEach [] X.env)).map (·.2))) _ _ s1
    have hfree : ∀ y ∈ scope.names, y.2 = .free → ∃ c, X.env.cells.lookup y.1 = some c := fun y hy e => absurd e (L.fre y hy)
    refine wpAny_evalAll_cons (wpAny_bind (lam_make2 I1 TB hcode hmT hu hT hdef hfree fun f c' pm ctv H2 s2 I2 eN T2 hf hfn hfr hco => wpAny_bind (wpAny_standAt (wpAny_pure ?_))))
    refine wpAny_evalAll_nil ?_
    show wpAny _ _ (call (.builtin "sorted") [.ref d] [(Str.ofString "key", .ref f)]) _ _ s2
    have hd2 : Rd H2 d (.dK kvs) := by
      rcases hd with hd | ⟨o, hd⟩
      · exact .inl (eN _ _ hd fun ps z => by cases z)
      · exact .inr ⟨o, eN _ _ hd fun ps z => by cases z⟩
    obtain ⟨⟨oc, vs, t, hoc, hdc, hvc⟩, _, _⟩ := I2.hok c' _ hco
    obtain ⟨mb, hb1, hb2⟩ := I2.mod.blt
    refine sorted_dict_key hcalm hr I2 hd2 hks (fun A h tk x t hA hx kp => ?_) fun ys p hp hn => q H2 ys p eN T2 hp hn
    have kpB : ∀ b o, X.base.get? b = some o → h.get? b = some o := fun b o e => kp b o (I2.bk b o e)
    exact lam_key (s := { s2 with heap := h, toks := tk }) (mg := X.mg) (mb := mb) L (kp _ _ hf) ⟨c', oc, vs, _, rfl, kp _ _ hoc, hdc, hvc⟩ hA (I2.mod.glob.keeps kpB) hml (hb1.keeps kpB) ((hb2 _ (by decide)).trans (by decide +kernel)) (I2.mod.nolimit.keeps kpB) (hlen x hx)
end Cw

set_option maxHeartbeats 4000000
/-! Rules of our own, fifth part: sorted(d) of a dict whose keys are pairs of whole numbers. -/
namespace Cw
open PySem PySem.Spec PyProof.Rows L2

def keyP (p : Int × Int) : List Key := [Sum.inl p.1, Sum.inl p.2]
def encP (p : Int × Int) : PyData := .tuple [.int p.1, .int p.2]
def leP (p q : Int × Int) : Bool := decide (p.1 < q.1 ∨ (p.1 = q.1 ∧ p.2 ≤ q.2))
def AtP (H : Hp) (v : Value) (p : Int × Int) : Prop := ∃ b, v = .ref b ∧ H b = some (.tup [.int p.1, .int p.2])
theorem each_keysT {H : Hp} : ∀ {kvs : List (List Key × V)} {ks : List (List Key × Addr × Value)} {ps : List (Int × Int)}, KT H kvs ks → kvs.map (·.1) = ps.map keyP → PySem.W.EachIs (AtP H) (ks.map fun x => Value.ref x.2.1) ps
  | _, _, [], .nil, _ => .nil
  | _, _, _ :: _, .nil, e => nomatch e
  | _, _, [], .cons _ _, e => nomatch e
  | _, _, p :: ps, .cons h t, e => by
    rw [List.map_cons, List.map_cons, List.cons.injEq] at e
    refine .cons ⟨_, rfl, ?_⟩ (each_keysT t e.2)
    rw [h.2.1, e.1]
    rfl
theorem paired_of_each {H : Hp} : ∀ {us : List Value} {ps : List (Int × Int)}, PySem.W.EachIs (AtP H) us ps → ∃ bs : List Addr, us = bs.map Value.ref ∧ Paired (fun (p : Int × Int) b => H b = some (.tup [.int p.1, .int p.2])) ps bs
  | _, _, .nil => ⟨[], rfl, .nil⟩
  | _, _, .cons ⟨b, e, h⟩ t => by
    obtain ⟨bs, e2, p⟩ := paired_of_each t
    exact ⟨b :: bs, by rw [e, e2]; rfl, .cons h p⟩
/-- sorted(d): d's keys, pairs of whole numbers, in order -/
def rSortedPairs : List V → Hp → VK → Prop := fun vs H Q => ∃ (d : Addr) (kvs : List (List Key × V)) (ps : List (Int × Int)), vs = [.ref d] ∧ H d = some (.dT kvs) ∧ kvs.map (·.1) = ps.map keyP ∧
  ∀ (l : Addr) (bs : List Addr), H l = none → Paired (fun (p : Int × Int) b => H b = some (.tup [.int p.1, .int p.2])) (ps.mergeSort leP) bs → Q (.ref l) (upd H l (.lst (bs.map V.ref)))
theorem call_sortedPairs {X : Cx} {k : Nat} (hc : X.calm = true) (hr : Room k X.A) : CallR X (.builtin "sorted") rSortedPairs := by
  intro pins s σ H xs us Q I r h
  obtain ⟨d, kvs, ps, rfl, hd, hks, q⟩ := h
  obtain rfl := Vals.ref1 r
  obtain ⟨z, hs, ks, pr, o, es, ep, ho, hx, hdt, he, hn⟩ := (show ObjOk X.prog X.w H s.heap d (.dT kvs) from I.hok d _ hd)
  have l1 : es.size = ks.length := size_of_entries he
  have l2 : kvs.length = ks.length := Paired.length pr
  have l3 : kvs.length = ps.length := by
    have e := congrArg List.length hks
    rw [List.length_map, List.length_map] at e
    exact e
  refine Calls.call_function_entry PyProof.Rows.kind_sorted PyProof.Rows.plain_sorted PyProof.Rows.entry_sorted (PyProof.Rows.args_sorted1 _) ?_
  unfold Builtin.«sorted»
  refine wpAny_bind (m := checkCount "sorted" 1 1 _) (wpAny_pure ?_)
  refine wpAny_bind (PySem.W.kdu_collect (A := X.A.in1) (kdl_raw hs hx hdt) (I.ok.hd hc) ho (by omega) fun h' tk acc hk hacc => ?_)
  have ea : acc.toList = ks.map fun x => Value.ref x.2.1 := by
    have hl : acc.toList.length = ks.length := by rw [Array.length_toList, hacc.1]; exact l1
    apply List.ext_getElem?
    intro j
    rw [List.getElem?_map]
    by_cases hj : j < ks.length
    · obtain ⟨v, hv⟩ : ∃ v, acc.toList[j]? = some v := ⟨_, List.getElem?_eq_getElem (by omega)⟩
      obtain ⟨en, hen, hv2⟩ := hacc.2 j v (by rw [← Array.getElem?_toList]; exact hv)
      have qe := entry_at he j
      rw [hen, List.getElem?_eq_getElem hj] at qe
      have e2 := Option.some.inj (show some en = some _ from qe)
      rw [hv, hv2, e2, List.getElem?_eq_getElem hj]
      rfl
    · rw [List.getElem?_eq_none (by omega), List.getElem?_eq_none (by omega)]
      rfl
  have hE : PySem.W.EachIs (AtP H) acc.toList ps := by
    rw [ea]
    exact each_keysT pr hks
  have I1 : Inv X pins σ H { s with heap := h', toks := tk } := I.kept hk
  have hzk : acc.toList.length ≤ sizeLine := by rw [ea, List.length_map]; omega
  refine wpAny_bind (wpAny_newList ?_ hzk)
  have hoL : (h'.push (seqObj "list" acc.toList.toArray 0)).get? h'.objs.size = some (seqObj "list" acc.toList.toArray 0) := Heap.get?_push_size _ rfl
  have hR : PySem.W.EachIs (fun v p => ∃ as, Reads (h'.push (seqObj "list" acc.toList.toArray 0)) v (encP p) as ∧ h'.objs.size ∉ as) acc.toList ps := hE.mono fun v p hv => by
    obtain ⟨b, rfl, hb⟩ := hv
    obtain ⟨_, its, rv, ob, hob, hcl, n, hdat⟩ := (show ObjOk X.prog X.w H h' b (.tup [.int p.1, .int p.2]) from I1.hok b _ hb)
    obtain ⟨u1, u2, rfl, ⟨t1, e1⟩, ⟨t2, e2⟩⟩ := vals2 rv
    subst e1 e2
    exact ⟨[], .tuple (Heap.get?_push_of_some _ hob) hcl hdat (.cons (.int _ _) (.cons (.int _ _) .nil)), by simp⟩
  refine wpAny_bind (wpAny_holding (PySem.W.list_sort_data (A := X.A.in1) (s := { s with heap := h'.push (seqObj "list" acc.toList.toArray 0), toks := tk }) (enc := encP) hoL hE hR (PySem.W.AllAlike.of fun b b' => by simp [encP, PySem.W.alike, PySem.W.alikeAll]) (PySem.W.Sortable.tuples fun b => ⟨_, _, rfl⟩) (by omega)
    (fun p _ => ?_) fun out hlen hout => ?_))
  · have := hr.un
    have hdp : (encP p).depth ≤ 8 := by simp [encP, PyData.depth, PyData.depthAll]
    show X.A.units + 1 + 1 + (encP p).depth < cLine
    omega
  · have ele : PySem.W.dataLe false encP = leP := PySem.W.dataLe_ii (fun p : Int × Int => p.1) (fun p : Int × Int => p.2)
    rw [ele] at hout
    obtain ⟨bs, e1, hP⟩ := paired_of_each hout
    obtain ⟨c, hat⟩ := PyProof.Rows.sortedHeap_at (vs := acc.toList) (out := out.toArray) hoL
    have hbl : (bs.map V.ref).length ≤ sizeLine := by
      have e := congrArg List.length e1
      rw [List.length_map] at e ⊢
      omega
    refine wpAny_pure ⟨_, rfl, .ref h'.objs.size, upd H h'.objs.size (.lst (bs.map V.ref)), I1.laid (t' := tk) (fun b u e => ?_) (Nat.le_refl _) ⟨hbl, out, c, by rw [e1]; exact vals_refs bs, hat⟩, rfl, q _ _ (I1.hok.fresh (Nat.le_refl _)) hP⟩
    have hb : b < h'.objs.size := Heap.lt_size e
    rw [PyProof.Rows.sortedHeap_old (Nat.ne_of_lt hb) (by rw [size_push']; exact Nat.lt_succ_of_lt hb)]
    exact Heap.get?_push_of_some _ e
end Cw

set_option maxHeartbeats 4000000
/-! The text by places, the scopes, and what the walks lean on. Printed by gen_text.py. -/
namespace Cw
open PySem PySem.Spec PyProof.Rows L2 LamX
def topOf (i : Nat) : Stmt := PySem.Challenge.pw_chumwords_k96_whole_least_way_bounds.main.body.getD i (.Pass ⟨0, 0, 0, 0⟩)
abbrev sWhole : Stmt := topOf 11
abbrev sWithin : Stmt := topOf 12
abbrev sNeedNumber : Stmt := topOf 13
abbrev sTupleOf : Stmt := topOf 14
abbrev sIsPair : Stmt := topOf 15
abbrev sNeedCompany : Stmt := topOf 16
abbrev sIsWord : Stmt := topOf 17
abbrev sNeedWord : Stmt := topOf 18
abbrev sNeedShort : Stmt := topOf 19
abbrev sLettersOf : Stmt := topOf 20
abbrev sFriendsOfAll : Stmt := topOf 21
abbrev sBits : Stmt := topOf 22
abbrev sCrossed : Stmt := topOf 23
abbrev sJoined : Stmt := topOf 24
abbrev sOuter : Stmt := topOf 25
abbrev sNeedBoth : Stmt := topOf 27
abbrev sKindOf : Stmt := topOf 28
abbrev sAreOne : Stmt := topOf 29
abbrev sNormalOf : Stmt := topOf 30
abbrev sFriendly : Stmt := topOf 33
abbrev sShorter : Stmt := topOf 34
abbrev sLonger : Stmt := topOf 35
abbrev sChanged : Stmt := topOf 36
abbrev sStepsOf : Stmt := topOf 37
abbrev sSpread : Stmt := topOf 38
abbrev sNeedSpread : Stmt := topOf 39
abbrev sWordsWithin : Stmt := topOf 40
abbrev sLeastSteps : Stmt := topOf 41
abbrev sLeastWay : Stmt := topOf 42
abbrev sChangedAt : Stmt := topOf 44
abbrev sCarry : Stmt := topOf 45
abbrev sFirstIll : Stmt := topOf 46
abbrev sOrdered : Stmt := topOf 47
abbrev sRelieveAll : Stmt := topOf 48
abbrev sFriendOf : Stmt := topOf 49
abbrev sRelieved : Stmt := topOf 50
abbrev sToNormal : Stmt := topOf 51
abbrev sNeedTwo : Stmt := topOf 52
abbrev sWay : Stmt := topOf 53
abbrev sLawTaken : Stmt := topOf 55
abbrev sLawCompany : Stmt := topOf 56
abbrev sLawPick : Stmt := topOf 57
abbrev sLawWord : Stmt := topOf 58
abbrev sLaw : Stmt := topOf 59
abbrev nWhole : List Str := ["value"]
theorem scWhole : FnScope nWhole ["value"] (defScope sWhole) := ⟨rfl, rfl, rfl, by decide +kernel, rfl, by decide +kernel, by decide +kernel⟩
abbrev nWithin : List Str := ["value", "low", "high"]
theorem scWithin : FnScope nWithin ["value", "low", "high"] (defScope sWithin) := ⟨rfl, rfl, rfl, by decide +kernel, rfl, by decide +kernel, by decide +kernel⟩
abbrev nNeedNumber : List Str := ["value", "low", "high"]
theorem scNeedNumber : FnScope nNeedNumber ["value", "low", "high"] (defScope sNeedNumber) := ⟨rfl, rfl, rfl, by decide +kernel, rfl, by decide +kernel, by decide +kernel⟩
abbrev nTupleOf : List Str := ["value", "low", "high"]
theorem scTupleOf : FnScope nTupleOf ["value", "low", "high"] (defScope sTupleOf) := ⟨rfl, rfl, rfl, by decide +kernel, rfl, by decide +kernel, by decide +kernel⟩
abbrev nIsPair : List Str := ["many", "value", "told"]
theorem scIsPair : FnScope nIsPair ["many", "value"] (defScope sIsPair) := ⟨rfl, rfl, rfl, by decide +kernel, rfl, by decide +kernel, by decide +kernel⟩
abbrev nNeedCompany : List Str := ["company", "many", "friends", "index", "pair", "letter"]
theorem scNeedCompany : FnScope nNeedCompany ["company"] (defScope sNeedCompany) := ⟨rfl, rfl, rfl, by decide +kernel, rfl, by decide +kernel, by decide +kernel⟩
abbrev nIsWord : List Str := ["company", "value", "most", "sign"]
theorem scIsWord : FnScope nIsWord ["company", "value", "most"] (defScope sIsWord) := ⟨rfl, rfl, rfl, by decide +kernel, rfl, by decide +kernel, by decide +kernel⟩
abbrev nNeedWord : List Str := ["company", "word"]
theorem scNeedWord : FnScope nNeedWord ["company", "word"] (defScope sNeedWord) := ⟨rfl, rfl, rfl, by decide +kernel, rfl, by decide +kernel, by decide +kernel⟩
abbrev nNeedShort : List Str := ["company", "word"]
theorem scNeedShort : FnScope nNeedShort ["company", "word"] (defScope sNeedShort) := ⟨rfl, rfl, rfl, by decide +kernel, rfl, by decide +kernel, by decide +kernel⟩
abbrev nLettersOf : List Str := ["mask", "at"]
theorem scLettersOf : FnScope nLettersOf ["mask"] (defScope sLettersOf) := ⟨rfl, rfl, rfl, by decide +kernel, rfl, by decide +kernel, by decide +kernel⟩
abbrev nFriendsOfAll : List Str := ["company", "found", "one", "other"]
theorem scFriendsOfAll : FnScope nFriendsOfAll ["company"] (defScope sFriendsOfAll) := ⟨rfl, rfl, rfl, by decide +kernel, rfl, by decide +kernel, by decide +kernel⟩
abbrev nBits : List Str := ["mask", "found"]
theorem scBits : FnScope nBits ["mask"] (defScope sBits) := ⟨rfl, rfl, rfl, by decide +kernel, rfl, by decide +kernel, by decide +kernel⟩
abbrev nCrossed : List Str := ["company", "one", "other", "first", "second"]
theorem scCrossed : FnScope nCrossed ["company", "one", "other"] (defScope sCrossed) := ⟨rfl, rfl, rfl, by decide +kernel, rfl, by decide +kernel, by decide +kernel⟩
abbrev nJoined : List Str := ["company", "one", "other", "sign"]
theorem scJoined : FnScope nJoined ["company", "one", "other"] (defScope sJoined) := ⟨rfl, rfl, rfl, by decide +kernel, rfl, by decide +kernel, by decide +kernel⟩
abbrev nOuter : List Str := ["pair"]
theorem scOuter : FnScope nOuter ["pair"] (defScope sOuter) := ⟨rfl, rfl, rfl, by decide +kernel, rfl, by decide +kernel, by decide +kernel⟩
abbrev nNeedBoth : List Str := ["company", "word"]
theorem scNeedBoth : FnScope nNeedBoth ["company", "word"] (defScope sNeedBoth) := ⟨rfl, rfl, rfl, by decide +kernel, rfl, by decide +kernel, by decide +kernel⟩
abbrev nKindOf : List Str := ["company", "word", "found", "sign"]
theorem scKindOf : FnScope nKindOf ["company", "word"] (defScope sKindOf) := ⟨rfl, rfl, rfl, by decide +kernel, rfl, by decide +kernel, by decide +kernel⟩
abbrev nAreOne : List Str := ["company", "one", "other"]
theorem scAreOne : FnScope nAreOne ["company", "one", "other"] (defScope sAreOne) := ⟨rfl, rfl, rfl, by decide +kernel, rfl, by decide +kernel, by decide +kernel⟩
abbrev nNormalOf : List Str := ["told"]
theorem scNormalOf : FnScope nNormalOf ["told"] (defScope sNormalOf) := ⟨rfl, rfl, rfl, by decide +kernel, rfl, by decide +kernel, by decide +kernel⟩
abbrev nFriendly : List Str := ["told", "one", "other"]
theorem scFriendly : FnScope nFriendly ["told", "one", "other"] (defScope sFriendly) := ⟨rfl, rfl, rfl, by decide +kernel, rfl, by decide +kernel, by decide +kernel⟩
abbrev nShorter : List Str := ["told", "word", "found", "at"]
theorem scShorter : FnScope nShorter ["told", "word"] (defScope sShorter) := ⟨rfl, rfl, rfl, by decide +kernel, rfl, by decide +kernel, by decide +kernel⟩
abbrev nLonger : List Str := ["told", "word", "found", "at", "sign", "other"]
theorem scLonger : FnScope nLonger ["told", "word"] (defScope sLonger) := ⟨rfl, rfl, rfl, by decide +kernel, rfl, by decide +kernel, by decide +kernel⟩
abbrev nChanged : List Str := ["told", "word", "found", "at", "one", "other", "sign"]
theorem scChanged : FnScope nChanged ["told", "word"] (defScope sChanged) := ⟨rfl, rfl, rfl, by decide +kernel, rfl, by decide +kernel, by decide +kernel⟩
abbrev nStepsOf : List Str := ["told", "word", "most", "some", "other"]
theorem scStepsOf : FnScope nStepsOf ["told", "word", "most"] (defScope sStepsOf) := ⟨rfl, rfl, rfl, by decide +kernel, rfl, by decide +kernel, by decide +kernel⟩
abbrev nSpread : List Str := ["told", "word", "most", "found", "rim", "later", "here", "other"]
theorem scSpread : FnScope nSpread ["told", "word", "most"] (defScope sSpread) := ⟨rfl, rfl, rfl, by decide +kernel, rfl, by decide +kernel, by decide +kernel⟩
abbrev nNeedSpread : List Str := ["company", "word", "most"]
theorem scNeedSpread : FnScope nNeedSpread ["company", "word", "most"] (defScope sNeedSpread) := ⟨rfl, rfl, rfl, by decide +kernel, rfl, by decide +kernel, by decide +kernel⟩
abbrev nWordsWithin : List Str := ["company", "word", "most"]
theorem scWordsWithin : FnScope nWordsWithin ["company", "word", "most"] (defScope sWordsWithin) := ⟨rfl, rfl, rfl, by decide +kernel, rfl, by decide +kernel, by decide +kernel⟩
abbrev nLeastSteps : List Str := ["company", "one", "other", "most"]
theorem scLeastSteps : FnScope nLeastSteps ["company", "one", "other", "most"] (defScope sLeastSteps) := ⟨rfl, rfl, rfl, by decide +kernel, rfl, by decide +kernel, by decide +kernel⟩
abbrev nLeastWay : List Str := ["company", "one", "other", "most", "told", "far", "found", "here", "word"]
theorem scLeastWay : FnScope nLeastWay ["company", "one", "other", "most"] (defScope sLeastWay) := ⟨rfl, rfl, rfl, by decide +kernel, rfl, by decide +kernel, by decide +kernel⟩
abbrev nChangedAt : List Str := ["found", "at", "size", "text", "word"]
theorem scChangedAt : FnScope nChangedAt ["found", "at", "size", "text"] (defScope sChangedAt) := ⟨rfl, rfl, rfl, by decide +kernel, rfl, by decide +kernel, by decide +kernel⟩
abbrev nCarry : List Str := ["found", "at", "end", "word"]
theorem scCarry : FnScope nCarry ["found", "at", "end"] (defScope sCarry) := ⟨rfl, rfl, rfl, by decide +kernel, rfl, by decide +kernel, by decide +kernel⟩
abbrev nFirstIll : List Str := ["told", "word", "size", "at"]
theorem scFirstIll : FnScope nFirstIll ["told", "word", "size"] (defScope sFirstIll) := ⟨rfl, rfl, rfl, by decide +kernel, rfl, by decide +kernel, by decide +kernel⟩
abbrev nOrdered : List Str := ["told", "found", "size", "word", "at"]
theorem scOrdered : FnScope nOrdered ["told", "found"] (defScope sOrdered) := ⟨rfl, rfl, rfl, by decide +kernel, rfl, by decide +kernel, by decide +kernel⟩
abbrev nRelieveAll : List Str := ["told", "found", "size"]
theorem scRelieveAll : FnScope nRelieveAll ["told", "found", "size"] (defScope sRelieveAll) := ⟨rfl, rfl, rfl, by decide +kernel, rfl, by decide +kernel, by decide +kernel⟩
abbrev nFriendOf : List Str := ["told", "sign", "other"]
theorem scFriendOf : FnScope nFriendOf ["told", "sign"] (defScope sFriendOf) := ⟨rfl, rfl, rfl, by decide +kernel, rfl, by decide +kernel, by decide +kernel⟩
abbrev nRelieved : List Str := ["told", "found", "at", "sign", "friend"]
theorem scRelieved : FnScope nRelieved ["told", "found", "at"] (defScope sRelieved) := ⟨rfl, rfl, rfl, by decide +kernel, rfl, by decide +kernel, by decide +kernel⟩
abbrev nToNormal : List Str := ["company", "word", "told", "found", "size"]
theorem scToNormal : FnScope nToNormal ["company", "word"] (defScope sToNormal) := ⟨rfl, rfl, rfl, by decide +kernel, rfl, by decide +kernel, by decide +kernel⟩
abbrev nNeedTwo : List Str := ["company", "one", "other"]
theorem scNeedTwo : FnScope nNeedTwo ["company", "one", "other"] (defScope sNeedTwo) := ⟨rfl, rfl, rfl, by decide +kernel, rfl, by decide +kernel, by decide +kernel⟩
abbrev nWay : List Str := ["company", "one", "other", "forth", "back"]
theorem scWay : FnScope nWay ["company", "one", "other"] (defScope sWay) := ⟨rfl, rfl, rfl, by decide +kernel, rfl, by decide +kernel, by decide +kernel⟩
abbrev nLawTaken : List Str := ["_law_row", "_law_many", "_law_found", "_law_cell"]
theorem scLawTaken : FnScope nLawTaken ["_law_row", "_law_many"] (defScope sLawTaken) := ⟨rfl, rfl, rfl, by decide +kernel, rfl, by decide +kernel, by decide +kernel⟩
abbrev nLawCompany : List Str := ["_law_row", "_law_most", "_law_many", "_law_pairs", "_law_at", "_law_turn", "_law_one", "_law_other"]
theorem scLawCompany : FnScope nLawCompany ["_law_row", "_law_most"] (defScope sLawCompany) := ⟨rfl, rfl, rfl, by decide +kernel, rfl, by decide +kernel, by decide +kernel⟩
abbrev nLawPick : List Str := ["_law_row", "_law_things"]
theorem scLawPick : FnScope nLawPick ["_law_row", "_law_things"] (defScope sLawPick) := ⟨rfl, rfl, rfl, by decide +kernel, rfl, by decide +kernel, by decide +kernel⟩
abbrev nLawWord : List Str := ["_law_row", "_law_company_here", "_law_most", "_law_at"]
theorem scLawWord : FnScope nLawWord ["_law_row", "_law_company_here", "_law_most"] (defScope sLawWord) := ⟨rfl, rfl, rfl, by decide +kernel, rfl, by decide +kernel, by decide +kernel⟩
abbrev nLaw : List Str := ["_law_script", "_law_row", "_law_company_here", "_law_one", "_law_room", "_law_other", "_law_first", "_law_second", "_law_third", "_law_path", "_law_some", "_law_more", "_law_step", "_law_told"]
theorem scLaw : FnScope nLaw ["_law_script"] (defScope sLaw) := ⟨rfl, rfl, rfl, by decide +kernel, rfl, by decide +kernel, by decide +kernel⟩
/-- a def of the text stands, its name is bound, its arguments bind plainly; its code object's place c is told -/
structure DefC (K : PySem.W.Frag) (mg : Str → Option Value) (x : Str) (st : Stmt) (ps : List Str) (f c : Addr) (fd : FuncData) : Prop where
  F : Fun K x x st f fd
  g : mg x = some (.ref f)
  b : Binds K fd ps []
  cd : ∃ (oc : Value) (od : Option Addr) (kV doc pm : Value) (an : Option Addr) (ct : Value) (osl : Array (Option Value)), fd = PySem.W.fnOf x x (defArgs st) (defBody st) (defScope st) .none kV doc pm an (.ref c) ct ∧ K.lookup f = some ⟨oc, od, .func fd, osl⟩ ∧ PySem.W.codeIn K (.ref c) x = true
def DefOf (K : PySem.W.Frag) (mg : Str → Option Value) (x : Str) (st : Stmt) (ps : List Str) : Prop := ∃ (f : Addr) (fd : FuncData), Fun K x x st f fd ∧ mg x = some (.ref f) ∧ Binds K fd ps []
/-- all that the text has left -/
structure Tx (K : PySem.W.Frag) (mg : Str → Option Value) : Prop where
  dWhole : DefOf K mg "whole" sWhole ["value"]
  dWithin : DefOf K mg "within" sWithin ["value", "low", "high"]
  dNeedNumber : DefOf K mg "need_number" sNeedNumber ["value", "low", "high"]
  dTupleOf : DefOf K mg "tuple_of" sTupleOf ["value", "low", "high"]
  dIsPair : DefOf K mg "is_pair" sIsPair ["many", "value"]
  dNeedCompany : DefOf K mg "need_company" sNeedCompany ["company"]
  dIsWord : DefOf K mg "is_word" sIsWord ["company", "value", "most"]
  dNeedWord : DefOf K mg "need_word" sNeedWord ["company", "word"]
  dNeedShort : DefOf K mg "need_short" sNeedShort ["company", "word"]
  dLettersOf : DefOf K mg "letters_of" sLettersOf ["mask"]
  dFriendsOfAll : DefOf K mg "friends_of_all" sFriendsOfAll ["company"]
  dBits : DefOf K mg "bits" sBits ["mask"]
  dCrossed : DefOf K mg "crossed" sCrossed ["company", "one", "other"]
  dJoined : DefOf K mg "joined" sJoined ["company", "one", "other"]
  dOuter : DefOf K mg "outer" sOuter ["pair"]
  dNeedBoth : DefOf K mg "need_both" sNeedBoth ["company", "word"]
  dKindOf : DefOf K mg "kind_of" sKindOf ["company", "word"]
  dAreOne : DefOf K mg "are_one" sAreOne ["company", "one", "other"]
  dNormalOf : DefOf K mg "normal_of" sNormalOf ["told"]
  dFriendly : DefOf K mg "friendly" sFriendly ["told", "one", "other"]
  dShorter : DefOf K mg "shorter" sShorter ["told", "word"]
  dLonger : DefOf K mg "longer" sLonger ["told", "word"]
  dChanged : DefOf K mg "changed" sChanged ["told", "word"]
  dSpread : DefOf K mg "spread" sSpread ["told", "word", "most"]
  dNeedSpread : DefOf K mg "need_spread" sNeedSpread ["company", "word", "most"]
  dLeastSteps : DefOf K mg "least_steps" sLeastSteps ["company", "one", "other", "most"]
  dLeastWay : DefOf K mg "least_way" sLeastWay ["company", "one", "other", "most"]
  dChangedAt : DefOf K mg "changed_at" sChangedAt ["found", "at", "size", "text"]
  dCarry : DefOf K mg "carry" sCarry ["found", "at", "end"]
  dFirstIll : DefOf K mg "first_ill" sFirstIll ["told", "word", "size"]
  dOrdered : DefOf K mg "ordered" sOrdered ["told", "found"]
  dRelieveAll : DefOf K mg "relieve_all" sRelieveAll ["told", "found", "size"]
  dFriendOf : DefOf K mg "friend_of" sFriendOf ["told", "sign"]
  dRelieved : DefOf K mg "relieved" sRelieved ["told", "found", "at"]
  dToNormal : DefOf K mg "to_normal" sToNormal ["company", "word"]
  dNeedTwo : DefOf K mg "need_two" sNeedTwo ["company", "one", "other"]
  dWay : DefOf K mg "way" sWay ["company", "one", "other"]
  dLawTaken : DefOf K mg "_law_taken" sLawTaken ["_law_row", "_law_many"]
  dLawCompany : DefOf K mg "_law_company" sLawCompany ["_law_row", "_law_most"]
  dLawPick : DefOf K mg "_law_pick" sLawPick ["_law_row", "_law_things"]
  dLawWord : DefOf K mg "_law_word" sLawWord ["_law_row", "_law_company_here", "_law_most"]
  z_isinstance : mg "isinstance" = none
  z_int : mg "int" = none
  z_bool : mg "bool" = none
  z_tuple : mg "tuple" = none
  z_len : mg "len" = none
  z_all : mg "all" = none
  z_any : mg "any" = none
  z_enumerate : mg "enumerate" = none
  z_range : mg "range" = none
  z_str : mg "str" = none
  z_sum : mg "sum" = none
  z_sorted : mg "sorted" = none
  z_max : mg "max" = none
  z_abs : mg "abs" = none
  z_min : mg "min" = none
  k_ALPHABET : ∃ t, mg "ALPHABET" = some (.str (Str.ofString "abcdefgh") t)
  k_MOST_LETTERS : ∃ t, mg "MOST_LETTERS" = some (.int 8 t)
  k_MOST_WORD : ∃ t, mg "MOST_WORD" = some (.int 60 t)
  k_SHORT_WORD : ∃ t, mg "SHORT_WORD" = some (.int 12 t)
  k_MOST_MET : ∃ t, mg "MOST_MET" = some (.int 4000 t)
end Cw

set_option maxHeartbeats 4000000
/-! The frame of the walks: promises bundled by name, comprehensions and loops by what they give, companies in the heap, texts as lists of codes. -/
namespace Cw
open PySem PySem.Spec PyProof.Rows L2 LamX

/-! ### promises -/
structure OkF (P : Program) (w : World) (K : PySem.W.Frag) (mg : Str → Option Value) (base : Heap) (k : Nat) (x : Str) (ps : List Str) (sp : Sp) : Prop where
  ex : ∃ (f : Addr) (fd : FuncData), FnOk P w K mg base CX0 k f fd ps sp ∧ mg x = some (.ref f) ∧ PySem.W.keepIn K (.ref f) = true ∧ Binds K fd ps []
theorem pe_c {X : Cx} {k : Nat} {x : Str} {ps : List Str} {sp : Sp} {e : Expr} {es : List Expr} {t : TA} {p pos : Pos} (G : OkF X.prog X.w X.K X.mg X.base k x ps sp) (hr : Room k X.A) (hg : Gl X x) (ha : PA X (e :: es) t)
    (hd : (x == ("__debug__" : Str)) = false := by decide) (he : starEach (e :: es) X.env = (false, eval e X.env) :: starEach es X.env := by rfl) (hpl : (backTo pos (starEach es X.env)).any (·.1) = false := by rfl) :
    PE X (.Call (.Name x p) (e :: es) [] pos) (tCall sp [] E0 t) := by
  obtain ⟨f, fd, F, g, kp, b⟩ := G.ex
  exact pe_call F hr hg g kp b .nil pass0 ha (hdb := hd) (he := he) (hpl := hpl)
section
variable {P : Program} {w : World} {K : PySem.W.Frag} {mg : Str → Option Value} {base : Heap}
theorem mkF {x : Str} {st : Stmt} {ps N : List Str} {k : Nat} {sp : Sp} (D : DefOf K mg x st ps) (S : FnScope N ps (defScope st)) (len : ∀ vs H Q E, sp vs H Q E → vs.length = ps.length)
    (hbody : ∀ (f : Addr) (cdv : Value) (A : Around) (outer : List Env) (s : Shared) (H : Hp) (vs : List V) (Q : VK) (E : XK), Room k (A.deeper (envOfC x (defScope st) s.heap.objs.size f cdv)) → sp vs H Q E →
      ∃ t, PSs (cxOf CX0 P w K mg base N x (defScope st) f cdv A outer s H E).nox (defBody st) t ∧ t { nx := fun _ H' => Q .non H', rt := Q } (start N vs) H) : OkF P w K mg base (k + 1) x ps sp := by
  obtain ⟨f, fd, F, g, b⟩ := D
  exact ⟨f, fd, F.ok S len (hbody f), g, F.kp, b⟩
theorem OkF.mono {x : Str} {ps : List Str} {j k : Nat} {sp : Sp} (G : OkF P w K mg base j x ps sp) (h : j ≤ k) : OkF P w K mg base k x ps sp := by
  obtain ⟨f, fd, F, r⟩ := G.ex
  exact ⟨f, fd, F.mono h, r⟩
end

/-! ### rules with the written part told (within a comprehension's block the context's own word for it does not go out) -/
section
variable {X : Cx} {K : PySem.W.Frag}
theorem ix_listK (hk : X.K = K := by rfl) : IxR X (rIxL K) := by subst hk; exact ix_list
theorem ix_tupK (hk : X.K = K := by rfl) : IxR X (rIxT K) := by subst hk; exact ix_tup
theorem cr_anyK (hc : X.calm = true := by rfl) (hk : X.K = K := by rfl) : CallR X (.builtin "any") (rAny K) := by subst hk; exact cr_any hc
theorem cr_allK (hc : X.calm = true := by rfl) (hk : X.K = K := by rfl) : CallR X (.builtin "all") (rAll K) := by subst hk; exact cr_all hc
theorem cr_sumK (hc : X.calm = true := by rfl) (hk : X.K = K := by rfl) : CallR X (.builtin "sum") (rSum K) := by subst hk; exact cr_sum hc
theorem cr_maxK (hc : X.calm = true := by rfl) (hk : X.K = K := by rfl) : CallR X (.builtin "max") (rMax K) := by subst hk; exact cr_max hc
theorem op_in_seqK (hk : X.K = K := by rfl) : OpR X (compareOp .In) (rIn K false) := by subst hk; exact op_in_seq
theorem op_notIn_seqK (hk : X.K = K := by rfl) : OpR X (compareOp .NotIn) (rIn K true) := by subst hk; exact op_notIn_seq
theorem op_eqDK (hu : X.A.units + 64 < cLine) (hk : X.K = K := by rfl) : OpR X (compareOp .Eq) (rEqD K) := by subst hk; exact op_eqD hu
theorem op_neDK (hu : X.A.units + 64 < cLine) (hk : X.K = K := by rfl) : OpR X (compareOp .NotEq) (rNeD K) := by subst hk; exact op_neD hu
theorem op_leTK (hu : X.A.units < cLine) (hk : X.K = K := by rfl) : OpR X (compareOp .LtE) (rLeT K) := by subst hk; exact op_leT hu
def rLenK (K : PySem.W.Frag) : List V → Hp → VK → Prop := fun xs H Q => ∃ p ys, xs = [.ref p] ∧ (SqL K H p ys ∨ SqT K H p ys) ∧ Q (.int ys.length) H
theorem call_len_seqK (hk : X.K = K := by rfl) : CallR X (.builtin "len") (rLenK K) := by subst hk; exact call_len_seq
def rTupK (K : PySem.W.Frag) : List V → Hp → VK → Prop := fun xs H Q => ∃ p ys, xs = [.ref p] ∧ ((SqL K H p ys ∧ ∀ l, H l = none → Q (.ref l) (upd H l (.tup ys))) ∨ (SqT K H p ys ∧ Q (.ref p) H))
theorem call_tuple_ofK (hk : X.K = K := by rfl) : CallR X (.type "tuple") (rTupK K) := by subst hk; exact call_tuple_of
theorem pi_listK {tg l : Expr} {tl : TE} (hl : PE X l tl) (hk : X.K = K := by rfl) : PI X tg l (iList K tl) := by subst hk; exact pi_list hl
theorem pi_tupK {tg l : Expr} {tl : TE} (hl : PE X l tl) (hk : X.K = K := by rfl) : PI X tg l (iTup K tl) := by subst hk; exact pi_tup hl
theorem pg_tupK {es : List Expr} {k : Nat} {t : TGs} {n : Nat} {pos : Pos} (hc : X.calm = true) (h : PGs X es t) (hn : (assignEach es X.env).length = n := by rfl) (hst : (assignEach es X.env).findIdx? (·.1) = none := by rfl) (hk : X.K = K := by rfl) :
    PG X (.Tuple es k pos) (gTup K n t) := by subst hk; exact pg_tup hc h hn hst
theorem sl_listK (hk : X.K = K := by rfl) : SlR X (rSlL K) := by subst hk; exact sl_list
theorem get_listK (hk : X.K = K := by rfl) : PGet X (rGetL K) := by subst hk; exact get_list
end

/-! ### heaps -/
theorem same_new {H : Hp} {p : Addr} {o : HO} (h : H p = none) : Same H (upd H p o) := fun b x e => by
  rw [upd_ne (ne_of_none e h)]
  exact e
/-- what H0 does not know may change -/
theorem same_mut {H0 H : Hp} {p : Addr} {o : HO} (s : Same H0 H) (h : H0 p = none) : Same H0 (upd H p o) := fun b x e => by
  rw [upd_ne (ne_of_none e h)]
  exact s _ _ e
theorem same_t {K : PySem.W.Frag} {H H' : Hp} {a : Addr} {xs : List V} (e : Same H H') (h : SqT K H a xs) : SqT K H' a xs := by
  rcases h with (h | ⟨o, h⟩) | h
  · exact .inl (.inl (e _ _ h))
  · exact .inl (.inr ⟨o, e _ _ h⟩)
  · exact .inr h

theorem bl_t {p : Prop} [Decidable p] (h : p) : V.bl (decide p) = .bl true := by rw [decide_eq_true h]
theorem bl_f {p : Prop} [Decidable p] (h : ¬ p) : V.bl (decide p) = .bl false := by rw [decide_eq_false h]
theorem bl_nt {p : Prop} [Decidable p] (h : p) : V.bl (!decide p) = .bl false := by rw [decide_eq_true h]; rfl
theorem bl_nf {p : Prop} [Decidable p] (h : ¬ p) : V.bl (!decide p) = .bl true := by rw [decide_eq_false h]; rfl
theorem q_t {Q : VK} {H : Hp} {p : Prop} [Decidable p] (h : p) (q : Q (.bl true) H) : Q (.bl (decide p)) H := by rw [decide_eq_true h]; exact q
theorem q_f {Q : VK} {H : Hp} {p : Prop} [Decidable p] (h : ¬ p) (q : Q (.bl false) H) : Q (.bl (decide p)) H := by rw [decide_eq_false h]; exact q
theorem lt_line {n : Nat} (h : n < 16000000) : n < sizeLine := Nat.lt_of_lt_of_le h (by decide)
theorem le_line {n : Nat} (h : n < 16000000) : n ≤ sizeLine := Nat.le_of_lt (lt_line h)

/-- a comprehension without a test -/
theorem yes_then {te : TE} {σ : L2.St} {H : Hp} {R : VK} {N : Hp → Prop} (h : te σ H R) : tYes σ H fun b H3 => if b = true then te σ H3 R else N H3 := by
  show (if true = true then te σ H R else N H)
  rw [if_pos rfl]
  exact h

/-- a test whose answer is known -/
theorem kT {A B : Hp → Prop} {H : Hp} (h : A H) : (fun (b : Bool) H1 => if b = true then A H1 else B H1) true H := by
  show (if true = true then A H else B H)
  rw [if_pos rfl]
  exact h
theorem kF {A B : Hp → Prop} {H : Hp} (h : B H) : (fun (b : Bool) H1 => if b = true then A H1 else B H1) false H := by
  show (if false = true then A H else B H)
  rw [if_neg Bool.false_ne_true]
  exact h

/-! ### comprehensions -/
theorem flat_succ {α : Type} (n : Nat) (f : Nat → List α) : (List.range (n + 1)).flatMap f = (List.range n).flatMap f ++ f n := by
  rw [List.range_succ, List.flatMap_append]
  simp
theorem flat_le {α : Type} (f : Nat → List α) {c : Nat} (n : Nat) (h : ∀ i, i < n → (f i).length ≤ c) : ((List.range n).flatMap f).length ≤ n * c := by
  induction n with
  | zero => simp
  | succ n ih =>
    rw [flat_succ, List.length_append, Nat.succ_mul]
    have := ih fun i hi => h i (by omega)
    have := h n (by omega)
    omega
/-- a comprehension whose turns change nothing that is known: turn i brings out i -/
theorem lc_pure {J : It} {n : Nat} {G : Hp → Prop} {Y : Nat → Hp → V → Hp → Prop} (w : Walk J n G Y) {g : TG} {tt : TT} {te : TE} {vs : List Nat} {σ : L2.St} {H1 : Hp} {D : Addr} {Qd : Hp → Prop} (out : Nat → List V) (hD : H1 D = none) (hn : ∀ i, i < n → ((List.range i).flatMap out).length < sizeLine)
    (hG : ∀ H, Same H1 H → G H)
    (hs : ∀ (i : Nat) (x : V) (H H' : Hp), i < n → Same H1 H → Y i H x H' → ∀ (R : V → Hp → Prop) (N : Hp → Prop), (∀ y H4, Same H H4 → out i = [y] → R y H4) → (∀ H4, Same H H4 → out i = [] → N H4) →
      g x (wipe σ vs) H' fun σ2 H2 => wipe σ2 vs = wipe σ vs ∧ tt σ2 H2 fun b H3 => if b = true then te σ2 H3 R else N H3)
    (hd : ∀ H', Same H1 H' → H' D = some (.lst ((List.range n).flatMap out)) → Qd H') :
    ∃ W : Nat → Nat → Hp → Prop, (∃ m, W 0 m (upd H1 D (.lst []))) ∧ ∀ i m H, W i m H →
      (J.stop i H ∧ Qd H) ∨ (J.go i H ∧ ∃ Nx : Hp → Prop, (∀ H', Nx H' → ∃ m', m' < m ∧ W (i + 1) m' H') ∧ ∀ x H', J.yld i H x H' → g x (wipe σ vs) H' fun σ2 H2 => wipe σ2 vs = wipe σ vs ∧ tt σ2 H2 fun b H3 =>
        if b = true then te σ2 H3 fun y H4 => ∃ acc, H4 D = some (.lst acc) ∧ acc.length < sizeLine ∧ Nx (upd H4 D (.lst (acc ++ [y]))) else Nx H3) := by
  refine lc_it w (fun i H => Same H1 H ∧ H D = some (.lst ((List.range i).flatMap out))) ⟨same_new hD, by rw [upd_same]; simp⟩ (fun i H _ p => hG H p.1) (fun i x H H' hi p y => ?_) (fun H p => hd H p.1 p.2)
  refine hs i x H H' hi p.1 y (fun y H4 => ∃ acc, H4 D = some (.lst acc) ∧ acc.length < sizeLine ∧ Same H1 (upd H4 D (.lst (acc ++ [y]))) ∧ (upd H4 D (.lst (acc ++ [y]))) D = some (.lst ((List.range (i + 1)).flatMap out))) (fun H4 => Same H1 H4 ∧ H4 D = some (.lst ((List.range (i + 1)).flatMap out))) (fun y H4 s4 e => ?_) fun H4 s4 e => ?_
  · exact ⟨_, s4 _ _ p.2, hn i hi, same_mut (p.1.trans s4) hD, by rw [upd_same, flat_succ, e]⟩
  · exact ⟨p.1.trans s4, by rw [flat_succ, e, List.append_nil]; exact s4 _ _ p.2⟩

/-! ### texts -/
/-- the text of some codes -/
def S (w : Wd) : Str := ⟨w.toArray⟩
theorem S_len (w : Wd) : (S w).length = w.length := by simp [S, Str.length]
theorem S_app (u v : Wd) : S u ++ S v = S (u ++ v) := by
  apply TL.ext_tl
  rw [TL.tl_append]
  rfl
theorem S_inj {u v : Wd} (h : S u = S v) : u = v := by
  have e := congrArg (fun x : Str => x.cps.toList) h
  simpa [S] using e
theorem S_eq {u v : Wd} : S u = S v ↔ u = v := ⟨S_inj, fun h => by rw [h]⟩
theorem S_tl (w : Wd) : (S w).cps.toList = w := rfl
theorem S_size (w : Wd) : (S w).cps.size = w.length := by simp [S]
/-- [i:j] -/
theorem cut_nat (w : Wd) (i j : Nat) : cutS (S w) (some (i : Int)) (some (j : Int)) = S ((w.take j).drop i) := by
  apply TL.ext_tl
  show ((w.drop (HT.sIx (S w).length 0 (some (i : Int)))).take (HT.sIx (S w).length (S w).length (some (j : Int)) - HT.sIx (S w).length 0 (some (i : Int)))) = (w.take j).drop i
  rw [HT.sIx_nat, HT.sIx_nat, S_len, ← List.drop_take]
  by_cases hi : i ≤ w.length
  · rw [Nat.min_eq_left hi]
    by_cases hj : j ≤ w.length
    · rw [Nat.min_eq_left hj]
    · rw [Nat.min_eq_right (by omega), List.take_of_length_le (Nat.le_refl _), List.take_of_length_le (by omega)]
  · rw [Nat.min_eq_right (by omega)]
    rw [List.drop_eq_nil_of_le (by rw [List.length_take]; omega), List.drop_eq_nil_of_le (by rw [List.length_take]; omega)]
theorem cut_to (w : Wd) (j : Nat) : cutS (S w) none (some (j : Int)) = S (w.take j) := by
  apply TL.ext_tl
  show ((w.drop (HT.sIx (S w).length 0 none)).take (HT.sIx (S w).length (S w).length (some (j : Int)) - HT.sIx (S w).length 0 none)) = w.take j
  rw [HT.sIx_nat, HT.sIx_none, S_len, List.drop_zero, Nat.sub_zero]
  by_cases hj : j ≤ w.length
  · rw [Nat.min_eq_left hj]
  · rw [Nat.min_eq_right (by omega), List.take_of_length_le (Nat.le_refl _), List.take_of_length_le (by omega)]
theorem cut_from (w : Wd) (i : Nat) : cutS (S w) (some (i : Int)) none = S (w.drop i) := by
  apply TL.ext_tl
  show ((w.drop (HT.sIx (S w).length 0 (some (i : Int)))).take (HT.sIx (S w).length (S w).length none - HT.sIx (S w).length 0 (some (i : Int)))) = w.drop i
  rw [HT.sIx_nat, HT.sIx_none, S_len]
  by_cases hi : i ≤ w.length
  · rw [Nat.min_eq_left hi, List.take_of_length_le (by rw [List.length_drop]; omega)]
  · rw [Nat.min_eq_right (by omega), List.drop_eq_nil_of_le (Nat.le_refl _), List.drop_eq_nil_of_le (by omega), List.take_nil]
theorem rep_S (w : Wd) (n : Nat) : repS (S w) n = S (List.replicate n w).flatten := rfl
theorem at_S {w : Wd} {i : Nat} (h : i < w.length) : atI (S w).cps.toList (i : Int) = some (w.getD i 0) := by
  refine atI_nat ?_
  show w[i]? = some (w.getD i 0)
  rw [List.getD_eq_getElem?_getD, List.getElem?_eq_getElem h]
  rfl
/-- the sign c -/
abbrev sg (c : Nat) : Str := ⟨#[c]⟩
theorem sg_S (c : Nat) : sg c = S [c] := rfl
def ALPH : Str := Str.ofString "abcdefgh"
theorem ALPH_S : ALPH = S [97, 98, 99, 100, 101, 102, 103, 104] := by
  apply TL.ext_tl
  decide +kernel
theorem ALPH_take {k : Nat} (h : k ≤ 8) : S ([97, 98, 99, 100, 101, 102, 103, 104].take k) = S (alph k) := by
  have e : k = 0 ∨ k = 1 ∨ k = 2 ∨ k = 3 ∨ k = 4 ∨ k = 5 ∨ k = 6 ∨ k = 7 ∨ k = 8 := by omega
  rcases e with e | e | e | e | e | e | e | e | e <;> subst e <;> rfl
/-- ALPHABET.index(c) -/
def rIndexA : V → List V → Hp → VK → Prop := fun x xs H Q => ∃ c : Nat, x = .str ALPH ∧ xs = [.str (sg c)] ∧ 97 ≤ c ∧ c < 105 ∧ Q (.int ((c - 97 : Nat) : Int)) H
theorem mt_indexA {X : Cx} : MtR X "str.index" rIndexA := by
  intro pins s σ H x xs v us Q I rx rs h
  obtain ⟨c, rfl, rfl, h1, h2, q⟩ := h
  obtain ⟨t, rfl⟩ := rx
  obtain ⟨u1, rfl, ⟨u, rfl⟩⟩ := vals1 rs
  have e : Builtin.Str.occurrences ALPH (sg c) 0 ALPH.length 1 = [c - 97] := by
    have hc : c = 97 ∨ c = 98 ∨ c = 99 ∨ c = 100 ∨ c = 101 ∨ c = 102 ∨ c = 103 ∨ c = 104 := by omega
    rcases hc with e | e | e | e | e | e | e | e <;> subst e <;> decide +kernel
  exact PySem.SC.index e ⟨.int ((c - 97 : Nat) : Int), H, I.tok _, ⟨_, rfl⟩, q⟩

/-! ### companies in the heap -/
structure Co where
  many : Nat
  prs : List (Nat × Nat)
  told : List Nat
  deriving DecidableEq
def PrAt (H : Hp) (p : Nat × Nat) (b : Addr) : Prop := H b = some (.tup [.int (p.1 : Int), .int (p.2 : Int)])
def CoAt (H : Hp) (a : Addr) (c : Co) : Prop := ∃ (t : Addr) (bs : List Addr), H a = some (.tup [.int (c.many : Int), .ref t]) ∧ H t = some (.tup (bs.map V.ref)) ∧ Paired (PrAt H) c.prs bs
theorem CoAt.mono {H H' : Hp} {a : Addr} {c : Co} (h : CoAt H a c) (s : Same H H') : CoAt H' a c := by
  obtain ⟨t, bs, h1, h2, h3⟩ := h
  exact ⟨t, bs, s _ _ h1, s _ _ h2, Paired.mapP h3 fun p b e => s _ _ e⟩
/-- what makes it a company -/
structure CoOk (c : Co) : Prop where
  m2 : 2 ≤ c.many
  m8 : c.many ≤ 8
  l1 : 1 ≤ c.prs.length
  l28 : c.prs.length ≤ 28
  pr : ∀ p ∈ c.prs, p.1 < p.2 ∧ p.2 < c.many
  asc : ∀ (i : Nat) (p q : Nat × Nat), c.prs[i]? = some p → c.prs[i + 1]? = some q → p.1 < q.1 ∨ (p.1 = q.1 ∧ p.2 < q.2)
  cov : ∀ l, l < c.many → ∃ p ∈ c.prs, p.1 = l ∨ p.2 = l
theorem CoAt.pair {H : Hp} {prs : List (Nat × Nat)} {bs : List Addr} (h : Paired (PrAt H) prs bs) : ∀ {i : Nat} {b : Addr}, bs[i]? = some b → ∃ p, prs[i]? = some p ∧ PrAt H p b := by
  induction h with
  | nil => intro i b e; simp at e
  | cons r t ih =>
    intro i b e
    cases i with
    | zero =>
      have e' : _ = b := Option.some.inj e
      subst e'
      exact ⟨_, rfl, r⟩
    | succ i => exact ih (by simpa using e)
theorem CoAt.lens {H : Hp} {prs : List (Nat × Nat)} {bs : List Addr} (h : Paired (PrAt H) prs bs) : prs.length = bs.length := Paired.length h
theorem flat_bl (n : Nat) (b : Nat → Bool) : (List.range n).flatMap (fun i => [V.bl (b i)]) = ((List.range n).map b).map V.bl := by
  induction n with
  | zero => rfl
  | succ n ih => rw [flat_succ, ih, List.range_succ, List.map_append, List.map_append]; rfl
theorem flat_one {α : Type} (n : Nat) (f : Nat → α) : (List.range n).flatMap (fun i => [f i]) = (List.range n).map f := by
  induction n with
  | zero => rfl
  | succ n ih => rw [flat_succ, ih, List.range_succ, List.map_append]; rfl
/-- a turn brings one item at most -/
theorem flat_lt {α : Type} (f : Nat → List α) {c n : Nat} (h : ∀ i, (f i).length ≤ c) (hn : n * c < 16000000) : ((List.range n).flatMap f).length < sizeLine :=
  lt_line (Nat.lt_of_le_of_lt (flat_le f n fun i _ => h i) hn)
theorem le_two (p q : Nat × Nat) : Ob.lexAt (fun j => decide (([(p.1 : Int), (p.2 : Int)] : List Int).getD j 0 = ([(q.1 : Int), (q.2 : Int)] : List Int).getD j 0)) (fun j => decide (([(p.1 : Int), (p.2 : Int)] : List Int).getD j 0 ≤ ([(q.1 : Int), (q.2 : Int)] : List Int).getD j 0))
    (decide (([(p.1 : Int), (p.2 : Int)] : List Int).length ≤ ([(q.1 : Int), (q.2 : Int)] : List Int).length)) 0 (min ([(p.1 : Int), (p.2 : Int)] : List Int).length ([(q.1 : Int), (q.2 : Int)] : List Int).length) = decide (p.1 < q.1 ∨ (p.1 = q.1 ∧ p.2 ≤ q.2)) := by
  show Ob.lexAt _ _ _ 0 2 = _
  rw [Ob.lexAt_succ, Ob.lexAt_succ, Ob.lexAt_zero]
  simp only [decide_eq_true_eq, List.getD_cons_zero, List.getD_cons_succ, Int.natCast_inj, Int.ofNat_le]
  by_cases h1 : p.1 = q.1
  · by_cases h2 : p.2 = q.2
    · simp [h1, h2]
    · simp [h1, h2]
  · simp only [h1, if_false, false_and, or_false, decide_eq_decide]
    omega
def TdAt (H : Hp) (a : Addr) (t : List Nat) : Prop := H a = some (.lst (t.map fun (n : Nat) => V.int (n : Int)))
end Cw

set_option maxHeartbeats 4000000
/-! The walks of checks.py, first half. -/
namespace Cw
open PySem PySem.Spec PyProof.Rows L2 LamX
section
variable {P : Program} {w : World} {K : PySem.W.Frag} {mg : Str → Option Value} {base : Heap}

def spWhole : Sp := fun vs H Q _ => ∃ i : Int, vs = [.int i] ∧ Q (.bl true) H
theorem okWhole (T : Tx K mg) : OkF P w K mg base 1 "whole" ["value"] spWhole := by
  refine mkF T.dWhole scWhole (fun vs H Q E h => ?_) fun f cdv A outer s H vs Q E hr h => ?_
  · obtain ⟨i, rfl, _⟩ := h
    rfl
  · obtain ⟨i, rfl, q⟩ := h
    refine ⟨_, pss_one (ps_ret (pe_and (pe_callB call_isi (by rfl) T.z_isinstance (by decide +kernel) (pa_cons (pv 0) (pa_cons (pe_bltn (by rfl) T.z_int (by decide +kernel : bootBuiltins "int" = some (.type "int")) (v := .ty "int") rfl) pa_nil)))
      (pe_one (pe_not (pe_callB call_isi (by rfl) T.z_isinstance (by decide +kernel) (pa_cons (pv 0) (pa_cons (pe_bltn (by rfl) T.z_bool (by decide +kernel : bootBuiltins "bool" = some (.type "bool")) (v := .ty "bool") rfl) pa_nil))))))), ?_⟩
    refine ⟨_, rfl, _, _, _, _, true, rfl, .ty "int", .base (.int i), kit_ty (by decide +kernel), true, rfl, ?_⟩
    refine iteT ⟨_, rfl, _, _, _, _, false, rfl, .ty "bool", .base (.int i), kit_ty (by decide +kernel), false, rfl, q⟩

def spWithin : Sp := fun vs H Q _ => ∃ i lo hi : Int, vs = [.int i, .int lo, .int hi] ∧ lo ≤ i ∧ i ≤ hi ∧ Q (.bl true) H
theorem okWithin (T : Tx K mg) : OkF P w K mg base 2 "within" ["value", "low", "high"] spWithin := by
  refine mkF T.dWithin scWithin (fun vs H Q E h => ?_) fun f cdv A outer s H vs Q E hr h => ?_
  · obtain ⟨i, lo, hi, rfl, _⟩ := h
    rfl
  · obtain ⟨i, lo, hi, rfl, h1, h2, q⟩ := h
    refine ⟨_, pss_one (ps_ret (pe_and (pe_c (okWhole T) hr (by rfl) (pa_cons (pv 0) pa_nil)) (pe_one (pe_chain op_le op_le (pv 1) (pv 0) (pv 2))))), ?_⟩
    refine ⟨_, rfl, i, rfl, true, rfl, iteT ⟨_, rfl, _, rfl, _, _, rfl, rfl, true, bl_t h1, iteT ⟨_, rfl, _, _, rfl, rfl, q_t h2 q⟩⟩⟩

def spNeedNumber : Sp := fun vs H Q _ => ∃ i lo hi : Int, vs = [.int i, .int lo, .int hi] ∧ lo ≤ i ∧ i ≤ hi ∧ Q .non H
theorem okNeedNumber (T : Tx K mg) : OkF P w K mg base 3 "need_number" ["value", "low", "high"] spNeedNumber := by
  refine mkF T.dNeedNumber scNeedNumber (fun vs H Q E h => ?_) fun f cdv A outer s H vs Q E hr h => ?_
  · obtain ⟨i, lo, hi, rfl, _⟩ := h
    rfl
  · obtain ⟨i, lo, hi, rfl, h1, h2, q⟩ := h
    refine ⟨_, pss_one (ps_if (pt_not (pt_val (pe_c (okWithin T) hr (by rfl) (pa_cons (pv 0) (pa_cons (pv 1) (pa_cons (pv 2) pa_nil)))))) pss_never pss_nil), ?_⟩
    exact ⟨_, rfl, _, rfl, _, rfl, i, lo, hi, rfl, h1, h2, true, rfl, iteF q⟩

def spTupleOf : Sp := fun vs H Q _ => ∃ (a : Addr) (xs : List V) (lo hi : Int), vs = [.ref a, .int lo, .int hi] ∧ H a = some (.tup xs) ∧ lo ≤ (xs.length : Int) ∧ (xs.length : Int) ≤ hi ∧ Q (.bl true) H
theorem okTupleOf (T : Tx K mg) : OkF P w K mg base 1 "tuple_of" ["value", "low", "high"] spTupleOf := by
  refine mkF T.dTupleOf scTupleOf (fun vs H Q E h => ?_) fun f cdv A outer s H vs Q E hr h => ?_
  · obtain ⟨a, xs, lo, hi, rfl, _⟩ := h
    rfl
  · obtain ⟨a, xs, lo, hi, rfl, ha, h1, h2, q⟩ := h
    refine ⟨_, pss_one (ps_ret (pe_and (pe_callB call_isi (by rfl) T.z_isinstance (by decide +kernel) (pa_cons (pv 0) (pa_cons (pe_bltn (by rfl) T.z_tuple (by decide +kernel : bootBuiltins "tuple" = some (.type "tuple")) (v := .ty "tuple") rfl) pa_nil)))
      (pe_one (pe_chain op_le op_le (pv 1) (pe_callB call_len_seq (by rfl) T.z_len PySem.boot_len (pa_cons (pv 0) pa_nil)) (pv 2))))), ?_⟩
    refine ⟨_, rfl, _, _, _, _, true, rfl, .ty "tuple", .base (.tup ha), kit_ty (by decide +kernel), true, rfl, ?_⟩
    refine iteT ⟨_, rfl, _, rfl, a, xs, rfl, .inr (SqT.of ha), _, _, rfl, rfl, true, bl_t h1, iteT ⟨_, rfl, _, _, rfl, rfl, q_t h2 q⟩⟩

def spIsPair : Sp := fun vs H Q _ => ∃ (n i j : Int) (a : Addr), vs = [.int n, .ref a] ∧ H a = some (.tup [.int i, .int j]) ∧ 0 ≤ i ∧ i < j ∧ j < n ∧ ∀ H', Same H H' → Q (.bl true) H'
theorem okIsPair (T : Tx K mg) : OkF P w K mg base 2 "is_pair" ["many", "value"] spIsPair := by
  refine mkF T.dIsPair scIsPair (fun vs H Q E h => ?_) fun f cdv A outer s H vs Q E hr h => ?_
  · obtain ⟨n, i, j, a, rfl, _⟩ := h
    rfl
  · obtain ⟨n, i, j, a, rfl, ha, h0, h1, h2, q⟩ := h
    refine ⟨_, pss_cons (ps_if (PW.pt (pw_or (pt_not (pt_val (pe_c (okTupleOf T) hr (by rfl) (pa_cons (pv 1) (pa_cons pe_int (pa_cons pe_int pa_nil))))))
        (pw_or1 (pt_not (pt_val (pe_callB (cr_all rfl) (by rfl) T.z_all (by decide +kernel) (pa_cons
          (pe_lc (own := [("told", 2)]) (g := gName 2) (tt := tYes) rfl scIsPair.nd (pi_tup (pv 1)) (blkOk_by (N := nIsPair) (sc := defScope sIsPair) (by decide +kernel)) (fun _ _ _ _ _ => pg_name (i := 2) scIsPair.nd rfl (Or.inl rfl)) (fun _ _ _ _ _ => pts_nil)
            (fun _ _ _ _ _ => pe_c (okWhole T) hr (by rfl) (pa_cons (pv 2) pa_nil))) pa_nil)))))))
        pss_never pss_nil)
      (pss_one (ps_ret (pe_chain3 op_le op_lt op_lt pe_int (pe_ix ix_tup (pv 1) pe_int (fun _ _ => rfl)) (pe_ix ix_tup (pv 1) pe_int (fun _ _ => rfl)) (pv 0)))), ?_⟩
    refine ⟨_, rfl, a, _, 2, 2, rfl, ha, Int.le_refl _, Int.le_refl _, true, rfl, iteF ?_⟩
    refine ⟨_, rfl, a, rfl, ⟨_, SqT.of ha⟩, fun D hD => lc_pure walk_tup (fun _ => [.bl true]) hD (fun m hm => ?_) (fun H' s' => same_t s' (SqT.of ha)) (fun k x H1 H2 hk s1 hy R N hR hN => ?_) fun H' s' hl => ?_⟩
    · have h2 := flat_le (fun _ => [V.bl true]) (c := 1) m (fun _ _ => Nat.le_refl _)
      have h3 : m < 2 := hm
      exact lt_line (by omega)
    · obtain ⟨rfl, hx⟩ := hy
      refine ⟨rfl, yes_then ⟨_, rfl, ?_⟩⟩
      have hxx : ∃ z, x = V.int z := by
        match k, hx with
        | 0, hx => exact ⟨i, (Option.some.inj hx).symm⟩
        | 1, hx => exact ⟨j, (Option.some.inj hx).symm⟩
        | _ + 2, hx => exact absurd hx (by simp)
      obtain ⟨z, rfl⟩ := hxx
      exact ⟨z, rfl, hR _ _ (Same.refl _) rfl⟩
    · have ha' := s' _ _ ha
      refine ⟨D, [true, true], rfl, SqL.of hl, true, rfl, iteF ?_⟩
      refine ⟨_, rfl, a, _, 0, .int i, rfl, rfl, SqT.of ha', rfl, _, _, rfl, rfl, true, bl_t h0, iteT ?_⟩
      refine ⟨_, rfl, a, _, 1, .int j, rfl, rfl, SqT.of ha', rfl, _, _, rfl, rfl, true, bl_t h1, iteT ⟨_, rfl, _, _, rfl, rfl, q_t h2 (q _ s')⟩⟩
end
end Cw

set_option maxHeartbeats 4000000
/-! The walks of checks.py: need_company. -/
namespace Cw
open PySem PySem.Spec PyProof.Rows L2 LamX
section
variable {P : Program} {w : World} {K : PySem.W.Frag} {mg : Str → Option Value} {base : Heap}

theorem inV_pair (l : Nat) (p : Nat × Nat) (h : p.1 = l ∨ p.2 = l) : inV (.int (l : Int)) [.int (p.1 : Int), .int (p.2 : Int)] = true := by
  unfold inV
  rcases h with h | h
  · simp [eqV, h]
  · simp [eqV, h]
def spNeedCompany : Sp := fun vs H Q _ => ∃ (a : Addr) (c : Co), vs = [.ref a] ∧ CoAt H a c ∧ CoOk c ∧ ∀ H', Same H H' → Q .non H'
theorem okNeedCompany (T : Tx K mg) : OkF P w K mg base 3 "need_company" ["company"] spNeedCompany := by
  refine mkF T.dNeedCompany scNeedCompany (fun vs H Q E h => ?_) fun f cdv A outer s H vs Q E hr h => ?_
  · obtain ⟨a, c, rfl, _⟩ := h
    rfl
  · obtain ⟨a, c, rfl, hc, ok, q⟩ := h
    obtain ⟨tML, hMOST_LETTERS⟩ := T.k_MOST_LETTERS
    refine ⟨_, (pss_cons (ps_if (PW.pt (pw_or (pt_not (pt_val (pe_c (okTupleOf T) (hr.mono (by decide)) (by rfl) (pa_cons (pv 0) (pa_cons pe_int (pa_cons pe_int pa_nil)))))) (pw_or (pt_not (pt_val (pe_c (okWithin T) (hr.mono (by decide)) (by rfl) (pa_cons (pe_ix (ix_tupK (K := K)) (pv 0) pe_int (fun _ _ => rfl)) (pa_cons pe_int (pa_cons (pe_glob (v := .int 8) (by rfl) hMOST_LETTERS ⟨_, rfl⟩) pa_nil)))))) (pw_or1 (pt_not (pt_val (pe_c (okTupleOf T) (hr.mono (by decide)) (by rfl) (pa_cons (pe_ix (ix_tupK (K := K)) (pv 0) pe_int (fun _ _ => rfl)) (pa_cons pe_int (pa_cons pe_int pa_nil)))))))))) pss_never pss_nil)
      (pss_cons (ps_asg (pv 0) (pg_tupK (K := K) (by rfl) (pgs_cons (pg_name (i := 1) scNeedCompany.nd rfl (.inl rfl)) (pgs_cons (pg_name (i := 2) scNeedCompany.nd rfl (.inr rfl)) pgs_nil))))
      (pss_cons (ps_for PassesOwn.never rfl (pi_enT (by rfl) T.z_enumerate (pa_cons (pv 2) pa_nil)) (pg_tupK (K := K) (by rfl) (pgs_cons (pg_name (i := 3) scNeedCompany.nd rfl (.inl rfl)) (pgs_cons (pg_name (i := 4) scNeedCompany.nd rfl (.inl rfl)) pgs_nil))) (pss_one (ps_if (PW.pt (pw_or (pt_not (pt_val (pe_c (okIsPair T) (hr.mono (by decide)) (by rfl) (pa_cons (pv 1) (pa_cons (pv 4) pa_nil))))) (pw_or1 (PW.pt (pw_and (pt_cmpR op_gt (pv 3) pe_int (nomark _)) (pw_and1 (pt_cmpR (op_leTK (K := K) hr.units0) (pv 4) (pe_ix (ix_tupK (K := K)) (pv 2) (pe_op op_sub (pv 3) pe_int) (fun _ _ => rfl)) (nomark _)))))))) pss_never pss_nil)))
      (pss_one (ps_if (pt_not (pt_val (pe_callB (cr_allK (K := K)) (by rfl) T.z_all (by decide +kernel) (pa_cons (pe_lc (own := [("letter", 5)]) (tt := tYes) rfl scNeedCompany.nd (pi_range1 (by rfl) T.z_range (pa_cons (pv 1) pa_nil)) (blkOk_by (N := nNeedCompany) (sc := defScope sNeedCompany) (by decide +kernel)) (fun _ _ _ _ _ => pg_name (i := 5) scNeedCompany.nd rfl (Or.inr rfl)) (fun _ _ _ _ _ => pts_nil) (fun _ _ _ _ _ => (pe_callB (cr_anyK (K := K)) (by rfl) T.z_any (by decide +kernel) (pa_cons (pe_lc (own := [("pair", 4)]) (tt := tYes) rfl scNeedCompany.nd (pi_tupK (K := K) (pv 2)) (blkOk_by (N := nNeedCompany) (by rfl)) (fun _ _ _ _ _ => pg_name (i := 4) scNeedCompany.nd rfl (Or.inl rfl)) (fun _ _ _ _ _ => pts_nil) (fun _ _ _ _ _ => (pe_cmpR (op_in_seqK (K := K)) (pv 5) (pv 4) (by rfl)))) pa_nil)))) pa_nil)))) pss_never pss_nil))))), ?_⟩
    obtain ⟨t, bs, ha, ht, hp⟩ := id hc
    have hl := CoAt.lens hp
    have h1 := ok.l1
    have h28 := ok.l28
    have hm2 := ok.m2
    have hm8 := ok.m8
    -- the three tests
    refine ⟨_, rfl, a, _, 2, 2, rfl, ha, Int.le_refl _, Int.le_refl _, true, rfl, iteF ?_⟩
    refine ⟨_, rfl, a, _, 0, _, rfl, rfl, SqT.of ha, rfl, _, 2, 8, rfl, by omega, by omega, true, rfl, iteF ?_⟩
    refine ⟨_, rfl, a, _, 1, _, rfl, rfl, SqT.of ha, rfl, t, _, 1, 28, rfl, ht, by rw [List.length_map]; omega, by rw [List.length_map]; omega, true, rfl, iteF ?_⟩
    -- many, friends = company
    refine ⟨_, rfl, a, _, rfl, SqT.of ha, rfl, _, _, rfl, _, _, rfl, rfl, ?_⟩
    -- the loop
    refine ⟨_, rfl, t, _, rfl, SqT.of ht, for_it walk_iten (fun i σ H' => ∃ x3 x4, σ = [some (.ref a), some (.int (c.many : Int)), some (.ref t), x3, x4, none] ∧ Same H H') ⟨_, _, rfl, Same.refl _⟩ (fun i σ H' _ hW => ?_) (fun i x σ H1 H2 hi hW hy => ?_) fun σ H1 hW => ?_⟩
    · obtain ⟨_, _, _, s1⟩ := hW
      exact same_t s1 (SqT.of ht)
    · obtain ⟨x3, x4, rfl, s1⟩ := hW
      obtain ⟨U, y, rfl, nU, rfl, hxi⟩ := hy
      have s2 : Same H (upd H1 U (.tup [.int ((i : Nat) : Int), y])) := s1.trans (same_new nU)
      rw [List.getElem?_map] at hxi
      obtain ⟨b, hb, rfl⟩ : ∃ b, bs[i]? = some b ∧ V.ref b = y := by
        cases e : bs[i]? with
        | none => rw [e] at hxi; exact nomatch hxi
        | some b => rw [e] at hxi; exact ⟨b, rfl, Option.some.inj hxi⟩
      obtain ⟨p, hpi, hpb⟩ := CoAt.pair hp hb
      obtain ⟨p1, p2⟩ := ok.pr p (List.mem_of_getElem? hpi)
      refine ⟨U, _, rfl, SqT.of upd_same, rfl, _, _, rfl, _, _, rfl, rfl, ?_⟩
      refine ⟨_, rfl, _, rfl, (c.many : Int), (p.1 : Int), (p.2 : Int), b, rfl, s2 _ _ hpb, by omega, by omega, by omega, fun H3 s3 => ⟨true, rfl, iteF ?_⟩⟩
      have s4 := s2.trans s3
      have fin : ∃ x3 x4, [some (V.ref a), some (V.int (c.many : Int)), some (V.ref t), some (V.int ((i : Nat) : Int)), some (V.ref b), none] = [some (.ref a), some (.int (c.many : Int)), some (.ref t), x3, x4, none] ∧ Same H H3 := ⟨_, _, rfl, s4⟩
      refine ⟨_, rfl, _, _, rfl, rfl, decide ((0 : Int) < ((i : Nat) : Int)), rfl, ite2 (fun hi0 => ?_) fun hi0 => ?_⟩
      · have hi1 : 0 < i := by have := of_decide_eq_true hi0; omega
        obtain ⟨j, rfl⟩ : ∃ j, i = j + 1 := ⟨i - 1, by omega⟩
        have hj : j < bs.length := by
          have := (List.getElem?_eq_some_iff.mp hb).1
          omega
        obtain ⟨b2, hb2⟩ : ∃ b2, bs[j]? = some b2 := ⟨_, List.getElem?_eq_getElem hj⟩
        obtain ⟨p', hpi', hpb'⟩ := CoAt.pair hp hb2
        have hasc := ok.asc j p' p hpi' hpi
        have ej : (((j + 1 : Nat) : Int) - 1) = (j : Int) := by omega
        refine ⟨_, rfl, _, rfl, _, rfl, _, _, rfl, rfl, t, _, _, .ref b2, rfl, rfl, SqT.of (s4 _ _ ht), ?_, ?_⟩
        · show atI (bs.map V.ref) (((j + 1 : Nat) : Int) - 1) = some (V.ref b2)
          rw [ej]
          exact atI_nat (by rw [List.getElem?_map, hb2]; rfl)
        · refine ⟨b, b2, [(p.1 : Int), (p.2 : Int)], [(p'.1 : Int), (p'.2 : Int)], rfl, rfl, SqT.of (s4 _ _ hpb), SqT.of (s4 _ _ hpb'), false, ?_, iteF fin⟩
          rw [le_two]
          exact bl_f (by omega)
      · exact iteF fin
    · obtain ⟨x3, x4, rfl, s1⟩ := hW
      have ht1 := s1 _ _ ht
      refine ⟨_, rfl, (c.many : Int), rfl, by omega, by omega, fun D hD => ?_⟩
      rw [Int.toNat_natCast]
      refine lc_pure walk_range (fun _ => [.bl true]) hD (fun m hm => flat_lt _ (c := 1) (fun _ => Nat.le_refl _) (by omega)) (fun _ _ => trivial) (fun k x H2 H3 hk s2 hy R N hR hN => ?_) fun H2 s2 hD2 => ?_
      · obtain ⟨rfl, rfl⟩ := hy
        refine ⟨rfl, yes_then ?_⟩
        obtain ⟨p, hpm, hpc⟩ := ok.cov k hk
        obtain ⟨j, hj, hpj⟩ := List.getElem_of_mem hpm
        have e0 : ((0 : Int) + (k : Int)) = (k : Int) := by omega
        refine ⟨_, rfl, t, rfl, ⟨_, SqT.of (s2 _ _ ht1)⟩, fun D2 hD2 => lc_pure walk_tup (fun i => [.bl (inV (.int (k : Int)) [.int ((c.prs.getD i (0, 0)).1 : Int), .int ((c.prs.getD i (0, 0)).2 : Int)])]) hD2 (fun m hm => flat_lt _ (c := 1) (fun _ => Nat.le_refl _) ?_) (fun H4 s4 => same_t s4 (SqT.of (s2 _ _ ht1))) (fun i x H4 H5 hi s4 hy R2 N2 hR2 hN2 => ?_) fun H4 s4 hl4 => ?_⟩
        · have : m < (bs.map V.ref).length := hm
          rw [List.length_map] at this
          omega
        · obtain ⟨rfl, hx⟩ := hy
          rw [List.getElem?_map] at hx
          obtain ⟨b, hb, rfl⟩ : ∃ b, bs[i]? = some b ∧ V.ref b = x := by
            cases e : bs[i]? with
            | none => rw [e] at hx; exact nomatch hx
            | some b => rw [e] at hx; exact ⟨b, rfl, Option.some.inj hx⟩
          obtain ⟨p', hpi', hpb'⟩ := CoAt.pair hp hb
          have eg : c.prs.getD i (0, 0) = p' := by rw [List.getD_eq_getElem?_getD, hpi']; rfl
          refine ⟨rfl, yes_then ⟨_, rfl, _, rfl, b, _, rfl, .inr (SqT.of (s4 _ _ (s2 _ _ (s1 _ _ hpb')))), rfl, rfl, hR2 _ _ (Same.refl _) ?_⟩⟩
          show [V.bl (inV (V.int ↑k) [V.int ↑(c.prs.getD i (0, 0)).1, V.int ↑(c.prs.getD i (0, 0)).2])] = [V.bl (inV (V.int (0 + ↑k)) [V.int ↑p'.1, V.int ↑p'.2])]
          rw [eg, e0]
        · rw [flat_bl] at hl4
          refine ⟨D2, _, rfl, SqL.of hl4, hR _ _ s4 ?_⟩
          have hany : ((List.range (bs.map V.ref).length).map fun i => inV (.int (k : Int)) [.int ((c.prs.getD i (0, 0)).1 : Int), .int ((c.prs.getD i (0, 0)).2 : Int)]).any id = true := by
            rw [List.any_eq_true]
            refine ⟨true, List.mem_map.mpr ⟨j, List.mem_range.mpr (by rw [List.length_map]; omega), ?_⟩, rfl⟩
            have eg : c.prs.getD j (0, 0) = p := by rw [List.getD_eq_getElem?_getD, List.getElem?_eq_getElem hj, hpj]; rfl
            rw [eg]
            exact inV_pair k p hpc
          rw [hany]
      · rw [flat_bl (b := fun _ => true)] at hD2
        refine ⟨D, _, rfl, SqL.of hD2, true, ?_, iteF (q _ (s1.trans s2))⟩
        have hall : ((List.range c.many).map fun _ => true).all id = true := by
          rw [List.all_eq_true]
          intro x hx
          obtain ⟨_, _, rfl⟩ := List.mem_map.mp hx
          rfl
        rw [hall]
end
end Cw

set_option maxHeartbeats 4000000
/-! The walks of checks.py, second half. -/
namespace Cw
open PySem PySem.Spec PyProof.Rows L2 LamX

/-! ### numbers -/
theorem and_nn (a b : Nat) : Builtin.bitAnd (a : Int) (b : Int) = ((a &&& b : Nat) : Int) := by
  rw [PyProof.Rows.bitAnd_pp (Int.natCast_nonneg _) (Int.natCast_nonneg _), Int.toNat_natCast, Int.toNat_natCast]
theorem xor_nn (a b : Nat) : Builtin.bitXor (a : Int) (b : Int) = ((a ^^^ b : Nat) : Int) := by
  rw [Bits.bitXor_pp (Int.natCast_nonneg _) (Int.natCast_nonneg _), Int.toNat_natCast, Int.toNat_natCast]
theorem shr_nn (a b : Nat) : (a : Int) / 2 ^ ((b : Int)).toNat = ((a / 2 ^ b : Nat) : Int) := by
  rw [Int.toNat_natCast, Int.natCast_ediv, Int.natCast_pow]
  rfl
theorem shl_one (b : Nat) : (1 : Int) * 2 ^ ((b : Int)).toNat = ((2 ^ b : Nat) : Int) := by
  rw [Int.toNat_natCast, Int.one_mul, Int.natCast_pow]
  rfl
theorem and_one (a : Nat) : a &&& 1 = a % 2 := by
  rw [Nat.and_one_is_mod]
theorem cut_ALPH {k : Nat} (h : k ≤ 8) : cutS ALPH none (some (k : Int)) = S (alph k) := by
  rw [ALPH_S, cut_to, ALPH_take h]
/-- how many letters a mask below 8 has -/
def popT (m : Nat) : Nat := [0, 1, 1, 2, 1, 2, 2, 3].getD m 0
theorem popT_step : ∀ m, m < 8 → 0 < m → popT m = popT (m &&& (m - 1)) + 1 ∧ m &&& (m - 1) < m := by decide
/-- the letters of a mask, as codes -/
def letW (m i : Nat) : List Wd := if m / 2 ^ i % 2 = 1 then [[97 + i]] else []
def lettersW (m : Nat) : Wd := ((List.range 8).flatMap (letW m)).flatten
def crossN (prs : List (Nat × Nat)) (m n : Nat) : Nat := (prs.map fun p => ((m / 2 ^ p.2) &&& (n / 2 ^ p.1)) &&& 1).sum
/-- the friends' masks, pair by pair -/
def toldStep (f : List Nat) (p : Nat × Nat) : List Nat := (f.set p.1 (f.getD p.1 0 + 2 ^ p.2)).set p.2 ((f.set p.1 (f.getD p.1 0 + 2 ^ p.2)).getD p.2 0 + 2 ^ p.1)
def toldOf (c : Co) : List Nat := c.prs.foldl toldStep (List.replicate c.many 0)
theorem toldStep_len (f : List Nat) (p : Nat × Nat) : (toldStep f p).length = f.length := by simp [toldStep]
theorem told_len (prs : List (Nat × Nat)) : ∀ f : List Nat, (prs.foldl toldStep f).length = f.length := by
  induction prs with
  | nil => intro f; rfl
  | cons p r ih => intro f; rw [List.foldl_cons, ih, toldStep_len]
theorem joinL_nil : ∀ parts : List (List Nat), TL.joinL [] parts = parts.flatten
  | [] => rfl
  | [p] => by simp [TL.joinL]
  | p :: q :: r => by
    show p ++ ([] ++ TL.joinL [] (q :: r)) = p ++ (q :: r).flatten
    rw [joinL_nil (q :: r), List.nil_append]
theorem join_S (ws : List Wd) : Txt.join (Str.ofString "") (ws.map S) = S ws.flatten := by
  apply TL.ext_tl
  rw [TL.join_eq, TL.tl_join, List.map_map]
  have e : (TL.tl ∘ S) = id := by funext w; rfl
  rw [e, List.map_id]
  show TL.joinL [] ws = ws.flatten
  exact joinL_nil ws

section
variable {P : Program} {w : World} {K : PySem.W.Frag} {mg : Str → Option Value} {base : Heap}

def spIsWord : Sp := fun vs H Q _ => ∃ (a : Addr) (c : Co) (u : Wd) (n : Nat), vs = [.ref a, .str (S u), .int (n : Int)] ∧ CoAt H a c ∧ c.many ≤ 8 ∧ 1 ≤ u.length ∧ u.length ≤ n ∧ n ≤ 100 ∧ Ok c.many u ∧ ∀ H', Same H H' → Q (.bl true) H'
theorem okIsWord (T : Tx K mg) : OkF P w K mg base 1 "is_word" ["company", "value", "most"] spIsWord := by
  refine mkF T.dIsWord scIsWord (fun vs H Q E h => ?_) fun f cdv A outer s H vs Q E hr h => ?_
  · obtain ⟨a, c, u, n, rfl, _⟩ := h
    rfl
  · obtain ⟨a, c, u, n, rfl, hc, h8, h1, hn, h100, ok, q⟩ := h
    obtain ⟨tA, hALPHABET⟩ := T.k_ALPHABET
    refine ⟨_, (pss_cons (ps_if (PW.pt (pw_or (pt_not (pt_val (pe_callB call_isi (by rfl) T.z_isinstance (by decide +kernel) (pa_cons (pv 1) (pa_cons (pe_bltn (v := .ty "str") (by rfl) T.z_str (by decide +kernel : bootBuiltins "str" = some (.type "str")) rfl) pa_nil))))) (pw_or1 (pt_not (pt_chain op_le op_le pe_int (pe_callB call_len_str (by rfl) T.z_len (by decide +kernel) (pa_cons (pv 1) pa_nil)) (pv 2)))))) (pss_one (ps_ret pe_bl)) pss_nil)
      (pss_one (ps_ret (pe_callB (cr_allK (K := K)) (by rfl) T.z_all (by decide +kernel) (pa_cons (pe_lc (own := [("sign", 3)]) (tt := tYes) rfl scIsWord.nd (pi_str (pv 1)) (blkOk_by (N := nIsWord) (sc := defScope sIsWord) (by decide +kernel)) (fun _ _ _ _ _ => pg_name (i := 3) scIsWord.nd rfl (Or.inl rfl)) (fun _ _ _ _ _ => pts_nil) (fun _ _ _ _ _ => (pe_cmpR op_in_sign (pv 3) (pe_slice sl_str (pe_glob (v := .str ALPH) (by rfl) hALPHABET ⟨_, rfl⟩) po_none (po_some (pe_ix (ix_tupK (K := K)) (pv 0) pe_int (fun _ _ => rfl)))) (by rfl)))) pa_nil))))), ?_⟩
    obtain ⟨t, bs, ha, _⟩ := id hc
    have hl : (S u).length ≤ sizeLine := by rw [S_len]; exact le_line (by omega)
    refine ⟨_, rfl, _, _, _, _, true, rfl, .ty "str", .base (.str _), kit_ty (by decide +kernel), true, rfl, iteF ?_⟩
    refine ⟨_, rfl, S u, rfl, hl, _, _, rfl, rfl, true, bl_t (by rw [S_len]; omega), iteT ⟨_, rfl, _, _, rfl, rfl, true, bl_t (by rw [S_len]; omega), iteF ?_⟩⟩
    refine ⟨_, rfl, S u, rfl, fun D hD => lc_pure walk_str (fun _ => [.bl true]) hD (fun m hm => flat_lt _ (c := 1) (fun _ => Nat.le_refl _) (by rw [S_size] at hm; omega)) (fun _ _ => trivial) (fun i x H1 H2 hi s1 hy R N hR hN => ?_) fun H' s' hl' => ?_⟩
    · obtain ⟨rfl, b, hb, rfl⟩ := hy
      have hm : b ∈ alph c.many := by
        refine ok b (List.mem_of_getElem? (i := i) ?_)
        rw [← S_tl u, Array.getElem?_toList]
        exact hb
      refine ⟨rfl, yes_then ⟨_, rfl, _, rfl, a, _, 0, _, rfl, rfl, SqT.of (s1 _ _ ha), rfl, _, rfl, ALPH, rfl, by decide, b, S (alph c.many), rfl, ?_, hR _ _ (Same.refl _) ?_⟩⟩
      · exact congrArg V.str (cut_ALPH h8)
      · show [V.bl true] = [V.bl (decide (b ∈ (S (alph c.many)).cps.toList))]
        rw [S_tl, decide_eq_true hm]
    · rw [flat_bl (b := fun _ => true)] at hl'
      refine ⟨D, _, rfl, SqL.of hl', ?_⟩
      have hall : ((List.range (S u).cps.size).map fun _ => true).all id = true := by
        rw [List.all_eq_true]
        intro x hx
        obtain ⟨_, _, rfl⟩ := List.mem_map.mp hx
        rfl
      rw [hall]
      exact q _ s'

def spNeedWord (n : Nat) : Sp := fun vs H Q _ => ∃ (a : Addr) (c : Co) (u : Wd), vs = [.ref a, .str (S u)] ∧ CoAt H a c ∧ c.many ≤ 8 ∧ 1 ≤ u.length ∧ u.length ≤ n ∧ Ok c.many u ∧ ∀ H', Same H H' → Q .non H'
theorem okNeedWord (T : Tx K mg) : OkF P w K mg base 2 "need_word" ["company", "word"] (spNeedWord 60) := by
  refine mkF T.dNeedWord scNeedWord (fun vs H Q E h => ?_) fun f cdv A outer s H vs Q E hr h => ?_
  · obtain ⟨a, c, u, rfl, _⟩ := h
    rfl
  · obtain ⟨a, c, u, rfl, hc, h8, h1, hn, ok, q⟩ := h
    obtain ⟨tM, hMOST_WORD⟩ := T.k_MOST_WORD
    refine ⟨_, (pss_one (ps_if (pt_not (pt_val (pe_c (okIsWord T) (hr.mono (by decide)) (by rfl) (pa_cons (pv 0) (pa_cons (pv 1) (pa_cons (pe_glob (v := .int 60) (by rfl) hMOST_WORD ⟨_, rfl⟩) pa_nil)))))) pss_never pss_nil)), ?_⟩
    exact ⟨_, rfl, _, rfl, a, c, u, 60, rfl, hc, h8, h1, hn, by omega, ok, fun H' s' => ⟨true, rfl, iteF (q _ s')⟩⟩
theorem okNeedShort (T : Tx K mg) : OkF P w K mg base 2 "need_short" ["company", "word"] (spNeedWord 12) := by
  refine mkF T.dNeedShort scNeedShort (fun vs H Q E h => ?_) fun f cdv A outer s H vs Q E hr h => ?_
  · obtain ⟨a, c, u, rfl, _⟩ := h
    rfl
  · obtain ⟨a, c, u, rfl, hc, h8, h1, hn, ok, q⟩ := h
    obtain ⟨tM, hSHORT_WORD⟩ := T.k_SHORT_WORD
    refine ⟨_, (pss_one (ps_if (pt_not (pt_val (pe_c (okIsWord T) (hr.mono (by decide)) (by rfl) (pa_cons (pv 0) (pa_cons (pv 1) (pa_cons (pe_glob (v := .int 12) (by rfl) hSHORT_WORD ⟨_, rfl⟩) pa_nil)))))) pss_never pss_nil)), ?_⟩
    exact ⟨_, rfl, _, rfl, a, c, u, 12, rfl, hc, h8, h1, hn, by omega, ok, fun H' s' => ⟨true, rfl, iteF (q _ s')⟩⟩
def spNeedBoth (n : Nat) : Sp := fun vs H Q _ => ∃ (a : Addr) (c : Co) (u : Wd), vs = [.ref a, .str (S u)] ∧ CoAt H a c ∧ CoOk c ∧ 1 ≤ u.length ∧ u.length ≤ n ∧ Ok c.many u ∧ ∀ H', Same H H' → Q .non H'
theorem okNeedBoth (T : Tx K mg) : OkF P w K mg base 4 "need_both" ["company", "word"] (spNeedBoth 60) := by
  refine mkF T.dNeedBoth scNeedBoth (fun vs H Q E h => ?_) fun f cdv A outer s H vs Q E hr h => ?_
  · obtain ⟨a, c, u, rfl, _⟩ := h
    rfl
  · obtain ⟨a, c, u, rfl, hc, ok, h1, hn, hw, q⟩ := h
    refine ⟨_, (pss_cons (ps_expr (pe_c (okNeedCompany T) (hr.mono (by decide)) (by rfl) (pa_cons (pv 0) pa_nil)))
      (pss_one (ps_expr (pe_c (okNeedWord T) (hr.mono (by decide)) (by rfl) (pa_cons (pv 0) (pa_cons (pv 1) pa_nil)))))), ?_⟩
    exact ⟨_, rfl, a, c, rfl, hc, ok, fun H1 s1 => ⟨_, rfl, _, rfl, a, c, u, rfl, hc.mono s1, ok.m8, h1, hn, hw, fun H2 s2 => q _ (s1.trans s2)⟩⟩

def spLettersOf : Sp := fun vs H Q _ => ∃ m : Nat, vs = [.int (m : Int)] ∧ ∀ H', Same H H' → Q (.str (S (lettersW m))) H'
theorem okLettersOf (T : Tx K mg) : OkF P w K mg base 1 "letters_of" ["mask"] spLettersOf := by
  refine mkF T.dLettersOf scLettersOf (fun vs H Q E h => ?_) fun f cdv A outer s H vs Q E hr h => ?_
  · obtain ⟨m, rfl, _⟩ := h
    rfl
  · obtain ⟨m, rfl, q⟩ := h
    obtain ⟨tA, hALPHABET⟩ := T.k_ALPHABET
    obtain ⟨tM, hMOST_LETTERS⟩ := T.k_MOST_LETTERS
    refine ⟨_, (pss_one (ps_ret (pe_join pe_str (pe_lc (own := [("at", 1)]) rfl scLettersOf.nd (pi_range1 (by rfl) T.z_range (pa_cons (pe_glob (v := .int 8) (by rfl) hMOST_LETTERS ⟨_, rfl⟩) pa_nil)) (blkOk_by (N := nLettersOf) (sc := defScope sLettersOf) (by decide +kernel)) (fun _ _ _ _ _ => pg_name (i := 1) scLettersOf.nd rfl (Or.inl rfl)) (fun _ _ _ _ _ => pts_one (pt_cmpR op_eq (pe_op op_and (pe_op op_shr (pv 0) (pv 1)) pe_int) pe_int (nomark _))) (fun _ _ _ _ _ => (pe_ix ix_str (pe_glob (v := .str ALPH) (by rfl) hALPHABET ⟨_, rfl⟩) (pv 1) (fun _ _ => rfl))))))), ?_⟩
    refine ⟨⟨_, rfl⟩, (8 : Int), rfl, by decide, by decide, fun D hD => lc_pure (walk_range (lo := 0) (n := 8)) (fun i => (letW m i).map fun v => V.str (S v)) hD (fun k hk => flat_lt _ (c := 1) (fun i => by unfold letW; split <;> simp) (by omega)) (fun _ _ => trivial) (fun i x H1 H2 hi s1 hy R N hR hN => ?_) fun H' s' hl' => ?_⟩
    · obtain ⟨rfl, rfl⟩ := hy
      have e0 : ((0 : Int) + (i : Int)) = (i : Int) := by omega
      have ev : Builtin.bitAnd ((m : Int) / 2 ^ ((0 : Int) + (i : Int)).toNat) 1 = ((m / 2 ^ i % 2 : Nat) : Int) := by
        rw [e0, shr_nn, show (1 : Int) = ((1 : Nat) : Int) from rfl, and_nn, and_one]
      refine ⟨rfl, _, rfl, _, rfl, _, _, rfl, rfl, by omega, _, _, rfl, rfl, rfl, decide (m / 2 ^ i % 2 = 1), ?_, ?_⟩
      · show V.bl (decide (V.int (Builtin.bitAnd ((m : Int) / 2 ^ ((0 : Int) + (i : Int)).toNat) 1) = V.int 1)) = _
        rw [ev]
        congr 1
        rw [decide_eq_decide]
        constructor
        · intro h
          injection h with h
          omega
        · intro h
          rw [h]
          rfl
      · by_cases hb : m / 2 ^ i % 2 = 1
        · rw [decide_eq_true hb]
          dsimp only
          rw [if_pos rfl]
          have h8 : i < 8 := hi
          refine ⟨_, rfl, ALPH, _, 97 + i, rfl, rfl, by decide, ?_, hR _ _ (Same.refl _) ?_⟩
          · rw [e0, ALPH_S]
            refine atI_nat ?_
            have hh : i = 0 ∨ i = 1 ∨ i = 2 ∨ i = 3 ∨ i = 4 ∨ i = 5 ∨ i = 6 ∨ i = 7 := by omega
            rcases hh with e | e | e | e | e | e | e | e <;> subst e <;> rfl
          · unfold letW
            rw [if_pos hb]
            rfl
        · rw [decide_eq_false hb]
          dsimp only
          rw [if_neg Bool.false_ne_true]
          refine hN _ (Same.refl _) ?_
          unfold letW
          rw [if_neg hb]
          rfl
    · have e1 : (List.range 8).flatMap (fun i => (letW m i).map fun v => V.str (S v)) = (((List.range 8).flatMap (letW m)).map S).map V.str := by
        rw [List.map_map, List.map_flatMap]
        rfl
      rw [e1] at hl'
      refine ⟨_, D, _, rfl, rfl, .inl (SqL.of hl'), ?_, ?_⟩
      · have e2 : ∀ l : List Wd, (∀ v ∈ l, v.length = 1) → ((l.map S).map fun x : Str => x.length).sum = l.length := by
          intro l hl
          induction l with
          | nil => rfl
          | cons v r ih =>
            rw [List.map_cons, List.map_cons, List.sum_cons, ih fun x hx => hl x (List.mem_cons_of_mem _ hx), S_len, hl v (List.mem_cons_self ..), List.length_cons]
            omega
        have h3 := flat_le (letW m) (c := 1) 8 fun i _ => by unfold letW; split <;> simp
        rw [e2 _ fun v hv => ?_, List.length_map]
        · have : (Str.ofString "").length = 0 := rfl
          rw [this]
          omega
        · obtain ⟨i, _, hi⟩ := List.mem_flatMap.mp hv
          unfold letW at hi
          split at hi
          · rw [List.mem_singleton.mp hi]; rfl
          · simp at hi
      · show Q (.str (Txt.join (Str.ofString "") _)) H'
        rw [join_S]
        exact q _ s'

def spFriends : Sp := fun vs H Q _ => ∃ (a : Addr) (c : Co), vs = [.ref a] ∧ CoAt H a c ∧ CoOk c ∧ ∀ H' p, Same H H' → H p = none → TdAt H' p (toldOf c) → Q (.ref p) H'
theorem okFriendsOfAll (T : Tx K mg) : OkF P w K mg base 1 "friends_of_all" ["company"] spFriends := by
  refine mkF T.dFriendsOfAll scFriendsOfAll (fun vs H Q E h => ?_) fun f cdv A outer s H vs Q E hr h => ?_
  · obtain ⟨a, c, rfl, _⟩ := h
    rfl
  · obtain ⟨a, c, rfl, hc, ok, q⟩ := h
    refine ⟨_, (pss_cons (ps_set (i := 1) scFriendsOfAll.nd rfl (.inl rfl) (pe_op op_rep (pe_lst (pa_cons pe_int pa_nil)) (pe_ix (ix_tupK (K := K)) (pv 0) pe_int (fun _ _ => rfl))))
      (pss_cons (ps_for PassesOwn.never rfl (pi_tupK (K := K) (pe_ix (ix_tupK (K := K)) (pv 0) pe_int (fun _ _ => rfl))) (pg_tupK (K := K) (n := 2) (by rfl) (pgs_cons (pg_name (i := 2) scFriendsOfAll.nd rfl (.inl rfl)) (pgs_cons (pg_name (i := 3) scFriendsOfAll.nd rfl (.inl rfl)) pgs_nil))) (pss_cons (ps_augS (pv 1) (pv 2) (get_listK (K := K)) (pe_op op_shl pe_int (pv 3)) ip_add set_list)
      (pss_one (ps_augS (pv 1) (pv 3) (get_listK (K := K)) (pe_op op_shl pe_int (pv 2)) ip_add set_list))))
      (pss_one (ps_ret (pv 1))))), ?_⟩
    obtain ⟨t, bs, ha, ht, hp⟩ := id hc
    have hl := CoAt.lens hp
    have hm8 := ok.m8
    refine ⟨Nat.le_trans (by decide : 1 ≤ 2) (by decide), fun l hl0 => ?_⟩
    have s1 : Same H (upd H l (.lst [.int 0])) := same_new hl0
    refine ⟨_, rfl, a, _, 0, _, rfl, rfl, SqT.of (s1 _ _ ha), rfl, l, (c.many : Int), _, rfl, rfl, upd_same, by omega, by omega, ?_, fun p hp0 => ?_⟩
    · rw [Int.toNat_natCast]
      exact le_line (by show 1 * c.many < _; omega)
    have s2 : Same H (upd (upd H l (.lst [.int 0])) p (.lst (List.replicate ((c.many : Int)).toNat [V.int 0]).flatten)) := s1.trans (same_new hp0)
    have hpn : H p = none := s1.free hp0
    have e0 : (List.replicate ((c.many : Int)).toNat [V.int 0]).flatten = (List.replicate c.many 0).map fun (n : Nat) => V.int (n : Int) := by
      rw [Int.toNat_natCast]
      generalize c.many = k
      induction k with
      | zero => rfl
      | succ k ih => rw [List.replicate_succ, List.flatten_cons, ih, List.replicate_succ, List.map_cons]; rfl
    refine ⟨_, rfl, a, _, 1, _, rfl, rfl, SqT.of (s2 _ _ ha), rfl, t, rfl, ⟨_, SqT.of (s2 _ _ ht)⟩, for_it (walk_tup (K := K) (a := t) (xs := bs.map V.ref)) (fun i σ H' => ∃ x2 x3, σ = [some (.ref a), some (.ref p), x2, x3] ∧ Same H H' ∧ TdAt H' p ((c.prs.take i).foldl toldStep (List.replicate c.many 0)))
      ⟨_, _, rfl, s2, ?_⟩ (fun i σ H' _ hW => ?_) (fun i x σ H1 H2 hi hW hy => ?_) fun σ H1 hW => ?_⟩
    · show (upd _ p _) p = _
      rw [upd_same, e0]
      rfl
    · obtain ⟨_, _, _, s3, _⟩ := hW
      exact same_t s3 (SqT.of ht)
    · obtain ⟨x2, x3, rfl, s3, htd⟩ := hW
      obtain ⟨rfl, hx⟩ := hy
      rw [List.getElem?_map] at hx
      obtain ⟨b, hb, rfl⟩ : ∃ b, bs[i]? = some b ∧ V.ref b = x := by
        cases e : bs[i]? with
        | none => rw [e] at hx; exact nomatch hx
        | some b => rw [e] at hx; exact ⟨b, rfl, Option.some.inj hx⟩
      obtain ⟨pr, hpi, hpb⟩ := CoAt.pair hp hb
      obtain ⟨g1, g2⟩ := ok.pr pr (List.mem_of_getElem? hpi)
      have e1 : c.prs.take (i + 1) = c.prs.take i ++ [pr] := by rw [List.take_add_one, hpi]; rfl
      generalize hF : (c.prs.take i).foldl toldStep (List.replicate c.many 0) = F at htd
      have hFl : F.length = c.many := by rw [← hF, told_len]; simp
      have k1 : pr.1 < F.length := by omega
      have k2 : pr.2 < F.length := by omega
      have getF : ∀ (G : List Nat) (j : Nat), j < G.length → (G.map fun (n : Nat) => V.int (n : Int))[j]? = some (.int ((G.getD j 0 : Nat) : Int)) := fun G j hj => by
        rw [List.getElem?_map, List.getElem?_eq_getElem hj, List.getD_eq_getElem?_getD, List.getElem?_eq_getElem hj]
        rfl
      refine ⟨b, _, rfl, SqT.of (s3 _ _ hpb), rfl, _, _, rfl, _, _, rfl, rfl, ?_⟩
      refine ⟨_, rfl, _, rfl, p, _, pr.1, _, rfl, rfl, SqL.of htd, getF F pr.1 k1, _, rfl, _, _, rfl, rfl, ⟨by omega, by omega, by decide⟩, _, _, rfl, rfl, p, _, _, pr.1, rfl, rfl, htd, ?_, ?_⟩
      · show ixN _ (pr.1 : Int) = some pr.1
        unfold ixN
        rw [if_pos (by omega), if_pos (by rw [List.length_map]; omega), Int.toNat_natCast]
      have eF : (F.map fun (n : Nat) => V.int (n : Int)).set pr.1 (V.int (((F.getD pr.1 0 : Nat) : Int) + 1 * 2 ^ ((pr.2 : Int)).toNat)) = (F.set pr.1 (F.getD pr.1 0 + 2 ^ pr.2)).map fun (n : Nat) => V.int (n : Int) := by
        rw [shl_one, ← Int.natCast_add, List.map_set]
      rw [eF]
      generalize hG : F.set pr.1 (F.getD pr.1 0 + 2 ^ pr.2) = G
      have hGl : G.length = c.many := by rw [← hG, List.length_set]; exact hFl
      refine ⟨_, rfl, _, rfl, p, _, pr.2, _, rfl, rfl, SqL.of upd_same, getF G pr.2 (by omega), _, rfl, _, _, rfl, rfl, ⟨by omega, by omega, by decide⟩, _, _, rfl, rfl, p, _, _, pr.2, rfl, rfl, upd_same, ?_, ?_⟩
      · show ixN _ (pr.2 : Int) = some pr.2
        unfold ixN
        rw [if_pos (by omega), if_pos (by rw [List.length_map]; omega), Int.toNat_natCast]
      have eG : (G.map fun (n : Nat) => V.int (n : Int)).set pr.2 (V.int (((G.getD pr.2 0 : Nat) : Int) + 1 * 2 ^ ((pr.1 : Int)).toNat)) = (G.set pr.2 (G.getD pr.2 0 + 2 ^ pr.1)).map fun (n : Nat) => V.int (n : Int) := by
        rw [shl_one, ← Int.natCast_add, List.map_set]
      refine ⟨_, _, rfl, same_mut (same_mut s3 hpn) hpn, ?_⟩
      show (upd _ p _) p = _
      rw [upd_same, eG, e1, List.foldl_append, hF]
      show _ = some (HO.lst ((toldStep F pr).map fun (n : Nat) => V.int (n : Int)))
      unfold toldStep
      rw [hG]
    · obtain ⟨x2, x3, rfl, s3, htd⟩ := hW
      have e2 : c.prs.take (bs.map V.ref).length = c.prs := List.take_of_length_le (by rw [List.length_map]; omega)
      rw [e2] at htd
      exact ⟨_, rfl, q _ _ s3 hpn htd⟩

def spBits : Sp := fun vs H Q _ => ∃ m : Nat, vs = [.int (m : Int)] ∧ m < 8 ∧ Q (.int (popT m : Nat)) H
theorem okBits (T : Tx K mg) : OkF P w K mg base 1 "bits" ["mask"] spBits := by
  refine mkF T.dBits scBits (fun vs H Q E h => ?_) fun f cdv A outer s H vs Q E hr h => ?_
  · obtain ⟨m, rfl, _⟩ := h
    rfl
  · obtain ⟨m, rfl, hm, q⟩ := h
    refine ⟨_, (pss_cons (ps_set (i := 1) scBits.nd rfl (.inl rfl) pe_int)
      (pss_cons (ps_while PassesOwn.never (pt_cmpR op_gt (pv 0) pe_int (nomark _)) (pss_one (ps_par (i := 1) (j := 0) (by rfl) scBits.nd rfl rfl (by decide) rfl rfl (pa_cons (pe_op op_add (pv 1) pe_int) (pa_cons (pe_op op_and (pv 0) (pe_op op_sub (pv 0) pe_int)) pa_nil)) (by rfl))))
      (pss_one (ps_ret (pv 1))))), ?_⟩
    refine ⟨fun n σ H' => ∃ k : Nat, σ = [some (.int (n : Nat)), some (.int (k : Nat))] ∧ n < 8 ∧ k + popT n = popT m ∧ H' = H, ⟨m, 0, rfl, hm, by omega, rfl⟩, fun n σ H' hW => ?_⟩
    obtain ⟨k, rfl, hn, hk, rfl⟩ := hW
    refine ⟨_, rfl, _, _, rfl, rfl, decide ((0 : Int) < (n : Int)), rfl, ?_⟩
    by_cases h0 : n = 0
    · subst h0
      rw [decide_eq_false (by omega)]
      dsimp only
      rw [if_neg Bool.false_ne_true]
      have e : k = popT m := by
        have : popT 0 = 0 := rfl
        omega
      subst e
      exact ⟨_, rfl, q⟩
    · rw [decide_eq_true (by omega)]
      dsimp only
      rw [if_pos rfl]
      obtain ⟨e1, e2⟩ := popT_step n hn (by omega)
      have en : ((n : Int) - 1) = ((n - 1 : Nat) : Int) := by omega
      refine ⟨fun σ' H2 => ∃ k : Nat, σ' = [some (.int ((n &&& (n - 1) : Nat) : Int)), some (.int (k : Nat))] ∧ k + popT (n &&& (n - 1)) = popT m ∧ H2 = H', fun σ' H2 hN => ?_, ?_⟩
      · obtain ⟨k2, rfl, h3, rfl⟩ := hN
        exact ⟨_, e2, k2, rfl, by omega, h3, rfl⟩
      · refine ⟨_, rfl, _, _, rfl, rfl, _, rfl, _, rfl, _, _, rfl, rfl, _, _, rfl, rfl, _, _, rfl, k + 1, ?_, by omega, rfl⟩
        show [some (V.int (Builtin.bitAnd (n : Int) ((n : Int) - 1))), some (V.int ((k : Int) + 1))] = _
        rw [en, and_nn]
        rfl

def spCrossed : Sp := fun vs H Q _ => ∃ (a : Addr) (c : Co) (m n : Nat), vs = [.ref a, .int (m : Int), .int (n : Int)] ∧ CoAt H a c ∧ c.prs.length ≤ 100 ∧ ∀ H', Same H H' → Q (.int (crossN c.prs m n : Nat)) H'
theorem okCrossed (T : Tx K mg) : OkF P w K mg base 1 "crossed" ["company", "one", "other"] spCrossed := by
  refine mkF T.dCrossed scCrossed (fun vs H Q E h => ?_) fun f cdv A outer s H vs Q E hr h => ?_
  · obtain ⟨a, c, m, n, rfl, _⟩ := h
    rfl
  · obtain ⟨a, c, m, n, rfl, hc, h100, q⟩ := h
    refine ⟨_, (pss_one (ps_ret (pe_callB (cr_sumK (K := K)) (by rfl) T.z_sum (by decide +kernel) (pa_cons (pe_lc (own := [("first", 3), ("second", 4)]) (tt := tYes) rfl scCrossed.nd (pi_tupK (K := K) (pe_ix (ix_tupK (K := K)) (pv 0) pe_int (fun _ _ => rfl))) (blkOk_by (N := nCrossed) (sc := defScope sCrossed) (by decide +kernel)) (fun _ _ _ _ _ => pg_tupK (K := K) (n := 2) (by rfl) (pgs_cons (pg_name (i := 3) scCrossed.nd rfl (Or.inl rfl)) (pgs_cons (pg_name (i := 4) scCrossed.nd rfl (Or.inl rfl)) pgs_nil))) (fun _ _ _ _ _ => pts_nil) (fun _ _ _ _ _ => (pe_op op_and (pe_op op_and (pe_op op_shr (pv 1) (pv 4)) (pe_op op_shr (pv 2) (pv 3))) pe_int))) pa_nil)))), ?_⟩
    obtain ⟨t, bs, ha, ht, hp⟩ := id hc
    have hl := CoAt.lens hp
    refine ⟨_, rfl, a, _, 1, _, rfl, rfl, SqT.of ha, rfl, t, rfl, ⟨_, SqT.of ht⟩, fun D hD => lc_pure walk_tup (fun i => [.int ((((m / 2 ^ (c.prs.getD i (0, 0)).2) &&& (n / 2 ^ (c.prs.getD i (0, 0)).1)) &&& 1 : Nat) : Int)]) hD (fun k hk => flat_lt _ (c := 1) (fun i => Nat.le_refl _) ?_) (fun H' s' => same_t s' (SqT.of ht)) (fun i x H1 H2 hi s1 hy R N hR hN => ?_) fun H' s' hl' => ?_⟩
    · have : k < (bs.map V.ref).length := hk
      rw [List.length_map] at this
      omega
    · obtain ⟨rfl, hx⟩ := hy
      rw [List.getElem?_map] at hx
      obtain ⟨b, hb, rfl⟩ : ∃ b, bs[i]? = some b ∧ V.ref b = x := by
        cases e : bs[i]? with
        | none => rw [e] at hx; exact nomatch hx
        | some b => rw [e] at hx; exact ⟨b, rfl, Option.some.inj hx⟩
      obtain ⟨pr, hpi, hpb⟩ := CoAt.pair hp hb
      have eg : c.prs.getD i (0, 0) = pr := by rw [List.getD_eq_getElem?_getD, hpi]; rfl
      refine ⟨b, _, rfl, SqT.of (s1 _ _ hpb), rfl, _, _, rfl, _, _, rfl, rfl, rfl, yes_then ?_⟩
      refine ⟨_, rfl, _, rfl, _, _, rfl, rfl, by omega, _, rfl, _, rfl, _, _, rfl, rfl, by omega, _, _, rfl, rfl, _, _, rfl, rfl, hR _ _ (Same.refl _) ?_⟩
      rw [eg]
      show _ = [V.int (Builtin.bitAnd (Builtin.bitAnd ((m : Int) / 2 ^ ((pr.2 : Int)).toNat) ((n : Int) / 2 ^ ((pr.1 : Int)).toNat)) 1)]
      rw [shr_nn, shr_nn, and_nn, show (1 : Int) = ((1 : Nat) : Int) from rfl, and_nn]
    · rw [flat_one] at hl'
      have e1 : (List.range (bs.map V.ref).length).map (fun i => V.int ((((m / 2 ^ (c.prs.getD i (0, 0)).2) &&& (n / 2 ^ (c.prs.getD i (0, 0)).1)) &&& 1 : Nat) : Int)) = (c.prs.map fun p => (((((m / 2 ^ p.2) &&& (n / 2 ^ p.1)) &&& 1 : Nat)) : Int)).map V.int := by
        apply List.ext_getElem?
        intro j
        rw [List.getElem?_map, List.map_map, List.getElem?_map]
        by_cases hj : j < c.prs.length
        · rw [List.getElem?_range (by rw [List.length_map]; omega), List.getElem?_eq_getElem hj]
          have eg : c.prs.getD j (0, 0) = c.prs[j] := by rw [List.getD_eq_getElem?_getD, List.getElem?_eq_getElem hj]; rfl
          dsimp only [Option.map_some, Function.comp]
          rw [eg]
        · rw [List.getElem?_eq_none (by simp; omega), List.getElem?_eq_none (by omega)]
          rfl
      rw [e1] at hl'
      refine ⟨D, _, rfl, SqL.of hl', ?_⟩
      have e2 : (c.prs.map fun p => (((((m / 2 ^ p.2) &&& (n / 2 ^ p.1)) &&& 1 : Nat)) : Int)).sum = ((crossN c.prs m n : Nat) : Int) := by
        unfold crossN
        generalize c.prs = l
        induction l with
        | nil => rfl
        | cons p r ih => rw [List.map_cons, List.sum_cons, ih, List.map_cons, List.sum_cons, Int.natCast_add]
      rw [e2]
      exact q _ s'
end
end Cw

set_option maxHeartbeats 4000000
/-! The walks of joined, outer and of words.py. -/
namespace Cw
open PySem PySem.Spec PyProof.Rows L2 LamX

/-! ### kinds -/
def kst (prs : List (Nat × Nat)) (p : Nat × Nat) (x : Nat) : Nat × Nat := (p.1 ^^^ 2 ^ (x - 97), (p.2 + 0 + crossN prs p.1 (2 ^ (x - 97)) + popT (p.1 &&& 2 ^ (x - 97))) % 2)
def kindW (prs : List (Nat × Nat)) (w : Wd) : Nat × Nat := w.foldl (kst prs) (0, 0)
def normW (u : Wd) (s : Nat) : Wd := if u = [] then (if s = 1 then [97, 97] else [97, 97, 97, 97]) else u ++ if s = 1 then [97, 97] else []
def KdAt (H : Hp) (a : Addr) (k : Nat × Nat) : Prop := H a = some (.tup [.int (k.1 : Int), .int (k.2 : Int)])

section
variable {P : Program} {w : World} {K : PySem.W.Frag} {mg : Str → Option Value} {base : Heap}

theorem dp_kind {H : Hp} {a : Addr} {k : Nat × Nat} (h : KdAt H a k) : Dp K H (.ref a) (.tuple [.int (k.1 : Int), .int (k.2 : Int)]) := .tup (SqT.of h) (.cons (.int _) (.cons (.int _) .nil))
theorem eqv_kind (k l : Nat × Nat) : PyData.eqv (.tuple [.int (k.1 : Int), .int (k.2 : Int)]) (.tuple [.int (l.1 : Int), .int (l.2 : Int)]) = decide (k = l) := by
  simp only [PyData.eqv, PyData.eqvAll, Bool.and_true]
  rw [Bool.eq_iff_iff, Bool.and_eq_true, beq_iff_eq, beq_iff_eq, decide_eq_true_eq, Prod.ext_iff]
  omega

def spJoined : Sp := fun vs H Q _ => ∃ (a p q : Addr) (c : Co) (m s n r : Nat), vs = [.ref a, .ref p, .ref q] ∧ CoAt H a c ∧ c.prs.length ≤ 100 ∧ KdAt H p (m, s) ∧ KdAt H q (n, r) ∧ m &&& n < 8 ∧
  ∀ H' u, Same H H' → KdAt H' u (m ^^^ n, (s + r + crossN c.prs m n + popT (m &&& n)) % 2) → Q (.ref u) H'
theorem okJoined (T : Tx K mg) : OkF P w K mg base 2 "joined" ["company", "one", "other"] spJoined := by
  refine mkF T.dJoined scJoined (fun vs H Q E h => ?_) fun f cdv A outer s H vs Q E hr h => ?_
  · obtain ⟨a, p, q, c, m, s, n, r, rfl, _⟩ := h
    rfl
  · obtain ⟨a, p, q, c, m, s, n, r, rfl, hc, h100, hp, hq, h8, k⟩ := h
    refine ⟨_, (pss_cons (ps_set (i := 3) scJoined.nd rfl (.inl rfl) (pe_op op_add (pe_op op_add (pe_op op_add (pe_ix (ix_tupK (K := K)) (pv 1) pe_int (fun _ _ => rfl)) (pe_ix (ix_tupK (K := K)) (pv 2) pe_int (fun _ _ => rfl))) (pe_c (okCrossed T) (hr.mono (by decide)) (by rfl) (pa_cons (pv 0) (pa_cons (pe_ix (ix_tupK (K := K)) (pv 1) pe_int (fun _ _ => rfl)) (pa_cons (pe_ix (ix_tupK (K := K)) (pv 2) pe_int (fun _ _ => rfl)) pa_nil))))) (pe_c (okBits T) (hr.mono (by decide)) (by rfl) (pa_cons (pe_op op_and (pe_ix (ix_tupK (K := K)) (pv 1) pe_int (fun _ _ => rfl)) (pe_ix (ix_tupK (K := K)) (pv 2) pe_int (fun _ _ => rfl))) pa_nil))))
      (pss_one (ps_ret (pe_tup (pa_cons (pe_op op_xor (pe_ix (ix_tupK (K := K)) (pv 1) pe_int (fun _ _ => rfl)) (pe_ix (ix_tupK (K := K)) (pv 2) pe_int (fun _ _ => rfl))) (pa_cons (pe_op op_mod (pv 3) pe_int) pa_nil)))))), ?_⟩
    have tp : ∀ {H'}, Same H H' → SqT K H' p [.int (m : Int), .int (s : Int)] := fun s' => SqT.of (s' _ _ hp)
    have tq : ∀ {H'}, Same H H' → SqT K H' q [.int (n : Int), .int (r : Int)] := fun s' => SqT.of (s' _ _ hq)
    have s0 := Same.refl H
    refine ⟨_, rfl, p, _, 1, _, rfl, rfl, tp s0, rfl, _, rfl, q, _, 1, _, rfl, rfl, tq s0, rfl, _, _, rfl, rfl, ?_⟩
    refine ⟨_, rfl, _, rfl, p, _, 0, _, rfl, rfl, tp s0, rfl, _, rfl, q, _, 0, _, rfl, rfl, tq s0, rfl, a, c, m, n, rfl, hc, h100, fun H1 s1 => ⟨_, _, rfl, rfl, ?_⟩⟩
    refine ⟨_, rfl, p, _, 0, _, rfl, rfl, tp s1, rfl, _, rfl, q, _, 0, _, rfl, rfl, tq s1, rfl, _, _, rfl, rfl, m &&& n, ?_, h8, _, _, rfl, rfl, ?_⟩
    · show [V.int (Builtin.bitAnd (m : Int) (n : Int))] = _
      rw [and_nn]
    refine ⟨_, rfl, p, _, 0, _, rfl, rfl, tp s1, rfl, _, rfl, q, _, 0, _, rfl, rfl, tq s1, rfl, _, _, rfl, rfl, _, rfl, _, _, rfl, rfl, (by show (0 : Int) < 2; decide), (by show 2 ≤ sizeLine; decide), fun u hu => ?_⟩
    refine k _ u (s1.trans (same_new hu)) ?_
    unfold KdAt
    rw [upd_same]
    dsimp only
    rw [xor_nn]
    have e : (((s : Int) + (r : Int) + ((crossN c.prs m n : Nat) : Int) + ((popT (m &&& n) : Nat) : Int)) % 2) = (((s + r + crossN c.prs m n + popT (m &&& n)) % 2 : Nat) : Int) := by omega
    rw [e]

def spOuter : Sp := fun vs H Q _ => ∃ (p : Addr) (m s : Nat), vs = [.ref p] ∧ KdAt H p (m, s) ∧ ∀ H' u, Same H H' → H' u = some (.tup [.str (S (lettersW m)), .int (s : Int)]) → Q (.ref u) H'
theorem okOuter (T : Tx K mg) : OkF P w K mg base 2 "outer" ["pair"] spOuter := by
  refine mkF T.dOuter scOuter (fun vs H Q E h => ?_) fun f cdv A outer s H vs Q E hr h => ?_
  · obtain ⟨p, m, s, rfl, _⟩ := h
    rfl
  · obtain ⟨p, m, s, rfl, hp, k⟩ := h
    refine ⟨_, (pss_one (ps_ret (pe_tup (pa_cons (pe_c (okLettersOf T) (hr.mono (by decide)) (by rfl) (pa_cons (pe_ix (ix_tupK (K := K)) (pv 0) pe_int (fun _ _ => rfl)) pa_nil)) (pa_cons (pe_ix (ix_tupK (K := K)) (pv 0) pe_int (fun _ _ => rfl)) pa_nil))))), ?_⟩
    refine ⟨_, rfl, p, _, 0, _, rfl, rfl, SqT.of hp, rfl, m, rfl, fun H1 s1 => ⟨_, rfl, p, _, 1, _, rfl, rfl, SqT.of (s1 _ _ hp), rfl, (by show 2 ≤ sizeLine; decide), fun u hu => ?_⟩⟩
    exact k _ u (s1.trans (same_new hu)) upd_same

def spKindOf : Sp := fun vs H Q _ => ∃ (a : Addr) (c : Co) (u : Wd), vs = [.ref a, .str (S u)] ∧ CoAt H a c ∧ c.prs.length ≤ 100 ∧ c.many ≤ 3 ∧ Ok c.many u ∧ ∀ H' p, Same H H' → KdAt H' p (kindW c.prs u) → Q (.ref p) H'
theorem okKindOf (T : Tx K mg) : OkF P w K mg base 3 "kind_of" ["company", "word"] spKindOf := by
  refine mkF T.dKindOf scKindOf (fun vs H Q E h => ?_) fun f cdv A outer s H vs Q E hr h => ?_
  · obtain ⟨a, c, u, rfl, _⟩ := h
    rfl
  · obtain ⟨a, c, u, rfl, hc, h100, h3, ok, k⟩ := h
    obtain ⟨tA, hALPHABET⟩ := T.k_ALPHABET
    refine ⟨_, (pss_cons (ps_set (i := 2) scKindOf.nd rfl (.inl rfl) (pe_tup (pa_cons pe_int (pa_cons pe_int pa_nil))))
      (pss_cons (ps_for PassesOwn.never rfl (pi_str (pv 1)) (pg_name (i := 3) scKindOf.nd rfl (.inl rfl)) (pss_one (ps_set (i := 2) scKindOf.nd rfl (.inl rfl) (pe_c (okJoined T) (hr.mono (by decide)) (by rfl) (pa_cons (pv 0) (pa_cons (pv 2) (pa_cons (pe_tup (pa_cons (pe_op op_shl pe_int (pe_m1 PySem.F.slot_str_index PySem.F.type_str_index mt_indexA (pe_glob (v := .str ALPH) (by rfl) hALPHABET ⟨_, rfl⟩) (pv 3))) (pa_cons pe_int pa_nil))) pa_nil)))))))
      (pss_one (ps_ret (pv 2))))), ?_⟩
    refine ⟨(by show 2 ≤ sizeLine; decide), fun p hp => ?_⟩
    have s1 : Same H (upd H p (.tup [.int 0, .int 0])) := same_new hp
    refine ⟨_, rfl, S u, rfl, for_it (walk_str (z := S u)) (fun i σ H' => ∃ q x3, σ = [some (.ref a), some (.str (S u)), some (.ref q), x3] ∧ Same H H' ∧ KdAt H' q (kindW c.prs (u.take i))) ⟨p, _, rfl, s1, ?_⟩ (fun _ _ _ _ _ => trivial) (fun i x σ H1 H2 hi hW hy => ?_) fun σ H1 hW => ?_⟩
    · exact upd_same
    · obtain ⟨q, x3, rfl, s2, hq⟩ := hW
      obtain ⟨rfl, b, hb, rfl⟩ := hy
      have hub : u[i]? = some b := by
        rw [← S_tl u, Array.getElem?_toList]
        exact hb
      have hbm := mem_alph.mp (ok b (List.mem_of_getElem? hub))
      have e1 : u.take (i + 1) = u.take i ++ [b] := by rw [List.take_add_one, hub]; rfl
      generalize hk : kindW c.prs (u.take i) = kk at hq
      have hlt : kk.1 &&& 2 ^ (b - 97) < 8 := by
        have h1 : kk.1 &&& 2 ^ (b - 97) ≤ 2 ^ (b - 97) := Nat.and_le_right
        have h2 : 2 ^ (b - 97) ≤ 2 ^ 2 := Nat.pow_le_pow_right (by omega) (by omega)
        omega
      refine ⟨_, rfl, _, rfl, ⟨_, rfl⟩, _, rfl, b, rfl, rfl, hbm.1, by omega, _, _, rfl, rfl, ⟨by omega, by omega, by decide⟩, (by show 2 ≤ sizeLine; decide), fun z hz => ?_⟩
      have s3 : Same H (upd H2 z (.tup [.int (1 * 2 ^ (((b - 97 : Nat) : Int)).toNat), .int 0])) := s2.trans (same_new hz)
      refine ⟨a, q, z, c, kk.1, kk.2, 2 ^ (b - 97), 0, rfl, hc.mono s3, h100, ?_, ?_, hlt, fun H4 q4 s4 hq4 => ?_⟩
      · exact (same_new hz) _ _ hq
      · unfold KdAt
        rw [upd_same]
        dsimp only
        rw [shl_one]
        rfl
      · refine ⟨q4, _, rfl, s3.trans s4, ?_⟩
        rw [e1]
        unfold kindW at hk ⊢
        rw [List.foldl_append, hk]
        exact hq4
    · obtain ⟨q, x3, rfl, s2, hq⟩ := hW
      rw [S_size, List.take_length] at hq
      exact ⟨_, rfl, k _ q s2 hq⟩

def spAreOne : Sp := fun vs H Q _ => ∃ (a : Addr) (c : Co) (u v : Wd), vs = [.ref a, .str (S u), .str (S v)] ∧ CoAt H a c ∧ CoOk c ∧ c.many ≤ 3 ∧ 1 ≤ u.length ∧ u.length ≤ 60 ∧ Ok c.many u ∧ 1 ≤ v.length ∧ v.length ≤ 60 ∧ Ok c.many v ∧
  ∀ H', Same H H' → Q (.bl (decide (kindW c.prs u = kindW c.prs v))) H'
theorem okAreOne (T : Tx K mg) : OkF P w K mg base 5 "are_one" ["company", "one", "other"] spAreOne := by
  refine mkF T.dAreOne scAreOne (fun vs H Q E h => ?_) fun f cdv A outer s H vs Q E hr h => ?_
  · obtain ⟨a, c, u, v, rfl, _⟩ := h
    rfl
  · obtain ⟨a, c, u, v, rfl, hc, ok, h3, u1, u60, hu, v1, v60, hv, k⟩ := h
    refine ⟨_, (pss_cons (ps_expr (pe_c (okNeedBoth T) (hr.mono (by decide)) (by rfl) (pa_cons (pv 0) (pa_cons (pv 1) pa_nil))))
      (pss_cons (ps_expr (pe_c (okNeedWord T) (hr.mono (by decide)) (by rfl) (pa_cons (pv 0) (pa_cons (pv 2) pa_nil))))
      (pss_one (ps_ret (pe_cmpR (op_eqDK (K := K) hr.units) (pe_c (okKindOf T) (hr.mono (by decide)) (by rfl) (pa_cons (pv 0) (pa_cons (pv 1) pa_nil))) (pe_c (okKindOf T) (hr.mono (by decide)) (by rfl) (pa_cons (pv 0) (pa_cons (pv 2) pa_nil))) (nomark _)))))), ?_⟩
    have h28 := ok.l28
    refine ⟨_, rfl, _, rfl, a, c, u, rfl, hc, ok, u1, u60, hu, fun H1 s1 => ?_⟩
    refine ⟨_, rfl, _, rfl, a, c, v, rfl, hc.mono s1, ok.m8, v1, v60, hv, fun H2 s2 => ?_⟩
    have s12 := s1.trans s2
    refine ⟨_, rfl, _, rfl, a, c, u, rfl, hc.mono s12, by omega, h3, hu, fun H3 p s3 hp => ?_⟩
    have s13 := s12.trans s3
    refine ⟨_, rfl, _, rfl, a, c, v, rfl, hc.mono s13, by omega, h3, hv, fun H4 q s4 hq => ?_⟩
    refine ⟨_, _, dp_kind (show KdAt H4 p _ from s4 _ _ hp), dp_kind hq, rfl, rfl, ?_⟩
    rw [eqv_kind]
    exact k _ (s13.trans s4)

def spNormalOf : Sp := fun vs H Q _ => ∃ (a : Addr) (u : Wd) (s : Nat), vs = [.ref a] ∧ H a = some (.tup [.str (S u), .int (s : Int)]) ∧ u.length ≤ 1000 ∧ Q (.str (S (normW u s))) H
theorem okNormalOf (T : Tx K mg) : OkF P w K mg base 1 "normal_of" ["told"] spNormalOf := by
  refine mkF T.dNormalOf scNormalOf (fun vs H Q E h => ?_) fun f cdv A outer s H vs Q E hr h => ?_
  · obtain ⟨a, u, s, rfl, _⟩ := h
    rfl
  · obtain ⟨a, u, s, rfl, ha, hl, k⟩ := h
    refine ⟨_, (pss_cons (ps_if (pt_cmpR op_eq (pe_ix (ix_tupK (K := K)) (pv 0) pe_int (fun _ _ => rfl)) pe_str (nomark _)) (pss_one (ps_ret (pe_ifExp (pt_cmpR op_eq (pe_ix (ix_tupK (K := K)) (pv 0) pe_int (fun _ _ => rfl)) pe_int (nomark _)) pe_str pe_str))) pss_nil)
      (pss_one (ps_ret (pe_op op_add_str (pe_ix (ix_tupK (K := K)) (pv 0) pe_int (fun _ _ => rfl)) (pe_ifExp (pt_cmpR op_eq (pe_ix (ix_tupK (K := K)) (pv 0) pe_int (fun _ _ => rfl)) pe_int (nomark _)) pe_str pe_str))))), ?_⟩
    have hS : SqT K H a [.str (S u), .int (s : Int)] := SqT.of ha
    have ee : S [] = Str.ofString "" := by apply TL.ext_tl; rfl
    have e2 : Str.ofString "aa" = S [97, 97] := by apply TL.ext_tl; decide +kernel
    have e4 : Str.ofString "aaaa" = S [97, 97, 97, 97] := by apply TL.ext_tl; decide +kernel
    have d0 : decide (V.str (S u) = V.str (Str.ofString "")) = decide (u = []) := by
      rw [decide_eq_decide, ← ee]
      constructor
      · intro h
        injection h with h
        exact S_inj h
      · rintro rfl
        rfl
    have d1 : decide (V.int (s : Int) = V.int 1) = decide (s = 1) := by
      rw [decide_eq_decide]
      constructor
      · intro h
        injection h with h
        omega
      · rintro rfl
        rfl
    refine ⟨_, rfl, a, _, 0, _, rfl, rfl, hS, rfl, rfl, decide (u = []), congrArg V.bl d0, ?_⟩
    unfold normW at k
    by_cases hu : u = []
    · rw [if_pos hu] at k
      rw [decide_eq_true hu]
      dsimp only
      rw [if_pos rfl]
      refine ⟨_, rfl, a, _, 1, _, rfl, rfl, hS, rfl, rfl, decide (s = 1), congrArg V.bl d1, ?_⟩
      by_cases h1 : s = 1
      · rw [if_pos h1] at k
        rw [decide_eq_true h1]
        dsimp only
        rw [if_pos rfl]
        show Q (.str (Str.ofString "aa")) H
        rw [e2]
        exact k
      · rw [if_neg h1] at k
        rw [decide_eq_false h1]
        dsimp only
        rw [if_neg Bool.false_ne_true]
        show Q (.str (Str.ofString "aaaa")) H
        rw [e4]
        exact k
    · rw [if_neg hu] at k
      rw [decide_eq_false hu]
      dsimp only
      rw [if_neg Bool.false_ne_true]
      refine ⟨_, rfl, a, _, 0, _, rfl, rfl, hS, rfl, _, rfl, a, _, 1, _, rfl, rfl, hS, rfl, rfl, decide (s = 1), congrArg V.bl d1, ?_⟩
      by_cases h1 : s = 1
      · rw [if_pos h1] at k
        rw [decide_eq_true h1]
        dsimp only
        rw [if_pos rfl]
        refine ⟨S u, Str.ofString "aa", rfl, rfl, ?_, ?_⟩
        · rw [S_len, e2, S_len]
          exact le_line (by simp; omega)
        · rw [e2, S_app]
          exact k
      · rw [if_neg h1] at k
        rw [decide_eq_false h1]
        dsimp only
        rw [if_neg Bool.false_ne_true]
        refine ⟨S u, Str.ofString "", rfl, rfl, ?_, ?_⟩
        · rw [S_len, ← ee, S_len]
          exact le_line (by simp; omega)
        · rw [← ee, S_app]
          exact k
end
end Cw

set_option maxHeartbeats 4000000
/-! Values of plain expressions over texts and numbers. -/
namespace Cw
open PySem PySem.Spec PyProof.Rows L2 LamX
section
variable {σ : L2.St} {H : Hp} {ta tb tc te : TE} {u v : Wd} {i j : Nat} {K : PySem.W.Frag}

abbrev rAddS2 : R2 := fun x y H Q => ∃ i j, x = .str i ∧ y = .str j ∧ i.length + j.length ≤ sizeLine ∧ Q (.str (i ++ j)) H
theorem v_to (ha : Val ta σ H (.str (S u))) (hb : Val tb σ H (.int (i : Int))) (hl : u.length < 16000000) : Val (tSl rSlS ta tNoPart (tPart tb)) σ H (.str (S (u.take i))) := by
  intro Q q
  refine ha _ ?_
  refine hb _ ⟨_, rfl, S u, rfl, by rw [S_len]; exact le_line hl, ?_⟩
  rw [cut_to]
  exact q
theorem v_from (ha : Val ta σ H (.str (S u))) (hb : Val tb σ H (.int (i : Int))) (hl : u.length < 16000000) : Val (tSl rSlS ta (tPart tb) tNoPart) σ H (.str (S (u.drop i))) := by
  intro Q q
  refine ha _ ?_
  refine hb _ ⟨_, rfl, S u, rfl, by rw [S_len]; exact le_line hl, ?_⟩
  rw [cut_from]
  exact q
theorem v_mid (ha : Val ta σ H (.str (S u))) (hb : Val tb σ H (.int (i : Int))) (hc : Val tc σ H (.int (j : Int))) (hl : u.length < 16000000) : Val (tSl rSlS ta (tPart tb) (tPart tc)) σ H (.str (S ((u.take j).drop i))) := by
  intro Q q
  refine ha _ ?_
  refine hb _ ⟨_, rfl, ?_⟩
  refine hc _ ⟨_, rfl, S u, rfl, by rw [S_len]; exact le_line hl, ?_⟩
  rw [cut_nat]
  exact q
theorem v_ixs (ha : Val ta σ H (.str (S u))) (hb : Val tb σ H (.int (i : Int))) (hi : i < u.length) (hl : u.length < 16000000) : Val (tOp rIxS ta tb) σ H (.str (sg (u.getD i 0))) := by
  intro Q q
  refine ha _ ?_
  exact hb _ ⟨S u, _, u.getD i 0, rfl, rfl, by rw [S_len]; exact le_line hl, at_S hi, q⟩
theorem v_adds (ha : Val ta σ H (.str (S u))) (hb : Val tb σ H (.str (S v))) (hl : u.length + v.length < 16000000) : Val (tOp rAddS2 ta tb) σ H (.str (S (u ++ v))) := by
  intro Q q
  refine ha _ ?_
  refine hb _ ⟨S u, S v, rfl, rfl, by rw [S_len, S_len]; exact le_line hl, ?_⟩
  rw [S_app]
  exact q
theorem v_muls {n : Nat} (ha : Val ta σ H (.str (S u))) (hb : Val tb σ H (.int (n : Int))) (hl : u.length * n ≤ 1000000) (hn : n ≤ 1000000) (hu : u.length ≤ 1000000) : Val (tOp rMulS ta tb) σ H (.str (S (List.replicate n u).flatten)) := by
  intro Q q
  refine ha _ ?_
  exact hb _ ⟨S u, n, rfl, rfl, by rw [S_len]; exact hl, hn, by rw [S_len]; exact hu, q⟩
theorem v_addi {x y : Int} (ha : Val ta σ H (.int x)) (hb : Val tb σ H (.int y)) : Val (tOp (rI0 fun i j => .int (i + j)) ta tb) σ H (.int (x + y)) := by
  intro Q q
  refine ha _ ?_
  exact hb _ ⟨x, y, rfl, rfl, q⟩
theorem v_subi {x y : Int} (ha : Val ta σ H (.int x)) (hb : Val tb σ H (.int y)) : Val (tOp (rI0 fun i j => .int (i - j)) ta tb) σ H (.int (x - y)) := by
  intro Q q
  refine ha _ ?_
  exact hb _ ⟨x, y, rfl, rfl, q⟩
/-- an index i + k -/
theorem v_plus {k : Nat} (ha : Val ta σ H (.int (i : Int))) : Val (tOp (rI0 fun i j => .int (i + j)) ta (tC (.int (k : Int)))) σ H (.int ((i + k : Nat) : Int)) := v_addi ha val_c
theorem v_ixl {p : Addr} {xs : List V} {x : V} {z : Int} (ha : Val ta σ H (.ref p)) (hb : Val tb σ H (.int z)) (hp : SqL K H p xs) (hx : atI xs z = some x) : Val (tOp (rIxL K) ta tb) σ H x := by
  intro Q q
  refine ha _ ?_
  exact hb _ ⟨p, xs, z, x, rfl, rfl, hp, hx, q⟩
theorem v_ixt {p : Addr} {xs : List V} {x : V} {z : Int} (ha : Val ta σ H (.ref p)) (hb : Val tb σ H (.int z)) (hp : SqT K H p xs) (hx : atI xs z = some x) : Val (tOp (rIxT K) ta tb) σ H x := by
  intro Q q
  refine ha _ ?_
  exact hb _ ⟨p, xs, z, x, rfl, rfl, hp, hx, q⟩
theorem v_neg {x : Int} (ha : Val ta σ H (.int x)) : Val (tUn (rU fun i => .int (-i)) ta) σ H (.int (-x)) := by
  intro Q q
  exact ha _ ⟨x, rfl, q⟩
theorem v_is {x y : V} (h : Val te σ H x) (e : x = y) : Val te σ H y := e ▸ h
theorem v_lens (ha : Val ta σ H (.str (S u))) (hl : u.length < 16000000) : Val (tCB (fun xs H Q => ∃ z : Str, xs = [.str z] ∧ z.length ≤ sizeLine ∧ Q (.int z.length) H) (tCons ta tNil)) σ H (.int (u.length : Int)) := by
  intro Q q
  refine ha _ ⟨S u, rfl, by rw [S_len]; exact le_line hl, ?_⟩
  rw [S_len]
  exact q
theorem v_lenl {p : Addr} {xs : List V} (ha : Val ta σ H (.ref p)) (hp : SqL K H p xs) : Val (tCB (rLenK K) (tCons ta tNil)) σ H (.int (xs.length : Int)) := by
  intro Q q
  exact ha _ ⟨p, xs, rfl, .inl hp, q⟩
/-- two tests, both plain -/
theorem st_if {c : TT} {t1 t2 : TS} {D : Ends} {b : Bool} (h : Ans c σ H b) (h1 : b = true → t1 D σ H) (h2 : b = false → t2 D σ H) : tIfS c t1 t2 D σ H := by
  refine h _ ?_
  cases b with
  | true =>
    show (if true = true then t1 D σ H else t2 D σ H)
    rw [if_pos rfl]
    exact h1 rfl
  | false =>
    show (if false = true then t1 D σ H else t2 D σ H)
    rw [if_neg Bool.false_ne_true]
    exact h2 rfl
theorem a_or2 {t u : TT} {a b : Bool} (h1 : Ans t σ H a) (h2 : Ans u σ H b) : Ans (tOr t u) σ H (a || b) := by
  cases a with
  | true => exact ans_or1 h1
  | false => exact ans_or h1 h2
theorem a_eqs (ha : Val ta σ H (.str (S u))) (hb : Val tb σ H (.str (S v))) : Ans (tTest (tOp rEq ta tb)) σ H (decide (u = v)) := by
  refine ans_eq ha hb rfl ?_
  rw [decide_eq_decide]
  constructor
  · intro h
    injection h with h
    exact S_inj h
  · rintro rfl
    rfl
theorem a_nes (ha : Val ta σ H (.str (S u))) (hb : Val tb σ H (.str (S v))) : Ans (tTest (tOp rNe ta tb)) σ H (!decide (u = v)) := by
  refine ans_ne ha hb rfl ?_
  congr 1
  rw [decide_eq_decide]
  constructor
  · intro h
    injection h with h
    exact S_inj h
  · rintro rfl
    rfl
theorem a_eqc {a b : Nat} (ha : Val ta σ H (.str (sg a))) (hb : Val tb σ H (.str (sg b))) : Ans (tTest (tOp rEq ta tb)) σ H (decide (a = b)) := by
  refine ans_eq ha hb rfl ?_
  rw [decide_eq_decide]
  constructor
  · intro h
    injection h with h
    have := S_inj (u := [a]) (v := [b]) h
    injection this
  · rintro rfl
    rfl
theorem a_nec {a b : Nat} (ha : Val ta σ H (.str (sg a))) (hb : Val tb σ H (.str (sg b))) : Ans (tTest (tOp rNe ta tb)) σ H (!decide (a = b)) := by
  refine ans_ne ha hb rfl ?_
  congr 1
  rw [decide_eq_decide]
  constructor
  · intro h
    injection h with h
    have := S_inj (u := [a]) (v := [b]) h
    injection this
  · rintro rfl
    rfl
theorem a_int {g : Int → Int → Bool} {x y : Int} (ha : Val ta σ H (.int x)) (hb : Val tb σ H (.int y)) : Ans (tTest (tOp (rI0 fun i j => .bl (g i j)) ta tb)) σ H (g x y) :=
  ans_cmp ha hb fun Q q => ⟨x, y, rfl, rfl, q⟩
theorem a_eqi {x y : Int} (ha : Val ta σ H (.int x)) (hb : Val tb σ H (.int y)) : Ans (tTest (tOp rEq ta tb)) σ H (decide (x = y)) := by
  refine ans_eq ha hb rfl ?_
  rw [decide_eq_decide]
  constructor
  · intro h
    injection h
  · rintro rfl
    rfl
end
/-- texts in a list -/
def wV (l : List Wd) : List V := l.map fun v => V.str (S v)
def WsAt (H : Hp) (p : Addr) (l : List Wd) : Prop := H p = some (.lst (wV l))
theorem wV_app (l m : List Wd) : wV (l ++ m) = wV l ++ wV m := List.map_append
theorem wV_len (l : List Wd) : (wV l).length = l.length := List.length_map _
/-- l.append(text) -/
theorem s_app {K : PySem.W.Frag} {σ : L2.St} {H : Hp} {to te : TE} {p : Addr} {l : List Wd} {v : Wd} {D : Ends} (ho : Val to σ H (.ref p)) (hp : WsAt H p l) (he : Val te σ H (.str (S v))) (hl : l.length < 16000000) (q : D.nx σ (upd H p (.lst (wV (l ++ [v]))))) :
    tDrop (tBM K "list" rAppend to (tCons te tNil)) D σ H := by
  refine ho _ ⟨.inl ⟨rfl, _, SqL.of hp⟩, ?_⟩
  refine he _ ⟨p, wV l, _, rfl, rfl, hp, by rw [wV_len]; exact lt_line hl, ?_⟩
  rw [wV_app] at q
  exact q
end Cw

set_option maxHeartbeats 4000000
/-! The walks of onesteps.py: friendly, shorter, longer, changed. -/
namespace Cw
open PySem PySem.Spec PyProof.Rows L2 LamX

theorem td_get (G : List Nat) (j : Nat) (hj : j < G.length) : (G.map fun (n : Nat) => V.int (n : Int))[j]? = some (.int ((G.getD j 0 : Nat) : Int)) := by
  rw [List.getElem?_map, List.getElem?_eq_getElem hj, List.getD_eq_getElem?_getD, List.getElem?_eq_getElem hj]
  rfl
theorem getD_mem {w : Wd} {i : Nat} (h : i < w.length) : w.getD i 0 ∈ w := by
  rw [List.getD_eq_getElem?_getD, List.getElem?_eq_getElem h]
  exact List.getElem_mem h
theorem alph8 {k a : Nat} (h : a ∈ alph k) (h8 : k ≤ 8) : a ∈ alph 8 := by
  rw [mem_alph] at h ⊢
  omega
theorem rng_sub (n k : Nat) : (((n : Int) - (k : Int)) - 0).toNat = n - k := by omega
theorem shS_len (t : List Nat) (u : Wd) (i : Nat) : (shS t u i).length ≤ 1 := by
  unfold shS
  split <;> simp
theorem loT_len (t : List Nat) (u : Wd) (i o : Nat) : (loT t u i o).length ≤ 1 := by
  unfold loT
  split <;> simp
theorem flatM_le {α β : Type} (f : α → List β) {c : Nat} (l : List α) (h : ∀ x ∈ l, (f x).length ≤ c) : (l.flatMap f).length ≤ l.length * c := by
  induction l with
  | nil => simp
  | cons x l ih =>
    rw [List.flatMap_cons, List.length_append, List.length_cons, Nat.succ_mul]
    have := ih fun y hy => h y (List.mem_cons_of_mem _ hy)
    have := h x (List.mem_cons_self ..)
    omega
theorem alph_len (k : Nat) : (alph k).length = k := by simp [alph]
theorem loS_len (t : List Nat) (k : Nat) (u : Wd) (i : Nat) : (loS t k u i).length ≤ k := by
  have := flatM_le (loT t u i) (c := 1) (alph k) fun x _ => loT_len t u i x
  rw [alph_len] at this
  unfold loS
  omega
theorem chS_len (t : List Nat) (k : Nat) (u : Wd) (i : Nat) : (chS t k u i).length ≤ k + 1 := by
  unfold chS chD
  split
  · rw [List.length_map]
    have := List.length_filter_le (fun s => s != u.getD i 0) (alph k)
    rw [alph_len] at this
    omega
  · split <;> simp
theorem rng_it {i : Nat} {x : V} {H H' : Hp} (h : YFn (fun i => V.int (0 + (i : Nat))) i H x H') : H' = H ∧ x = .int (i : Int) := by
  obtain ⟨h1, h2⟩ := h
  refine ⟨h1, ?_⟩
  rw [h2]
  dsimp only
  rw [Int.zero_add]
theorem at_val {te : TE} {σ : L2.St} {H : Hp} {Q : VK} {v : V} (h : Val te σ H v) (q : Q v H) : te σ H Q := h Q q
theorem at_ans {te : TT} {σ : L2.St} {H : Hp} {Q : Bool → Hp → Prop} {v : Bool} (h : Ans te σ H v) (q : Q v H) : te σ H Q := h Q q
theorem v_alph {σ : L2.St} {H : Hp} {tb : TE} {k : Nat} (h : Val tb σ H (.int (k : Int))) (h8 : k ≤ 8) : Val (tSl rSlS (tC (.str ALPH)) tNoPart (tPart tb)) σ H (.str (S (alph k))) := by
  have e : Val (tC (.str ALPH)) σ H (.str (S [97, 98, 99, 100, 101, 102, 103, 104])) := v_is val_c (by rw [ALPH_S])
  have q := v_to e h (by decide)
  rw [ALPH_take h8] at q
  exact q
theorem v_lentd {K : PySem.W.Frag} {σ : L2.St} {H : Hp} {ta : TE} {p : Addr} {t : List Nat} (ha : Val ta σ H (.ref p)) (hp : TdAt H p t) : Val (tCB (rLenK K) (tCons ta tNil)) σ H (.int (t.length : Int)) := by
  have q := v_lenl (K := K) ha (SqL.of hp)
  rw [List.length_map] at q
  exact q
section
variable {P : Program} {w : World} {K : PySem.W.Frag} {mg : Str → Option Value} {base : Heap}

def spFriendly : Sp := fun vs H Q _ => ∃ (p : Addr) (t : List Nat) (a b : Nat), vs = [.ref p, .str (sg a), .str (sg b)] ∧ TdAt H p t ∧ t.length ≤ 8 ∧ a ∈ alph t.length ∧ b ∈ alph 8 ∧ Q (.bl (fr t a b)) H
theorem okFriendly (T : Tx K mg) : OkF P w K mg base 1 "friendly" ["told", "one", "other"] spFriendly := by
  refine mkF T.dFriendly scFriendly (fun vs H Q E h => ?_) fun f cdv A outer s H vs Q E hr h => ?_
  · obtain ⟨p, t, a, b, rfl, _⟩ := h
    rfl
  · obtain ⟨p, t, a, b, rfl, hp, h8, ha, hb, q⟩ := h
    obtain ⟨tA, hALPHABET⟩ := T.k_ALPHABET
    refine ⟨_, (pss_one (ps_ret (pe_cmpR op_eq (pe_op op_and (pe_op op_shr (pe_ix (ix_listK (K := K)) (pv 0) (pe_m1 PySem.F.slot_str_index PySem.F.type_str_index mt_indexA (pe_glob (v := .str ALPH) (by rfl) hALPHABET ⟨_, rfl⟩) (pv 1)) (fun _ _ => rfl)) (pe_m1 PySem.F.slot_str_index PySem.F.type_str_index mt_indexA (pe_glob (v := .str ALPH) (by rfl) hALPHABET ⟨_, rfl⟩) (pv 2))) pe_int) pe_int (nomark _)))), ?_⟩
    rw [mem_alph] at ha hb
    refine ⟨_, rfl, ⟨_, rfl⟩, _, rfl, a, rfl, rfl, ha.1, by omega, p, _, ((a - 97 : Nat) : Int), _, rfl, rfl, SqL.of hp, atI_nat (td_get t (a - 97) (by omega)), ⟨_, rfl⟩, _, rfl, b, rfl, rfl, hb.1, by omega, _, _, rfl, rfl, by omega, _, _, rfl, rfl, rfl, ?_⟩
    rw [shr_nn]
    have ev : Builtin.bitAnd ((t.getD (a - 97) 0 / 2 ^ (b - 97) : Nat) : Int) 1 = ((t.getD (a - 97) 0 / 2 ^ (b - 97) % 2 : Nat) : Int) := by
      rw [show (1 : Int) = ((1 : Nat) : Int) from rfl, and_nn, and_one]
    have e : decide (V.int (Builtin.bitAnd ((t.getD (a - 97) 0 / 2 ^ (b - 97) : Nat) : Int) 1) = V.int 1) = fr t a b := by
      unfold fr
      rw [Bool.eq_iff_iff, decide_eq_true_eq, beq_iff_eq, ev]
      constructor
      · intro h
        injection h with h
        omega
      · intro h
        rw [h]
        rfl
    show Q (V.bl (decide (V.int (Builtin.bitAnd ((t.getD (a - 97) 0 / 2 ^ (b - 97) : Nat) : Int) 1) = V.int 1))) H
    rw [e]
    exact q
theorem a_fr {σ : L2.St} {H : Hp} {ta tb tc : TE} {p : Addr} {t : List Nat} {a b : Nat} (hp : TdAt H p t) (h8 : t.length ≤ 8) (ha : a ∈ alph t.length) (hb : b ∈ alph t.length) (h1 : Val ta σ H (.ref p)) (h2 : Val tb σ H (.str (sg a))) (h3 : Val tc σ H (.str (sg b))) :
    Ans (tB (tCall spFriendly [] E0 (tCons ta (tCons tb (tCons tc tNil))))) σ H (fr t a b) := by
  intro Q q
  refine h1 _ ?_
  refine h2 _ ?_
  refine h3 _ ?_
  exact ⟨p, t, a, b, rfl, hp, h8, ha, alph8 hb h8, _, rfl, q⟩

def spShorter : Sp := fun vs H Q _ => ∃ (p : Addr) (t : List Nat) (u : Wd), vs = [.ref p, .str (S u)] ∧ TdAt H p t ∧ t.length ≤ 8 ∧ Ok t.length u ∧ u.length ≤ 1000 ∧ ∀ H' q, Same H H' → H q = none → WsAt H' q (shorter t u) → Q (.ref q) H'
theorem okShorter (T : Tx K mg) : OkF P w K mg base 2 "shorter" ["told", "word"] spShorter := by
  refine mkF T.dShorter scShorter (fun vs H Q E h => ?_) fun f cdv A outer s H vs Q E hr h => ?_
  · obtain ⟨p, t, u, rfl, _⟩ := h
    rfl
  · obtain ⟨p, t, u, rfl, hp, h8, hok, hl, q⟩ := h
    refine ⟨_, (pss_cons (ps_set (i := 2) scShorter.nd rfl (.inl rfl) (pe_lst pa_nil))
      (pss_cons (ps_for PassesOwn.never rfl (pi_range1 (by rfl) T.z_range (pa_cons (pe_op op_sub (pe_callB call_len_str (by rfl) T.z_len (by decide +kernel) (pa_cons (pv 1) pa_nil)) pe_int) pa_nil)) (pg_name (i := 3) scShorter.nd rfl (.inl rfl)) (pss_one (ps_if (PW.pt (pw_and (pt_cmpR op_eq (pe_ix ix_str (pv 1) (pv 3) (fun _ _ => rfl)) (pe_ix ix_str (pv 1) (pe_op op_add (pv 3) pe_int) (fun _ _ => rfl)) (nomark _)) (pw_and1 (pt_val (pe_c (okFriendly T) (hr.mono (by decide)) (by rfl) (pa_cons (pv 0) (pa_cons (pe_ix ix_str (pv 1) (pv 3) (fun _ _ => rfl)) (pa_cons (pe_ix ix_str (pv 1) (pe_op op_add (pv 3) pe_int) (fun _ _ => rfl)) pa_nil)))))))) (pss_one (ps_expr (pe_bm PySem.F.plainAttrs_list PySem.F.slot_list_append PySem.F.type_list_append mt_append (pv 2) (pa_cons (pe_op op_add_str (pe_op op_add_str (pe_slice sl_str (pv 1) po_none (po_some (pv 3))) (pe_ix ix_str (pv 1) (pe_op op_add (pv 3) pe_int) (fun _ _ => rfl))) (pe_slice sl_str (pv 1) (po_some (pe_op op_add (pv 3) pe_int)) po_none)) pa_nil)))) pss_nil)))
      (pss_one (ps_ret (pv 2))))), ?_⟩
    refine ⟨Nat.zero_le _, fun D hD => ?_⟩
    have sD : Same H (upd H D (.lst [])) := same_new hD
    refine ⟨_, rfl, S u, rfl, le_line (by rw [S_len]; omega), _, _, rfl, rfl, _, rfl, by rw [S_len]; omega, by rw [S_len]; omega, ?_⟩
    have en : (((S u).length : Int) - 2).toNat = u.length - 2 := by rw [S_len]; omega
    rw [en]
    refine for_it walk_range (fun i σ H' => ∃ x3, σ = [some (.ref p), some (.str (S u)), some (.ref D), x3] ∧ Same H H' ∧ WsAt H' D ((List.range i).flatMap (shS t u))) ⟨_, rfl, sD, upd_same⟩ (fun _ _ _ _ _ => trivial) (fun i x σ H1 H2 hi hW hy => ?_) fun σ H1 hW => ?_
    · obtain ⟨x3, rfl, s1, hw⟩ := hW
      obtain ⟨rfl, rfl⟩ := rng_it hy
      have vi : ∀ {a b c : Option V}, Val (tVar 3) [a, b, c, some (.int (i : Int))] H2 (.int (i : Int)) := fun {_ _ _} => val_var rfl
      have vu : ∀ {a c d : Option V}, Val (tVar 1) [a, some (.str (S u)), c, d] H2 (.str (S u)) := fun {_ _ _} => val_var rfl
      have g0 : u.getD i 0 ∈ alph t.length := hok _ (getD_mem (by omega))
      have g1 : u.getD (i + 1) 0 ∈ alph t.length := hok _ (getD_mem (by omega))
      have hn : ((List.range i).flatMap (shS t u)).length < 16000000 := by
        have := flat_le (shS t u) (c := 1) i fun j _ => shS_len t u j
        omega
      refine st_if (ans_and2 (a_eqc (v_ixs vu vi (by omega) (by omega)) (v_ixs vu (v_plus (k := 2) vi) (by omega) (by omega))) (a_fr (s1 _ _ hp) h8 g0 g1 (val_var rfl) (v_ixs vu vi (by omega) (by omega)) (v_ixs vu (v_plus (k := 1) vi) (by omega) (by omega)))) (fun hb => ?_) fun hb => ?_
      · refine s_app (v := u.take i ++ [u.getD (i + 1) 0] ++ u.drop (i + 3)) (val_var rfl) hw (v_adds (v_adds (v_to vu vi (by omega)) (v_ixs vu (v_plus (k := 1) vi) (by omega) (by omega)) (by simp; omega)) (v_from vu (v_plus (k := 3) vi) (by omega)) (by simp; omega)) hn ?_
        refine ⟨_, rfl, same_mut s1 hD, ?_⟩
        unfold WsAt
        rw [upd_same, flat_succ]
        congr 5
        unfold shS
        rw [Bool.and_eq_true, decide_eq_true_eq] at hb
        rw [if_pos (by rw [Bool.and_eq_true, beq_iff_eq]; exact hb)]
        simp
      · refine ⟨_, rfl, s1, ?_⟩
        rw [flat_succ]
        have e : shS t u i = [] := by
          unfold shS
          rw [if_neg]
          intro h
          rw [Bool.and_eq_true, beq_iff_eq] at h
          rw [h.2, decide_eq_true h.1] at hb
          simp at hb
        rw [e, List.append_nil]
        exact hw
    · obtain ⟨x3, rfl, s1, hw⟩ := hW
      exact ⟨_, rfl, q _ D s1 hD hw⟩

theorem alph_get {k j : Nat} (h : j < k) : (alph k)[j]? = some (97 + j) := by
  unfold alph
  rw [List.getElem?_map, List.getElem?_range h]
  simp [Nat.add_comm]
theorem alph_take (j : Nat) (f : Nat → List Wd) : (alph (j + 1)).flatMap f = (alph j).flatMap f ++ f (97 + j) := by
  unfold alph
  rw [List.range_succ, List.map_append, List.flatMap_append]
  simp [Nat.add_comm]

def spLonger : Sp := fun vs H Q _ => ∃ (p : Addr) (t : List Nat) (u : Wd), vs = [.ref p, .str (S u)] ∧ TdAt H p t ∧ t.length ≤ 8 ∧ Ok t.length u ∧ u.length ≤ 1000 ∧ ∀ H' q, Same H H' → H q = none → WsAt H' q (longer t t.length u) → Q (.ref q) H'
theorem okLonger (T : Tx K mg) : OkF P w K mg base 2 "longer" ["told", "word"] spLonger := by
  refine mkF T.dLonger scLonger (fun vs H Q E h => ?_) fun f cdv A outer s H vs Q E hr h => ?_
  · obtain ⟨p, t, u, rfl, _⟩ := h
    rfl
  · obtain ⟨p, t, u, rfl, hp, h8, hok, hl, q⟩ := h
    obtain ⟨tA, hALPHABET⟩ := T.k_ALPHABET
    refine ⟨_, (pss_cons (ps_set (i := 2) scLonger.nd rfl (.inl rfl) (pe_lst pa_nil))
      (pss_cons (ps_for PassesOwn.never rfl (pi_enS (by rfl) T.z_enumerate (pa_cons (pv 1) pa_nil)) (pg_tupK (K := K) (n := 2) (by rfl) (pgs_cons (pg_name (i := 3) scLonger.nd rfl (.inl rfl)) (pgs_cons (pg_name (i := 4) scLonger.nd rfl (.inl rfl)) pgs_nil))) (pss_one (ps_for PassesOwn.never rfl (pi_str (pe_slice sl_str (pe_glob (v := .str ALPH) (by rfl) hALPHABET ⟨_, rfl⟩) po_none (po_some (pe_callB (call_len_seqK (K := K)) (by rfl) T.z_len (by decide +kernel) (pa_cons (pv 0) pa_nil))))) (pg_name (i := 5) scLonger.nd rfl (.inl rfl)) (pss_one (ps_if (pt_val (pe_c (okFriendly T) (hr.mono (by decide)) (by rfl) (pa_cons (pv 0) (pa_cons (pv 4) (pa_cons (pv 5) pa_nil))))) (pss_one (ps_expr (pe_bm PySem.F.plainAttrs_list PySem.F.slot_list_append PySem.F.type_list_append mt_append (pv 2) (pa_cons (pe_op op_add_str (pe_op op_add_str (pe_op op_add_str (pe_op op_add_str (pe_slice sl_str (pv 1) po_none (po_some (pv 3))) (pv 5)) (pv 4)) (pv 5)) (pe_slice sl_str (pv 1) (po_some (pe_op op_add (pv 3) pe_int)) po_none)) pa_nil)))) pss_nil)))))
      (pss_one (ps_ret (pv 2))))), ?_⟩
    refine ⟨Nat.zero_le _, fun D hD => ?_⟩
    have sD : Same H (upd H D (.lst [])) := same_new hD
    refine ⟨_, rfl, S u, rfl, ?_⟩
    refine for_it walk_iten (fun i σ H' => ∃ x3 x4 x5, σ = [some (.ref p), some (.str (S u)), some (.ref D), x3, x4, x5] ∧ Same H H' ∧ WsAt H' D ((List.range i).flatMap (loS t t.length u))) ⟨_, _, _, rfl, sD, upd_same⟩ (fun _ _ _ _ _ => trivial) (fun i x σ H1 H2 hi hW hy => ?_) fun σ H1 hW => ?_
    · obtain ⟨x3, x4, x5, rfl, s1, hw⟩ := hW
      obtain ⟨Tu, y, rfl, hTn, rfl, c, hc, rfl⟩ := hy
      rw [S_size] at hi
      have ec : c = u.getD i 0 := by
        have : u[i]? = some c := by
          rw [← S_tl u, Array.getElem?_toList]
          exact hc
        rw [List.getD_eq_getElem?_getD, this]
        rfl
      subst ec
      refine ⟨_, _, rfl, SqT.of upd_same, rfl, ?_⟩
      have s2 : Same H (upd H1 Tu (.tup [.int ((i : Nat) : Int), .str (sg (u.getD i 0))])) := s1.trans (same_new hTn)
      have hD2 : Tu ≠ D := ne_of_none hw hTn |>.symm
      have hw2 : WsAt (upd H1 Tu (.tup [.int ((i : Nat) : Int), .str (sg (u.getD i 0))])) D ((List.range i).flatMap (loS t t.length u)) := (same_new hTn) _ _ hw
      have vi : ∀ {a b c d e : Option V} {H}, Val (tVar 3) [a, b, c, some (.int (i : Int)), d, e] H (.int (i : Int)) := fun {_ _ _ _ _ _} => val_var rfl
      have vu : ∀ {a c d e g : Option V} {H}, Val (tVar 1) [a, some (.str (S u)), c, d, e, g] H (.str (S u)) := fun {_ _ _ _ _ _} => val_var rfl
      have gu : u.getD i 0 ∈ alph t.length := hok _ (getD_mem (by omega))
      refine ⟨_, _, rfl, _, _, rfl, rfl, ?_⟩
      show tSl _ _ _ _ _ _ _
      refine at_val (v_alph (v_lentd (val_var rfl) (s2 _ _ hp)) h8) ⟨_, rfl, ?_⟩
      refine for_it walk_str (fun j σ H' => ∃ x5, σ = [some (.ref p), some (.str (S u)), some (.ref D), some (.int (i : Int)), some (.str (sg (u.getD i 0))), x5] ∧ Same H H' ∧ WsAt H' D ((List.range i).flatMap (loS t t.length u) ++ (alph j).flatMap (loT t u i))) ⟨_, rfl, s2, ?_⟩ (fun _ _ _ _ _ => trivial) (fun j x σ H3 H4 hj hW hy => ?_) fun σ H3 hW => ?_
      · show WsAt _ D (_ ++ [])
        rw [List.append_nil]
        exact hw2
      · obtain ⟨x5, rfl, s3, hw3⟩ := hW
        obtain ⟨rfl, o, ho, rfl⟩ := hy
        rw [S_size, alph_len] at hj
        have eo : o = 97 + j := by
          have h1 : (alph t.length)[j]? = some o := by
            rw [← S_tl (alph t.length), Array.getElem?_toList]
            exact ho
          rw [alph_get hj] at h1
          exact (Option.some.inj h1).symm
        subst eo
        have go : 97 + j ∈ alph t.length := mem_alph.mpr ⟨by omega, by omega⟩
        have hn : ((List.range i).flatMap (loS t t.length u) ++ (alph j).flatMap (loT t u i)).length < 16000000 := by
          have h1 := flat_le (loS t t.length u) (c := t.length) i fun j _ => loS_len t t.length u j
          have h2 := loS_len t j u i
          unfold loS at h2
          rw [List.length_append]
          have : i * t.length ≤ 1000 * 8 := Nat.mul_le_mul (by omega) h8
          omega
        refine st_if (a_fr (s3 _ _ hp) h8 gu go (val_var rfl) (val_var rfl) (val_var rfl)) (fun hb => ?_) fun hb => ?_
        · refine s_app (v := u.take i ++ [97 + j] ++ [u.getD i 0] ++ [97 + j] ++ u.drop (i + 1)) (val_var rfl) hw3 (v_adds (v_adds (v_adds (v_adds (v_to vu vi (by omega)) (val_var rfl) (by simp; omega)) (val_var rfl) (by simp; omega)) (val_var rfl) (by simp; omega)) (v_from vu (v_plus (k := 1) vi) (by omega)) (by simp; omega)) hn ?_
          refine ⟨_, rfl, same_mut s3 hD, ?_⟩
          unfold WsAt
          rw [upd_same, alph_take _ _, List.append_assoc]
          congr 6
          unfold loT
          rw [if_pos hb]
          simp
        · refine ⟨_, rfl, s3, ?_⟩
          rw [alph_take _ _]
          have e : loT t u i (97 + j) = [] := by
            unfold loT
            rw [hb, if_neg Bool.false_ne_true]
          rw [e, List.append_nil]
          exact hw3
      · obtain ⟨x5, rfl, s3, hw3⟩ := hW
        rw [S_size, alph_len] at hw3
        refine ⟨_, _, _, rfl, s3, ?_⟩
        rw [flat_succ]
        exact hw3
    · obtain ⟨x3, x4, x5, rfl, s1, hw⟩ := hW
      rw [S_size] at hw
      exact ⟨_, rfl, q _ D s1 hD hw⟩

def chO (k : Nat) (u : Wd) (i : Nat) (j : Nat) : List Wd := if 97 + j = u.getD i 0 then [] else [u.take i ++ (97 + j) :: (97 + j) :: u.drop (i + 2)]
theorem chD_flat (k : Nat) (u : Wd) (i : Nat) : (List.range k).flatMap (chO k u i) = chD k u i := by
  unfold chD alph
  rw [List.filter_map, List.map_map]
  induction (List.range k) with
  | nil => rfl
  | cons j l ih =>
    rw [List.flatMap_cons, ih, List.filter_cons]
    unfold chO
    by_cases h : 97 + j = u.getD i 0
    · rw [if_pos h]
      have e : ((fun s => s != u.getD i 0) ∘ fun x => x + 97) j = false := by
        show ((j + 97) != u.getD i 0) = false
        rw [Nat.add_comm, h]
        simp
      rw [e]
      rfl
    · rw [if_neg h]
      have e : ((fun s => s != u.getD i 0) ∘ fun x => x + 97) j = true := by
        show ((j + 97) != u.getD i 0) = true
        rw [Nat.add_comm, bne_iff_ne]
        exact h
      rw [e]
      simp [Nat.add_comm]

def spChanged : Sp := fun vs H Q _ => ∃ (p : Addr) (t : List Nat) (u : Wd), vs = [.ref p, .str (S u)] ∧ TdAt H p t ∧ t.length ≤ 8 ∧ Ok t.length u ∧ u.length ≤ 1000 ∧ ∀ H' q, Same H H' → H q = none → WsAt H' q (changed t t.length u) → Q (.ref q) H'
theorem okChanged (T : Tx K mg) : OkF P w K mg base 2 "changed" ["told", "word"] spChanged := by
  refine mkF T.dChanged scChanged (fun vs H Q E h => ?_) fun f cdv A outer s H vs Q E hr h => ?_
  · obtain ⟨p, t, u, rfl, _⟩ := h
    rfl
  · obtain ⟨p, t, u, rfl, hp, h8, hok, hl, q⟩ := h
    obtain ⟨tA, hALPHABET⟩ := T.k_ALPHABET
    refine ⟨_, (pss_cons (ps_set (i := 2) scChanged.nd rfl (.inl rfl) (pe_lst pa_nil))
      (pss_cons (ps_for PassesOwn.never rfl (pi_range1 (by rfl) T.z_range (pa_cons (pe_op op_sub (pe_callB call_len_str (by rfl) T.z_len (by decide +kernel) (pa_cons (pv 1) pa_nil)) pe_int) pa_nil)) (pg_name (i := 3) scChanged.nd rfl (.inr rfl)) (pss_cons (ps_asg (pe_tup (pa_cons (pe_ix ix_str (pv 1) (pv 3) (fun _ _ => rfl)) (pa_cons (pe_ix ix_str (pv 1) (pe_op op_add (pv 3) pe_int) (fun _ _ => rfl)) pa_nil))) (pg_tupK (K := K) (n := 2) (by rfl) (pgs_cons (pg_name (i := 4) scChanged.nd rfl (.inr rfl)) (pgs_cons (pg_name (i := 5) scChanged.nd rfl (.inl rfl)) pgs_nil))))
      (pss_one (ps_if (pt_cmpR op_eq (pv 4) (pv 5) (nomark _)) (pss_one (ps_set (i := 2) scChanged.nd rfl (.inl rfl) (pe_op op_cat (pv 2) (pe_lc (own := [("sign", 6)]) rfl scChanged.nd (pi_str (pe_slice sl_str (pe_glob (v := .str ALPH) (by rfl) hALPHABET ⟨_, rfl⟩) po_none (po_some (pe_callB (call_len_seqK (K := K)) (by rfl) T.z_len (by decide +kernel) (pa_cons (pv 0) pa_nil))))) (blkOk_by (N := nChanged) (sc := defScope sChanged) (by decide +kernel)) (fun _ _ _ _ _ => pg_name (i := 6) scChanged.nd rfl (Or.inl rfl)) (fun _ _ _ _ _ => pts_one (pt_cmpR op_ne (pv 6) (pv 4) (nomark _))) (fun _ _ _ _ _ => (pe_op op_add_str (pe_op op_add_str (pe_slice sl_str (pv 1) po_none (po_some (pv 3))) (pe_op op_mulS (pv 6) pe_int)) (pe_slice sl_str (pv 1) (po_some (pe_op op_add (pv 3) pe_int)) po_none))))))) (pss_one (ps_if (pt_not (pt_val (pe_c (okFriendly T) (hr.mono (by decide)) (by rfl) (pa_cons (pv 0) (pa_cons (pv 4) (pa_cons (pv 5) pa_nil)))))) (pss_one (ps_expr (pe_bm PySem.F.plainAttrs_list PySem.F.slot_list_append PySem.F.type_list_append mt_append (pv 2) (pa_cons (pe_op op_add_str (pe_op op_add_str (pe_op op_add_str (pe_slice sl_str (pv 1) po_none (po_some (pv 3))) (pv 5)) (pv 4)) (pe_slice sl_str (pv 1) (po_some (pe_op op_add (pv 3) pe_int)) po_none)) pa_nil)))) pss_nil))))))
      (pss_one (ps_ret (pv 2))))), ?_⟩
    refine ⟨Nat.zero_le _, fun D hD => ?_⟩
    have sD : Same H (upd H D (.lst [])) := same_new hD
    refine ⟨_, rfl, S u, rfl, le_line (by rw [S_len]; omega), _, _, rfl, rfl, _, rfl, by rw [S_len]; omega, by rw [S_len]; omega, ?_⟩
    have en : (((S u).length : Int) - 1).toNat = u.length - 1 := by rw [S_len]; omega
    rw [en]
    refine for_it walk_range (fun i σ H' => ∃ D x3 x4 x5, σ = [some (.ref p), some (.str (S u)), some (.ref D), x3, x4, x5, none] ∧ Same H H' ∧ H D = none ∧ WsAt H' D ((List.range i).flatMap (chS t t.length u))) ⟨D, _, _, _, rfl, sD, hD, upd_same⟩ (fun _ _ _ _ _ => trivial) (fun i x σ H1 H2 hi hW hy => ?_) fun σ H1 hW => ?_
    · obtain ⟨D, x3, x4, x5, rfl, s1, hD, hw⟩ := hW
      obtain ⟨rfl, rfl⟩ := rng_it hy
      have vi : ∀ {a b c d e g : Option V} {H}, Val (tVar 3) [a, b, c, some (.int (i : Int)), d, e, g] H (.int (i : Int)) := fun {_ _ _ _ _ _ _} => val_var rfl
      have vu : ∀ {a c d e g h : Option V} {H}, Val (tVar 1) [a, some (.str (S u)), c, d, e, g, h] H (.str (S u)) := fun {_ _ _ _ _ _ _} => val_var rfl
      have g0 : u.getD i 0 ∈ alph t.length := hok _ (getD_mem (by omega))
      have g1 : u.getD (i + 1) 0 ∈ alph t.length := hok _ (getD_mem (by omega))
      have hn : ((List.range i).flatMap (chS t t.length u)).length ≤ 10000 := by
        have := flat_le (chS t t.length u) (c := t.length + 1) i fun j _ => chS_len t _ u j
        have : i * (t.length + 1) ≤ 1000 * 9 := Nat.mul_le_mul (by omega) (by omega)
        omega
      show tOp _ _ _ _ _ _
      refine at_val (v_ixs vu vi (by omega) (by omega)) ?_
      show tOp _ _ _ _ _ _
      refine at_val (v_ixs vu (v_plus (k := 1) vi) (by omega) (by omega)) ?_
      refine ⟨by show 2 ≤ sizeLine; decide, fun z hz => ?_⟩
      refine ⟨z, _, rfl, SqT.of upd_same, rfl, ?_⟩
      refine ⟨_, _, rfl, _, _, rfl, rfl, ?_⟩
      have s2 : Same H (upd H2 z (.tup [.str (sg (u.getD i 0)), .str (sg (u.getD (i + 1) 0))])) := s1.trans (same_new hz)
      have hw2 : WsAt (upd H2 z (.tup [.str (sg (u.getD i 0)), .str (sg (u.getD (i + 1) 0))])) D ((List.range i).flatMap (chS t t.length u)) := (same_new hz) _ _ hw
      refine st_if (a_eqc (val_var rfl) (val_var rfl)) (fun hb => ?_) fun hb => ?_
      · rw [decide_eq_true_eq] at hb
        refine ⟨_, rfl, ?_⟩
        show tSl _ _ _ _ _ _ _
        refine at_val (v_alph (v_lentd (val_var rfl) (s2 _ _ hp)) h8) ⟨_, rfl, fun D2 hD2 => ?_⟩
        refine lc_pure walk_str (fun j => wV (chO t.length u i j)) hD2 (fun m hm => flat_lt _ (c := 1) (fun j => by rw [wV_len]; unfold chO; split <;> simp) (by rw [S_size, alph_len] at hm; omega)) (fun _ _ => trivial) (fun j x H3 H4 hj s3 hy R N hR hN => ?_) fun H' s' hl' => ?_
        · obtain ⟨rfl, o, ho, rfl⟩ := hy
          rw [S_size, alph_len] at hj
          have eo : o = 97 + j := by
            have h1 : (alph t.length)[j]? = some o := by
              rw [← S_tl (alph t.length), Array.getElem?_toList]
              exact ho
            rw [alph_get hj] at h1
            exact (Option.some.inj h1).symm
          subst eo
          refine ⟨rfl, ?_⟩
          refine at_ans (a_nec (val_var rfl) (val_var rfl)) ?_
          by_cases hq : 97 + j = u.getD i 0
          · rw [decide_eq_true hq]
            refine iteF ?_
            refine hN _ (Same.refl _) ?_
            unfold chO
            rw [if_pos hq]
            rfl
          · rw [decide_eq_false hq]
            refine iteT ?_
            refine at_val (v_adds (v := u.drop (i + 2)) (v_adds (v_to (u := u) (val_var rfl) (val_var rfl) (by omega)) (v_muls (u := [97 + j]) (n := 2) (val_var rfl) val_c (by show 1 * 2 ≤ 1000000; decide) (by decide) (by show 1 ≤ 1000000; decide)) (by simp; omega)) (v_from (val_var rfl) (v_plus (k := 2) (val_var rfl)) (by omega)) (by simp; omega)) ?_
            refine hR _ _ (Same.refl _) ?_
            unfold chO
            rw [if_neg hq]
            simp [wV]
        · rw [S_size, alph_len] at hl'
          have ec : (List.range t.length).flatMap (fun j => wV (chO t.length u i j)) = wV (chD t.length u i) := by
            rw [← chD_flat]
            unfold wV
            rw [List.map_flatMap]
          rw [ec] at hl'
          have hcl := chS_len t t.length u i
          have es : chS t t.length u i = chD t.length u i := by
            unfold chS
            rw [if_pos hb]
          rw [es] at hcl
          refine ⟨D, D2, _, _, rfl, rfl, s' _ _ hw2, hl', le_line (by rw [wV_len, wV_len]; omega), fun z2 hz2 => ?_⟩
          have s4 : Same H H' := s2.trans s'
          refine ⟨z2, _, _, _, rfl, s4.trans (same_new hz2), s4.free hz2, ?_⟩
          unfold WsAt
          rw [upd_same, flat_succ, es, wV_app]
      · rw [decide_eq_false_iff_not] at hb
        refine st_if (ans_not (a_fr (s2 _ _ hp) h8 g0 g1 (val_var rfl) (val_var rfl) (val_var rfl))) (fun hf => ?_) fun hf => ?_
        · refine s_app (v := u.take i ++ [u.getD (i + 1) 0] ++ [u.getD i 0] ++ u.drop (i + 2)) (val_var rfl) hw2 (v_adds (v_adds (v_adds (v_to vu vi (by omega)) (val_var rfl) (by simp; omega)) (val_var rfl) (by simp; omega)) (v_from vu (v_plus (k := 2) vi) (by omega)) (by simp; omega)) (by omega) ?_
          refine ⟨D, _, _, _, rfl, same_mut s2 hD, hD, ?_⟩
          unfold WsAt
          rw [upd_same, flat_succ]
          congr 5
          unfold chS
          rw [if_neg hb, if_neg (by simpa using hf)]
          simp
        · refine ⟨D, _, _, _, rfl, s2, hD, ?_⟩
          rw [flat_succ]
          have e : chS t t.length u i = [] := by
            unfold chS
            rw [if_neg hb, if_pos (by simpa using hf)]
          rw [e, List.append_nil]
          exact hw2
    · obtain ⟨D, x3, x4, x5, rfl, s1, hD, hw⟩ := hW
      exact ⟨_, rfl, q _ D s1 hD hw⟩
end
end Cw

set_option maxHeartbeats 4000000
/-! steps_of: the frame for defs that make lambdas, dict comprehensions, the walk. -/
namespace Cw
open PySem PySem.Spec PyProof.Rows L2 LamX

/-! ### all but the tables stays, the tables stay tables -/
def plainO : HO → Bool
  | .tbl _ => false
  | .ext _ => false
  | _ => true
theorem plain_tbl {o : HO} (h : plainO o = true) : ∀ ps, o ≠ .tbl ps := fun ps e => by
  rw [e] at h
  exact absurd h (by simp [plainO])
def Mo (T : List (Addr × Str)) (H H' : Hp) : Prop := ExtN H H' ∧ (Tabs T H → Tabs T H')
section
variable {T : List (Addr × Str)} {H H' H0 : Hp} {a p : Addr} {o o' : HO}
theorem Mo.refl : Mo T H H := ⟨ExtN.refl H, id⟩
theorem Mo.trans {H1 H2 : Hp} (x : Mo T H H1) (y : Mo T H1 H2) : Mo T H H2 := ⟨x.1.trans y.1, fun t => y.2 (x.2 t)⟩
theorem mo_same (s : Same H H') : Mo T H H' := ⟨ExtN.of fun b x e => s b x e, fun t => t.ext fun b x e => s b x e⟩
theorem Mo.at (m : Mo T H H') (h : H a = some o) (n : plainO o = true := by rfl) : H' a = some o := m.1 a o h (plain_tbl n)
/-- nothing stood there but perhaps a table -/
def NewAt (H : Hp) (p : Addr) : Prop := ∀ o, H p = some o → ∃ ps, o = .tbl ps
theorem new_none (h : H p = none) : NewAt H p := fun o e => by
  rw [h] at e
  cases e
theorem Mo.new (m : Mo T H H') (h : NewAt H' p) : NewAt H p := fun o e => by
  by_cases q : ∃ ps, o = .tbl ps
  · exact q
  · exact h o (m.1 p o e fun ps z => q ⟨ps, z⟩)
theorem Mo.free (m : Mo T H H') (h : H' p = none) : NewAt H p := m.new (new_none h)
theorem tabs_mut (t : Tabs T H) (h : H p = some o) (n : plainO o = true) : Tabs T (upd H p o') := fun q hq => by
  obtain ⟨ps, h1, h2, h3⟩ := t q hq
  refine ⟨ps, ?_, h2, fun pos cv hc => ?_⟩
  · rw [upd_ne]
    · exact h1
    · rintro rfl
      rw [h1] at h
      cases h
      exact absurd n (by simp [plainO])
  · obtain ⟨c, e1, e2⟩ := h3 pos cv hc
    refine ⟨c, e1, ?_⟩
    rw [upd_ne]
    · exact e2
    · rintro rfl
      rw [e2] at h
      cases h
      exact absurd n (by simp [plainO, CodeO])
theorem mo_new (h : H p = none) : Mo T H (upd H p o) := mo_same (same_new h)
theorem mo_mut (m : Mo T H0 H) (h0 : NewAt H0 p) (h : H p = some o) (n : plainO o = true := by rfl) : Mo T H0 (upd H p o') := by
  refine ⟨fun b x e nt => ?_, fun t => tabs_mut (m.2 t) h n⟩
  rw [upd_ne]
  · exact m.1 b x e nt
  · rintro rfl
    obtain ⟨ps, e2⟩ := h0 x e
    exact nt ps e2
end
/-- the tables: that of steps_of and that of words_within -/
def qSt : Str := ("steps_of" : Str) ++ ".<locals>."
def qWw : Str := ("words_within" : Str) ++ ".<locals>."
abbrev TT2 (P1 P2 : Addr) : List (Addr × Str) := [(P1, qSt ++ "<lambda>"), (P2, qWw ++ "<lambda>")]
/-- the two defs that make lambdas -/
structure Lams (K : PySem.W.Frag) (mg : Str → Option Value) (base : Heap) (P1 P2 : Addr) : Prop where
  s : ∃ (f c : Addr) (fd : FuncData), DefC K mg "steps_of" sStepsOf ["told", "word", "most"] f c fd ∧ TabB base mg c P1
  w : ∃ (f c : Addr) (fd : FuncData), DefC K mg "words_within" sWordsWithin ["company", "word", "most"] f c fd ∧ TabB base mg c P2
  ne : P1 ≠ P2
section
variable {P : Program} {w : World} {K : PySem.W.Frag} {mg : Str → Option Value} {base : Heap} {P1 P2 : Addr}
theorem mkFL {x : Str} {st : Stmt} {ps N : List Str} {k : Nat} {sp : Sp} {f c : Addr} {fd : FuncData} (D : DefC K mg x st ps f c fd) (S : FnScope N ps (defScope st)) (len : ∀ vs H Q E, sp vs H Q E → vs.length = ps.length)
    (hbody : ∀ (A : Around) (outer : List Env) (s : Shared) (H : Hp) (vs : List V) (Q : VK) (E : XK), Room k (A.deeper (envOfC x (defScope st) s.heap.objs.size f (.ref c))) → sp vs H Q E →
      ∃ t, PSs (cxOf CX0 P w K mg base N x (defScope st) f (.ref c) A outer s H E).nox (defBody st) t ∧ t { nx := fun _ H' => Q .non H', rt := Q } (start N vs) H) : OkF P w K mg base (k + 1) x ps sp := by
  refine ⟨f, fd, ?_, D.g, D.F.kp, D.b⟩
  obtain ⟨oc, od, kV, doc, pm, an, ct, osl, rfl, lk, hcd⟩ := D.cd
  refine fn_of lk hcd S len fun A outer s H vs Q E hr hsp => ?_
  obtain ⟨t, h, q⟩ := hbody A outer s H vs Q E hr hsp
  exact ⟨t, h.nox, q⟩
theorem lam1 {p : Addr × Str} (ne : P1 ≠ P2) (h : p ∈ TT2 P1 P2) (e : p.1 = P1) : p.2 = qSt ++ "<lambda>" := by
  rcases List.mem_cons.mp h with rfl | h
  · rfl
  · rw [List.mem_singleton.mp h] at e
    exact absurd e.symm ne
theorem lam2 {p : Addr × Str} (ne : P1 ≠ P2) (h : p ∈ TT2 P1 P2) (e : p.1 = P2) : p.2 = qWw ++ "<lambda>" := by
  rcases List.mem_cons.mp h with rfl | h
  · exact absurd e ne
  · rw [List.mem_singleton.mp h]

theorem pe_sortedLamQ {X : Cx} {T : List (Addr × Str)} {c P : Addr} {k : Nat} {e : Expr} {te : TE} {params : Arguments} {body : Expr} {scope : Scope} {p pos lpos kpos : Pos} {q : Str} (hq : X.env.qual = q) (hg : Gl X "sorted") (hm : X.mg "sorted" = none) (hml : X.mg "len" = none) (he : PE X e te)
    (TB : TabB X.base X.mg c P) (hcode : X.env.code = .ref c) (hmT : (P, q ++ "<lambda>") ∈ T) (hu : ∀ p ∈ T, p.1 = P → p.2 = q ++ "<lambda>") (L : LamK params body scope) (hcalm : X.calm = true) (hr : Room k X.A)
    (hdef : defaultsOf params X.env = ([], [])) (hs : starEach [e] X.env = (false, eval e X.env) :: starEach [] X.env := by rfl) (hs2 : backTo pos (starEach [e] X.env) = (false, eval e X.env) :: backTo pos (starEach [] X.env) := by rfl) :
    PE X (.Call (.Name "sorted" p) [e] [⟨some "key", .Lambda params body scope lpos, kpos⟩] pos) (tSortLam T te) := by
  subst hq
  exact pe_sortedLam hg hm hml he TB hcode hmT hu L hcalm hr hdef hs hs2

/-! ### texts as the keys of a dict -/
def addW (acc : List Wd) (v : Wd) : List Wd := if v ∈ acc then acc else acc ++ [v]
def dedW (l : List Wd) : List Wd := l.foldl addW []
theorem mem_addW {acc : List Wd} {v x : Wd} : x ∈ addW acc v ↔ x ∈ acc ∨ x = v := by
  unfold addW
  split
  · rename_i h
    constructor
    · exact .inl
    · rintro (h2 | rfl)
      · exact h2
      · exact h
  · rw [List.mem_append, List.mem_singleton]
theorem mem_foldW {x : Wd} : ∀ {l acc : List Wd}, x ∈ l.foldl addW acc ↔ x ∈ acc ∨ x ∈ l
  | [], acc => by simp
  | v :: l, acc => by
    rw [List.foldl_cons, mem_foldW, mem_addW, List.mem_cons, or_assoc]
theorem mem_dedW {x : Wd} {l : List Wd} : x ∈ dedW l ↔ x ∈ l := by
  unfold dedW
  rw [mem_foldW]
  simp
theorem len_foldW : ∀ {l acc : List Wd}, (l.foldl addW acc).length ≤ acc.length + l.length
  | [], acc => by simp
  | v :: l, acc => by
    rw [List.foldl_cons, List.length_cons]
    have h := len_foldW (l := l) (acc := addW acc v)
    have h2 : (addW acc v).length ≤ acc.length + 1 := by
      unfold addW
      split <;> simp
    omega
theorem dedW_len (l : List Wd) : (dedW l).length ≤ l.length := by
  have := len_foldW (l := l) (acc := [])
  unfold dedW
  simpa using this
theorem nodup_foldW : ∀ {l acc : List Wd}, acc.Nodup → (l.foldl addW acc).Nodup
  | [], acc, h => h
  | v :: l, acc, h => by
    rw [List.foldl_cons]
    refine nodup_foldW ?_
    unfold addW
    split
    · exact h
    · rename_i hv
      rw [List.nodup_append]
      exact ⟨h, by simp, by intro a ha b hb; rw [List.mem_singleton.mp hb]; rintro rfl; exact hv ha⟩
theorem dedW_nodup (l : List Wd) : (dedW l).Nodup := nodup_foldW List.nodup_nil
def yesK (l : List Wd) : List (Key × V) := l.map fun v => (Sum.inr (S v), V.bl true)
theorem yesK_put (acc : List Wd) (v : Wd) : putK (yesK acc) (Sum.inr (S v)) (.bl true) = yesK (addW acc v) := by
  have e : ((yesK acc).any fun kv => decide (kv.1 = (Sum.inr (S v) : Key))) = decide (v ∈ acc) := by
    rw [Bool.eq_iff_iff, List.any_eq_true, decide_eq_true_eq]
    constructor
    · rintro ⟨kv, h, e⟩
      obtain ⟨u, hu, rfl⟩ := List.mem_map.mp h
      rw [decide_eq_true_eq] at e
      have e2 := S_inj (Sum.inr.inj e)
      rw [← e2]
      exact hu
    · intro h
      exact ⟨_, List.mem_map.mpr ⟨v, h, rfl⟩, by simp⟩
  unfold putK addW
  rw [e]
  by_cases h : v ∈ acc
  · rw [decide_eq_true h, if_pos rfl, if_pos h]
    unfold yesK
    rw [List.map_map]
    refine List.map_congr_left fun u _ => ?_
    show (if (Sum.inr (S u) : Key) = Sum.inr (S v) then ((Sum.inr (S u) : Key), V.bl true) else (Sum.inr (S u), V.bl true)) = _
    split <;> rfl
  · rw [decide_eq_false h, if_neg Bool.false_ne_true, if_neg h]
    unfold yesK
    rw [List.map_append]
    rfl
theorem dedW_take {l : List Wd} {i : Nat} {v : Wd} (h : l[i]? = some v) : dedW (l.take (i + 1)) = addW (dedW (l.take i)) v := by
  unfold dedW
  rw [List.take_add_one, h, Option.toList_some, List.foldl_append]
  rfl
/-- texts that are a shuffle of words are words -/
theorem perm_S {ys : List Str} {l : List Wd} (h : ys.Perm (l.map S)) : ∃ ws : List Wd, ws.map S = ys ∧ ws.Perm l := by
  refine ⟨ys.map fun y => y.cps.toList, ?_, ?_⟩
  · rw [List.map_map]
    conv => rhs; rw [← List.map_id ys]
    refine List.map_congr_left fun y hy => ?_
    apply TL.ext_tl
    rfl
  · have := h.map fun y : Str => y.cps.toList
    rw [List.map_map] at this
    have e : (l.map ((fun y : Str => y.cps.toList) ∘ S)) = l := by
      conv => rhs; rw [← List.map_id l]
      rfl
    rw [e] at this
    exact this

theorem dc_it {J : It} {n : Nat} {G : Hp → Prop} {Y : Nat → Hp → V → Hp → Prop} (w : Walk J n G Y) {g : TG} {tt : TT} {tk tv : TE} {vs : List Nat} {σ : L2.St} {H1 : Hp} {D : Addr} {Qd : Hp → Prop} (Pv : Nat → Hp → Prop) (h0 : Pv 0 (upd H1 D (.dK []))) (hG : ∀ i H, i ≤ n → Pv i H → G H)
    (hs : ∀ i x H H', i < n → Pv i H → Y i H x H' → g x (wipe σ vs) H' fun σ2 H2 => wipe σ2 vs = wipe σ vs ∧ tt σ2 H2 fun b H3 =>
      if b = true then tk σ2 H3 fun y H4 => tv σ2 H4 fun z H5 => ∃ kvs k, y = kV k ∧ H5 D = some (.dK kvs) ∧ kvs.length < sizeLine ∧ Pv (i + 1) (upd H5 D (.dK (putK kvs k z))) else Pv (i + 1) H3) (hd : ∀ H, Pv n H → Qd H) :
    ∃ W : Nat → Nat → Hp → Prop, (∃ m, W 0 m (upd H1 D (.dK []))) ∧ ∀ i m H, W i m H →
      (J.stop i H ∧ Qd H) ∨ (J.go i H ∧ ∃ Nx : Hp → Prop, (∀ H', Nx H' → ∃ m', m' < m ∧ W (i + 1) m' H') ∧ ∀ x H', J.yld i H x H' → g x (wipe σ vs) H' fun σ2 H2 => wipe σ2 vs = wipe σ vs ∧ tt σ2 H2 fun b H3 =>
        if b = true then tk σ2 H3 fun y H4 => tv σ2 H4 fun z H5 => ∃ kvs k, y = kV k ∧ H5 D = some (.dK kvs) ∧ kvs.length < sizeLine ∧ Nx (upd H5 D (.dK (putK kvs k z))) else Nx H3) := by
  refine ⟨fun i m H => m = n - i ∧ i ≤ n ∧ Pv i H, ⟨n, by simp, Nat.zero_le _, h0⟩, ?_⟩
  rintro i m H ⟨rfl, hi, p⟩
  have q := hG i H hi p
  by_cases hlt : i < n
  · exact .inr ⟨w.goes i H hlt q, Pv (i + 1), fun H' p' => ⟨n - (i + 1), by omega, rfl, hlt, p'⟩, fun x H' y => hs i x H H' hlt p (w.yields i H x H' hlt q y)⟩
  · have e : i = n := by omega
    subst e
    exact .inl ⟨w.stops H q, hd H p⟩
/-- a statement, then the rest: what holds between -/
theorem st_pass {t1 t2 : TS} {D : Ends} {σ : L2.St} {H : Hp} (R : L2.St → Hp → Prop) (k : ∀ σ' H', R σ' H' → t2 D σ' H') (h : (∀ σ' H', R σ' H' → t2 D σ' H') → t1 { D with nx := t2 D } σ H) : tSeq t1 t2 D σ H := h k
theorem wV_get {l : List Wd} {i : Nat} {x : V} (h : (wV l)[i]? = some x) : ∃ v, l[i]? = some v ∧ x = .str (S v) := by
  unfold wV at h
  rw [List.getElem?_map] at h
  cases e : l[i]? with
  | none => rw [e] at h; cases h
  | some v => rw [e] at h; exact ⟨v, rfl, (Option.some.inj h).symm⟩
def spStepsOf (P1 P2 : Addr) : Sp := fun vs H Q _ => ∃ (p : Addr) (t : List Nat) (u : Wd) (m : Nat), vs = [.ref p, .str (S u), .int (m : Int)] ∧ TdAt H p t ∧ t.length ≤ 8 ∧ Ok t.length u ∧ u.length ≤ 1000 ∧ Tabs (TT2 P1 P2) H ∧
  ∀ H' q ws, Mo (TT2 P1 P2) H H' → NewAt H q → WsAt H' q ws → (∀ v, v ∈ ws ↔ SR t t.length m u v) → ws.length ≤ 18000 → Q (.ref q) H'
theorem okStepsOf (T : Tx K mg) (L : Lams K mg base P1 P2) : OkF P w K mg base 3 "steps_of" ["told", "word", "most"] (spStepsOf P1 P2) := by
  obtain ⟨f, c, fd, D, TB⟩ := L.s
  have ne := L.ne
  refine mkFL D scStepsOf (fun vs H Q E h => ?_) fun A outer s H vs Q E hr h => ?_
  · obtain ⟨p, t, u, m, rfl, _⟩ := h
    rfl
  · obtain ⟨p, t, u, m, rfl, hp, h8, hok, hl, hT, q⟩ := h
    refine ⟨_, (pss_cons (ps_set (i := 3) scStepsOf.nd rfl (.inl rfl) (pe_op op_cat (pe_c (okShorter T) (hr.mono (by decide)) (by rfl) (pa_cons (pv 0) (pa_cons (pv 1) pa_nil))) (pe_c (okChanged T) (hr.mono (by decide)) (by rfl) (pa_cons (pv 0) (pa_cons (pv 1) pa_nil)))))
      (pss_cons (ps_if (pt_cmpR op_le (pe_op op_add (pe_callB call_len_str (by rfl) T.z_len (by decide +kernel) (pa_cons (pv 1) pa_nil)) pe_int) (pv 2) (nomark _)) (pss_one (ps_set (i := 3) scStepsOf.nd rfl (.inl rfl) (pe_op op_cat (pv 3) (pe_c (okLonger T) (hr.mono (by decide)) (by rfl) (pa_cons (pv 0) (pa_cons (pv 1) pa_nil)))))) pss_nil)
      (pss_one (ps_ret (pe_sortedLamQ (q := qSt) (T := TT2 P1 P2) (by rfl) (by rfl) T.z_sorted T.z_len (pe_dc (own := [("other", 4)]) (g := gName 4) (tt := tYes) rfl scStepsOf.nd (pi_listK (K := K) (pv 3)) (blkOk_by (N := nStepsOf) (sc := defScope sStepsOf) (by decide +kernel)) (fun _ _ _ _ _ => pg_name (i := 4) scStepsOf.nd rfl (Or.inl rfl)) (fun _ _ _ _ _ => pts_nil) (fun _ _ _ _ _ => (pv 4)) (fun _ _ _ _ _ => pe_bl)) TB (by rfl) (.head _) (fun _ h e => lam1 ne h e) ⟨⟨_, _, _, _, _, _, rfl⟩, rfl, rfl, rfl, by decide +kernel, by decide +kernel, by decide +kernel, by decide +kernel, fun _ _ _ _ _ _ => rfl⟩ (by rfl) hr (by rfl)))))), ?_⟩
    have hp' : TdAt H p t := hp
    refine ⟨_, rfl, _, rfl, p, t, u, rfl, hp, h8, hok, hl, fun H1 q1 s1 n1 w1 => ?_⟩
    refine ⟨_, rfl, _, rfl, p, t, u, rfl, s1 _ _ hp, h8, hok, hl, fun H2 q2 s2 n2 w2 => ?_⟩
    have s12 := s1.trans s2
    have b1 : (shorter t u).length ≤ 1000 := by
      have := flat_le (shS t u) (c := 1) (u.length - 2) fun j _ => shS_len t u j
      unfold shorter
      omega
    have b2 : (changed t t.length u).length ≤ 9000 := by
      have := flat_le (chS t t.length u) (c := t.length + 1) (u.length - 1) fun j _ => chS_len t _ u j
      have : (u.length - 1) * (t.length + 1) ≤ 1000 * 9 := Nat.mul_le_mul (by omega) (by omega)
      unfold changed
      omega
    have b3 : (longer t t.length u).length ≤ 8000 := by
      have := flat_le (loS t t.length u) (c := t.length) u.length fun j _ => loS_len t _ u j
      have : u.length * t.length ≤ 1000 * 8 := Nat.mul_le_mul (by omega) (by omega)
      unfold longer
      omega
    refine ⟨q1, q2, _, _, rfl, rfl, s2 _ _ w1, w2, le_line (by rw [wV_len, wV_len]; omega), fun q3 n3 => ?_⟩
    have s3 : Same H (upd H2 q3 (.lst (wV (shorter t u) ++ wV (changed t t.length u)))) := s12.trans (same_new n3)
    -- all is one list in the end
    dsimp only [gName]
    refine st_pass (fun (σ : L2.St) H5 => ∃ q5, σ = [some (.ref p), some (.str (S u)), some (.int (m : Int)), some (.ref q5), none] ∧ Same H H5 ∧ WsAt H5 q5 (stepsR t t.length u m)) ?_ fun k => ?_
    · rintro σ H5 ⟨q5, rfl, s5, w5⟩
      have bl : (stepsR t t.length u m).length ≤ 18000 := by
        unfold stepsR
        split <;> simp <;> omega
      refine ⟨_, rfl, q5, rfl, ⟨_, SqL.of w5⟩, fun D0 hD0 => ?_⟩
      refine dc_it (walk_list (K := K) (a := q5) (xs := wV (stepsR t t.length u m))) (fun i H' => Same H5 H' ∧ H' D0 = some (.dK (yesK (dedW ((stepsR t t.length u m).take i))))) ⟨same_new hD0, upd_same⟩ (fun i H' hi hW => ?_) (fun i x H6 H7 hi hW hy => ?_) fun H' hW => ?_
      · exact SqL.of (hW.1 _ _ w5)
      · obtain ⟨s6, hD6⟩ := hW
        obtain ⟨rfl, hx⟩ := hy
        obtain ⟨v, hv, rfl⟩ := wV_get hx
        have hn : (dedW ((stepsR t t.length u m).take i)).length ≤ 18000 := by
          have := dedW_len ((stepsR t t.length u m).take i)
          rw [List.length_take] at this
          omega
        refine ⟨rfl, yes_then ⟨_, rfl, _, Sum.inr (S v), rfl, hD6, lt_line (by unfold yesK; rw [List.length_map]; omega), same_mut s6 hD0, ?_⟩⟩
        rw [upd_same, yesK_put, dedW_take hv]
      · obtain ⟨s6, hD6⟩ := hW
        rw [wV_len, List.take_length] at hD6
        refine ⟨D0, _, (dedW (stepsR t t.length u m)).map S, rfl, .inl hD6, ?_, ?_, hT.ext fun b x e => s6 _ _ (s5 _ _ e), ?_⟩
        · unfold yesK
          rw [List.map_map, List.map_map]
          rfl
        · intro x hx
          obtain ⟨v, hv, rfl⟩ := List.mem_map.mp hx
          rw [mem_dedW, mem_stepsR] at hv
          have := hv.len_diff
          rw [S_len]
          exact le_line (by omega)
        · intro H8 ys p8 e8 t8 hperm n8
          obtain ⟨ws, rfl, hws⟩ := perm_S hperm
          have m8 : Mo (TT2 P1 P2) H H8 := (mo_same (s5.trans s6)).trans ⟨e8, fun _ => t8⟩
          refine q _ p8 ws (m8.trans (mo_new n8)) (m8.free n8) ?_ (fun v => ?_) ?_
          · unfold WsAt
            rw [upd_same]
            unfold wV
            rw [List.map_map]
            rfl
          · rw [hws.mem_iff, mem_dedW, mem_stepsR]
          · rw [hws.length_eq]
            have := dedW_len (stepsR t t.length u m)
            omega
    · refine st_if (a_int (v_addi (v_lens (val_var rfl) (by omega)) val_c) (val_var rfl)) (fun hb => ?_) fun hb => ?_
      · rw [decide_eq_true_eq] at hb
        refine ⟨_, rfl, _, rfl, _, rfl, p, t, u, rfl, s3 _ _ hp, h8, hok, hl, fun H4 q4 s4 n4 w4 => ?_⟩
        have w3 : WsAt H4 q3 (shorter t u ++ changed t t.length u) := by
          refine s4 _ _ ?_
          rw [upd_same, wV_app]
        refine ⟨q3, q4, _, _, rfl, rfl, w3, w4, le_line (by rw [wV_len, wV_len, List.length_append]; omega), fun q6 n6 => ?_⟩
        refine k _ _ ⟨q6, rfl, (s3.trans s4).trans (same_new n6), ?_⟩
        unfold WsAt stepsR
        rw [upd_same, if_pos (by omega), ← wV_app]
      · rw [decide_eq_false_iff_not] at hb
        refine k _ _ ⟨q3, rfl, s3, ?_⟩
        unfold WsAt stepsR
        rw [upd_same, if_neg (by omega), List.append_nil, wV_app]
end
end Cw

set_option maxHeartbeats 4000000
/-! spread: breadth first. -/
namespace Cw
open PySem PySem.Spec PyProof.Rows L2 LamX

/-! ### how many words there are -/
def allW (k : Nat) : Nat → List Wd
  | 0 => [[]]
  | m + 1 => [] :: (allW k m).flatMap fun w => (alph k).map fun a => a :: w
theorem mem_allW {k : Nat} : ∀ {m : Nat} {w : Wd}, Ok k w → w.length ≤ m → w ∈ allW k m
  | 0, w, _, h => by
    have e : w = [] := List.length_eq_zero_iff.mp (by omega)
    rw [e]
    exact .head _
  | m + 1, [], _, _ => .head _
  | m + 1, a :: w, o, h => by
    rw [List.length_cons] at h
    refine .tail _ (List.mem_flatMap.mpr ⟨w, mem_allW (fun x hx => o x (.tail _ hx)) (by omega), List.mem_map.mpr ⟨a, o a (.head _), rfl⟩⟩)
theorem allW_le : ∀ k, k < 4 → ∀ m, m < 7 → (allW k m).length ≤ 1093 := by decide +kernel
theorem words_le {k m : Nat} {l : List Wd} (h : l.Nodup) (hl : ∀ w ∈ l, Ok k w ∧ w.length ≤ m) (hk : k ≤ 3) (hm : m ≤ 6) : l.length ≤ 1093 :=
  Nat.le_trans (h.length_le_of_subset fun w hw => mem_allW (hl w hw).1 (hl w hw).2) (allW_le k (by omega) m (by omega))

/-! ### the dict of what is found -/
def fdK (fd : List (Wd × Nat)) : List (Key × V) := fd.map fun x => (Sum.inr (S x.1), V.int (x.2 : Int))
def FdAt (H : Hp) (q : Addr) (fd : List (Wd × Nat)) : Prop := H q = some (.dK (fdK fd))
theorem fd_none {fd : List (Wd × Nat)} {y : Wd} (h : ∀ d, (y, d) ∉ fd) : valV (fdK fd) (Sum.inr (S y)) = none := by
  induction fd with
  | nil => rfl
  | cons x l ih =>
    unfold fdK
    rw [List.map_cons, valV_neg]
    · exact ih fun d hd => h d (.tail _ hd)
    · intro e
      have e2 := S_inj (Sum.inr.inj e)
      exact h x.2 (by rw [← e2]; exact .head _)
theorem fd_some {fd : List (Wd × Nat)} {y : Wd} {d : Nat} (h : (y, d) ∈ fd) (hu : ∀ e, (y, e) ∈ fd → e = d) : valV (fdK fd) (Sum.inr (S y)) = some (.int (d : Int)) := by
  induction fd with
  | nil => cases h
  | cons x l ih =>
    unfold fdK
    rw [List.map_cons]
    by_cases e : x.1 = y
    · rw [valV_pos (by show (Sum.inr (S x.1) : Key) = _; rw [e])]
      have : x.2 = d := hu x.2 (by rw [← e]; exact .head _)
      rw [this]
    · rw [valV_neg (by intro e2; exact e (S_inj (Sum.inr.inj e2)))]
      refine ih ?_ fun e he => hu e (.tail _ he)
      rcases List.mem_cons.mp h with h | h
      · rw [← h] at e
        exact absurd rfl e
      · exact h
theorem fdK_put {fd : List (Wd × Nat)} {y : Wd} {d : Nat} (h : ∀ d, (y, d) ∉ fd) : putK (fdK fd) (Sum.inr (S y)) (.int (d : Int)) = fdK (fd ++ [(y, d)]) := by
  rw [putK_new _ (fd_none h)]
  unfold fdK
  rw [List.map_append]
  rfl
theorem mid_congr {α : Type} {E : α → α → Prop} {x : α} {n : Nat} {S S' : α → Prop} {fd : List (α × Nat)} (h : Mid E x n S fd) (e : ∀ y, S y ↔ S' y) : Mid E x n S' fd := fun y d => by
  rw [h y d, e y]
/-- a word within the room -/
def Iw (k m : Nat) (w : Wd) : Prop := Ok k w ∧ w.length ≤ m ∧ w ≠ []
theorem Iw.step {t : List Nat} {k m : Nat} (x y : Wd) (h : Iw k m x) (e : SR t k m x y) : Iw k m y := ⟨e.ok h.1, e.len_le h.2.1, e.pos⟩
theorem iw_dist {t : List Nat} {k m : Nat} {x y : Wd} {d : Nat} (h : Iw k m x) (e : IsDist (SR t k m) x y d) : Iw k m y := e.1.inv Iw.step h

section
variable {K : PySem.W.Frag} {H : Hp}
theorem dp_ws : ∀ l : List Wd, DpAll K H (wV l) (l.map fun w => PyData.str (S w))
  | [] => .nil
  | v :: l => .cons (.str _) (dp_ws l)
theorem depth_ws : ∀ l : List Wd, PyData.depthAll (l.map fun w => PyData.str (S w)) ≤ 1
  | [] => by simp [PyData.depthAll]
  | v :: l => by
    have := depth_ws l
    simp only [List.map_cons, PyData.depthAll, PyData.depth]
    omega
theorem lay_ws (l : List Wd) (hl : ∀ v ∈ l, ∀ x ∈ v, x < 1114112) : SeqAt.shaped (.list (l.map fun w => PyData.str (S w))) = true := by
  unfold SeqAt.shaped
  rw [Bool.and_eq_true, decide_eq_true_eq]
  constructor
  · have h : PyData.canLayAll0 (l.map fun w => PyData.str (S w)) = true := by
      induction l with
      | nil => rfl
      | cons v l ih =>
        rw [List.map_cons]
        simp only [PyData.canLayAll0, PyData.canLay0, ih fun u hu => hl u (.tail _ hu), Bool.and_true]
        unfold PyData.strOk
        rw [Array.all_eq_true']
        intro x hx
        rw [decide_eq_true_eq]
        exact hl v (.head _) x (by simpa [S] using hx)
    simp only [PyData.canLay0, h]
  · have := depth_ws l
    simp only [PyData.depth]
    omega
theorem eqv_nil (l : List Wd) : PyData.eqv (.list (l.map fun w => PyData.str (S w))) (.list []) = decide (l = []) := by
  cases l with
  | nil => rfl
  | cons v l => simp [PyData.eqv, PyData.eqvAll]
end
theorem ne_ho {H : Hp} {a b : Addr} {o o' : HO} (h : H a = some o) (h' : H b = some o') (n : o ≠ o') : a ≠ b := by
  rintro rfl
  rw [h] at h'
  exact n (Option.some.inj h')
theorem NewAt.ne {H : Hp} {a b : Addr} {o : HO} (h : NewAt H a) (h' : H b = some o) (n : plainO o = true := by rfl) : a ≠ b := by
  rintro rfl
  obtain ⟨ps, e⟩ := h o h'
  exact plain_tbl n ps e
theorem keep {H : Hp} {a b : Addr} {o o' : HO} (h : H a = some o) (n : a ≠ b) : (upd H b o') a = some o := by
  rw [upd_ne n]
  exact h
theorem mid_uniq {α : Type} {E : α → α → Prop} {x y : α} {n d e : Nat} {S : α → Prop} {fd : List (α × Nat)} (h : Mid E x n S fd) (h1 : (y, d) ∈ fd) (h2 : (y, e) ∈ fd) : e = d := by
  have q : ∀ d, (y, d) ∈ fd → IsDist E x y d := fun d hd => by
    rcases (h y d).mp hd with q | ⟨rfl, q, _⟩
    · exact q.1
    · exact q
  exact (q e h2).uniq (q d h1)
theorem mid_dist {α : Type} {E : α → α → Prop} {x y : α} {n d : Nat} {S : α → Prop} {fd : List (α × Nat)} (h : Mid E x n S fd) (h1 : (y, d) ∈ fd) : IsDist E x y d := by
  rcases (h y d).mp h1 with q | ⟨rfl, q, _⟩
  · exact q.1
  · exact q
section
variable {σ : L2.St} {H : Hp} {td ty : TE} {q : Addr} {fd : List (Wd × Nat)} {y : Wd} {d : Nat}
theorem a_notIn (hfd : FdAt H q fd) (h1 : Val ty σ H (.str (S y))) (h2 : Val td σ H (.ref q)) (hu : ∀ d e, (y, d) ∈ fd → (y, e) ∈ fd → e = d) : (∃ d, (y, d) ∈ fd) ∧ Ans (tB (tDNotIn ty td)) σ H false ∨ (∀ d, (y, d) ∉ fd) ∧ Ans (tB (tDNotIn ty td)) σ H true := by
  by_cases h : ∃ d, (y, d) ∈ fd
  · obtain ⟨d, hd⟩ := h
    refine .inl ⟨⟨d, hd⟩, fun Q k => ?_⟩
    refine h1 _ ?_
    refine h2 _ ⟨q, _, rfl, DGet.k (k := Sum.inr (S y)) hfd, false, ?_, k⟩
    rw [fd_some hd fun e he => hu d e hd he]
    rfl
  · refine .inr ⟨fun d hd => h ⟨d, hd⟩, fun Q k => ?_⟩
    refine h1 _ ?_
    refine h2 _ ⟨q, _, rfl, DGet.k (k := Sum.inr (S y)) hfd, true, ?_, k⟩
    rw [fd_none fun d hd => h ⟨d, hd⟩]
    rfl
theorem v_dget (hfd : FdAt H q fd) (h1 : Val td σ H (.ref q)) (h2 : Val ty σ H (.str (S y))) (hd : (y, d) ∈ fd) (hu : ∀ e, (y, e) ∈ fd → e = d) : Val (tDGet td ty) σ H (.int (d : Int)) := by
  intro Q k
  refine h1 _ ?_
  refine h2 _ ⟨q, _, rfl, ?_, k⟩
  have e := DGet.k (k := Sum.inr (S y)) hfd
  rw [fd_some hd hu] at e
  exact e
theorem v_lenD {kvs : List (Key × V)} (hq : H q = some (.dK kvs)) (h1 : Val td σ H (.ref q)) : Val (tCB (fun xs H Q => ∃ a kvs, xs = [V.ref a] ∧ H a = some (.dK kvs) ∧ Q (.int kvs.length) H) (tCons td tNil)) σ H (.int (kvs.length : Int)) := by
  intro Q k
  exact h1 _ ⟨q, kvs, rfl, hq, k⟩
end
section
variable {P : Program} {w : World} {K : PySem.W.Frag} {mg : Str → Option Value} {base : Heap} {P1 P2 : Addr}
def spSpread (P1 P2 : Addr) : Sp := fun vs H Q _ => ∃ (p : Addr) (t : List Nat) (u : Wd) (m : Nat), vs = [.ref p, .str (S u), .int (m : Int)] ∧ TdAt H p t ∧ t.length ≤ 3 ∧ Iw t.length m u ∧ m ≤ 6 ∧ Tabs (TT2 P1 P2) H ∧
  ∀ H' q fd, Mo (TT2 P1 P2) H H' → NewAt H q → FdAt H' q fd → (∀ y d, (y, d) ∈ fd ↔ IsDist (SR t t.length m) u y d) → (fd.map (·.1)).Nodup → Q (.ref q) H'
theorem okSpread (T : Tx K mg) (LL : Lams K mg base P1 P2) : OkF P w K mg base 4 "spread" ["told", "word", "most"] (spSpread P1 P2) := by
  refine mkF T.dSpread scSpread (fun vs H Q E h => ?_) fun f cdv A outer s H vs Q E hr h => ?_
  · obtain ⟨p, t, u, m, rfl, _⟩ := h
    rfl
  · obtain ⟨p, t, u, m, rfl, hp, h3, hI, hm, hT, q⟩ := h
    obtain ⟨tM, hMOST_MET⟩ := T.k_MOST_MET
    refine ⟨_, (pss_cons (ps_par (i := 3) (j := 4) (by rfl) scSpread.nd rfl rfl (by decide) rfl rfl (pa_cons (pe_disp (pps_cons (pv 1) pe_int pps_nil) (by rfl) (by rfl) (fun z => by cases z) (by decide)) (pa_cons (pe_lst (pa_cons (pv 1) pa_nil)) pa_nil)) (by rfl))
      (pss_cons (ps_while PassesOwn.never (pt_cmpR (op_neDK (K := K) hr.units) (pv 4) (pe_lst pa_nil) (nomark _)) (pss_cons (ps_set (i := 5) scSpread.nd rfl (.inl rfl) (pe_lst pa_nil))
      (pss_cons (ps_for PassesOwn.never rfl (pi_listK (K := K) (pv 4)) (pg_name (i := 6) scSpread.nd rfl (.inl rfl)) (pss_one (ps_for PassesOwn.never rfl (pi_listK (K := K) (pe_c (okStepsOf T LL) (hr.mono (by decide)) (by rfl) (pa_cons (pv 0) (pa_cons (pv 6) (pa_cons (pv 2) pa_nil))))) (pg_name (i := 7) scSpread.nd rfl (.inl rfl)) (pss_one (ps_if (pt_cmp (pc_dnotin (hu_of hr) (pv 7) (pv 3))) (pss_cons (ps_dput (hu_of hr) (pv 3) (pv 7) (pe_op op_add (pe_dget (hu_of hr) (pv 3) (pv 6) (fun _ _ => rfl)) pe_int) rfl)
      (pss_one (ps_expr (pe_bm PySem.F.plainAttrs_list PySem.F.slot_list_append PySem.F.type_list_append mt_append (pv 5) (pa_cons (pv 7) pa_nil))))) pss_nil)))))
      (pss_cons (ps_set (i := 4) scSpread.nd rfl (.inl rfl) (pv 5))
      (pss_one (ps_if (pt_cmpR op_gt (pe_callB call_lenD (by rfl) T.z_len (by decide +kernel) (pa_cons (pv 3) pa_nil)) (pe_glob (v := .int 4000) (by rfl) hMOST_MET ⟨_, rfl⟩) (nomark _)) pss_never pss_nil))))))
      (pss_one (ps_ret (pv 3))))), ?_⟩
    refine fun p1 hp1 => ?_
    refine ⟨_, rfl, upd_same, [(Sum.inr (S u), .int 0)], rfl, (by show 1 ≤ 15; decide), ⟨_, rfl, (by show 1 ≤ sizeLine; decide), fun p2 hp2 => ⟨_, _, rfl, ?_⟩⟩⟩
    have e0 : upd (upd H p1 (.dK [])) p1 (.dK (mergeK [] [((Sum.inr (S u) : Key), V.int 0)])) = upd H p1 (.dK (fdK [(u, 0)])) := by
      funext b
      unfold upd
      split <;> rfl
    rw [e0] at hp2 ⊢
    have k3 : (fun (m' : Nat) (σ : L2.St) (H' : Hp) => True) 0 [] H := trivial
    refine ⟨fun M σ H' => ∃ (r : Addr) (rim : List Wd) (fd : List (Wd × Nat)) (n : Nat) (x5 x6 x7 : Option V), σ = [some (.ref p), some (.str (S u)), some (.int (m : Int)), some (.ref p1), some (.ref r), x5, x6, x7] ∧ Mo (TT2 P1 P2) H H' ∧ FdAt H' p1 fd ∧ WsAt H' r rim ∧
      (fd.map (·.1)).Nodup ∧ Lvl (SR t t.length m) u n fd ∧ (∀ y, y ∈ rim ↔ IsDist (SR t t.length m) u y n) ∧ M = 2000 - fd.length + (if rim = [] then 0 else 1), ⟨_, p2, [u], [(u, 0)], 0, _, _, _, rfl, ?_, ?_, ?_, ?_, Lvl.start, ?_, rfl⟩, ?_⟩
    · exact (mo_new hp1).trans (mo_new hp2)
    · exact (same_new hp2) _ _ upd_same
    · exact upd_same
    · simp
    · intro y
      rw [List.mem_singleton]
      constructor
      · rintro rfl
        exact IsDist.zero
      · intro h
        exact (show u = y from h.1).symm
    rintro M σ H1 ⟨r, rim, fd, n, x5, x6, x7, rfl, m1, hfd, hrim, hnd, hlv, hmem, rfl⟩
    refine ⟨_, rfl, Nat.zero_le _, fun pz hpz => ?_⟩
    have sz := same_new (o := .lst []) hpz
    refine ⟨_, _, .lst (SqL.of (sz _ _ hrim)) (dp_ws rim), .lst (SqL.of upd_same) .nil, lay_ws rim (fun v hv x hx => by have := mem_alph.mp ((iw_dist hI ((hmem v).mp hv)).1 x hx); omega), rfl, !decide (rim = []), ?_, ?_⟩
    · rw [eqv_nil]
    by_cases h0 : rim = []
    · rw [decide_eq_true h0]
      refine iteF ?_
      refine ⟨_, rfl, q _ p1 fd (m1.trans (mo_same sz)) (new_none hp1) (sz _ _ hfd) ?_ hnd⟩
      refine hlv.all fun y hy => ?_
      rw [← hmem, h0] at hy
      cases hy
    rw [decide_eq_false h0]
    refine iteT ?_
    refine ⟨fun σ' H' => ∃ (r : Addr) (rim' : List Wd) (fd' : List (Wd × Nat)) (x5 x6 x7 : Option V), σ' = [some (.ref p), some (.str (S u)), some (.int (m : Int)), some (.ref p1), some (.ref r), x5, x6, x7] ∧ Mo (TT2 P1 P2) H H' ∧ FdAt H' p1 fd' ∧ WsAt H' r rim' ∧
      (fd'.map (·.1)).Nodup ∧ Lvl (SR t t.length m) u (n + 1) fd' ∧ (∀ y, y ∈ rim' ↔ IsDist (SR t t.length m) u y (n + 1)) ∧ fd'.length = fd.length + rim'.length, fun σ' H' hN => ?_, ?_⟩
    · obtain ⟨r, rim', fd', x5, x6, x7, rfl, m2, hfd2, hrim2, hnd2, hlv2, hmem2, hlen⟩ := hN
      refine ⟨_, ?_, r, rim', fd', n + 1, x5, x6, x7, rfl, m2, hfd2, hrim2, hnd2, hlv2, hmem2, rfl⟩
      have hle : fd'.length ≤ 1093 := by
        have := words_le (k := t.length) (m := m) hnd2 (fun w hw => ?_) h3 hm
        · rw [List.length_map] at this
          exact this
        · obtain ⟨⟨y, d⟩, hy, rfl⟩ := List.mem_map.mp hw
          have hi := iw_dist hI ((hlv2 y d).mp hy).1
          exact ⟨hi.1, hi.2.1⟩
      rw [if_neg h0]
      split
      · omega
      · rename_i hr'
        have : 0 < rim'.length := List.length_pos_iff.mpr hr'
        omega
    refine ⟨Nat.zero_le _, fun l hl => ?_⟩
    have s2 : Same H1 (upd (upd H1 pz (.lst [])) l (.lst [])) := sz.trans (same_new hl)
    have hl1 : H1 l = none := sz.free hl
    have hlN : NewAt H l := m1.free hl1
    have hlr : r ≠ l := ne_of_none hrim hl1
    have hd0 := s2 _ _ hrim
    have hbig : ∀ {S : Wd → Prop} {fd' : List (Wd × Nat)}, (fd'.map (·.1)).Nodup → Mid (SR t t.length m) u n S fd' → fd'.length ≤ 1093 := fun {S fd'} hn hM => by
      have := words_le (k := t.length) (m := m) hn (fun w hw => ?_) h3 hm
      · rw [List.length_map] at this
        exact this
      · obtain ⟨⟨y, d⟩, hy, rfl⟩ := List.mem_map.mp hw
        have hi := iw_dist hI (mid_dist hM hy)
        exact ⟨hi.1, hi.2.1⟩
    refine ⟨_, rfl, r, rfl, ⟨_, SqL.of hd0⟩, for_it (walk_list (K := K) (a := r) (xs := wV rim)) (fun i σ H' => ∃ (fd' : List (Wd × Nat)) (later : List Wd) (x6 x7 : Option V), σ = [some (.ref p), some (.str (S u)), some (.int (m : Int)), some (.ref p1), some (.ref r), some (.ref l), x6, x7] ∧ Mo (TT2 P1 P2) H H' ∧ WsAt H' r rim ∧ FdAt H' p1 fd' ∧ WsAt H' l later ∧
      (fd'.map (·.1)).Nodup ∧ Mid (SR t t.length m) u n (fun y => ∃ z ∈ rim.take i, SR t t.length m z y) fd' ∧ (∀ y, y ∈ later ↔ (y, n + 1) ∈ fd') ∧ fd'.length = fd.length + later.length) ⟨fd, [], _, _, rfl, m1.trans (mo_same s2), hd0, s2 _ _ hfd, upd_same, hnd, mid_congr hlv.mid fun y => by simp, fun y => ?_, rfl⟩ (fun i σ H' _ hW => ?_) (fun i x σ H2 H2' hi hW hy => ?_) fun σ H2 hW => ?_⟩
    · rw [hlv y (n + 1)]
      simp
    · obtain ⟨_, _, _, _, _, _, h, _⟩ := hW
      exact SqL.of h
    · obtain ⟨fd1, later1, x6, x7, rfl, m2, hr2, hfd2, hl2, hnd2, hM2, hme2, hlen2⟩ := hW
      obtain ⟨rfl, hx⟩ := hy
      obtain ⟨v, hv, rfl⟩ := wV_get hx
      have hvr : v ∈ rim := List.mem_of_getElem? hv
      have hvd := (hmem v).mp hvr
      have hvI := iw_dist hI hvd
      refine ⟨_, rfl, _, rfl, _, rfl, p, t, v, m, rfl, m2.at hp, by omega, hvI.1, by have := hvI.2.1; omega, m2.2 hT, fun H3 aw ws m3 n3 w3 hws _ => ?_⟩
      have haw : aw ≠ l := n3.ne hl2
      refine ⟨aw, rfl, ⟨_, SqL.of w3⟩, for_it (walk_list (K := K) (a := aw) (xs := wV ws)) (fun j σ H' => ∃ (fd' : List (Wd × Nat)) (later : List Wd) (x7 : Option V), σ = [some (.ref p), some (.str (S u)), some (.int (m : Int)), some (.ref p1), some (.ref r), some (.ref l), some (.str (S v)), x7] ∧ Mo (TT2 P1 P2) H H' ∧ WsAt H' r rim ∧ WsAt H' aw ws ∧ FdAt H' p1 fd' ∧ WsAt H' l later ∧
        (fd'.map (·.1)).Nodup ∧ Mid (SR t t.length m) u n (fun y => (∃ z ∈ rim.take i, SR t t.length m z y) ∨ y ∈ ws.take j) fd' ∧ (∀ y, y ∈ later ↔ (y, n + 1) ∈ fd') ∧ fd'.length = fd.length + later.length) ⟨fd1, later1, _, rfl, m2.trans m3, m3.at hr2, w3, m3.at hfd2, m3.at hl2, hnd2, mid_congr hM2 fun y => by simp, hme2, hlen2⟩ (fun j σ H' _ hW => ?_) (fun j x σ H4 H4' hj hW hy => ?_) fun σ H4 hW => ?_⟩
      · obtain ⟨_, _, _, _, _, _, h, _⟩ := hW
        exact SqL.of h
      · obtain ⟨fd3, later3, x7, rfl, m4, hr4, haw4, hfd4, hl4, hnd4, hM4, hme4, hlen4⟩ := hW
        obtain ⟨rfl, hx⟩ := hy
        obtain ⟨y, hyj, rfl⟩ := wV_get hx
        have hyv : SR t t.length m v y := (hws y).mp (List.mem_of_getElem? hyj)
        have hS : ∀ z, (((∃ z' ∈ rim.take i, SR t t.length m z' z) ∨ z ∈ ws.take j) ∨ z = y) ↔ ((∃ z' ∈ rim.take i, SR t t.length m z' z) ∨ z ∈ ws.take (j + 1)) := fun z => by
          rw [List.take_add_one, hyj, Option.toList_some, List.mem_append, List.mem_singleton, or_assoc]
        rcases a_notIn (σ := [some (.ref p), some (.str (S u)), some (.int (m : Int)), some (.ref p1), some (.ref r), some (.ref l), some (.str (S v)), some (.str (S y))]) hfd4 (val_var (i := 7) rfl) (val_var (i := 3) rfl) (fun d e h1 h2 => mid_uniq hM4 h1 h2) with ⟨⟨d, hd⟩, ha⟩ | ⟨hno, ha⟩
        · refine st_no ha ?_
          exact ⟨fd3, later3, _, rfl, m4, hr4, haw4, hfd4, hl4, hnd4, mid_congr (hM4.old (z := u) hd) hS, hme4, hlen4⟩
        · refine st_yes ha ?_
          have hvn : (v, n) ∈ fd3 := (hM4 v n).mpr (.inl ⟨hvd, Nat.le_refl _⟩)
          have hb := hbig hnd4 hM4
          obtain ⟨hyd, hM5⟩ := hM4.new hvd hyv hno
          show tOp _ _ _ _ _ _
          refine at_val (v_addi (v_dget hfd4 (val_var (i := 3) rfl) (val_var (i := 6) rfl) hvn fun e he => mid_uniq hM4 hvn he) val_c) ?_
          refine ⟨_, rfl, _, rfl, p1, _, rfl, DPut.k (k := Sum.inr (S y)) hfd4 (lt_line (by unfold fdK; rw [List.length_map]; omega)), ?_⟩
          have ep : putK (fdK fd3) (Sum.inr (S y)) (.int ((n : Int) + 1)) = fdK (fd3 ++ [(y, n + 1)]) := fdK_put (d := n + 1) hno
          rw [ep]
          have hrp : r ≠ p1 := ne_ho hr4 hfd4 (fun e => by cases e)
          have hap : aw ≠ p1 := ne_ho haw4 hfd4 (fun e => by cases e)
          have hlp : l ≠ p1 := ne_ho hl4 hfd4 (fun e => by cases e)
          refine s_app (v := y) (val_var rfl) (keep hl4 hlp) (val_var rfl) (by omega) ?_
          refine ⟨fd3 ++ [(y, n + 1)], later3 ++ [y], _, rfl, mo_mut (mo_mut m4 (new_none hp1) hfd4) hlN (keep hl4 hlp), keep (keep hr4 hrp) hlr, keep (keep haw4 hap) haw, keep upd_same hlp.symm, upd_same, ?_, mid_congr hM5 hS, fun z => ?_, ?_⟩
          · rw [List.map_append, List.nodup_append]
            refine ⟨hnd4, by simp, fun a hma b hb => ?_⟩
            rw [List.map_singleton, List.mem_singleton] at hb
            subst hb
            rintro rfl
            obtain ⟨⟨y', d'⟩, h1, h2⟩ := List.mem_map.mp hma
            exact hno d' ((show y' = _ from h2) ▸ h1)
          · rw [List.mem_append, List.mem_append, hme4, List.mem_singleton, List.mem_singleton, Prod.mk.injEq]
            simp
          · simp only [List.length_append, List.length_singleton]
            omega
      · obtain ⟨fd3, later3, x7, rfl, m4, hr4, haw4, hfd4, hl4, hnd4, hM4, hme4, hlen4⟩ := hW
        refine ⟨fd3, later3, _, _, rfl, m4, hr4, hfd4, hl4, hnd4, mid_congr hM4 fun y => ?_, hme4, hlen4⟩
        rw [wV_len, List.take_length, hws, List.take_add_one, hv, Option.toList_some]
        constructor
        · rintro (⟨z, hz, e⟩ | e)
          · exact ⟨z, List.mem_append.mpr (.inl hz), e⟩
          · exact ⟨v, List.mem_append.mpr (.inr (.head _)), e⟩
        · rintro ⟨z, hz, e⟩
          rcases List.mem_append.mp hz with hz | hz
          · exact .inl ⟨z, hz, e⟩
          · rw [List.mem_singleton.mp hz] at e
            exact .inr e
    · obtain ⟨fd1, later1, x6, x7, rfl, m2, hr2, hfd2, hl2, hnd2, hM2, hme2, hlen2⟩ := hW
      refine ⟨_, rfl, ?_⟩
      rw [wV_len, List.take_length] at hM2
      have hb := hbig hnd2 hM2
      refine st_no ((a_int (v_lenD hfd2 (val_var rfl)) val_c).to ?_) ?_
      · rw [decide_eq_false_iff_not]
        unfold fdK
        rw [List.length_map]
        omega
      · have hL := hM2.lvl fun y z hz e => ⟨z, (hmem z).mpr hz, e⟩
        refine ⟨l, later1, fd1, _, _, _, rfl, m2, hfd2, hl2, hnd2, hL, fun y => ?_, hlen2⟩
        rw [hme2, hL y (n + 1)]
        simp
end
end Cw

set_option maxHeartbeats 4000000
/-! need_spread, words_within, least_steps, least_way. -/
namespace Cw
open PySem PySem.Spec PyProof.Rows L2 LamX

theorem toldOf_len (c : Co) : (toldOf c).length = c.many := by
  unfold toldOf
  rw [told_len, List.length_replicate]
/-- one step in the company c with room m -/
abbrev Co.E (c : Co) (m : Nat) : Wd → Wd → Prop := SR (toldOf c) c.many m
/-- a good company of two or three -/
structure Co3 (c : Co) : Prop where
  ok : CoOk c
  three : c.many ≤ 3
  gd : Gd (toldOf c) c.many
theorem v_max2 {σ : L2.St} {H : Hp} {ta tb : TE} {x y : Int} (ha : Val ta σ H (.int x)) (hb : Val tb σ H (.int y)) : Val (tCB (fun xs H Q => ∃ i j, xs = [.int i, .int j] ∧ Q (.int (if j > i then j else i)) H) (tCons ta (tCons tb tNil))) σ H (.int (if y > x then y else x)) := by
  intro Q q
  refine ha _ ?_
  exact hb _ ⟨x, y, rfl, q⟩
section
variable {P : Program} {w : World} {K : PySem.W.Frag} {mg : Str → Option Value} {base : Heap} {P1 P2 : Addr}
def spNeedSpread (P1 P2 : Addr) : Sp := fun vs H Q _ => ∃ (a : Addr) (c : Co) (u : Wd) (m : Nat), vs = [.ref a, .str (S u), .int (m : Int)] ∧ CoAt H a c ∧ Co3 c ∧ Iw c.many m u ∧ m ≤ 6 ∧ Tabs (TT2 P1 P2) H ∧
  ∀ H' q fd, Mo (TT2 P1 P2) H H' → NewAt H q → FdAt H' q fd → (∀ y d, (y, d) ∈ fd ↔ IsDist (c.E m) u y d) → (fd.map (·.1)).Nodup → Q (.ref q) H'
theorem iw_pos {k m : Nat} {u : Wd} (h : Iw k m u) : 1 ≤ u.length := List.length_pos_iff.mpr h.2.2
theorem okNeedSpread (T : Tx K mg) (LL : Lams K mg base P1 P2) : OkF P w K mg base 5 "need_spread" ["company", "word", "most"] (spNeedSpread P1 P2) := by
  refine mkF T.dNeedSpread scNeedSpread (fun vs H Q E h => ?_) fun f cdv A outer s H vs Q E hr h => ?_
  · obtain ⟨a, c, u, m, rfl, _⟩ := h
    rfl
  · obtain ⟨a, c, u, m, rfl, hc, h3, hI, hm, hT, q⟩ := h
    refine ⟨_, (pss_cons (ps_expr (pe_c (okNeedBoth T) (hr.mono (by decide)) (by rfl) (pa_cons (pv 0) (pa_cons (pv 1) pa_nil))))
      (pss_cons (ps_expr (pe_c (okNeedShort T) (hr.mono (by decide)) (by rfl) (pa_cons (pv 0) (pa_cons (pv 1) pa_nil))))
      (pss_cons (ps_expr (pe_c (okNeedNumber T) (hr.mono (by decide)) (by rfl) (pa_cons (pv 2) (pa_cons (pe_callB call_len_str (by rfl) T.z_len (by decide +kernel) (pa_cons (pv 1) pa_nil)) (pa_cons pe_int pa_nil)))))
      (pss_one (ps_ret (pe_c (okSpread T LL) (hr.mono (by decide)) (by rfl) (pa_cons (pe_c (okFriendsOfAll T) (hr.mono (by decide)) (by rfl) (pa_cons (pv 0) pa_nil)) (pa_cons (pv 1) (pa_cons (pv 2) pa_nil))))))))), ?_⟩
    have h1 := iw_pos hI
    have hl := hI.2.1
    refine ⟨_, rfl, _, rfl, a, c, u, rfl, hc, h3.ok, h1, by omega, hI.1, fun H1 s1 => ?_⟩
    refine ⟨_, rfl, _, rfl, a, c, u, rfl, hc.mono s1, h3.ok.m8, h1, by omega, hI.1, fun H2 s2 => ?_⟩
    have s12 := s1.trans s2
    refine ⟨_, rfl, ?_⟩
    refine at_val (v_lens (val_var rfl) (by omega)) ?_
    refine ⟨_, _, _, rfl, by omega, by omega, ?_⟩
    refine ⟨_, rfl, a, c, rfl, hc.mono s12, h3.ok, fun H3 p3 s3 n3 td3 => ?_⟩
    have s13 := s12.trans s3
    have el := toldOf_len c
    refine ⟨_, rfl, _, rfl, p3, toldOf c, u, m, rfl, td3, by rw [el]; exact h3.three, by rw [el]; exact hI, hm, hT.ext fun b x e => s13 _ _ e, fun H4 q4 fd m4 n4 hfd hd hnd => ?_⟩
    rw [el] at hd
    exact q H4 q4 fd ((mo_same s13).trans m4) ((mo_same (T := TT2 P1 P2) s13).new n4) hfd hd hnd

def spWordsWithin (P1 P2 : Addr) : Sp := fun vs H Q _ => ∃ (a : Addr) (c : Co) (u : Wd) (m : Nat), vs = [.ref a, .str (S u), .int (m : Int)] ∧ CoAt H a c ∧ Co3 c ∧ Iw c.many m u ∧ m ≤ 6 ∧ Tabs (TT2 P1 P2) H ∧
  ∀ H' q ws, Mo (TT2 P1 P2) H H' → NewAt H q → WsAt H' q ws → (∀ y, y ∈ ws ↔ ∃ d, IsDist (c.E m) u y d) → ws.length ≤ 1093 → Q (.ref q) H'
theorem okWordsWithin (T : Tx K mg) (LL : Lams K mg base P1 P2) : OkF P w K mg base 6 "words_within" ["company", "word", "most"] (spWordsWithin P1 P2) := by
  obtain ⟨f, cc, fd0, D, TB⟩ := LL.w
  have ne := LL.ne
  refine mkFL D scWordsWithin (fun vs H Q E h => ?_) fun A outer s H vs Q E hr h => ?_
  · obtain ⟨a, c, u, m, rfl, _⟩ := h
    rfl
  · obtain ⟨a, c, u, m, rfl, hc, h3, hI, hm, hT, q⟩ := h
    refine ⟨_, (pss_one (ps_ret (pe_sortedLamQ (q := qWw) (T := TT2 P1 P2) (by rfl) (by rfl) T.z_sorted T.z_len (pe_c (okNeedSpread T LL) (hr.mono (by decide)) (by rfl) (pa_cons (pv 0) (pa_cons (pv 1) (pa_cons (pv 2) pa_nil)))) TB (by rfl) (.tail _ (.head _)) (fun _ h e => lam2 ne h e) ⟨⟨_, _, _, _, _, _, rfl⟩, rfl, rfl, rfl, by decide +kernel, by decide +kernel, by decide +kernel, by decide +kernel, fun _ _ _ _ _ _ => rfl⟩ (by rfl) hr (by rfl)))), ?_⟩
    refine ⟨_, rfl, _, rfl, _, rfl, a, c, u, m, rfl, hc, h3, hI, hm, hT, fun H1 q1 fd m1 n1 hfd hd hnd => ?_⟩
    refine ⟨q1, _, (fd.map (·.1)).map S, rfl, .inl hfd, ?_, ?_, m1.2 hT, fun H2 ys p2 e2 t2 hperm n2 => ?_⟩
    · unfold fdK
      rw [List.map_map, List.map_map, List.map_map]
      rfl
    · intro x hx
      obtain ⟨v, hv, rfl⟩ := List.mem_map.mp hx
      obtain ⟨⟨y, d⟩, hy, rfl⟩ := List.mem_map.mp hv
      have := (iw_dist hI ((hd y d).mp hy)).2.1
      rw [S_len]
      exact le_line (by dsimp only; omega)
    · obtain ⟨ws, rfl, hws⟩ := perm_S hperm
      have m2 : Mo (TT2 P1 P2) H1 H2 := ⟨e2, fun _ => t2⟩
      refine q _ p2 ws ((m1.trans m2).trans (mo_new n2)) ((m1.trans m2).free n2) ?_ (fun y => ?_) ?_
      · unfold WsAt
        rw [upd_same]
        unfold wV
        rw [List.map_map]
        rfl
      · rw [hws.mem_iff, List.mem_map]
        constructor
        · rintro ⟨⟨y', d⟩, hy, rfl⟩
          exact ⟨d, (hd _ d).mp hy⟩
        · rintro ⟨d, hy⟩
          exact ⟨(y, d), (hd y d).mpr hy, rfl⟩
      · rw [hws.length_eq]
        refine words_le (k := c.many) (m := m) hnd (fun v hv => ?_) h3.three hm
        obtain ⟨⟨y, d⟩, hy, rfl⟩ := List.mem_map.mp hv
        have hi := iw_dist hI ((hd y d).mp hy)
        exact ⟨hi.1, hi.2.1⟩

def spLeastSteps (P1 P2 : Addr) : Sp := fun vs H Q _ => ∃ (a : Addr) (c : Co) (u v : Wd) (m : Nat), vs = [.ref a, .str (S u), .str (S v), .int (m : Int)] ∧ CoAt H a c ∧ Co3 c ∧ Iw c.many m u ∧ Iw c.many m v ∧ m ≤ 6 ∧ Tabs (TT2 P1 P2) H ∧
  (∀ H' d, Mo (TT2 P1 P2) H H' → IsDist (c.E m) u v d → Q (.int (d : Int)) H') ∧ ∀ H', Mo (TT2 P1 P2) H H' → (∀ d, ¬ IsDist (c.E m) u v d) → Q .non H'
theorem okLeastSteps (T : Tx K mg) (LL : Lams K mg base P1 P2) : OkF P w K mg base 5 "least_steps" ["company", "one", "other", "most"] (spLeastSteps P1 P2) := by
  refine mkF T.dLeastSteps scLeastSteps (fun vs H Q E h => ?_) fun f cdv A outer s H vs Q E hr h => ?_
  · obtain ⟨a, c, u, v, m, rfl, _⟩ := h
    rfl
  · obtain ⟨a, c, u, v, m, rfl, hc, h3, hI, hJ, hm, hT, q, qn⟩ := h
    refine ⟨_, (pss_cons (ps_expr (pe_c (okNeedBoth T) (hr.mono (by decide)) (by rfl) (pa_cons (pv 0) (pa_cons (pv 1) pa_nil))))
      (pss_cons (ps_expr (pe_c (okNeedShort T) (hr.mono (by decide)) (by rfl) (pa_cons (pv 0) (pa_cons (pv 1) pa_nil))))
      (pss_cons (ps_expr (pe_c (okNeedBoth T) (hr.mono (by decide)) (by rfl) (pa_cons (pv 0) (pa_cons (pv 2) pa_nil))))
      (pss_cons (ps_expr (pe_c (okNeedShort T) (hr.mono (by decide)) (by rfl) (pa_cons (pv 0) (pa_cons (pv 2) pa_nil))))
      (pss_cons (ps_expr (pe_c (okNeedNumber T) (hr.mono (by decide)) (by rfl) (pa_cons (pv 3) (pa_cons (pe_callB (call_max2 rfl) (by rfl) T.z_max (by decide +kernel) (pa_cons (pe_callB call_len_str (by rfl) T.z_len (by decide +kernel) (pa_cons (pv 1) pa_nil)) (pa_cons (pe_callB call_len_str (by rfl) T.z_len (by decide +kernel) (pa_cons (pv 2) pa_nil)) pa_nil))) (pa_cons pe_int pa_nil)))))
      (pss_one (ps_ret (pe_dget1 (hu_of hr) (pe_c (okSpread T LL) (hr.mono (by decide)) (by rfl) (pa_cons (pe_c (okFriendsOfAll T) (hr.mono (by decide)) (by rfl) (pa_cons (pv 0) pa_nil)) (pa_cons (pv 1) (pa_cons (pv 3) pa_nil)))) (pv 2) ⟨rfl, rfl, rfl, rfl⟩)))))))), ?_⟩
    have h1 := iw_pos hI
    have hl := hI.2.1
    have k1 := iw_pos hJ
    have kl := hJ.2.1
    refine ⟨_, rfl, _, rfl, a, c, u, rfl, hc, h3.ok, h1, by omega, hI.1, fun H1 s1 => ?_⟩
    refine ⟨_, rfl, _, rfl, a, c, u, rfl, hc.mono s1, h3.ok.m8, h1, by omega, hI.1, fun H2 s2 => ?_⟩
    have s12 := s1.trans s2
    refine ⟨_, rfl, _, rfl, a, c, v, rfl, hc.mono s12, h3.ok, k1, by omega, hJ.1, fun H3 s3 => ?_⟩
    have s13 := s12.trans s3
    refine ⟨_, rfl, _, rfl, a, c, v, rfl, hc.mono s13, h3.ok.m8, k1, by omega, hJ.1, fun H4 s4 => ?_⟩
    have s14 := s13.trans s4
    refine ⟨_, rfl, ?_⟩
    refine at_val (v_max2 (v_lens (u := u) (val_var rfl) (by omega)) (v_lens (u := v) (val_var rfl) (by omega))) ?_
    refine ⟨_, _, _, rfl, ?_, by omega, ?_⟩
    · split <;> omega
    refine ⟨_, rfl, a, c, rfl, hc.mono s14, h3.ok, fun H5 p5 s5 n5 td5 => ?_⟩
    have s15 := s14.trans s5
    have el := toldOf_len c
    refine ⟨_, rfl, _, rfl, p5, toldOf c, u, m, rfl, td5, by rw [el]; exact h3.three, by rw [el]; exact hI, hm, hT.ext fun b x e => s15 _ _ e, fun H6 q6 fd m6 n6 hfd hd hnd => ?_⟩
    rw [el] at hd
    have m16 := (mo_same (T := TT2 P1 P2) s15).trans m6
    refine ⟨q6, rfl, .inl ⟨_, .inl hfd⟩, _, rfl, valV (fdK fd) (Sum.inr (S v)), DGet.k (k := Sum.inr (S v)) hfd, ?_⟩
    by_cases hv : ∃ d, (v, d) ∈ fd
    · obtain ⟨d, hv⟩ := hv
      rw [fd_some hv fun e he => ((hd v e).mp he).uniq ((hd v d).mp hv)]
      exact q _ d m16 ((hd v d).mp hv)
    · rw [fd_none fun d h => hv ⟨d, h⟩]
      exact qn _ m16 fun d h => hv ⟨d, (hd v d).mpr h⟩
end
end Cw

set_option maxHeartbeats 4000000
/-! least_way. -/
namespace Cw
open PySem PySem.Spec PyProof.Rows L2 LamX

theorem CoAt.mo {T : List (Addr × Str)} {H H' : Hp} {a : Addr} {c : Co} (h : CoAt H a c) (s : Mo T H H') : CoAt H' a c := by
  obtain ⟨t, bs, h1, h2, h3⟩ := h
  exact ⟨t, bs, s.at h1, s.at h2, Paired.mapP h3 fun p b e => s.at e⟩
theorem at_last (l : List Wd) (x : Wd) : atI (wV (l ++ [x])) (-1) = some (.str (S x)) := by
  rw [wV_app]
  exact atI_last _ _
/-- no distance is great -/
theorem dist_list {E : Wd → Wd → Prop} {u : Wd} : ∀ {d : Nat} {v : Wd}, IsDist E u v d → ∃ l : List Wd, l.Nodup ∧ l.length = d + 1 ∧ ∀ w ∈ l, ∃ e, e ≤ d ∧ IsDist E u w e
  | 0, v, h => ⟨[v], by simp, rfl, fun w hw => ⟨0, Nat.le_refl _, by rw [List.mem_singleton.mp hw]; exact h⟩⟩
  | d + 1, v, h => by
    obtain ⟨z, hz, _⟩ := h.back
    obtain ⟨l, h1, h2, h3⟩ := dist_list hz
    refine ⟨v :: l, List.nodup_cons.mpr ⟨fun hv => ?_, h1⟩, by rw [List.length_cons, h2], fun w hw => ?_⟩
    · obtain ⟨e, he, hd⟩ := h3 v hv
      have := hd.uniq h
      omega
    · rcases List.mem_cons.mp hw with rfl | hw
      · exact ⟨_, Nat.le_refl _, h⟩
      · obtain ⟨e, he, hd⟩ := h3 w hw
        exact ⟨e, by omega, hd⟩
theorem dist_le {c : Co} {m d : Nat} {u v : Wd} (hI : Iw c.many m u) (h3 : c.many ≤ 3) (hm : m ≤ 6) (h : IsDist (c.E m) u v d) : d ≤ 1093 := by
  obtain ⟨l, h1, h2, h4⟩ := dist_list h
  have := words_le (k := c.many) (m := m) h1 (fun w hw => by
    obtain ⟨e, _, he⟩ := h4 w hw
    have := iw_dist hI he
    exact ⟨this.1, this.2.1⟩) h3 hm
  omega
theorem sel_flat (ws : List Wd) (p : Wd → Bool) : (List.range ws.length).flatMap (fun j => wV ((ws[j]?.toList).filter p)) = wV (ws.filter p) := by
  have h : ∀ l : List Wd, (List.range l.length).flatMap (fun j => wV ((l[j]?.toList).filter p)) = wV (l.filter p) := by
    intro l
    induction l with
    | nil => rfl
    | cons x l ih =>
      rw [List.length_cons, List.range_succ_eq_map, List.flatMap_cons, List.flatMap_map]
      have e : (List.range l.length).flatMap (fun j => wV ((((x :: l)[j + 1]?).toList).filter p)) = wV (l.filter p) := by
        rw [← ih]
        rfl
      have e2 : (fun j => wV (List.filter p ((x :: l)[j.succ]?).toList)) = fun j => wV ((((x :: l)[j + 1]?).toList).filter p) := rfl
      rw [e2, e, ← wV_app]
      congr 1
      show List.filter p [x] ++ List.filter p l = _
      rw [← List.filter_append]
      rfl
  exact h ws
section
variable {P : Program} {w : World} {K : PySem.W.Frag} {mg : Str → Option Value} {base : Heap} {P1 P2 : Addr}
def spLeastWay (P1 P2 : Addr) : Sp := fun vs H Q _ => ∃ (a : Addr) (c : Co) (u v : Wd) (m d : Nat), vs = [.ref a, .str (S u), .str (S v), .int (m : Int)] ∧ CoAt H a c ∧ Co3 c ∧ Iw c.many m u ∧ Iw c.many m v ∧ m ≤ 6 ∧ Tabs (TT2 P1 P2) H ∧ IsDist (c.E m) u v d ∧
  ∀ H' q xs, Mo (TT2 P1 P2) H H' → H' q = some (.tup xs) → xs.length = d + 1 → Q (.ref q) H'
theorem okLeastWay (T : Tx K mg) (LL : Lams K mg base P1 P2) : OkF P w K mg base 6 "least_way" ["company", "one", "other", "most"] (spLeastWay P1 P2) := by
  refine mkF T.dLeastWay scLeastWay (fun vs H Q E h => ?_) fun f cdv A outer s H vs Q E hr h => ?_
  · obtain ⟨a, c, u, v, m, d, rfl, _⟩ := h
    rfl
  · obtain ⟨a, c, u, v, m, d, rfl, hc, h3, hI, hJ, hm, hT, hd, q⟩ := h
    refine ⟨_, (pss_cons (ps_if (pt_cmpR op_isN (pe_c (okLeastSteps T LL) (hr.mono (by decide)) (by rfl) (pa_cons (pv 0) (pa_cons (pv 1) (pa_cons (pv 2) (pa_cons (pv 3) pa_nil))))) pe_non (nomark _)) (pss_one (ps_ret pe_non)) pss_nil)
      (pss_cons (ps_set (i := 4) scLeastWay.nd rfl (.inl rfl) (pe_c (okFriendsOfAll T) (hr.mono (by decide)) (by rfl) (pa_cons (pv 0) pa_nil)))
      (pss_cons (ps_asg (pe_tup (pa_cons (pe_c (okSpread T LL) (hr.mono (by decide)) (by rfl) (pa_cons (pv 4) (pa_cons (pv 2) (pa_cons (pv 3) pa_nil)))) (pa_cons (pe_lst (pa_cons (pv 1) pa_nil)) pa_nil))) (pg_tupK (K := K) (n := 2) (by rfl) (pgs_cons (pg_name (i := 5) scLeastWay.nd rfl (.inr rfl)) (pgs_cons (pg_name (i := 6) scLeastWay.nd rfl (.inl rfl)) pgs_nil))))
      (pss_cons (ps_while PassesOwn.never (pt_cmpR op_ne (pe_ix (ix_listK (K := K)) (pv 6) (pe_un un_neg pe_int) (fun _ _ => rfl)) (pv 2) (nomark _)) (pss_cons (ps_set (i := 7) scLeastWay.nd rfl (.inr rfl) (pe_ix (ix_listK (K := K)) (pv 6) (pe_un un_neg pe_int) (fun _ _ => rfl)))
      (pss_one (ps_expr (pe_bm PySem.F.plainAttrs_list PySem.F.slot_list_append PySem.F.type_list_append mt_append (pv 6) (pa_cons (pe_ix (ix_listK (K := K)) (pe_lc (own := [("word", 8)]) rfl scLeastWay.nd (pi_listK (K := K) (pe_c (okStepsOf T LL) (hr.mono (by decide)) (by rfl) (pa_cons (pv 4) (pa_cons (pv 7) (pa_cons (pv 3) pa_nil))))) (blkOk_by (N := nLeastWay) (sc := defScope sLeastWay) (by decide +kernel)) (fun _ _ _ _ _ => pg_name (i := 8) scLeastWay.nd rfl (Or.inl rfl)) (fun _ _ _ _ _ => pts_one (pt_cmpR op_eq (pe_dget (hu_of hr) (pv 5) (pv 8) (fun _ _ => rfl)) (pe_op op_sub (pe_dget (hu_of hr) (pv 5) (pv 7) (fun _ _ => rfl)) pe_int) (nomark _))) (fun _ _ _ _ _ => (pv 8))) pe_int (fun _ _ => rfl)) pa_nil))))))
      (pss_one (ps_ret (pe_callTy (call_tuple_ofK (K := K)) (by rfl) T.z_tuple (by decide +kernel) (pa_cons (pv 6) pa_nil)))))))), ?_⟩
    have hIs : ∀ x y, Iw c.many m x → c.E m x y → Iw c.many m y := fun x y => Iw.step x y
    have hsy : ∀ x y, Iw c.many m x → c.E m x y → c.E m y x := fun x y i e => e.symm h3.gd i.1 i.2.1
    have hdv : IsDist (c.E m) v u d := hd.symm hIs hsy hI
    refine ⟨_, rfl, _, rfl, _, rfl, _, rfl, a, c, u, v, m, rfl, hc, h3, hI, hJ, hm, hT, fun H1 d1 m1 hd1 => ?_, fun H1 m1 hn => absurd hd (hn d)⟩
    refine ⟨rfl, false, rfl, ?_⟩
    refine iteF ?_
    have hdl := dist_le hI h3.three hm hd
    have el := toldOf_len c
    have h8 : (toldOf c).length ≤ 8 := by have := h3.three; omega
    refine ⟨_, rfl, a, c, rfl, hc.mo m1, h3.ok, fun H2 p2 s2 n2 td2 => ?_⟩
    have m2 := m1.trans (mo_same s2)
    refine ⟨_, rfl, _, rfl, _, rfl, p2, toldOf c, v, m, rfl, td2, by rw [el]; exact h3.three, by rw [el]; exact hJ, hm, m2.2 hT, fun H3 p3 fd m3 n3 hfd hfdd hnd => ?_⟩
    rw [el] at hfdd
    have m23 := m2.trans m3
    refine ⟨_, rfl, (by show 1 ≤ sizeLine; decide), fun p4 hp4 => ⟨(by show 2 ≤ sizeLine; decide), fun z hz => ?_⟩⟩
    have n4 : NewAt H p4 := m23.free hp4
    have s34 : Same H3 (upd (upd H3 p4 (.lst [.str (S u)])) z (.tup [.ref p3, .ref p4])) := (same_new hp4).trans (same_new hz)
    refine ⟨z, _, rfl, SqT.of upd_same, rfl, ?_⟩
    refine ⟨_, _, rfl, _, _, rfl, rfl, ?_⟩
    refine ⟨fun M σ H' => ∃ (l : List Wd) (x : Wd) (x7 : Option V), σ = [some (.ref a), some (.str (S u)), some (.str (S v)), some (.int (m : Int)), some (.ref p2), some (.ref p3), some (.ref p4), x7, none] ∧ Mo (TT2 P1 P2) H H' ∧ TdAt H' p2 (toldOf c) ∧ FdAt H' p3 fd ∧ WsAt H' p4 (l ++ [x]) ∧ IsDist (c.E m) v x M ∧ l.length + M = d,
      ⟨d, [], u, _, rfl, m23.trans (mo_same s34), s34 _ _ (m3.at td2), s34 _ _ hfd, (same_new hz) _ _ upd_same, hdv, by simp⟩, ?_⟩
    rintro M σ H4 ⟨l, x, x7, rfl, m4, td4, hfd4, hw4, hx, hlen⟩
    have hxI := iw_dist hJ hx
    have vx : ∀ {a1 a2 a3 a4 a5 a6 a7 a8 : Option V}, Val (tOp (rIxL K) (tVar 6) (tUn (rU fun i => V.int (-i)) (tC (V.int 1)))) [a1, a2, a3, a4, a5, a6, some (.ref p4), a7, a8] H4 (.str (S x)) := fun {_ _ _ _ _ _ _ _} => v_ixl (val_var rfl) (v_neg val_c) (SqL.of hw4) (at_last l x)
    refine at_ans (a_nes vx (val_var (i := 2) rfl)) ?_
    by_cases hxv : x = v
    · rw [decide_eq_true hxv]
      refine iteF ?_
      subst hxv
      have h0 : M = 0 := hx.uniq IsDist.zero
      refine ⟨_, rfl, p4, wV (l ++ [x]), rfl, .inl ⟨SqL.of hw4, fun q5 n5 => ?_⟩⟩
      refine q _ q5 _ (m4.trans (mo_new n5)) upd_same ?_
      rw [wV_len, List.length_append, List.length_singleton]
      omega
    rw [decide_eq_false hxv]
    refine iteT ?_
    obtain ⟨M', rfl⟩ : ∃ M', M = M' + 1 := by
      cases M with
      | zero => exact absurd (show v = x from hx.1).symm hxv
      | succ M' => exact ⟨M', rfl⟩
    obtain ⟨zz, hzz, ezz⟩ := hx.back
    have hzI := iw_dist hJ hzz
    have exz := hsy zz x hzI ezz
    refine ⟨fun σ' H' => ∃ (x' : Wd) (x7 : Option V), σ' = [some (.ref a), some (.str (S u)), some (.str (S v)), some (.int (m : Int)), some (.ref p2), some (.ref p3), some (.ref p4), x7, none] ∧ Mo (TT2 P1 P2) H H' ∧ TdAt H' p2 (toldOf c) ∧ FdAt H' p3 fd ∧ WsAt H' p4 ((l ++ [x]) ++ [x']) ∧ IsDist (c.E m) v x' M', fun σ' H' hN => ?_, ?_⟩
    · obtain ⟨x', x7, rfl, m5, td5, hfd5, hw5, hx'⟩ := hN
      exact ⟨M', by omega, l ++ [x], x', x7, rfl, m5, td5, hfd5, hw5, hx', by simp; omega⟩
    show tOp _ _ _ _ _ _
    refine at_val vx ?_
    refine ⟨_, rfl, .inl ⟨rfl, _, SqL.of hw4⟩, ?_⟩
    refine ⟨_, rfl, _, rfl, _, rfl, p2, toldOf c, x, m, rfl, td4, h8, by rw [el]; exact hxI.1, by have := hxI.2.1; omega, m4.2 hT, fun H5 q5 ws m5 n5 w5 hws hwl => ?_⟩
    rw [el] at hws
    have hxn : (x, M' + 1) ∈ fd := (hfdd x _).mpr hx
    have huq : ∀ {y : Wd} {d e : Nat}, (y, d) ∈ fd → (y, e) ∈ fd → e = d := fun {y d e} h1 h2 => ((hfdd y e).mp h2).uniq ((hfdd y d).mp h1)
    refine ⟨q5, rfl, ⟨_, SqL.of w5⟩, fun D hD => ?_⟩
    have hp : (fun y => decide ((y, M') ∈ fd)) = fun y => decide ((y, M') ∈ fd) := rfl
    refine lc_pure (walk_list (K := K) (a := q5) (xs := wV ws)) (fun j => wV ((ws[j]?.toList).filter fun y => decide ((y, M') ∈ fd))) hD (fun k hk => flat_lt _ (c := 1) (fun j => ?_) (by rw [wV_len] at hk; omega)) (fun H' s' => SqL.of (s' _ _ w5)) (fun j y0 H6 H7 hj s6 hy R N hR hN => ?_) fun H' s' hl' => ?_
    · rw [wV_len]
      refine Nat.le_trans (List.length_filter_le _ _) ?_
      cases ws[j]? <;> simp
    · obtain ⟨rfl, hx0⟩ := hy
      obtain ⟨y, hyj, rfl⟩ := wV_get hx0
      have exy := (hws y).mp (List.mem_of_getElem? hyj)
      obtain ⟨e, _, he⟩ := hx.next exy
      have hye : (y, e) ∈ fd := (hfdd y e).mpr he
      have hfd7 : FdAt H7 p3 fd := s6 _ _ (m5.at hfd4)
      refine ⟨rfl, ?_⟩
      refine at_ans (a_eqi (v_dget hfd7 (val_var (i := 5) rfl) (val_var (i := 8) rfl) hye fun _ h => huq hye h) (v_subi (v_dget hfd7 (val_var (i := 5) rfl) (val_var (i := 7) rfl) hxn fun _ h => huq hxn h) val_c)) ?_
      by_cases hM : e = M'
      · rw [decide_eq_true (by omega)]
        refine iteT ?_
        refine ⟨_, rfl, hR _ _ (Same.refl _) ?_⟩
        rw [hyj, Option.toList_some, List.filter_cons, if_pos (by rw [decide_eq_true_eq, ← hM]; exact hye)]
        rfl
      · rw [decide_eq_false (by omega)]
        refine iteF ?_
        refine hN _ (Same.refl _) ?_
        rw [hyj, Option.toList_some, List.filter_cons, if_neg]
        · rfl
        · rw [decide_eq_true_eq]
          intro h
          exact hM (huq h hye)
    · rw [wV_len, sel_flat] at hl'
      have hzf : zz ∈ ws.filter fun y => decide ((y, M') ∈ fd) := List.mem_filter.mpr ⟨(hws zz).mpr exz, decide_eq_true ((hfdd zz M').mpr hzz)⟩
      obtain ⟨z0, rest, hzr⟩ : ∃ z0 rest, ws.filter (fun y => decide ((y, M') ∈ fd)) = z0 :: rest := by
        cases hq : ws.filter (fun y => decide ((y, M') ∈ fd)) with
        | nil => rw [hq] at hzf; cases hzf
        | cons z0 rest => exact ⟨z0, rest, rfl⟩
      have hz0 : z0 ∈ ws.filter fun y => decide ((y, M') ∈ fd) := by rw [hzr]; exact .head _
      have hz0d := (hfdd z0 M').mp (of_decide_eq_true (List.mem_filter.mp hz0).2)
      rw [hzr] at hl'
      have mm := (m4.trans m5).trans (mo_same s')
      have hwn : WsAt H' p4 (l ++ [x]) := s' _ _ (m5.at hw4)
      refine ⟨D, _, 0, _, rfl, rfl, SqL.of hl', atI_nat (j := 0) rfl, p4, wV (l ++ [x]), _, rfl, rfl, hwn, by rw [wV_len, List.length_append, List.length_singleton]; exact lt_line (by omega), ?_⟩
      have np : p2 ≠ p4 := ne_of_none (m3.at td2) hp4
      refine ⟨z0, _, rfl, mo_mut mm n4 hwn, keep (s' _ _ (m5.at td4)) np, keep (s' _ _ (m5.at hfd4)) (ne_ho (s' _ _ (m5.at hfd4)) hwn fun e => by cases e), ?_, hz0d⟩
      unfold WsAt
      rw [upd_same, wV_app (l ++ [x])]
      rfl
end
end Cw

set_option maxHeartbeats 4000000
/-! What papers.py computes, by fuel; all words of at most four letters of the companies of two and three, checked. -/
namespace Cw
def lastW (f : List Wd) : Wd := f.getLastD []
def chgM (f : List Wd) (i n : Nat) (x : Wd) : Option (List Wd) :=
  if f.length < 500 ∧ (lastW f).length < 100 ∧ x.length < 100 then some (f ++ [(lastW f).take i ++ x ++ (lastW f).drop (i + n)]) else none
def carryM : Nat → List Wd → Nat → Option (List Wd)
  | 0, f, i => if (lastW f).length < 100 then (if ((lastW f).take (i + 2)).drop i = [97, 97] then some f else chgM f i 2 [97, 97]) else none
  | n + 1, f, i =>
    if i + 2 < (lastW f).length ∧ (lastW f).length < 100 then
      (if ((lastW f).take (i + 2)).drop i = [(lastW f).getD (i + 2) 0, (lastW f).getD (i + 2) 0] then some f else chgM f i 2 [(lastW f).getD (i + 2) 0, (lastW f).getD (i + 2) 0]).bind fun f1 => carryM n f1 (i + 1)
    else none
def illM (w : Wd) (size : Nat) : Option Nat := (List.range (size - 1)).find? fun i => decide (w.getD (i + 1) 0 ≤ w.getD i 0)
def friendM (t : List Nat) (s : Nat) : Option Nat := ((alph t.length).filter (fr t s)).head?
def relM1 (f : List Wd) (i s : Nat) : Option (List Wd) := if s = 97 then some f else (chgM f (i + 1) 2 [s, s]).bind fun f => chgM f i 2 [97, 97]
def relM2 (f : List Wd) (i g : Nat) : Option (List Wd) := if g = 97 then some f else (chgM f i 2 [g, g]).bind fun f => chgM f (i + 3) 2 [g, g]
def relM3 (f : List Wd) (i s : Nat) : Option (List Wd) := (chgM f (i + 1) 3 [s]).bind fun f => chgM f i 3 [s]
def relM (t : List Nat) (f : List Wd) (i : Nat) : Option (List Wd) :=
  if i < (lastW f).length ∧ (lastW f).length < 100 ∧ (lastW f).getD i 0 ∈ alph t.length then
    (friendM t ((lastW f).getD i 0)).bind fun g => (relM1 f i ((lastW f).getD i 0)).bind fun f1 => (relM2 f1 i g).bind fun f2 => relM3 f2 i ((lastW f).getD i 0)
  else none
def relAllM (t : List Nat) : Nat → List Wd → Nat → Option (List Wd)
  | 0, _, _ => none
  | n + 1, f, size => if (lastW f).length < 100 then (if 0 < size ∧ size + 4 ≤ (lastW f).length then (relM t f (size - 1)).bind fun f1 => relAllM t n f1 size else some f) else none
def ordM (t : List Nat) : Nat → List Wd → Nat → Option (List Wd × Nat)
  | 0, _, _ => none
  | n + 1, f, size =>
    if size ≤ (lastW f).length ∧ (lastW f).length < 100 then
      match illM (lastW f) size with
      | none => some (f, size)
      | some i =>
        if (lastW f).getD i 0 ∈ alph t.length ∧ (lastW f).getD (i + 1) 0 ∈ alph t.length ∧ i + 1 < size then
          if (lastW f).getD i 0 = (lastW f).getD (i + 1) 0 then
            (carryM (size - (i + 2)) f i).bind fun f1 => (relAllM t 50 f1 (size - 2)).bind fun f2 => ordM t n f2 (size - 2)
          else if fr t ((lastW f).getD i 0) ((lastW f).getD (i + 1) 0) = true then
            (chgM f i 1 [(lastW f).getD (i + 1) 0, (lastW f).getD i 0, (lastW f).getD (i + 1) 0]).bind fun f1 => (carryM (size - (i + 2)) f1 (i + 2)).bind fun f2 => (relAllM t 50 f2 size).bind fun f3 => ordM t n f3 size
          else (chgM f i 2 [(lastW f).getD (i + 1) 0, (lastW f).getD i 0]).bind fun f1 => ordM t n f1 size
        else none
    else none
def endM (t : List Nat) (size : Nat) : Nat → List Wd → Option (List Wd)
  | 0, _ => none
  | n + 1, f => if (lastW f).length < 100 then (if size = 0 ∧ 4 < (lastW f).length then (relM t f 0).bind fun f1 => endM t size n f1 else some f) else none
def normM (t : List Nat) (u nw : Wd) : Option (List Wd) := if u = nw then some [u] else (ordM t 200 [u] u.length).bind fun r => endM t r.2 50 r.1
/-! ### the check -/
def hereB (t : List Nat) (k : Nat) : Wd → Wd → Bool
  | a :: b :: x, c :: d :: y =>
    (match x with
      | e :: v => decide (e = a ∧ c = b ∧ v = d :: y) && fr t a b
      | [] => false) ||
    (decide (a = b ∧ c = d ∧ x = y ∧ c ∈ alph k ∧ c ≠ a)) || (decide (c = b ∧ d = a ∧ x = y ∧ a ≠ b) && !fr t a b) ||
    (match y with
      | e :: v => decide (e = c ∧ d = a ∧ v = b :: x ∧ c ∈ alph k) && fr t a c
      | [] => false)
  | [a, b, e], [c] => decide (e = a ∧ c = b) && fr t a b
  | [a], [c, d, e] => decide (e = c ∧ d = a ∧ c ∈ alph k) && fr t a c
  | _, _ => false
def stepB (t : List Nat) (k : Nat) : Wd → Wd → Bool
  | [], _ => false
  | _ :: _, [] => false
  | a :: x, c :: y => if a = c then stepB t k x y else hereB t k (a :: x) (c :: y)
def chainB (t : List Nat) (k : Nat) : List Wd → Bool
  | [] => true
  | [_] => true
  | x :: y :: l => stepB t k x y && chainB t k (y :: l)
def words14 (k : Nat) : List Wd := (allW4 k)
where allW4 (k : Nat) : List Wd :=
  let w1 := (alph k).map fun a => [a]
  let w2 := w1.flatMap fun w => (alph k).map fun a => a :: w
  let w3 := w2.flatMap fun w => (alph k).map fun a => a :: w
  let w4 := w3.flatMap fun w => (alph k).map fun a => a :: w
  w1 ++ w2 ++ w3 ++ w4
def nwOf (c : Co) (u : Wd) : Wd := normW (lettersW (kindW c.prs u).1) (kindW c.prs u).2
def okPath (c : Co) (u : Wd) (f : List Wd) : Bool := chainB c.told c.many f && decide (f.head? = some u ∧ lastW f = nwOf c u ∧ f.length < 400)
def goodW (c : Co) (u : Wd) : Bool := match normM c.told u (nwOf c u) with
  | none => false
  | some f => okPath c u f
def co2 : Co := ⟨2, [(0, 1)], [2, 1]⟩
def coA : Co := ⟨3, [(0, 1), (0, 2)], [6, 1, 1]⟩
def coB : Co := ⟨3, [(0, 1), (1, 2)], [2, 5, 2]⟩
def coC : Co := ⟨3, [(0, 1), (0, 2), (1, 2)], [6, 5, 3]⟩
theorem good2 : (words14 2).all (goodW co2) = true := by decide +kernel
theorem goodA : (words14 3).all (goodW coA) = true := by decide +kernel
theorem goodB : (words14 3).all (goodW coB) = true := by decide +kernel
theorem goodC : (words14 3).all (goodW coC) = true := by decide +kernel
end Cw

set_option maxHeartbeats 4000000
/-! The walks of papers.py, first half. -/
namespace Cw
open PySem PySem.Spec PyProof.Rows L2 LamX

/-! ### all but what stands at p stays -/
def SB (p : Addr) (H H' : Hp) : Prop := ∀ b x, b ≠ p → H b = some x → H' b = some x
theorem SB.refl {p : Addr} {H : Hp} : SB p H H := fun _ _ _ h => h
theorem SB.trans {p : Addr} {H H1 H2 : Hp} (a : SB p H H1) (b : SB p H1 H2) : SB p H H2 := fun c o n h => b c o n (a c o n h)
theorem sb_same {p : Addr} {H H' : Hp} (s : Same H H') : SB p H H' := fun b x _ h => s b x h
theorem sb_upd {p : Addr} {H : Hp} {o : HO} : SB p H (upd H p o) := fun b x n h => by
  rw [upd_ne n]
  exact h
theorem SB.same {p : Addr} {H H' : Hp} (s : SB p H H') (h : H p = none) : Same H H' := fun b x e => s b x (ne_of_none e h) e
theorem td_ws {H : Hp} {p q : Addr} {t : List Nat} {f : List Wd} (ht : TdAt H q t) (hf : WsAt H p f) (h0 : f ≠ []) : q ≠ p := by
  rintro rfl
  unfold TdAt at ht
  unfold WsAt at hf
  rw [hf] at ht
  have e := congrArg (fun o : Option HO => match o with | some (.lst l) => l | _ => []) ht
  dsimp only at e
  cases f with
  | nil => exact h0 rfl
  | cons a f =>
    cases t with
    | nil => cases e
    | cons b t => cases e
theorem SB.td {p q : Addr} {H H' : Hp} {t : List Nat} {f : List Wd} (s : SB p H H') (ht : TdAt H q t) (hf : WsAt H p f) (h0 : f ≠ []) : TdAt H' q t := s _ _ (td_ws ht hf h0) ht
theorem chg_some {f f1 : List Wd} {i n : Nat} {x : Wd} (h : chgM f i n x = some f1) : (f.length < 500 ∧ (lastW f).length < 100 ∧ x.length < 100) ∧ f1 = f ++ [(lastW f).take i ++ x ++ (lastW f).drop (i + n)] := by
  unfold chgM at h
  split at h
  · rename_i q
    exact ⟨q, (Option.some.inj h).symm⟩
  · cases h
theorem chg_ne {f f1 : List Wd} {i n : Nat} {x : Wd} (h : chgM f i n x = some f1) : f1 ≠ [] := by
  rw [(chg_some h).2]
  simp
theorem at_lastW {f : List Wd} (h : f ≠ []) : atI (wV f) (-1) = some (.str (S (lastW f))) := by
  have e : f = f.dropLast ++ [lastW f] := by
    conv => lhs; rw [← List.dropLast_concat_getLast h]
    unfold lastW
    rw [List.getLastD_eq_getLast?, List.getLast?_eq_some_getLast h]
    rfl
  rw [e]
  have e2 : lastW (f.dropLast ++ [lastW f]) = lastW f := by rw [← e]
  rw [e2]
  exact at_last _ _
section
variable {σ : L2.St} {H : Hp} {ta : TE} {p : Addr} {f : List Wd} {K : PySem.W.Frag}
theorem v_addn {tb : TE} {i j : Nat} (ha : Val ta σ H (.int (i : Int))) (hb : Val tb σ H (.int (j : Int))) : Val (tOp (rI0 fun i j => .int (i + j)) ta tb) σ H (.int ((i + j : Nat) : Int)) := v_addi ha hb
theorem v_dbl {a : Nat} (ha : Val ta σ H (.str (sg a))) : Val (tOp rMulS ta (tC (.int 2))) σ H (.str (S [a, a])) :=
  v_muls (u := [a]) (n := 2) ha val_c (by show 1 * 2 ≤ 1000000; decide) (by decide) (by show 1 ≤ 1000000; decide)
theorem a_ges {tb : TE} {a b : Nat} (ha : Val ta σ H (.str (sg a))) (hb : Val tb σ H (.str (sg b))) : Ans (tTest (tOp (fun x y H Q => ∃ i j : Str, x = .str i ∧ y = .str j ∧ Q (.bl (!decide (i.cps.toList < j.cps.toList))) H) ta tb)) σ H (decide (b ≤ a)) := by
  refine ans_cmp ha hb fun Q q => ⟨_, _, rfl, rfl, ?_⟩
  have e : (!decide ((sg a).cps.toList < (sg b).cps.toList)) = decide (b ≤ a) := by
    show (!decide ([a] < [b])) = _
    rw [Bool.eq_iff_iff, Bool.not_eq_true', decide_eq_false_iff_not, decide_eq_true_eq, List.cons_lt_cons_iff]
    simp
  rw [e]
  exact q
theorem v_last (ha : Val ta σ H (.ref p)) (hp : WsAt H p f) (h0 : f ≠ []) : Val (tOp (rIxL K) ta (tUn (rU fun i => V.int (-i)) (tC (V.int 1)))) σ H (.str (S (lastW f))) :=
  v_ixl ha (v_neg val_c) (SqL.of hp) (at_lastW h0)
end
theorem S_aa : Str.ofString "aa" = S [97, 97] := by
  apply TL.ext_tl
  decide +kernel
theorem v_aa {σ : L2.St} {H : Hp} : Val (tC (.str (Str.ofString "aa"))) σ H (.str (S [97, 97])) := v_is val_c (by rw [S_aa])
section
variable {P : Program} {w : World} {K : PySem.W.Frag} {mg : Str → Option Value} {base : Heap}
def spChangedAt : Sp := fun vs H Q _ => ∃ (p : Addr) (i n : Nat) (x : Wd) (f f1 : List Wd), vs = [.ref p, .int (i : Int), .int (n : Int), .str (S x)] ∧ WsAt H p f ∧ f ≠ [] ∧ chgM f i n x = some f1 ∧ ∀ H', SB p H H' → WsAt H' p f1 → Q .non H'
theorem okChangedAt (T : Tx K mg) : OkF P w K mg base 1 "changed_at" ["found", "at", "size", "text"] spChangedAt := by
  refine mkF T.dChangedAt scChangedAt (fun vs H Q E h => ?_) fun fa cdv A outer s H vs Q E hr h => ?_
  · obtain ⟨p, i, n, x, f, f1, rfl, _⟩ := h
    rfl
  · obtain ⟨p, i, n, x, f, f1, rfl, hp, h0, hc, q⟩ := h
    refine ⟨_, (pss_cons (ps_set (i := 4) scChangedAt.nd rfl (.inl rfl) (pe_ix (ix_listK (K := K)) (pv 0) (pe_un un_neg pe_int) (fun _ _ => rfl)))
      (pss_one (ps_expr (pe_bm PySem.F.plainAttrs_list PySem.F.slot_list_append PySem.F.type_list_append mt_append (pv 0) (pa_cons (pe_op op_add_str (pe_op op_add_str (pe_slice sl_str (pv 4) po_none (po_some (pv 1))) (pv 3)) (pe_slice sl_str (pv 4) (po_some (pe_op op_add (pv 1) (pv 2))) po_none)) pa_nil))))), ?_⟩
    obtain ⟨⟨b1, b2, b3⟩, rfl⟩ := chg_some hc
    show tOp _ _ _ _ _ _
    refine at_val (v_last (val_var rfl) hp h0) ?_
    refine s_app (v := (lastW f).take i ++ x ++ (lastW f).drop (i + n)) (val_var rfl) hp (v_adds (v_adds (v_to (u := lastW f) (val_var rfl) (val_var rfl) (by omega)) (val_var rfl) (by simp; omega)) (v_from (u := lastW f) (i := i + n) (val_var rfl) (v_addn (val_var rfl) (val_var rfl)) (by omega)) (by simp; omega)) (by omega) ?_
    exact q _ sb_upd upd_same

theorem s_chg {σ : L2.St} {H : Hp} {tp ti tn tx : TE} {p : Addr} {i n : Nat} {x : Wd} {f f1 : List Wd} {D : Ends} (hc : chgM f i n x = some f1) (ws : WsAt H p f) (h0 : f ≠ []) (hp : Val tp σ H (.ref p)) (hi : Val ti σ H (.int (i : Int))) (hn : Val tn σ H (.int (n : Int))) (hx : Val tx σ H (.str (S x)))
    (k : ∀ H', SB p H H' → WsAt H' p f1 → f1 ≠ [] → D.nx σ H') : tDrop (tCall spChangedAt [] E0 (tCons tp (tCons ti (tCons tn (tCons tx tNil))))) D σ H := by
  refine hp _ ?_
  refine hi _ ?_
  refine hn _ ?_
  refine hx _ ?_
  exact ⟨p, i, n, x, f, f1, rfl, ws, h0, hc, fun H' s w => k H' s w (chg_ne hc)⟩
def spCarry : Sp := fun vs H Q _ => ∃ (p : Addr) (i e : Nat) (f f1 : List Wd), vs = [.ref p, .int (i : Int), .int (e : Int)] ∧ WsAt H p f ∧ f ≠ [] ∧ carryM (e - (i + 2)) f i = some f1 ∧ ∀ H', SB p H H' → WsAt H' p f1 → f1 ≠ [] → Q .non H'
theorem okCarry (T : Tx K mg) : OkF P w K mg base 2 "carry" ["found", "at", "end"] spCarry := by
  refine mkF T.dCarry scCarry (fun vs H Q E h => ?_) fun fa cdv A outer s H vs Q E hr h => ?_
  · obtain ⟨p, i, e, f, f1, rfl, _⟩ := h
    rfl
  · obtain ⟨p, i, e, f, f1, rfl, hp, h0, hc, q⟩ := h
    refine ⟨_, (pss_cons (ps_while PassesOwn.never (pt_cmpR op_lt (pe_op op_add (pv 1) pe_int) (pv 2) (nomark _)) (pss_cons (ps_set (i := 3) scCarry.nd rfl (.inl rfl) (pe_ix (ix_listK (K := K)) (pv 0) (pe_un un_neg pe_int) (fun _ _ => rfl)))
      (pss_cons (ps_if (pt_cmpR op_ne (pe_slice sl_str (pv 3) (po_some (pv 1)) (po_some (pe_op op_add (pv 1) pe_int))) (pe_op op_mulS (pe_ix ix_str (pv 3) (pe_op op_add (pv 1) pe_int) (fun _ _ => rfl)) pe_int) (nomark _)) (pss_one (ps_expr (pe_c (okChangedAt T) (hr.mono (by decide)) (by rfl) (pa_cons (pv 0) (pa_cons (pv 1) (pa_cons pe_int (pa_cons (pe_op op_mulS (pe_ix ix_str (pv 3) (pe_op op_add (pv 1) pe_int) (fun _ _ => rfl)) pe_int) pa_nil))))))) pss_nil)
      (pss_one (ps_aug (i := 1) scCarry.nd rfl (.inl rfl) pe_int ip_add)))))
      (pss_one (ps_if (pt_cmpR op_ne (pe_slice sl_str (pe_ix (ix_listK (K := K)) (pv 0) (pe_un un_neg pe_int) (fun _ _ => rfl)) (po_some (pv 1)) (po_some (pe_op op_add (pv 1) pe_int))) pe_str (nomark _)) (pss_one (ps_expr (pe_c (okChangedAt T) (hr.mono (by decide)) (by rfl) (pa_cons (pv 0) (pa_cons (pv 1) (pa_cons pe_int (pa_cons pe_str pa_nil))))))) pss_nil))), ?_⟩
    refine ⟨fun M σ H' => ∃ (f' : List Wd) (i' : Nat) (x3 : Option V), σ = [some (.ref p), some (.int (i' : Int)), some (.int (e : Int)), x3] ∧ SB p H H' ∧ WsAt H' p f' ∧ f' ≠ [] ∧ carryM M f' i' = some f1 ∧ M = e - (i' + 2), ⟨_, f, i, _, rfl, .refl, hp, h0, hc, rfl⟩, ?_⟩
    rintro M σ H1 ⟨f', i', x3, rfl, s1, hp1, h1, hc1, rfl⟩
    refine at_ans (a_int (v_addi (val_var rfl) val_c) (val_var rfl)) ?_
    by_cases hlt : i' + 2 < e
    · rw [decide_eq_true (by omega)]
      refine iteT ?_
      have em : e - (i' + 2) = (e - (i' + 1 + 2)) + 1 := by omega
      rw [em] at hc1
      unfold carryM at hc1
      split at hc1
      · rename_i hb
        obtain ⟨f2, h2, h3⟩ := Option.bind_eq_some_iff.mp hc1
        refine ⟨fun σ' H' => ∃ (x3 : Option V), σ' = [some (.ref p), some (.int ((i' + 1 : Nat) : Int)), some (.int (e : Int)), x3] ∧ SB p H H' ∧ WsAt H' p f2 ∧ f2 ≠ [], fun σ' H' hN => ?_, ?_⟩
        · obtain ⟨x3, rfl, s2, hp2, hn2⟩ := hN
          exact ⟨e - (i' + 1 + 2), by omega, f2, i' + 1, x3, rfl, s2, hp2, hn2, h3, rfl⟩
        show tOp _ _ _ _ _ _
        refine at_val (v_last (val_var rfl) hp1 h1) ?_
        refine st_if (a_nes (v_mid (u := lastW f') (j := i' + 2) (val_var rfl) (val_var rfl) (v_plus (k := 2) (val_var rfl)) (by omega)) (v_dbl (v_ixs (u := lastW f') (i := i' + 2) (val_var rfl) (v_plus (k := 2) (val_var rfl)) (by omega) (by omega)))) (fun hb2 => ?_) fun hb2 => ?_
        · rw [Bool.not_eq_true', decide_eq_false_iff_not] at hb2
          rw [if_neg hb2] at h2
          refine s_chg h2 hp1 h1 (val_var rfl) (val_var rfl) val_c (v_dbl (v_ixs (u := lastW f') (i := i' + 2) (val_var rfl) (v_plus (k := 2) (val_var rfl)) (by omega) (by omega))) fun H2 s2 w2 n2 => ?_
          exact ⟨_, rfl, _, _, rfl, rfl, _, rfl, s1.trans s2, w2, n2⟩
        · rw [Bool.not_eq_false', decide_eq_true_eq] at hb2
          rw [if_pos hb2] at h2
          cases h2
          exact ⟨_, rfl, _, _, rfl, rfl, _, rfl, s1, hp1, h1⟩
      · cases hc1
    · rw [decide_eq_false (by omega)]
      refine iteF ?_
      rw [show e - (i' + 2) = 0 by omega] at hc1
      unfold carryM at hc1
      split at hc1
      · rename_i hb
        refine st_if (a_nes (v_mid (u := lastW f') (j := i' + 2) (v_last (val_var rfl) hp1 h1) (val_var rfl) (v_plus (k := 2) (val_var rfl)) (by omega)) v_aa) (fun hb2 => ?_) fun hb2 => ?_
        · rw [Bool.not_eq_true', decide_eq_false_iff_not] at hb2
          rw [if_neg hb2] at hc1
          exact s_chg hc1 hp1 h1 (val_var rfl) (val_var rfl) val_c v_aa fun H2 s2 w2 n2 => q _ (s1.trans s2) w2 n2
        · rw [Bool.not_eq_false', decide_eq_true_eq] at hb2
          rw [if_pos hb2] at hc1
          cases hc1
          exact q _ s1 hp1 h1
      · cases hc1
theorem s_carry {σ : L2.St} {H : Hp} {tp ti te : TE} {p : Addr} {i e : Nat} {f f1 : List Wd} {D : Ends} (hc : carryM (e - (i + 2)) f i = some f1) (ws : WsAt H p f) (h0 : f ≠ []) (hp : Val tp σ H (.ref p)) (hi : Val ti σ H (.int (i : Int))) (he : Val te σ H (.int (e : Int)))
    (k : ∀ H', SB p H H' → WsAt H' p f1 → f1 ≠ [] → D.nx σ H') : tDrop (tCall spCarry [] E0 (tCons tp (tCons ti (tCons te tNil)))) D σ H := by
  refine hp _ ?_
  refine hi _ ?_
  refine he _ ?_
  exact ⟨p, i, e, f, f1, rfl, ws, h0, hc, k⟩

/-- first_ill -/
def illV : Option Nat → V
  | none => .non
  | some i => .int (i : Int)
def spFirstIll : Sp := fun vs H Q _ => ∃ (v : V) (u : Wd) (n : Nat), vs = [v, .str (S u), .int (n : Int)] ∧ n ≤ u.length ∧ u.length < 100 ∧ Q (illV (illM u n)) H
theorem okFirstIll (T : Tx K mg) : OkF P w K mg base 1 "first_ill" ["told", "word", "size"] spFirstIll := by
  refine mkF T.dFirstIll scFirstIll (fun vs H Q E h => ?_) fun fa cdv A outer s H vs Q E hr h => ?_
  · obtain ⟨v, u, n, rfl, _⟩ := h
    rfl
  · obtain ⟨v, u, n, rfl, hn, hl, q⟩ := h
    refine ⟨_, (pss_cons (ps_for PassesOwn.never rfl (pi_range1 (by rfl) T.z_range (pa_cons (pe_op op_sub (pv 2) pe_int) pa_nil)) (pg_name (i := 3) scFirstIll.nd rfl (.inl rfl)) (pss_one (ps_if (pt_cmpR op_ge_str (pe_ix ix_str (pv 1) (pv 3) (fun _ _ => rfl)) (pe_ix ix_str (pv 1) (pe_op op_add (pv 3) pe_int) (fun _ _ => rfl)) (nomark _)) (pss_one (ps_ret (pv 3))) pss_nil)))
      (pss_one (ps_ret pe_non))), ?_⟩
    refine ⟨_, rfl, _, _, rfl, rfl, _, rfl, by omega, by omega, ?_⟩
    rw [show ((n : Int) - 1).toNat = n - 1 by omega]
    unfold illM at q
    refine for_it walk_range (fun i σ H' => ∃ x3, σ = [some v, some (.str (S u)), some (.int (n : Int)), x3] ∧ H' = H ∧ ∀ j, j < i → ¬ u.getD (j + 1) 0 ≤ u.getD j 0) ⟨_, rfl, rfl, fun j hj => absurd hj (by omega)⟩ (fun _ _ _ _ _ => trivial) (fun i x σ H1 H2 hi hW hy => ?_) fun σ H1 hW => ?_
    · obtain ⟨x3, rfl, rfl, hall⟩ := hW
      obtain ⟨rfl, rfl⟩ := rng_it hy
      refine st_if (a_ges (v_ixs (u := u) (i := i) (val_var rfl) (val_var rfl) (by omega) (by omega)) (v_ixs (u := u) (i := i + 1) (val_var rfl) (v_plus (k := 1) (val_var rfl)) (by omega) (by omega))) (fun hb => ?_) fun hb => ?_
      · have e : (List.range (n - 1)).find? (fun i => decide (u.getD (i + 1) 0 ≤ u.getD i 0)) = some i := by
          rw [List.find?_range_eq_some]
          exact ⟨hb, List.mem_range.mpr hi, fun j hj => by simpa using hall j hj⟩
        rw [e] at q
        exact ⟨_, rfl, q⟩
      · refine ⟨_, rfl, rfl, fun j hj => ?_⟩
        by_cases hji : j = i
        · subst hji
          exact of_decide_eq_false hb
        · exact hall j (by omega)
    · obtain ⟨x3, rfl, rfl, hall⟩ := hW
      have e : (List.range (n - 1)).find? (fun i => decide (u.getD (i + 1) 0 ≤ u.getD i 0)) = none := by
        rw [List.find?_eq_none]
        intro j hj
        rw [List.mem_range] at hj
        simpa using hall j hj
      rw [e] at q
      exact q
end
end Cw

set_option maxHeartbeats 4000000
/-! The walks of papers.py, second half. -/
namespace Cw
open PySem PySem.Spec PyProof.Rows L2 LamX

def frO (t : List Nat) (s j : Nat) : List V := if fr t s (97 + j) = true then [.str (sg (97 + j))] else []
theorem frO_flat (t : List Nat) (s k : Nat) : (List.range k).flatMap (frO t s) = ((alph k).filter (fr t s)).map fun a => V.str (sg a) := by
  unfold alph
  rw [List.filter_map, List.map_map]
  induction (List.range k) with
  | nil => rfl
  | cons j l ih =>
    rw [List.flatMap_cons, ih, List.filter_cons]
    unfold frO
    by_cases h : fr t s (97 + j) = true
    · rw [if_pos h, if_pos (by show fr t s (j + 97) = true; rw [Nat.add_comm]; exact h)]
      simp [Nat.add_comm]
    · rw [if_neg h, if_neg (by show ¬ fr t s (j + 97) = true; rw [Nat.add_comm]; exact h)]
      rfl
theorem S_a : Str.ofString "a" = S [97] := by
  apply TL.ext_tl
  decide +kernel
theorem v_a {σ : L2.St} {H : Hp} : Val (tC (.str (Str.ofString "a"))) σ H (.str (sg 97)) := v_is val_c (congrArg V.str S_a)
theorem s_set {te : TE} {i : Nat} {σ : L2.St} {H : Hp} {v : V} {t2 : TS} {D : Ends} (h : Val te σ H v) (q : t2 D (σ.set i (some v)) H) : tSeq (tAsg te (gName i)) t2 D σ H := h _ q
section
variable {P : Program} {w : World} {K : PySem.W.Frag} {mg : Str → Option Value} {base : Heap}
def spFriendOf : Sp := fun vs H Q _ => ∃ (q : Addr) (t : List Nat) (s g : Nat), vs = [.ref q, .str (sg s)] ∧ TdAt H q t ∧ t.length ≤ 8 ∧ s ∈ alph t.length ∧ friendM t s = some g ∧ ∀ H', Same H H' → Q (.str (sg g)) H'
theorem okFriendOf (T : Tx K mg) : OkF P w K mg base 2 "friend_of" ["told", "sign"] spFriendOf := by
  refine mkF T.dFriendOf scFriendOf (fun vs H Q E h => ?_) fun fa cdv A outer s H vs Q E hr h => ?_
  · obtain ⟨q, t, s, g, rfl, _⟩ := h
    rfl
  · obtain ⟨p, t, a, g, rfl, hp, h8, ha, hg, q⟩ := h
    obtain ⟨tA, hALPHABET⟩ := T.k_ALPHABET
    refine ⟨_, (pss_one (ps_ret (pe_ix (ix_listK (K := K)) (pe_lc (own := [("other", 2)]) rfl scFriendOf.nd (pi_str (pe_slice sl_str (pe_glob (v := .str ALPH) (by rfl) hALPHABET ⟨_, rfl⟩) po_none (po_some (pe_callB (call_len_seqK (K := K)) (by rfl) T.z_len (by decide +kernel) (pa_cons (pv 0) pa_nil))))) (blkOk_by (N := nFriendOf) (sc := defScope sFriendOf) (by decide +kernel)) (fun _ _ _ _ _ => pg_name (i := 2) scFriendOf.nd rfl (Or.inl rfl)) (fun _ _ _ _ _ => pts_one (pt_val (pe_c (okFriendly T) (hr.mono (by decide)) (by rfl) (pa_cons (pv 0) (pa_cons (pv 1) (pa_cons (pv 2) pa_nil)))))) (fun _ _ _ _ _ => (pv 2))) pe_int (fun _ _ => rfl)))), ?_⟩
    show tSl _ _ _ _ _ _ _
    refine at_val (v_alph (v_lentd (val_var rfl) hp) h8) ⟨_, rfl, fun D hD => ?_⟩
    refine lc_pure walk_str (frO t a) hD (fun m hm => flat_lt _ (c := 1) (fun j => by unfold frO; split <;> simp) (by rw [S_size, alph_len] at hm; omega)) (fun _ _ => trivial) (fun j x H3 H4 hj s3 hy R N hR hN => ?_) fun H' s' hl' => ?_
    · obtain ⟨rfl, o, ho, rfl⟩ := hy
      rw [S_size, alph_len] at hj
      have eo : o = 97 + j := by
        have h1 : (alph t.length)[j]? = some o := by
          rw [← S_tl (alph t.length), Array.getElem?_toList]
          exact ho
        rw [alph_get hj] at h1
        exact (Option.some.inj h1).symm
      subst eo
      have go : 97 + j ∈ alph t.length := mem_alph.mpr ⟨by omega, by omega⟩
      refine ⟨rfl, ?_⟩
      refine at_ans (a_fr (s3 _ _ hp) h8 ha go (val_var rfl) (val_var rfl) (val_var rfl)) ?_
      by_cases hq : fr t a (97 + j) = true
      · rw [hq]
        refine iteT ⟨_, rfl, hR _ _ (Same.refl _) ?_⟩
        unfold frO
        rw [if_pos hq]
      · rw [Bool.not_eq_true] at hq
        rw [hq]
        refine iteF (hN _ (Same.refl _) ?_)
        unfold frO
        rw [hq, if_neg Bool.false_ne_true]
    · rw [S_size, alph_len, frO_flat] at hl'
      unfold friendM at hg
      obtain ⟨rest, hrest⟩ : ∃ rest, (alph t.length).filter (fr t a) = g :: rest := by
        cases hq : (alph t.length).filter (fr t a) with
        | nil => rw [hq] at hg; cases hg
        | cons z rest =>
          rw [hq] at hg
          cases hg
          exact ⟨rest, rfl⟩
      rw [hrest] at hl'
      exact ⟨D, _, 0, _, rfl, rfl, SqL.of hl', atI_nat (j := 0) rfl, q _ s'⟩

def spRelieved : Sp := fun vs H Q _ => ∃ (q p : Addr) (i : Nat) (t : List Nat) (f f1 : List Wd), vs = [.ref q, .ref p, .int (i : Int)] ∧ TdAt H q t ∧ t.length ≤ 8 ∧ WsAt H p f ∧ f ≠ [] ∧ relM t f i = some f1 ∧ ∀ H', SB p H H' → WsAt H' p f1 → f1 ≠ [] → Q .non H'
theorem okRelieved (T : Tx K mg) : OkF P w K mg base 3 "relieved" ["told", "found", "at"] spRelieved := by
  refine mkF T.dRelieved scRelieved (fun vs H Q E h => ?_) fun fa cdv A outer s H vs Q E hr h => ?_
  · obtain ⟨q, p, i, t, f, f1, rfl, _⟩ := h
    rfl
  · obtain ⟨p0, p, i, t, f, f1, rfl, ht, h8, hp, h0, hc, q⟩ := h
    refine ⟨_, (pss_cons (ps_set (i := 3) scRelieved.nd rfl (.inl rfl) (pe_ix ix_str (pe_ix (ix_listK (K := K)) (pv 1) (pe_un un_neg pe_int) (fun _ _ => rfl)) (pv 2) (fun _ _ => rfl)))
      (pss_cons (ps_set (i := 4) scRelieved.nd rfl (.inl rfl) (pe_c (okFriendOf T) (hr.mono (by decide)) (by rfl) (pa_cons (pv 0) (pa_cons (pv 3) pa_nil))))
      (pss_cons (ps_if (pt_cmpR op_ne (pv 3) pe_str (nomark _)) (pss_cons (ps_expr (pe_c (okChangedAt T) (hr.mono (by decide)) (by rfl) (pa_cons (pv 1) (pa_cons (pe_op op_add (pv 2) pe_int) (pa_cons pe_int (pa_cons (pe_op op_mulS (pv 3) pe_int) pa_nil))))))
      (pss_one (ps_expr (pe_c (okChangedAt T) (hr.mono (by decide)) (by rfl) (pa_cons (pv 1) (pa_cons (pv 2) (pa_cons pe_int (pa_cons pe_str pa_nil)))))))) pss_nil)
      (pss_cons (ps_if (pt_cmpR op_ne (pv 4) pe_str (nomark _)) (pss_cons (ps_expr (pe_c (okChangedAt T) (hr.mono (by decide)) (by rfl) (pa_cons (pv 1) (pa_cons (pv 2) (pa_cons pe_int (pa_cons (pe_op op_mulS (pv 4) pe_int) pa_nil))))))
      (pss_one (ps_expr (pe_c (okChangedAt T) (hr.mono (by decide)) (by rfl) (pa_cons (pv 1) (pa_cons (pe_op op_add (pv 2) pe_int) (pa_cons pe_int (pa_cons (pe_op op_mulS (pv 4) pe_int) pa_nil)))))))) pss_nil)
      (pss_cons (ps_expr (pe_c (okChangedAt T) (hr.mono (by decide)) (by rfl) (pa_cons (pv 1) (pa_cons (pe_op op_add (pv 2) pe_int) (pa_cons pe_int (pa_cons (pv 3) pa_nil))))))
      (pss_one (ps_expr (pe_c (okChangedAt T) (hr.mono (by decide)) (by rfl) (pa_cons (pv 1) (pa_cons (pv 2) (pa_cons pe_int (pa_cons (pv 3) pa_nil)))))))))))), ?_⟩
    unfold relM at hc
    split at hc
    · rename_i hb
      obtain ⟨b1, b2, b3⟩ := hb
      obtain ⟨g, hg, hc⟩ := Option.bind_eq_some_iff.mp hc
      obtain ⟨f2, h2, hc⟩ := Option.bind_eq_some_iff.mp hc
      obtain ⟨f3, h3, hc⟩ := Option.bind_eq_some_iff.mp hc
      generalize hx : (lastW f).getD i 0 = x at *
      show tOp _ _ _ _ _ _
      refine at_val (v_is (v_ixs (u := lastW f) (i := i) (v_last (val_var rfl) hp h0) (val_var rfl) b1 (by omega)) (by rw [hx])) ?_
      refine ⟨_, rfl, _, rfl, p0, t, x, g, rfl, ht, h8, b3, hg, fun H1 s1 => ?_⟩
      have hp1 : WsAt H1 p f := s1 _ _ hp
      dsimp only [gName]
      refine st_pass (fun σ H' => σ = [some (.ref p0), some (.ref p), some (.int (i : Int)), some (.str (sg x)), some (.str (sg g))] ∧ SB p H H' ∧ WsAt H' p f2 ∧ f2 ≠ []) ?_ fun k => ?_
      · rintro σ H2 ⟨rfl, s2, hp2, n2⟩
        refine st_pass (fun σ H' => σ = [some (.ref p0), some (.ref p), some (.int (i : Int)), some (.str (sg x)), some (.str (sg g))] ∧ SB p H H' ∧ WsAt H' p f3 ∧ f3 ≠ []) ?_ fun k => ?_
        · rintro σ H3 ⟨rfl, s3, hp3, n3⟩
          unfold relM3 at hc
          obtain ⟨f4, h4, h5⟩ := Option.bind_eq_some_iff.mp hc
          refine s_chg (x := [x]) h4 hp3 n3 (val_var rfl) (v_plus (k := 1) (val_var rfl)) val_c (v_is (x := .str (sg x)) (val_var rfl) rfl) fun H4 s4 w4 n4 => ?_
          refine s_chg (x := [x]) h5 w4 n4 (val_var rfl) (val_var rfl) val_c (v_is (x := .str (sg x)) (val_var rfl) rfl) fun H5 s5 w5 n5 => ?_
          exact q _ ((s3.trans s4).trans s5) w5 n5
        · unfold relM2 at h3
          refine st_if (a_nec (val_var rfl) v_a) (fun hb => ?_) fun hb => ?_
          · rw [Bool.not_eq_true', decide_eq_false_iff_not] at hb
            rw [if_neg hb] at h3
            obtain ⟨f4, h4, h5⟩ := Option.bind_eq_some_iff.mp h3
            refine s_chg h4 hp2 n2 (val_var rfl) (val_var rfl) val_c (v_dbl (val_var rfl)) fun H4 s4 w4 n4 => ?_
            refine s_chg h5 w4 n4 (val_var rfl) (v_plus (k := 3) (val_var rfl)) val_c (v_dbl (val_var rfl)) fun H5 s5 w5 n5 => ?_
            exact k _ _ ⟨rfl, (s2.trans s4).trans s5, w5, n5⟩
          · rw [Bool.not_eq_false', decide_eq_true_eq] at hb
            rw [if_pos hb] at h3
            cases h3
            exact k _ _ ⟨rfl, s2, hp2, n2⟩
      · unfold relM1 at h2
        refine st_if (a_nec (val_var rfl) v_a) (fun hb => ?_) fun hb => ?_
        · rw [Bool.not_eq_true', decide_eq_false_iff_not] at hb
          rw [if_neg hb] at h2
          obtain ⟨f4, h4, h5⟩ := Option.bind_eq_some_iff.mp h2
          refine s_chg h4 hp1 h0 (val_var rfl) (v_plus (k := 1) (val_var rfl)) val_c (v_dbl (val_var rfl)) fun H4 s4 w4 n4 => ?_
          refine s_chg h5 w4 n4 (val_var rfl) (val_var rfl) val_c v_aa fun H5 s5 w5 n5 => ?_
          exact k _ _ ⟨rfl, ((sb_same s1).trans s4).trans s5, w5, n5⟩
        · rw [Bool.not_eq_false', decide_eq_true_eq] at hb
          rw [if_pos hb] at h2
          cases h2
          exact k _ _ ⟨rfl, sb_same s1, hp1, h0⟩
    · cases hc
theorem s_rel {σ : L2.St} {H : Hp} {tq tp ti : TE} {q p : Addr} {i : Nat} {t : List Nat} {f f1 : List Wd} {D : Ends} (hc : relM t f i = some f1) (ht : TdAt H q t) (h8 : t.length ≤ 8) (ws : WsAt H p f) (h0 : f ≠ []) (hq : Val tq σ H (.ref q)) (hp : Val tp σ H (.ref p)) (hi : Val ti σ H (.int (i : Int)))
    (k : ∀ H', SB p H H' → WsAt H' p f1 → f1 ≠ [] → D.nx σ H') : tDrop (tCall spRelieved [] E0 (tCons tq (tCons tp (tCons ti tNil)))) D σ H := by
  refine hq _ ?_
  refine hp _ ?_
  refine hi _ ?_
  exact ⟨q, p, i, t, f, f1, rfl, ht, h8, ws, h0, hc, k⟩

def spRelieveAll : Sp := fun vs H Q _ => ∃ (q p : Addr) (z n : Nat) (t : List Nat) (f f1 : List Wd), vs = [.ref q, .ref p, .int (z : Int)] ∧ TdAt H q t ∧ t.length ≤ 8 ∧ WsAt H p f ∧ f ≠ [] ∧ relAllM t n f z = some f1 ∧ ∀ H', SB p H H' → WsAt H' p f1 → f1 ≠ [] → Q .non H'
theorem okRelieveAll (T : Tx K mg) : OkF P w K mg base 4 "relieve_all" ["told", "found", "size"] spRelieveAll := by
  refine mkF T.dRelieveAll scRelieveAll (fun vs H Q E h => ?_) fun fa cdv A outer s H vs Q E hr h => ?_
  · obtain ⟨q, p, i, n, t, f, f1, rfl, _⟩ := h
    rfl
  · obtain ⟨p0, p, z, n, t, f, f1, rfl, ht, h8, hp, h0, hc, q⟩ := h
    refine ⟨_, (pss_one (ps_while PassesOwn.never (PW.pt (pw_and (pt_cmpR op_gt (pv 2) pe_int (nomark _)) (pw_and1 (pt_cmpR op_ge (pe_op op_sub (pe_callB call_len_str (by rfl) T.z_len (by decide +kernel) (pa_cons (pe_ix (ix_listK (K := K)) (pv 1) (pe_un un_neg pe_int) (fun _ _ => rfl)) pa_nil)) (pv 2)) pe_int (nomark _))))) (pss_one (ps_expr (pe_c (okRelieved T) (hr.mono (by decide)) (by rfl) (pa_cons (pv 0) (pa_cons (pv 1) (pa_cons (pe_op op_sub (pv 2) pe_int) pa_nil)))))))), ?_⟩
    refine ⟨fun M σ H' => ∃ (f' : List Wd), σ = [some (.ref p0), some (.ref p), some (.int (z : Int))] ∧ SB p H H' ∧ WsAt H' p f' ∧ f' ≠ [] ∧ relAllM t M f' z = some f1, ⟨n, f, rfl, .refl, hp, h0, hc⟩, ?_⟩
    rintro M σ H1 ⟨f', rfl, s1, hp1, h1, hc1⟩
    cases M with
    | zero => cases hc1
    | succ M =>
      unfold relAllM at hc1
      split at hc1
      · rename_i hlen
        refine at_ans (ans_and2 (a_int (val_var rfl) val_c) (a_int (v_subi (v_lens (v_last (val_var rfl) hp1 h1) (by omega)) (val_var rfl)) val_c)) ?_
        by_cases hq : 0 < z ∧ z + 4 ≤ (lastW f').length
        · rw [if_pos hq] at hc1
          obtain ⟨f2, h2, h3⟩ := Option.bind_eq_some_iff.mp hc1
          rw [decide_eq_true (by omega), decide_eq_true (by omega)]
          refine iteT ⟨fun σ' H' => σ' = [some (.ref p0), some (.ref p), some (.int (z : Int))] ∧ SB p H H' ∧ WsAt H' p f2 ∧ f2 ≠ [], fun σ' H' hN => ?_, ?_⟩
          · obtain ⟨rfl, s2, hp2, n2⟩ := hN
            exact ⟨M, by omega, f2, rfl, s2, hp2, n2, h3⟩
          · refine s_rel h2 (s1.td ht hp h0) h8 hp1 h1 (val_var rfl) (val_var rfl) (v_is (v_subi (val_var rfl) val_c) (by congr 1; omega)) fun H2 s2 w2 n2 => ?_
            exact ⟨rfl, s1.trans s2, w2, n2⟩
        · rw [if_neg hq] at hc1
          have e : (decide ((0 : Int) < (z : Int)) && decide ((4 : Int) ≤ ((lastW f').length : Int) - (z : Int))) = false := by
            rw [Bool.and_eq_false_iff, decide_eq_false_iff_not, decide_eq_false_iff_not]
            omega
          cases hc1
          rw [e]
          exact iteF (q _ s1 hp1 h1)
      · cases hc1
theorem s_relAll {σ : L2.St} {H : Hp} {tq tp ti : TE} {q p : Addr} {z n : Nat} {t : List Nat} {f f1 : List Wd} {D : Ends} (hc : relAllM t n f z = some f1) (ht : TdAt H q t) (h8 : t.length ≤ 8) (ws : WsAt H p f) (h0 : f ≠ []) (hq : Val tq σ H (.ref q)) (hp : Val tp σ H (.ref p)) (hi : Val ti σ H (.int (z : Int)))
    (k : ∀ H', SB p H H' → WsAt H' p f1 → f1 ≠ [] → D.nx σ H') : tDrop (tCall spRelieveAll [] E0 (tCons tq (tCons tp (tCons ti tNil)))) D σ H := by
  refine hq _ ?_
  refine hp _ ?_
  refine hi _ ?_
  exact ⟨q, p, z, n, t, f, f1, rfl, ht, h8, ws, h0, hc, k⟩

def spOrdered : Sp := fun vs H Q _ => ∃ (q p : Addr) (z n : Nat) (t : List Nat) (f f1 : List Wd), vs = [.ref q, .ref p] ∧ TdAt H q t ∧ t.length ≤ 8 ∧ WsAt H p f ∧ f ≠ [] ∧ ordM t n f (lastW f).length = some (f1, z) ∧ ∀ H', SB p H H' → WsAt H' p f1 → f1 ≠ [] → Q (.int (z : Int)) H'
theorem okOrdered (T : Tx K mg) : OkF P w K mg base 5 "ordered" ["told", "found"] spOrdered := by
  refine mkF T.dOrdered scOrdered (fun vs H Q E h => ?_) fun fa cdv A outer s H vs Q E hr h => ?_
  · obtain ⟨q, p, z, n, t, f, f1, rfl, _⟩ := h
    rfl
  · obtain ⟨p0, p, z, n, t, f, f1, rfl, ht, h8, hp, h0, hc, q⟩ := h
    refine ⟨_, (pss_cons (ps_set (i := 2) scOrdered.nd rfl (.inl rfl) (pe_callB call_len_str (by rfl) T.z_len (by decide +kernel) (pa_cons (pe_ix (ix_listK (K := K)) (pv 1) (pe_un un_neg pe_int) (fun _ _ => rfl)) pa_nil)))
      (pss_one (ps_while PassesOwn.never (pt_val pe_bl) (pss_cons (ps_set (i := 3) scOrdered.nd rfl (.inl rfl) (pe_ix (ix_listK (K := K)) (pv 1) (pe_un un_neg pe_int) (fun _ _ => rfl)))
      (pss_cons (ps_set (i := 4) scOrdered.nd rfl (.inl rfl) (pe_c (okFirstIll T) (hr.mono (by decide)) (by rfl) (pa_cons (pv 0) (pa_cons (pv 3) (pa_cons (pv 2) pa_nil)))))
      (pss_cons (ps_if (pt_cmpR op_isN (pv 4) pe_non (nomark _)) (pss_one (ps_ret (pv 2))) pss_nil)
      (pss_one (ps_if (pt_cmpR op_eq (pe_ix ix_str (pv 3) (pv 4) (fun _ _ => rfl)) (pe_ix ix_str (pv 3) (pe_op op_add (pv 4) pe_int) (fun _ _ => rfl)) (nomark _)) (pss_cons (ps_expr (pe_c (okCarry T) (hr.mono (by decide)) (by rfl) (pa_cons (pv 1) (pa_cons (pv 4) (pa_cons (pv 2) pa_nil)))))
      (pss_cons (ps_aug (i := 2) scOrdered.nd rfl (.inl rfl) pe_int ip_sub)
      (pss_one (ps_expr (pe_c (okRelieveAll T) (hr.mono (by decide)) (by rfl) (pa_cons (pv 0) (pa_cons (pv 1) (pa_cons (pv 2) pa_nil)))))))) (pss_one (ps_if (pt_val (pe_c (okFriendly T) (hr.mono (by decide)) (by rfl) (pa_cons (pv 0) (pa_cons (pe_ix ix_str (pv 3) (pv 4) (fun _ _ => rfl)) (pa_cons (pe_ix ix_str (pv 3) (pe_op op_add (pv 4) pe_int) (fun _ _ => rfl)) pa_nil))))) (pss_cons (ps_expr (pe_c (okChangedAt T) (hr.mono (by decide)) (by rfl) (pa_cons (pv 1) (pa_cons (pv 4) (pa_cons pe_int (pa_cons (pe_op op_add_str (pe_op op_add_str (pe_ix ix_str (pv 3) (pe_op op_add (pv 4) pe_int) (fun _ _ => rfl)) (pe_ix ix_str (pv 3) (pv 4) (fun _ _ => rfl))) (pe_ix ix_str (pv 3) (pe_op op_add (pv 4) pe_int) (fun _ _ => rfl))) pa_nil))))))
      (pss_cons (ps_expr (pe_c (okCarry T) (hr.mono (by decide)) (by rfl) (pa_cons (pv 1) (pa_cons (pe_op op_add (pv 4) pe_int) (pa_cons (pe_op op_add (pv 2) pe_int) pa_nil)))))
      (pss_one (ps_expr (pe_c (okRelieveAll T) (hr.mono (by decide)) (by rfl) (pa_cons (pv 0) (pa_cons (pv 1) (pa_cons (pv 2) pa_nil)))))))) (pss_one (ps_expr (pe_c (okChangedAt T) (hr.mono (by decide)) (by rfl) (pa_cons (pv 1) (pa_cons (pv 4) (pa_cons pe_int (pa_cons (pe_op op_add_str (pe_ix ix_str (pv 3) (pe_op op_add (pv 4) pe_int) (fun _ _ => rfl)) (pe_ix ix_str (pv 3) (pv 4) (fun _ _ => rfl))) pa_nil))))))))))))))))), ?_⟩
    have hl0 : (lastW f).length < 100 := by
      cases n with
      | zero => cases hc
      | succ n =>
        unfold ordM at hc
        split at hc
        · rename_i h
          exact h.2
        · cases hc
    refine s_set (v_lens (v_last (val_var rfl) hp h0) (by omega)) ?_
    refine ⟨fun M σ H' => ∃ (f' : List Wd) (z' : Nat) (x3 x4 : Option V), σ = [some (.ref p0), some (.ref p), some (.int (z' : Int)), x3, x4] ∧ SB p H H' ∧ WsAt H' p f' ∧ f' ≠ [] ∧ ordM t M f' z' = some (f1, z), ⟨n, f, _, _, _, rfl, .refl, hp, h0, hc⟩, ?_⟩
    rintro M σ H1 ⟨f', z', x3, x4, rfl, s1, hp1, h1, hc1⟩
    refine ⟨true, rfl, iteT ?_⟩
    cases M with
    | zero => cases hc1
    | succ M =>
      refine ⟨fun σ' H' => ∃ (f' : List Wd) (z' : Nat) (x3 x4 : Option V), σ' = [some (.ref p0), some (.ref p), some (.int (z' : Int)), x3, x4] ∧ SB p H H' ∧ WsAt H' p f' ∧ f' ≠ [] ∧ ordM t M f' z' = some (f1, z), fun σ' H' hN => ⟨M, by omega, hN⟩, ?_⟩
      unfold ordM at hc1
      split at hc1
      · rename_i hb
        refine s_set (v_last (val_var rfl) hp1 h1) ?_
        refine ⟨_, rfl, _, rfl, _, rfl, _, lastW f', z', rfl, hb.1, hb.2, ?_⟩
        cases hi : illM (lastW f') z' with
        | none =>
          rw [hi] at hc1
          cases hc1
          exact ⟨_, rfl, rfl, true, rfl, iteT ⟨_, rfl, q _ s1 hp1 h1⟩⟩
        | some i =>
          rw [hi] at hc1
          dsimp only at hc1
          split at hc1
          · rename_i hm
            obtain ⟨ma, mb, mi⟩ := hm
            refine ⟨_, rfl, rfl, false, rfl, iteF ?_⟩
            have htd := s1.td ht hp h0
            have va : ∀ {a b c : Option V} {H'}, Val (tOp rIxS (tVar 3) (tVar 4)) [a, b, c, some (.str (S (lastW f'))), some (.int (i : Int))] H' (.str (sg ((lastW f').getD i 0))) := fun {_ _ _ _} => v_ixs (val_var rfl) (val_var rfl) (by omega) (by omega)
            have vb : ∀ {a b c : Option V} {H'}, Val (tOp rIxS (tVar 3) (tOp (rI0 fun i j => V.int (i + j)) (tVar 4) (tC (V.int 1)))) [a, b, c, some (.str (S (lastW f'))), some (.int (i : Int))] H' (.str (sg ((lastW f').getD (i + 1) 0))) := fun {_ _ _ _} => v_ixs (val_var rfl) (v_plus (k := 1) (val_var rfl)) (by omega) (by omega)
            refine st_if (a_eqc va vb) (fun hab => ?_) fun hab => ?_
            · rw [decide_eq_true_eq] at hab
              rw [if_pos hab] at hc1
              obtain ⟨f2, h2, hc1⟩ := Option.bind_eq_some_iff.mp hc1
              obtain ⟨f3, h3, hc1⟩ := Option.bind_eq_some_iff.mp hc1
              refine s_carry h2 hp1 h1 (val_var rfl) (val_var rfl) (val_var rfl) fun H2 s2 w2 n2 => ?_
              refine ⟨_, rfl, _, _, rfl, rfl, ?_⟩
              refine s_relAll h3 (s2.td htd hp1 h1) h8 w2 n2 (val_var rfl) (val_var rfl) (v_is (x := .int ((z' : Int) - 2)) (val_var rfl) (by congr 1; omega)) fun H3 s3 w3 n3 => ?_
              exact ⟨f3, z' - 2, _, _, by rw [show (((z' - 2 : Nat)) : Int) = (z' : Int) - 2 by omega]; rfl, (s1.trans s2).trans s3, w3, n3, hc1⟩
            · rw [decide_eq_false_iff_not] at hab
              rw [if_neg hab] at hc1
              refine st_if (a_fr htd h8 ma mb (val_var rfl) va vb) (fun hfr => ?_) fun hfr => ?_
              · rw [if_pos hfr] at hc1
                obtain ⟨f2, h2, hc1⟩ := Option.bind_eq_some_iff.mp hc1
                obtain ⟨f3, h3, hc1⟩ := Option.bind_eq_some_iff.mp hc1
                obtain ⟨f4, h4, hc1⟩ := Option.bind_eq_some_iff.mp hc1
                refine s_chg h2 hp1 h1 (val_var rfl) (val_var rfl) val_c (v_adds (u := [(lastW f').getD (i + 1) 0, (lastW f').getD i 0]) (v := [(lastW f').getD (i + 1) 0]) (v_adds (u := [(lastW f').getD (i + 1) 0]) (v := [(lastW f').getD i 0]) vb va (by simp)) vb (by simp)) fun H2 s2 w2 n2 => ?_
                refine s_carry (i := i + 2) (e := z' + 2) (by rw [show z' + 2 - (i + 2 + 2) = z' - (i + 2) by omega]; exact h3) w2 n2 (val_var rfl) (v_plus (k := 2) (val_var rfl)) (v_plus (k := 2) (val_var rfl)) fun H3 s3 w3 n3 => ?_
                refine s_relAll h4 (s3.td (s2.td htd hp1 h1) w2 n2) h8 w3 n3 (val_var rfl) (val_var rfl) (val_var rfl) fun H4 s4 w4 n4 => ?_
                exact ⟨f4, z', _, _, rfl, ((s1.trans s2).trans s3).trans s4, w4, n4, hc1⟩
              · rw [if_neg (by rw [hfr]; simp)] at hc1
                obtain ⟨f2, h2, hc1⟩ := Option.bind_eq_some_iff.mp hc1
                refine s_chg h2 hp1 h1 (val_var rfl) (val_var rfl) val_c (v_adds (u := [(lastW f').getD (i + 1) 0]) (v := [(lastW f').getD i 0]) vb va (by simp)) fun H2 s2 w2 n2 => ?_
                exact ⟨f2, z', _, _, rfl, s1.trans s2, w2, n2, hc1⟩
          · cases hc1
      · cases hc1
end
end Cw

set_option maxHeartbeats 4000000
/-! Paths, and the walks of to_normal, need_two and way. -/
namespace Cw
open PySem PySem.Spec PyProof.Rows L2 LamX

/-! ### paths -/
inductive Ch (R : Wd → Wd → Prop) : Wd → List Wd → Wd → Prop
  | one (x : Wd) : Ch R x [x] x
  | cons {x y z : Wd} {l : List Wd} : R x y → Ch R y l z → Ch R x (x :: l) z
section
variable {R : Wd → Wd → Prop} {x y z : Wd} {l m : List Wd}
theorem Ch.ne (h : Ch R x l y) : l ≠ [] := by
  cases h <;> simp
theorem Ch.snoc (h : Ch R x l y) (e : R y z) : Ch R x (l ++ [z]) z := by
  induction h with
  | one x => exact .cons e (.one z)
  | cons r t ih => exact .cons r (ih e)
theorem Ch.app (h : Ch R x l y) (h2 : Ch R y (y :: m) z) : Ch R x (l ++ m) z := by
  induction h with
  | one x => exact h2
  | cons r t ih => exact .cons r (ih h2)
theorem Ch.rev (h : Ch R x l y) (hs : ∀ x y, R x y → R y x) : Ch R y l.reverse x := by
  induction h with
  | one x => exact .one x
  | cons r t ih =>
    rw [List.reverse_cons]
    exact ih.snoc (hs _ _ r)
theorem Ch.last (h : Ch R x l y) : ∃ l', l = l' ++ [y] := by
  induction h with
  | one x => exact ⟨[], rfl⟩
  | @cons x y z l r t ih =>
    obtain ⟨l', rfl⟩ := ih
    exact ⟨x :: l', rfl⟩
theorem Ch.head (h : Ch R x l y) : ∃ l', l = x :: l' := by
  cases h with
  | one x => exact ⟨[], rfl⟩
  | cons r t => exact ⟨_, rfl⟩
/-- without its last -/
theorem Ch.drop (h : Ch R x (l ++ [z, y]) y) : Ch R x (l ++ [z]) z := by
  have g : ∀ {x y' : Wd} {l' : List Wd}, Ch R x l' y' → ∀ l, l' = l ++ [z, y] → Ch R x (l ++ [z]) z := by
    intro x y' l' h
    induction h with
    | one x =>
      intro l e
      have := congrArg List.length e
      simp at this
    | @cons x y0 z0 l0 r t ih =>
      intro l e
      cases l with
      | nil =>
        have e1 : x = z := (List.cons.inj e).1
        subst e1
        exact .one x
      | cons a l =>
        have e1 : x = a := (List.cons.inj e).1
        subst e1
        exact .cons r (ih l (List.cons.inj e).2)
  exact g h l rfl
theorem Ch.mono {R' : Wd → Wd → Prop} {I : Wd → Prop} (h : Ch R x l y) (i : I x) (hI : ∀ x y, I x → R x y → I y ∧ R' x y) : Ch R' x l y := by
  induction h with
  | one x => exact .one x
  | cons r t ih => exact .cons (hI _ _ i r).2 (ih (hI _ _ i r).1)
theorem Ch.path {E : Wd → Wd → Prop} {N : Nat} (h : Ch R x l y) (hl : ∀ v ∈ l, v.length ≤ N) (hE : ∀ x y, R x y → y.length ≤ N → E x y) : PathN E (l.length - 1) x y := by
  have g : ∀ {n : Nat} {w : Wd}, PathN E n w x → PathN E (n + (l.length - 1)) w y := by
    induction h with
    | one x => intro n w p; exact p
    | @cons x y z l r t ih =>
      intro n w p
      have hy : y.length ≤ N := by
        obtain ⟨l', rfl⟩ := t.head
        exact hl y (.tail _ (.head _))
      have p1 : PathN E (n + 1) w y := ⟨x, p, hE _ _ r hy⟩
      have q := ih (fun v hv => hl v (.tail _ hv)) p1
      obtain ⟨l', rfl⟩ := t.head
      have e : n + 1 + ((y :: l').length - 1) = n + ((x :: y :: l').length - 1) := by simp; omega
      rw [e] at q
      exact q
  have q := g (n := 0) (w := x) rfl
  rw [Nat.zero_add] at q
  exact q
end
/-- a step, whatever the room -/
def StU (t : List Nat) (k : Nat) (x y : Wd) : Prop := ∃ m, SR t k m x y
/-- both ways, both words of the letters -/
def StO (t : List Nat) (k : Nat) (x y : Wd) : Prop := Ok k x ∧ Ok k y ∧ StU t k x y ∧ StU t k y x
theorem StO.symm {t : List Nat} {k : Nat} {x y : Wd} (h : StO t k x y) : StO t k y x := ⟨h.2.1, h.1, h.2.2.2, h.2.2.1⟩
theorem StU.both {t : List Nat} {k : Nat} {x y : Wd} (g : Gd t k) (h : StU t k x y) (o : Ok k x) : Ok k y ∧ StO t k x y := by
  obtain ⟨m, hm⟩ := h
  have oy := hm.ok o
  have h2 : SR t k (max m (x.length + y.length + 2)) x y := by
    rcases hm with h | h | h | ⟨h, _⟩
    · exact .inl h
    · exact .inr (.inl h)
    · exact .inr (.inr (.inl h))
    · exact .inr (.inr (.inr ⟨h, by omega⟩))
  exact ⟨oy, o, oy, ⟨m, hm⟩, ⟨_, h2.symm g o (by omega)⟩⟩
theorem here_ok {t : List Nat} {k : Nat} (u : Wd) : ∀ {x y : Wd}, hereB t k x y = true → IsSh t (u ++ x) (u ++ y) ∨ IsDb k (u ++ x) (u ++ y) ∨ IsSw t (u ++ x) (u ++ y) ∨ IsLo t k (u ++ x) (u ++ y) := by
  intro x y h
  unfold hereB at h
  split at h
  · rename_i a b x c d y
    rw [Bool.or_eq_true, Bool.or_eq_true, Bool.or_eq_true] at h
    rcases h with ((h | h) | h) | h
    · split at h
      · rename_i e v
        rw [Bool.and_eq_true, decide_eq_true_eq] at h
        obtain ⟨⟨rfl, rfl, rfl⟩, hf⟩ := h
        exact .inl ⟨u, _, _, _, rfl, rfl, hf⟩
      · cases h
    · rw [decide_eq_true_eq] at h
      obtain ⟨rfl, rfl, rfl, hk, hn⟩ := h
      exact .inr (.inl ⟨u, x, a, c, rfl, rfl, hk, hn⟩)
    · rw [Bool.and_eq_true, decide_eq_true_eq, Bool.not_eq_true'] at h
      obtain ⟨⟨rfl, rfl, rfl, hn⟩, hf⟩ := h
      exact .inr (.inr (.inl ⟨u, x, _, _, rfl, rfl, hn, hf⟩))
    · split at h
      · rename_i e v
        rw [Bool.and_eq_true, decide_eq_true_eq] at h
        obtain ⟨⟨rfl, rfl, rfl, hk⟩, hf⟩ := h
        exact .inr (.inr (.inr ⟨u, _, _, _, rfl, rfl, hk, hf⟩))
      · cases h
  · rename_i a b e c
    rw [Bool.and_eq_true, decide_eq_true_eq] at h
    obtain ⟨⟨rfl, rfl⟩, hf⟩ := h
    exact .inl ⟨u, [], _, _, rfl, rfl, hf⟩
  · rename_i a c d e
    rw [Bool.and_eq_true, decide_eq_true_eq] at h
    obtain ⟨⟨rfl, rfl, hk⟩, hf⟩ := h
    exact .inr (.inr (.inr ⟨u, [], _, _, rfl, rfl, hk, hf⟩))
  · cases h
theorem step_ok {t : List Nat} {k : Nat} : ∀ {x y : Wd} (u : Wd), stepB t k x y = true → StU t k (u ++ x) (u ++ y)
  | [], _, u, h => by cases h
  | _ :: _, [], u, h => by cases h
  | a :: x, c :: y, u, h => by
    unfold stepB at h
    split at h
    · rename_i e
      subst e
      have := step_ok (u ++ [a]) h
      simpa using this
    · rcases here_ok u h with h | h | h | h
      · exact ⟨0, .inl h⟩
      · exact ⟨0, .inr (.inl h)⟩
      · exact ⟨0, .inr (.inr (.inl h))⟩
      · exact ⟨_, .inr (.inr (.inr ⟨h, Nat.le_refl _⟩))⟩
theorem chain_ok {t : List Nat} {k : Nat} : ∀ {f : List Wd} {x : Wd}, f.head? = some x → chainB t k f = true → Ch (StU t k) x f (lastW f)
  | [], x, h, _ => by cases h
  | [y], x, h, _ => by
    have e : y = x := Option.some.inj h
    subst e
    exact .one y
  | y :: z :: l, x, h, hc => by
    have e : y = x := Option.some.inj h
    subst e
    unfold chainB at hc
    rw [Bool.and_eq_true] at hc
    have q := chain_ok (f := z :: l) (x := z) rfl hc.2
    have e2 : lastW (y :: z :: l) = lastW (z :: l) := rfl
    rw [e2]
    exact .cons (step_ok [] hc.1) q
theorem mem_ext {k a : Nat} {w : Wd} {L : List Wd} (h : w ∈ L) (ha : a ∈ alph k) : a :: w ∈ L.flatMap fun w => (alph k).map fun a => a :: w :=
  List.mem_flatMap.mpr ⟨w, h, List.mem_map.mpr ⟨a, ha, rfl⟩⟩
theorem mem14 {k : Nat} {u : Wd} (h : Ok k u) (h1 : 1 ≤ u.length) (h4 : u.length ≤ 4) : u ∈ words14 k := by
  unfold words14 words14.allW4
  dsimp only
  have m1 : ∀ {a : Nat}, a ∈ alph k → [a] ∈ (alph k).map fun a => [a] := fun {a} ha => List.mem_map.mpr ⟨a, ha, rfl⟩
  match u, h, h1, h4 with
  | [a], h, _, _ => exact List.mem_append_left _ (List.mem_append_left _ (List.mem_append_left _ (m1 (h a (by simp)))))
  | [a, b], h, _, _ => exact List.mem_append_left _ (List.mem_append_left _ (List.mem_append_right _ (mem_ext (m1 (h b (by simp))) (h a (by simp)))))
  | [a, b, c], h, _, _ => exact List.mem_append_left _ (List.mem_append_right _ (mem_ext (mem_ext (m1 (h c (by simp))) (h b (by simp))) (h a (by simp))))
  | [a, b, c, d], h, _, _ => exact List.mem_append_right _ (mem_ext (mem_ext (mem_ext (m1 (h d (by simp))) (h c (by simp))) (h b (by simp))) (h a (by simp)))
  | [], h, h1, _ => simp at h1
  | _ :: _ :: _ :: _ :: _ :: _, h, _, h4 => simp at h4
/-- one of the four companies -/
def Four (c : Co) : Prop := c = co2 ∨ c = coA ∨ c = coB ∨ c = coC
theorem good_four {c : Co} (hc : Four c) {u : Wd} (h : Ok c.many u) (h1 : 1 ≤ u.length) (h4 : u.length ≤ 4) : goodW c u = true := by
  have m := mem14 h h1 h4
  rcases hc with rfl | rfl | rfl | rfl
  · exact List.all_eq_true.mp good2 u m
  · exact List.all_eq_true.mp goodA u m
  · exact List.all_eq_true.mp goodB u m
  · exact List.all_eq_true.mp goodC u m
theorem four_told {c : Co} (hc : Four c) : toldOf c = c.told := by
  rcases hc with rfl | rfl | rfl | rfl <;> decide
theorem asc_of {l : List (Nat × Nat)} (h : ∀ i, i < l.length - 1 → (l.getD i (0, 0)).1 < (l.getD (i + 1) (0, 0)).1 ∨ ((l.getD i (0, 0)).1 = (l.getD (i + 1) (0, 0)).1 ∧ (l.getD i (0, 0)).2 < (l.getD (i + 1) (0, 0)).2)) :
    ∀ (i : Nat) (p q : Nat × Nat), l[i]? = some p → l[i + 1]? = some q → p.1 < q.1 ∨ (p.1 = q.1 ∧ p.2 < q.2) := by
  intro i p q h1 h2
  have hi := (List.getElem?_eq_some_iff.mp h2).1
  have := h i (by omega)
  rw [List.getD_eq_getElem?_getD, List.getD_eq_getElem?_getD, h1, h2] at this
  exact this
theorem four_ok {c : Co} (hc : Four c) : Co3 c := by
  rcases hc with rfl | rfl | rfl | rfl
  all_goals exact ⟨⟨by decide, by decide, by decide, by decide, by decide, asc_of (by decide), by decide⟩, by decide, ⟨by decide, by decide⟩⟩
/-- the path to the normal word -/
theorem norm_path {c : Co} (hc : Four c) {u : Wd} (h : Ok c.many u) (h1 : 1 ≤ u.length) (h4 : u.length ≤ 4) : ∃ f, normM c.told u (nwOf c u) = some f ∧ f.length < 400 ∧ Ch (StO c.told c.many) u f (nwOf c u) := by
  have g := good_four hc h h1 h4
  unfold goodW at g
  split at g
  · cases g
  · rename_i f hf
    unfold okPath at g
    rw [Bool.and_eq_true, decide_eq_true_eq] at g
    obtain ⟨g1, g2, g3, g4⟩ := g
    refine ⟨f, hf, g4, ?_⟩
    have ch := chain_ok g2 g1
    rw [g3] at ch
    refine ch.mono (I := Ok c.many) h fun x y i r => ?_
    have gd := (four_ok hc).gd
    rw [four_told hc] at gd
    exact r.both gd i
end Cw

set_option maxHeartbeats 4000000
/-! The walks of to_normal, need_two and way. -/
namespace Cw
open PySem PySem.Spec PyProof.Rows L2 LamX

theorem lettersW_len (m : Nat) : (lettersW m).length ≤ 8 := by
  have h3 := flat_le (letW m) (c := 1) 8 fun i _ => by unfold letW; split <;> simp
  have e2 : ∀ l : List Wd, (∀ v ∈ l, v.length = 1) → l.flatten.length = l.length := by
    intro l hl
    induction l with
    | nil => rfl
    | cons v r ih =>
      rw [List.flatten_cons, List.length_append, ih fun x hx => hl x (List.mem_cons_of_mem _ hx), hl v (List.mem_cons_self ..), List.length_cons]
      omega
  unfold lettersW
  rw [e2 _ fun v hv => ?_]
  · omega
  · obtain ⟨i, _, hi⟩ := List.mem_flatMap.mp hv
    unfold letW at hi
    split at hi
    · rw [List.mem_singleton.mp hi]; rfl
    · simp at hi
theorem at_two (l : List Wd) (x y : Wd) : atI (wV (l ++ [x, y])) (-2) = some (.str (S x)) := by
  unfold atI ixN
  rw [if_neg (by decide), if_pos (by rw [wV_len, List.length_append]; simp; omega), Option.bind_some]
  have e : (-2 + ((wV (l ++ [x, y])).length : Int)).toNat = l.length := by
    rw [wV_len, List.length_append]
    simp
    omega
  rw [e]
  unfold wV
  rw [List.map_append, List.getElem?_append_right (by simp), List.length_map, Nat.sub_self]
  rfl
theorem cut_one (l : List Wd) (x y : Wd) : cutV (wV (l ++ [x, y])) none (some (-1)) = wV (l ++ [x]) := by
  unfold cutV
  rw [HT.sIx_none, List.drop_zero, Nat.sub_zero]
  have e : HT.sIx (wV (l ++ [x, y])).length (wV (l ++ [x, y])).length (some (-1)) = l.length + 1 := by
    unfold HT.sIx
    dsimp only
    rw [if_pos (by decide), wV_len, List.length_append]
    simp
    omega
  rw [e]
  unfold wV
  rw [← List.map_take]
  congr 1
  rw [show l ++ [x, y] = (l ++ [x]) ++ [y] by simp]
  exact List.take_left' (by simp)
theorem two_last {R : Wd → Wd → Prop} {u z : Wd} {f : List Wd} (h : Ch R u f z) (hl : 1 < f.length) : ∃ f' x, f = f' ++ [x, z] := by
  obtain ⟨l, rfl⟩ := h.last
  have hn : l ≠ [] := by
    rintro rfl
    simp at hl
  exact ⟨l.dropLast, l.getLast hn, by
    conv => lhs; rw [← List.dropLast_concat_getLast hn]
    simp⟩
theorem way_test {K : PySem.W.Frag} {R : Wd → Wd → Prop} {σ : L2.St} {H : Hp} {pf pg : Addr} {f g : List Wd} {u v z : Wd} {ta tb : TE} (ha : Val ta σ H (.ref pf)) (hb : Val tb σ H (.ref pg)) (wf : WsAt H pf f) (wg : WsAt H pg g) (cf : Ch R u f z) (cg : Ch R v g z) :
    ∃ b, Ans (tAnd (tTest (tOp (rI0 fun i j => V.bl (decide (j < i))) (tCB (rLenK K) (tCons ta tNil)) (tC (V.int 1)))) (tAnd (tTest (tOp (rI0 fun i j => V.bl (decide (j < i))) (tCB (rLenK K) (tCons tb tNil)) (tC (V.int 1))))
      (tTest (tOp rEq (tOp (rIxL K) ta (tUn (rU fun i => V.int (-i)) (tC (V.int 2)))) (tOp (rIxL K) tb (tUn (rU fun i => V.int (-i)) (tC (V.int 2)))))))) σ H b ∧ (b = true → ∃ f' g' x, f = f' ++ [x, z] ∧ g = g' ++ [x, z]) := by
  have lf := v_lenl (K := K) ha (SqL.of wf)
  have lg := v_lenl (K := K) hb (SqL.of wg)
  rw [wV_len] at lf lg
  by_cases h1 : 1 < f.length
  · by_cases h2 : 1 < g.length
    · obtain ⟨f', x, rfl⟩ := two_last cf h1
      obtain ⟨g', y, rfl⟩ := two_last cg h2
      refine ⟨decide (x = y), ans_and ((a_int lf val_c).to (decide_eq_true (by omega))) (ans_and ((a_int lg val_c).to (decide_eq_true (by omega))) (a_eqs (v_ixl ha (v_neg val_c) (SqL.of wf) (at_two f' x z)) (v_ixl hb (v_neg val_c) (SqL.of wg) (at_two g' y z)))), fun h => ?_⟩
      rw [decide_eq_true_eq] at h
      subst h
      exact ⟨f', g', x, rfl, rfl⟩
    · exact ⟨false, ans_and ((a_int lf val_c).to (decide_eq_true (by omega))) (ans_and0 ((a_int lg val_c).to (decide_eq_false (by omega)))), fun h => by cases h⟩
  · exact ⟨false, ans_and0 ((a_int lf val_c).to (decide_eq_false (by omega))), fun h => by cases h⟩
section
variable {P : Program} {w : World} {K : PySem.W.Frag} {mg : Str → Option Value} {base : Heap}
def spToNormal : Sp := fun vs H Q _ => ∃ (a : Addr) (c : Co) (u : Wd) (f : List Wd), vs = [.ref a, .str (S u)] ∧ CoAt H a c ∧ Co3 c ∧ Ok c.many u ∧ normM (toldOf c) u (nwOf c u) = some f ∧ ∀ H' p, Same H H' → H p = none → WsAt H' p f → Q (.ref p) H'
theorem okToNormal (T : Tx K mg) : OkF P w K mg base 6 "to_normal" ["company", "word"] spToNormal := by
  refine mkF T.dToNormal scToNormal (fun vs H Q E h => ?_) fun fa cdv A outer s H vs Q E hr h => ?_
  · obtain ⟨a, c, u, f, rfl, _⟩ := h
    rfl
  · obtain ⟨a, c, u, f, rfl, hc, h3, hok, hf, q⟩ := h
    refine ⟨_, (pss_cons (ps_if (pt_cmpR op_eq (pv 1) (pe_c (okNormalOf T) (hr.mono (by decide)) (by rfl) (pa_cons (pe_c (okOuter T) (hr.mono (by decide)) (by rfl) (pa_cons (pe_c (okKindOf T) (hr.mono (by decide)) (by rfl) (pa_cons (pv 0) (pa_cons (pv 1) pa_nil))) pa_nil)) pa_nil)) (nomark _)) (pss_one (ps_ret (pe_lst (pa_cons (pv 1) pa_nil)))) pss_nil)
      (pss_cons (ps_par (i := 2) (j := 3) (by rfl) scToNormal.nd rfl rfl (by decide) rfl rfl (pa_cons (pe_c (okFriendsOfAll T) (hr.mono (by decide)) (by rfl) (pa_cons (pv 0) pa_nil)) (pa_cons (pe_lst (pa_cons (pv 1) pa_nil)) pa_nil)) (by rfl))
      (pss_cons (ps_set (i := 4) scToNormal.nd rfl (.inl rfl) (pe_c (okOrdered T) (hr.mono (by decide)) (by rfl) (pa_cons (pv 2) (pa_cons (pv 3) pa_nil))))
      (pss_cons (ps_while PassesOwn.never (PW.pt (pw_and (pt_cmpR op_eq (pv 4) pe_int (nomark _)) (pw_and1 (pt_cmpR op_gt (pe_callB call_len_str (by rfl) T.z_len (by decide +kernel) (pa_cons (pe_ix (ix_listK (K := K)) (pv 3) (pe_un un_neg pe_int) (fun _ _ => rfl)) pa_nil)) pe_int (nomark _))))) (pss_one (ps_expr (pe_c (okRelieved T) (hr.mono (by decide)) (by rfl) (pa_cons (pv 2) (pa_cons (pv 3) (pa_cons pe_int pa_nil)))))))
      (pss_one (ps_ret (pv 3))))))), ?_⟩
    have h28 := h3.ok.l28
    have hm := h3.three
    have h8 : (toldOf c).length ≤ 8 := by rw [toldOf_len]; omega
    refine ⟨_, rfl, _, rfl, _, rfl, a, c, u, rfl, hc, by omega, hm, hok, fun H1 k1 s1 hk => ?_⟩
    refine ⟨k1, (kindW c.prs u).1, (kindW c.prs u).2, rfl, hk, fun H2 o2 s2 ho => ?_⟩
    have hlw := lettersW_len (kindW c.prs u).1
    refine ⟨o2, lettersW (kindW c.prs u).1, (kindW c.prs u).2, rfl, ho, by omega, ?_⟩
    have s12 := s1.trans s2
    unfold normM at hf
    refine ⟨rfl, decide (u = nwOf c u), ?_, ?_⟩
    · congr 1
      rw [decide_eq_decide]
      constructor
      · intro h
        injection h with h
        exact S_inj h
      · intro h
        exact congrArg (fun x => V.str (S x)) h
    by_cases hu : u = nwOf c u
    · rw [decide_eq_true hu]
      rw [if_pos hu] at hf
      cases hf
      refine iteT ⟨_, rfl, (by show 1 ≤ sizeLine; decide), fun p hp => ?_⟩
      exact q _ p (s12.trans (same_new hp)) (s12.free hp) upd_same
    · rw [decide_eq_false hu]
      rw [if_neg hu] at hf
      obtain ⟨⟨f1, z⟩, hf1, hf2⟩ := Option.bind_eq_some_iff.mp hf
      refine iteF ?_
      refine ⟨_, rfl, a, c, rfl, hc.mono s12, h3.ok, fun H3 p3 s3 n3 td3 => ?_⟩
      refine ⟨_, rfl, (by show 1 ≤ sizeLine; decide), fun p4 hp4 => ⟨_, _, rfl, ?_⟩⟩
      have s13 := s12.trans s3
      have s4 : Same H3 (upd H3 p4 (.lst [.str (S u)])) := same_new hp4
      have hw4 : WsAt (upd H3 p4 (.lst [.str (S u)])) p4 [u] := upd_same
      have td4 : TdAt (upd H3 p4 (.lst [.str (S u)])) p3 (toldOf c) := s4 _ _ td3
      have s14 := s13.trans s4
      have n4 : H p4 = none := s13.free hp4
      refine ⟨_, rfl, _, rfl, p3, p4, z, 200, toldOf c, [u], f1, rfl, td4, h8, hw4, by simp, hf1, fun H5 s5 w5 n5 => ?_⟩
      have td5 := s5.td td4 hw4 (by simp)
      refine ⟨fun M σ H' => ∃ (f' : List Wd), σ = [some (.ref a), some (.str (S u)), some (.ref p3), some (.ref p4), some (.int (z : Int))] ∧ SB p4 H5 H' ∧ WsAt H' p4 f' ∧ f' ≠ [] ∧ endM (toldOf c) z M f' = some f, ⟨50, f1, rfl, .refl, w5, n5, hf2⟩, ?_⟩
      rintro M σ H6 ⟨f', rfl, s6, w6, n6, hc6⟩
      cases M with
      | zero => cases hc6
      | succ M =>
        unfold endM at hc6
        split at hc6
        · rename_i hlen
          refine at_ans (ans_and2 (a_eqi (val_var rfl) val_c) (a_int (v_lens (v_last (val_var rfl) w6 n6) (by omega)) val_c)) ?_
          by_cases hq : z = 0 ∧ 4 < (lastW f').length
          · rw [if_pos hq] at hc6
            obtain ⟨f7, h7, hc7⟩ := Option.bind_eq_some_iff.mp hc6
            rw [decide_eq_true (by omega), decide_eq_true (by omega)]
            refine iteT ⟨fun σ' H' => σ' = [some (.ref a), some (.str (S u)), some (.ref p3), some (.ref p4), some (.int (z : Int))] ∧ SB p4 H5 H' ∧ WsAt H' p4 f7 ∧ f7 ≠ [], fun σ' H' hN => ?_, ?_⟩
            · obtain ⟨rfl, s7, w7, n7⟩ := hN
              exact ⟨M, by omega, f7, rfl, s7, w7, n7, hc7⟩
            · refine s_rel (i := 0) h7 (s6.td td5 w5 n5) h8 w6 n6 (val_var rfl) (val_var rfl) val_c fun H7 s7 w7 n7 => ?_
              exact ⟨rfl, s6.trans s7, w7, n7⟩
          · rw [if_neg hq] at hc6
            have e : (decide ((z : Int) = 0) && decide ((4 : Int) < ((lastW f').length : Int))) = false := by
              rw [Bool.and_eq_false_iff, decide_eq_false_iff_not, decide_eq_false_iff_not]
              omega
            cases hc6
            rw [e]
            refine iteF ⟨_, rfl, ?_⟩
            refine q _ p4 ?_ n4 w6
            exact SB.same ((sb_same s14).trans (s5.trans s6)) n4
        · cases hc6

def spNeedTwo : Sp := fun vs H Q _ => ∃ (a : Addr) (c : Co) (u v : Wd), vs = [.ref a, .str (S u), .str (S v)] ∧ CoAt H a c ∧ CoOk c ∧ 1 ≤ u.length ∧ u.length ≤ 12 ∧ Ok c.many u ∧ 1 ≤ v.length ∧ v.length ≤ 12 ∧ Ok c.many v ∧ ∀ H', Same H H' → Q .non H'
theorem okNeedTwo (T : Tx K mg) : OkF P w K mg base 4 "need_two" ["company", "one", "other"] spNeedTwo := by
  refine mkF T.dNeedTwo scNeedTwo (fun vs H Q E h => ?_) fun f cdv A outer s H vs Q E hr h => ?_
  · obtain ⟨a, c, u, v, rfl, _⟩ := h
    rfl
  · obtain ⟨a, c, u, v, rfl, hc, ok, u1, u2, hu, v1, v2, hv, q⟩ := h
    refine ⟨_, (pss_cons (ps_expr (pe_c (okNeedCompany T) (hr.mono (by decide)) (by rfl) (pa_cons (pv 0) pa_nil)))
      (pss_cons (ps_expr (pe_c (okNeedShort T) (hr.mono (by decide)) (by rfl) (pa_cons (pv 0) (pa_cons (pv 1) pa_nil))))
      (pss_one (ps_expr (pe_c (okNeedShort T) (hr.mono (by decide)) (by rfl) (pa_cons (pv 0) (pa_cons (pv 2) pa_nil))))))), ?_⟩
    refine ⟨_, rfl, a, c, rfl, hc, ok, fun H1 s1 => ?_⟩
    refine ⟨_, rfl, _, rfl, a, c, u, rfl, hc.mono s1, ok.m8, u1, u2, hu, fun H2 s2 => ?_⟩
    refine ⟨_, rfl, _, rfl, a, c, v, rfl, hc.mono (s1.trans s2), ok.m8, v1, v2, hv, fun H3 s3 => ?_⟩
    exact q _ ((s1.trans s2).trans s3)

def spWay : Sp := fun vs H Q _ => ∃ (a : Addr) (c : Co) (u v : Wd), vs = [.ref a, .str (S u), .str (S v)] ∧ CoAt H a c ∧ Four c ∧ 1 ≤ u.length ∧ u.length ≤ 4 ∧ Ok c.many u ∧ 1 ≤ v.length ∧ v.length ≤ 4 ∧ Ok c.many v ∧ kindW c.prs u = kindW c.prs v ∧
  ∀ H' p l, Same H H' → H' p = some (.tup (wV l)) → l.length < 1000 → Ch (StO c.told c.many) u l v → Q (.ref p) H'
theorem okWay (T : Tx K mg) : OkF P w K mg base 7 "way" ["company", "one", "other"] spWay := by
  refine mkF T.dWay scWay (fun vs H Q E h => ?_) fun f cdv A outer s H vs Q E hr h => ?_
  · obtain ⟨a, c, u, v, rfl, _⟩ := h
    rfl
  · obtain ⟨a, c, u, v, rfl, hc, hF, u1, u4, hu, v1, v4, hv, hk, q⟩ := h
    refine ⟨_, (pss_cons (ps_expr (pe_c (okNeedTwo T) (hr.mono (by decide)) (by rfl) (pa_cons (pv 0) (pa_cons (pv 1) (pa_cons (pv 2) pa_nil)))))
      (pss_cons (ps_if (pt_cmpR (op_neDK (K := K) hr.units) (pe_c (okKindOf T) (hr.mono (by decide)) (by rfl) (pa_cons (pv 0) (pa_cons (pv 1) pa_nil))) (pe_c (okKindOf T) (hr.mono (by decide)) (by rfl) (pa_cons (pv 0) (pa_cons (pv 2) pa_nil))) (nomark _)) (pss_one (ps_ret pe_non)) pss_nil)
      (pss_cons (ps_par (i := 3) (j := 4) (by rfl) scWay.nd rfl rfl (by decide) rfl rfl (pa_cons (pe_c (okToNormal T) (hr.mono (by decide)) (by rfl) (pa_cons (pv 0) (pa_cons (pv 1) pa_nil))) (pa_cons (pe_c (okToNormal T) (hr.mono (by decide)) (by rfl) (pa_cons (pv 0) (pa_cons (pv 2) pa_nil))) pa_nil)) (by rfl))
      (pss_cons (ps_while PassesOwn.never (PW.pt (pw_and (pt_cmpR op_gt (pe_callB (call_len_seqK (K := K)) (by rfl) T.z_len (by decide +kernel) (pa_cons (pv 3) pa_nil)) pe_int (nomark _)) (pw_and (pt_cmpR op_gt (pe_callB (call_len_seqK (K := K)) (by rfl) T.z_len (by decide +kernel) (pa_cons (pv 4) pa_nil)) pe_int (nomark _)) (pw_and1 (pt_cmpR op_eq (pe_ix (ix_listK (K := K)) (pv 3) (pe_un un_neg pe_int) (fun _ _ => rfl)) (pe_ix (ix_listK (K := K)) (pv 4) (pe_un un_neg pe_int) (fun _ _ => rfl)) (nomark _)))))) (pss_one (ps_par (i := 3) (j := 4) (by rfl) scWay.nd rfl rfl (by decide) rfl rfl (pa_cons (pe_slice (sl_listK (K := K)) (pv 3) po_none (po_some (pe_un un_neg pe_int))) (pa_cons (pe_slice (sl_listK (K := K)) (pv 4) po_none (po_some (pe_un un_neg pe_int))) pa_nil)) (by rfl))))
      (pss_one (ps_ret (pe_ifExp (pt_cmpR op_ne (pv 1) (pv 2) (nomark _)) (pe_callTy (call_tuple_ofK (K := K)) (by rfl) T.z_tuple (by decide +kernel) (pa_cons (pe_op op_cat (pv 3) (pe_back2 (pv 4))) pa_nil)) (pe_tup (pa_cons (pv 1) pa_nil))))))))), ?_⟩
    have h3 := four_ok hF
    have h28 := h3.ok.l28
    have hm := h3.three
    obtain ⟨fu, nu, lu, cu⟩ := norm_path hF hu u1 u4
    obtain ⟨fv, nv, lv, cv⟩ := norm_path hF hv v1 v4
    have ew : nwOf c u = nwOf c v := by unfold nwOf; rw [hk]
    rw [← four_told hF] at nu nv
    refine ⟨_, rfl, _, rfl, _, rfl, a, c, u, v, rfl, hc, h3.ok, u1, by omega, hu, v1, by omega, hv, fun H1 s1 => ?_⟩
    refine ⟨_, rfl, _, rfl, a, c, u, rfl, hc.mono s1, by omega, hm, hu, fun H2 k2 s2 hk2 => ?_⟩
    have s12 := s1.trans s2
    refine ⟨_, rfl, _, rfl, a, c, v, rfl, hc.mono s12, by omega, hm, hv, fun H3 k3 s3 hk3 => ?_⟩
    have s13 := s12.trans s3
    refine ⟨_, _, dp_kind (show KdAt H3 k2 _ from s3 _ _ hk2), dp_kind hk3, rfl, rfl, false, ?_, ?_⟩
    · rw [eqv_kind, decide_eq_true hk]
      rfl
    refine iteF ?_
    refine ⟨_, rfl, _, rfl, a, c, u, fu, rfl, hc.mono s13, h3, hu, nu, fun H4 p4 s4 n4 w4 => ?_⟩
    have s14 := s13.trans s4
    refine ⟨_, rfl, _, rfl, a, c, v, fv, rfl, hc.mono s14, h3, hv, nv, fun H5 p5 s5 n5 w5 => ⟨_, _, rfl, ?_⟩⟩
    have s15 := s14.trans s5
    refine ⟨fun M σ H' => ∃ (f g : List Wd) (z : Wd) (pf pg : Addr), σ = [some (.ref a), some (.str (S u)), some (.str (S v)), some (.ref pf), some (.ref pg)] ∧ Same H H' ∧ WsAt H' pf f ∧ WsAt H' pg g ∧ Ch (StO c.told c.many) u f z ∧ Ch (StO c.told c.many) v g z ∧ f.length < 400 ∧ g.length < 400 ∧ M = f.length,
      ⟨_, fu, fv, nwOf c u, p4, p5, rfl, s15, s5 _ _ w4, w5, cu, by rw [ew]; exact cv, lu, lv, rfl⟩, ?_⟩
    rintro M σ H6 ⟨f, g, z, pf, pg, rfl, s6, wf, wg, cf, cg, lf, lg, rfl⟩
    obtain ⟨b, hA, hb⟩ := way_test (K := K) (σ := [some (.ref a), some (.str (S u)), some (.str (S v)), some (.ref pf), some (.ref pg)]) (val_var (i := 3) rfl) (val_var (i := 4) rfl) wf wg cf cg
    refine at_ans hA ?_
    cases b with
    | true =>
      obtain ⟨f', g', x, rfl, rfl⟩ := hb rfl
      refine iteT ⟨fun σ' H' => ∃ pf pg, σ' = [some (.ref a), some (.str (S u)), some (.str (S v)), some (.ref pf), some (.ref pg)] ∧ Same H H' ∧ WsAt H' pf (f' ++ [x]) ∧ WsAt H' pg (g' ++ [x]), fun σ' H' hN => ?_, ?_⟩
      · obtain ⟨pf, pg, rfl, s7, wf7, wg7⟩ := hN
        rw [List.length_append] at lf lg
        simp only [List.length_cons, List.length_nil] at lf lg
        exact ⟨(f' ++ [x]).length, by simp, f' ++ [x], g' ++ [x], x, pf, pg, rfl, s7, wf7, wg7, cf.drop, cg.drop, by simp; omega, by simp; omega, rfl⟩
      · refine ⟨_, rfl, _, rfl, _, rfl, pf, _, rfl, SqL.of wf, fun p7 n7 => ?_⟩
        have s7 := same_new (o := .lst (cutV (wV (f' ++ [x, z])) none (some (-1)))) n7
        refine ⟨_, rfl, _, rfl, _, rfl, pg, _, rfl, SqL.of (s7 _ _ wg), fun p8 n8 => ?_⟩
        refine ⟨_, _, rfl, p7, p8, rfl, (s6.trans s7).trans (same_new n8), (same_new n8) _ _ ?_, ?_⟩
        · rw [upd_same]
          rw [cut_one]
        · unfold WsAt
          rw [upd_same]
          rw [cut_one]
    | false =>
      refine iteF ?_
      refine at_ans (a_nes (val_var (i := 1) rfl) (val_var (i := 2) rfl)) ?_
      by_cases huv : u = v
      · subst huv
        rw [decide_eq_true rfl]
        refine iteF ⟨_, rfl, (by show 1 ≤ sizeLine; decide), fun p7 n7 => ?_⟩
        exact q _ p7 [u] (s6.trans (same_new n7)) upd_same (by simp) (.one u)
      · rw [decide_eq_false huv]
        refine iteT ?_
        refine ⟨_, rfl, _, rfl, pg, wV g, rfl, SqL.of wg, fun p7 n7 => ?_⟩
        refine ⟨pf, p7, _, _, rfl, rfl, (same_new n7) _ _ wf, upd_same, ?_, fun p8 n8 => ?_⟩
        · refine le_line ?_
          rw [List.length_reverse, List.length_dropLast, wV_len, wV_len]
          omega
        · refine ⟨p8, _, rfl, .inl ⟨SqL.of upd_same, fun p9 n9 => ?_⟩⟩
          refine q _ p9 (f ++ g.dropLast.reverse) (((s6.trans (same_new n7)).trans (same_new n8)).trans (same_new n9)) ?_ ?_ ?_
          · rw [upd_same, wV_app]
            unfold wV
            rw [List.map_reverse, List.map_dropLast]
          · rw [List.length_append, List.length_reverse, List.length_dropLast]
            omega
          · refine cf.app ?_
            have cr := cg.rev fun x y h => h.symm
            obtain ⟨g', rfl⟩ := cg.last
            rw [List.reverse_append] at cr
            rw [List.dropLast_concat]
            exact cr
end
end Cw

set_option maxHeartbeats 4000000
/-! The walks of the law's own defs. -/
namespace Cw
open PySem PySem.Spec PyProof.Rows L2 LamX

section
variable {σ : L2.St} {H : Hp} {ta tb : TE} {x y : Int}
theorem v_mod (ha : Val ta σ H (.int x)) (hb : Val tb σ H (.int y)) (hy : 0 < y) : Val (tOp (rI (fun _ j => 0 < j) fun i j => .int (i % j)) ta tb) σ H (.int (x % y)) := by
  intro Q q
  refine ha _ ?_
  exact hb _ ⟨x, y, rfl, rfl, hy, q⟩
theorem v_fdiv (ha : Val ta σ H (.int x)) (hb : Val tb σ H (.int y)) (hy : 0 < y) (h2 : y < 1073741824) : Val (tOp (rI CDivN fun i j => .int (i.fdiv j)) ta tb) σ H (.int (x.fdiv y)) := by
  intro Q q
  refine ha _ ?_
  exact hb _ ⟨x, y, rfl, rfl, ⟨by omega, by omega⟩, q⟩
theorem v_mul (ha : Val ta σ H (.int x)) (hb : Val tb σ H (.int y)) (hy : 0 ≤ y) (h2 : y < 1073741824) : Val (tOp (rI CMul fun i j => .int (i * j)) ta tb) σ H (.int (x * y)) := by
  intro Q q
  refine ha _ ?_
  exact hb _ ⟨x, y, rfl, rfl, .inr ⟨by omega, by omega⟩, q⟩
theorem v_int1 (ha : Val ta σ H (.int x)) : Val (tCB (fun xs H Q => (∃ i, xs = [V.int i] ∧ Q (.int i) H) ∨ ∃ k, xs = [V.bl k] ∧ Q (.int (if k then 1 else 0)) H) (tCons ta tNil)) σ H (.int x) := by
  intro Q q
  exact ha _ (.inl ⟨x, rfl, q⟩)
theorem v_pow : Val (tOp (rI CPow fun i j => .int (i ^ j.toNat)) (tC (.int 10)) (tC (.int 18))) σ H (.int (10 ^ (18 : Int).toNat)) := by
  intro Q q
  exact ⟨10, 18, rfl, rfl, ⟨by decide, by decide, by decide⟩, q⟩
theorem s_put {tv to ti : TE} {σ : L2.St} {H : Hp} {v : V} {r : Addr} {xs : List V} {j : Nat} {D : Ends} (hv : Val tv σ H v) (ho : Val to σ H (.ref r)) (hi : Val ti σ H (.int (j : Int))) (hr : H r = some (.lst xs)) (hj : j < xs.length) (q : D.nx σ (upd H r (.lst (xs.set j v)))) :
    tAsg tv (gSub to ti rSetL) D σ H := by
  refine hv _ ?_
  refine ho _ ?_
  refine hi _ ?_
  refine ⟨r, xs, _, j, rfl, rfl, hr, ?_, q⟩
  unfold ixN
  rw [if_pos (by omega), if_pos (by omega), Int.toNat_natCast]
end
theorem sq_sb {K : PySem.W.Frag} {r a : Addr} {H H' : Hp} {xs : List V} (h : SqL K H a xs) (s : SB r H H') (n : a ≠ r) : SqL K H' a xs := by
  rcases h with (h | ⟨o, h⟩) | h
  · exact .inl (.inl (s _ _ n h))
  · exact .inl (.inr ⟨o, s _ _ n h⟩)
  · exact .inr h
theorem sq_mo {K : PySem.W.Frag} {T : List (Addr × Str)} {a : Addr} {H H' : Hp} {xs : List V} (h : SqL K H a xs) (s : Mo T H H') : SqL K H' a xs := by
  rcases h with (h | ⟨o, h⟩) | h
  · exact .inl (.inl (s.at h))
  · exact .inl (.inr ⟨o, s.at h⟩)
  · exact .inr h
/-- the script is not the row -/
def Nr (K : PySem.W.Frag) (r scr : Addr) (ns : List Int) : Prop := scr ≠ r ∨ ∀ H', SqL K H' scr (ns.map V.int)
theorem sq_sc {K : PySem.W.Frag} {r scr : Addr} {H H' : Hp} {ns : List Int} (h : SqL K H scr (ns.map V.int)) (s : SB r H H') (n : Nr K r scr ns) : SqL K H' scr (ns.map V.int) := by
  rcases n with n | n
  · exact sq_sb h s n
  · exact n H'
/-- the law's row: what it has left to draw from -/
def RowAt (H : Hp) (r scr : Addr) : Prop := ∃ (a : Nat) (b c : Int), H r = some (.lst [.ref scr, .int (a : Int), .int b, .int c])
theorem RowAt.mo {T : List (Addr × Str)} {r scr : Addr} {H H' : Hp} (h : RowAt H r scr) (s : Mo T H H') : RowAt H' r scr := by
  obtain ⟨a, b, c, h1⟩ := h
  exact ⟨a, b, c, s.at h1⟩
theorem RowAt.put {r scr : Addr} {a : Nat} {b c : Int} {H : Hp} {xs : List V} (hx : xs = [.ref scr, .int (a : Int), .int b, .int c]) : RowAt (upd H r (.lst xs)) r scr := by
  subst hx
  exact ⟨a, b, c, upd_same⟩
section
variable {P : Program} {w : World} {K : PySem.W.Frag} {mg : Str → Option Value} {base : Heap}
def spTaken (K : PySem.W.Frag) : Sp := fun vs H Q _ => ∃ (r scr : Addr) (ns : List Int) (m : Nat), vs = [.ref r, .int (m : Int)] ∧ RowAt H r scr ∧ SqL K H scr (ns.map V.int) ∧ Nr K r scr ns ∧ 1 ≤ m ∧ m < 1000000000 ∧ ∀ H' (z : Nat), SB r H H' → RowAt H' r scr → z < m → Q (.int (z : Int)) H'
theorem mod_nat {x : Int} {m : Nat} (h : 1 ≤ m) : ∃ z : Nat, x % (m : Int) = (z : Int) ∧ z < m := by
  have h1 : 0 ≤ x % (m : Int) := Int.emod_nonneg x (by omega)
  have h2 : x % (m : Int) < (m : Int) := Int.emod_lt_of_pos x (by omega)
  exact ⟨(x % (m : Int)).toNat, by omega, by omega⟩
theorem okLawTaken (T : Tx K mg) : OkF P w K mg base 1 "_law_taken" ["_law_row", "_law_many"] (spTaken K) := by
  refine mkF T.dLawTaken scLawTaken (fun vs H Q E h => ?_) fun f cdv A outer s H vs Q E hr h => ?_
  · obtain ⟨r, scr, ns, m, rfl, _⟩ := h
    rfl
  · obtain ⟨r, scr, ns, m, rfl, ⟨a, b, c, hrow⟩, hscr, hne, h1, hm, q⟩ := h
    refine ⟨_, (pss_cons (ps_if (pt_cmpR op_gt (pe_ix (ix_listK (K := K)) (pv 0) pe_int (fun _ _ => rfl)) pe_int (nomark _)) (pss_cons (ps_set (i := 2) scLawTaken.nd rfl (.inl rfl) (pe_op op_mod (pe_callTy call_int1 (by rfl) T.z_int (by decide +kernel) (pa_cons (pe_ix (ix_listK (K := K)) (pv 0) pe_int (fun _ _ => rfl)) pa_nil)) (pv 1)))
      (pss_cons (ps_asg (pe_op op_fdivN (pe_ix (ix_listK (K := K)) (pv 0) pe_int (fun _ _ => rfl)) (pv 1)) (pg_sub (pv 0) pe_int set_list))
      (pss_one (ps_ret (pv 2))))) pss_nil)
      (pss_cons (ps_asg (pe_op op_add (pe_ix (ix_listK (K := K)) (pv 0) pe_int (fun _ _ => rfl)) pe_int) (pg_sub (pv 0) pe_int set_list))
      (pss_cons (ps_if (pt_cmpR op_gt (pe_ix (ix_listK (K := K)) (pv 0) pe_int (fun _ _ => rfl)) (pe_callB (call_len_seqK (K := K)) (by rfl) T.z_len (by decide +kernel) (pa_cons (pe_ix (ix_listK (K := K)) (pv 0) pe_int (fun _ _ => rfl)) pa_nil)) (nomark _)) (pss_cons (ps_asg (pe_op op_mod (pe_callTy call_int1 (by rfl) T.z_int (by decide +kernel) (pa_cons (pe_op op_add (pe_op op_mul (pe_ix (ix_listK (K := K)) (pv 0) pe_int (fun _ _ => rfl)) pe_int) pe_int) pa_nil)) pe_int) (pg_sub (pv 0) pe_int set_list))
      (pss_one (ps_ret (pe_op op_mod (pe_callTy call_int1 (by rfl) T.z_int (by decide +kernel) (pa_cons (pe_op op_fdivN (pe_ix (ix_listK (K := K)) (pv 0) pe_int (fun _ _ => rfl)) pe_int) pa_nil)) (pv 1))))) pss_nil)
      (pss_cons (ps_set (i := 3) scLawTaken.nd rfl (.inl rfl) (pe_ix (ix_listK (K := K)) (pe_ix (ix_listK (K := K)) (pv 0) pe_int (fun _ _ => rfl)) (pe_op op_sub (pe_ix (ix_listK (K := K)) (pv 0) pe_int (fun _ _ => rfl)) pe_int) (fun _ _ => rfl)))
      (pss_cons (ps_asg (pe_op op_mod (pe_callTy call_int1 (by rfl) T.z_int (by decide +kernel) (pa_cons (pe_op op_add (pe_op op_add (pe_op op_mul (pe_ix (ix_listK (K := K)) (pv 0) pe_int (fun _ _ => rfl)) pe_int) (pv 3)) pe_int) pa_nil)) pe_int) (pg_sub (pv 0) pe_int set_list))
      (pss_cons (ps_if (pt_cmpR op_ge (pv 3) (pe_op op_pow pe_int pe_int) (nomark _)) (pss_one (ps_asg (pe_op op_fdivN (pv 3) (pv 1)) (pg_sub (pv 0) pe_int set_list))) pss_nil)
      (pss_one (ps_ret (pe_op op_mod (pe_callTy call_int1 (by rfl) T.z_int (by decide +kernel) (pa_cons (pv 3) pa_nil)) (pv 1)))))))))), ?_⟩
    have v0 : ∀ {x2 x3 : Option V} {H' : Hp}, Val (tVar 0) [some (.ref r), some (.int (m : Int)), x2, x3] H' (.ref r) := fun {_ _ _} => val_var rfl
    have vm : ∀ {x2 x3 : Option V} {H' : Hp}, Val (tVar 1) [some (.ref r), some (.int (m : Int)), x2, x3] H' (.int (m : Int)) := fun {_ _ _} => val_var rfl
    have vrow : ∀ {x2 x3 : Option V} {H' : Hp} {xs : List V} {j : Nat} {y : V}, H' r = some (.lst xs) → xs[j]? = some y → Val (tOp (rIxL K) (tVar 0) (tC (.int (j : Int)))) [some (.ref r), some (.int (m : Int)), x2, x3] H' y := fun {_ _ _ _ _ _} h e => v_ixl v0 val_c (SqL.of h) (atI_nat e)
    refine st_pass (fun σ H' => σ = [some (.ref r), some (.int (m : Int)), none, none] ∧ H' = H) ?_ fun k => ?_
    · rintro σ H' ⟨rfl, rfl⟩
      refine st_seq (s_put (j := 1) (v_addi (vrow (j := 1) hrow rfl) val_c) v0 val_c hrow (by show 1 < 4; decide) ?_)
      have sb1 : SB r H' (upd H' r (.lst ([V.ref scr, .int (a : Int), .int b, .int c].set 1 (.int ((a : Int) + 1))))) := sb_upd
      have hrow1 : (upd H' r (.lst ([V.ref scr, .int (a : Int), .int b, .int c].set 1 (.int ((a : Int) + 1))))) r = some (.lst [V.ref scr, .int ((a + 1 : Nat) : Int), .int b, .int c]) := upd_same
      have hscr1 := sq_sc hscr sb1 hne
      generalize upd H' r (.lst ([V.ref scr, .int (a : Int), .int b, .int c].set 1 (.int ((a : Int) + 1)))) = H1 at sb1 hrow1 hscr1
      have vlen : ∀ {x2 x3 : Option V}, Val (tCB (rLenK K) (tCons (tOp (rIxL K) (tVar 0) (tC (V.int ((0 : Nat) : Int)))) tNil)) [some (.ref r), some (.int (m : Int)), x2, x3] H1 (.int ((ns.map V.int).length : Int)) := fun {_ _} => v_lenl (vrow (j := 0) hrow1 rfl) hscr1
      dsimp only
      refine st_pass (fun σ H' => σ = [some (.ref r), some (.int (m : Int)), none, none] ∧ H' = H1 ∧ a < ns.length) ?_ fun k => ?_
      · rintro σ H2 ⟨rfl, rfl, han⟩
        have hcell : (ns.map V.int)[a]? = some (.int ns[a]) := by
          rw [List.getElem?_map, List.getElem?_eq_getElem han]
          rfl
        generalize ns[a] = cell at hcell
        refine s_set (v_ixl (vrow (j := 0) hrow1 rfl) (v_is (x := .int (((a + 1 : Nat) : Int) - 1)) (v_subi (vrow (j := 1) hrow1 rfl) val_c) rfl) hscr1 (by rw [show (((a + 1 : Nat) : Int) - 1) = (a : Int) by omega]; exact atI_nat hcell)) ?_
        refine st_seq (s_put (j := 2) (v_mod (v_int1 (v_addi (v_addi (v_mul (vrow (j := 2) hrow1 rfl) val_c (by decide) (by decide)) (val_var rfl)) val_c)) val_c (by decide)) v0 val_c hrow1 (by show 2 < 4; decide) ?_)
        have sb2 : SB r H' (upd H2 r (.lst ([V.ref scr, .int ((a + 1 : Nat) : Int), .int b, .int c].set 2 (.int ((b * 48271 + cell + 11) % 2147483647))))) := sb1.trans sb_upd
        have hrow2 : (upd H2 r (.lst ([V.ref scr, .int ((a + 1 : Nat) : Int), .int b, .int c].set 2 (.int ((b * 48271 + cell + 11) % 2147483647))))) r = some (.lst [V.ref scr, .int ((a + 1 : Nat) : Int), .int ((b * 48271 + cell + 11) % 2147483647), .int c]) := upd_same
        have hscr2 := sq_sc hscr sb2 hne
        generalize upd H2 r (.lst ([V.ref scr, .int ((a + 1 : Nat) : Int), .int b, .int c].set 2 (.int ((b * 48271 + cell + 11) % 2147483647)))) = H3 at sb2 hrow2 hscr2
        generalize (b * 48271 + cell + 11) % 2147483647 = b2 at hrow2
        obtain ⟨z, ez, hz⟩ := mod_nat (x := cell) h1
        dsimp only
        refine st_pass (fun σ H4 => σ = [some (.ref r), some (.int (m : Int)), none, some (.int cell)] ∧ SB r H' H4 ∧ RowAt H4 r scr) ?_ fun k => ?_
        · rintro σ H4 ⟨rfl, s4, row4⟩
          refine st_ret (v_mod (v_int1 (val_var rfl)) vm (by omega)) ?_
          rw [ez]
          exact q _ z s4 row4 hz
        · refine st_if (a_int (val_var rfl) v_pow) (fun hb => ?_) fun hb => ?_
          · refine s_put (j := 3) (v_fdiv (val_var rfl) vm (by omega) (by omega)) v0 val_c hrow2 (by show 3 < 4; decide) ?_
            exact k _ _ ⟨rfl, sb2.trans sb_upd, .put rfl⟩
          · exact k _ _ ⟨rfl, sb2, a + 1, b2, c, hrow2⟩
      · refine st_if (a_int (vrow (j := 1) hrow1 rfl) vlen) (fun hb => ?_) fun hb => ?_
        · refine st_seq (s_put (j := 2) (v_mod (v_int1 (v_addi (v_mul (vrow (j := 2) hrow1 rfl) val_c (by decide) (by decide)) val_c)) val_c (by decide)) v0 val_c hrow1 (by show 2 < 4; decide) ?_)
          have sb2 : SB r H' (upd H1 r (.lst ([V.ref scr, .int ((a + 1 : Nat) : Int), .int b, .int c].set 2 (.int ((b * 48271 + 11) % 2147483647))))) := sb1.trans sb_upd
          have hrow2 : (upd H1 r (.lst ([V.ref scr, .int ((a + 1 : Nat) : Int), .int b, .int c].set 2 (.int ((b * 48271 + 11) % 2147483647))))) r = some (.lst [V.ref scr, .int ((a + 1 : Nat) : Int), .int ((b * 48271 + 11) % 2147483647), .int c]) := upd_same
          have hscr2 := sq_sc hscr sb2 hne
          generalize upd H1 r (.lst ([V.ref scr, .int ((a + 1 : Nat) : Int), .int b, .int c].set 2 (.int ((b * 48271 + 11) % 2147483647)))) = H3 at sb2 hrow2 hscr2
          generalize (b * 48271 + 11) % 2147483647 = b2 at hrow2
          obtain ⟨z, ez, hz⟩ := mod_nat (x := b2.fdiv 7) h1
          refine st_ret (v_mod (v_int1 (v_fdiv (vrow (j := 2) hrow2 rfl) val_c (by decide) (by decide))) vm (by omega)) ?_
          rw [ez]
          exact q _ z sb2 ⟨a + 1, b2, c, hrow2⟩ hz
        · refine k _ _ ⟨rfl, rfl, ?_⟩
          rw [decide_eq_false_iff_not, List.length_map] at hb
          omega
    · refine st_if (a_int (vrow (j := 3) hrow rfl) val_c) (fun hb => ?_) fun hb => ?_
      · obtain ⟨z, ez, hz⟩ := mod_nat (x := c) h1
        refine s_set (v_mod (v_int1 (vrow (j := 3) hrow rfl)) vm (by omega)) ?_
        refine st_seq (s_put (j := 3) (v_fdiv (vrow (j := 3) hrow rfl) vm (by omega) (by omega)) v0 val_c hrow (by show 3 < 4; decide) ?_)
        refine ⟨_, rfl, ?_⟩
        rw [ez]
        exact q _ z sb_upd (.put rfl) hz
      · exact k _ _ ⟨rfl, rfl⟩
end
end Cw

set_option maxHeartbeats 4000000
/-! The walks of _law_pick and _law_word. -/
namespace Cw
open PySem PySem.Spec PyProof.Rows L2 LamX

theorem CoAt.sb {H H' : Hp} {a r : Addr} {c : Co} {xs : List V} (h : CoAt H a c) (s : SB r H H') (hr : H r = some (.lst xs)) : CoAt H' a c := by
  obtain ⟨t, bs, h1, h2, h3⟩ := h
  exact ⟨t, bs, s _ _ (ne_ho h1 hr fun e => by cases e) h1, s _ _ (ne_ho h2 hr fun e => by cases e) h2, Paired.mapP h3 fun p b e => s _ _ (ne_ho e hr fun e => by cases e) e⟩
section
variable {P : Program} {w : World} {K : PySem.W.Frag} {mg : Str → Option Value} {base : Heap}
def spPick (K : PySem.W.Frag) : Sp := fun vs H Q _ => ∃ (r l scr : Addr) (ns : List Int) (xs : List V), vs = [.ref r, .ref l] ∧ RowAt H r scr ∧ SqL K H scr (ns.map V.int) ∧ Nr K r scr ns ∧ SqL K H l xs ∧ l ≠ r ∧ 1 ≤ xs.length ∧ xs.length < 1000000000 ∧ ∀ H' x, SB r H H' → RowAt H' r scr → x ∈ xs → Q x H'
theorem okLawPick (T : Tx K mg) : OkF P w K mg base 2 "_law_pick" ["_law_row", "_law_things"] (spPick K) := by
  refine mkF T.dLawPick scLawPick (fun vs H Q E h => ?_) fun f cdv A outer s H vs Q E hr h => ?_
  · obtain ⟨r, l, scr, ns, xs, rfl, _⟩ := h
    rfl
  · obtain ⟨r, l, scr, ns, xs, rfl, hrow, hscr, hn0, hl, hne, h1, hm, q⟩ := h
    refine ⟨_, (pss_one (ps_ret (pe_ix (ix_listK (K := K)) (pv 1) (pe_c (okLawTaken T) (hr.mono (by decide)) (by rfl) (pa_cons (pv 0) (pa_cons (pe_callB (call_len_seqK (K := K)) (by rfl) T.z_len (by decide +kernel) (pa_cons (pv 1) pa_nil)) pa_nil))) (fun _ _ => rfl)))), ?_⟩
    refine ⟨_, rfl, _, rfl, _, rfl, l, xs, rfl, .inl hl, r, scr, ns, xs.length, rfl, hrow, hscr, hn0, h1, hm, fun H1 z s1 row1 hz => ?_⟩
    exact ⟨l, xs, z, xs[z], rfl, rfl, sq_sb hl s1 hne, atI_nat (List.getElem?_eq_getElem hz), q _ _ s1 row1 (List.getElem_mem hz)⟩

def spLawWord (K : PySem.W.Frag) : Sp := fun vs H Q _ => ∃ (r a scr : Addr) (ns : List Int) (c : Co), vs = [.ref r, .ref a, .int 4] ∧ RowAt H r scr ∧ SqL K H scr (ns.map V.int) ∧ Nr K r scr ns ∧ CoAt H a c ∧ 1 ≤ c.many ∧ c.many ≤ 8 ∧ ∀ H' u, SB r H H' → RowAt H' r scr → Ok c.many u → 1 ≤ u.length → u.length ≤ 4 → Q (.str (S u)) H'
theorem okLawWord (T : Tx K mg) : OkF P w K mg base 2 "_law_word" ["_law_row", "_law_company_here", "_law_most"] (spLawWord K) := by
  refine mkF T.dLawWord scLawWord (fun vs H Q E h => ?_) fun f cdv A outer s H vs Q E hr h => ?_
  · obtain ⟨r, a, scr, ns, c, rfl, _⟩ := h
    rfl
  · obtain ⟨r, a, scr, ns, c, rfl, hrow, hscr, hn0, hc, h1, h8, q⟩ := h
    refine ⟨_, (pss_one (ps_ret (pe_join pe_str (pe_lc (own := [("_law_at", 3)]) (tt := tYes) rfl scLawWord.nd (pi_range1 (by rfl) T.z_range (pa_cons (pe_op op_add pe_int (pe_c (okLawTaken T) (hr.mono (by decide)) (by rfl) (pa_cons (pv 0) (pa_cons (pv 2) pa_nil)))) pa_nil)) (blkOk_by (N := nLawWord) (sc := defScope sLawWord) (by decide +kernel)) (fun _ _ _ _ _ => pg_name (i := 3) scLawWord.nd rfl (Or.inl rfl)) (fun _ _ _ _ _ => pts_nil) (fun _ _ _ _ _ => (pe_ix ix_str pe_str (pe_c (okLawTaken T) (hr.mono (by decide)) (by rfl) (pa_cons (pv 0) (pa_cons (pe_ix (ix_tupK (K := K)) (pv 1) pe_int (fun _ _ => rfl)) pa_nil))) (fun _ _ => rfl))))))), ?_⟩
    refine ⟨⟨_, rfl⟩, _, rfl, _, rfl, r, scr, ns, 4, rfl, hrow, hscr, hn0, by omega, by omega, fun H1 z s1 row1 hz => ?_⟩
    obtain ⟨a1, b1, c1, hr0⟩ := hrow
    have hc1 := hc.sb s1 hr0
    refine ⟨_, _, rfl, rfl, _, rfl, by omega, by omega, fun D hD => ?_⟩
    have en : ((1 : Int) + (z : Int)).toNat = z + 1 := by omega
    rw [en]
    have hDr : D ≠ r := by
      obtain ⟨_, _, _, h⟩ := row1
      exact (ne_of_none h hD).symm
    have hDn : H D = none := by
      cases e : H D with
      | none => rfl
      | some x =>
        have := s1 _ _ hDr e
        rw [hD] at this
        cases this
    have sbD : ∀ {H' : Hp} {o : HO}, SB r H H' → SB r H (upd H' D o) := fun {H' o} s b x n e => by
      rw [upd_ne (ne_of_none e hDn)]
      exact s b x n e
    have rowD : ∀ {H' : Hp} {o : HO}, RowAt H' r scr → RowAt (upd H' D o) r scr := fun {H' o} hr2 => by
      obtain ⟨x, y, z, h⟩ := hr2
      exact ⟨x, y, z, keep h hDr.symm⟩
    refine lc_it walk_range (fun i H' => SB r H H' ∧ RowAt H' r scr ∧ ∃ ws : List Wd, H' D = some (.lst (wV ws)) ∧ ws.length = i ∧ ∀ v ∈ ws, ∃ x, v = [x] ∧ x ∈ alph c.many) ⟨sbD s1, rowD row1, [], upd_same, rfl, fun v hv => by cases hv⟩ (fun _ _ _ _ => trivial) (fun i x H2 H3 hi hW hy => ?_) fun H2 hW => ?_
    · obtain ⟨s2, row2, ws, hw, hlen, hall⟩ := hW
      obtain ⟨rfl, rfl⟩ := rng_it hy
      have hc2 := hc.sb s2 hr0
      obtain ⟨t, bs, ha, _⟩ := id hc2
      refine ⟨rfl, yes_then ?_⟩
      refine ⟨_, rfl, _, rfl, a, _, 0, _, rfl, rfl, SqT.of ha, rfl, r, scr, ns, c.many, rfl, row2, sq_sc hscr s2 hn0, hn0, h1, by omega, fun H4 z4 s4 row4 hz4 => ?_⟩
      refine ⟨ALPH, _, 97 + z4, rfl, rfl, by decide, ?_, wV ws, s4 _ _ hDr hw, by rw [wV_len]; exact lt_line (by omega), sbD (s2.trans s4), rowD row4, ws ++ [[97 + z4]], ?_, by simp; omega, ?_⟩
      · rw [ALPH_S]
        refine atI_nat ?_
        have hh : z4 = 0 ∨ z4 = 1 ∨ z4 = 2 ∨ z4 = 3 ∨ z4 = 4 ∨ z4 = 5 ∨ z4 = 6 ∨ z4 = 7 := by omega
        rcases hh with e | e | e | e | e | e | e | e <;> subst e <;> rfl
      · rw [upd_same, wV_app]
        rfl
      · intro v hv
        rcases List.mem_append.mp hv with hv | hv
        · exact hall v hv
        · rw [List.mem_singleton.mp hv]
          exact ⟨_, rfl, mem_alph.mpr ⟨by omega, by omega⟩⟩
    · obtain ⟨s2, row2, ws, hw, hlen, hall⟩ := hW
      have hlf : ws.flatten.length = z + 1 := by
        rw [← hlen]
        have g : ∀ l : List Wd, (∀ v ∈ l, ∃ x, v = [x] ∧ x ∈ alph c.many) → l.flatten.length = l.length := by
          intro l hl
          induction l with
          | nil => rfl
          | cons v l ih =>
            obtain ⟨x, rfl, _⟩ := hl v (.head _)
            rw [List.flatten_cons, List.length_append, ih fun y hy => hl y (.tail _ hy), List.length_cons]
            simp
            omega
        exact g ws hall
      have e1 : wV ws = (ws.map S).map V.str := by
        rw [List.map_map]
        rfl
      rw [e1] at hw
      refine ⟨_, D, ws.map S, rfl, rfl, .inl (SqL.of hw), ?_, ?_⟩
      · have g : ∀ l : List Wd, (∀ v ∈ l, ∃ x, v = [x] ∧ x ∈ alph c.many) → ((l.map S).map fun x : Str => x.length).sum = l.length := by
          intro l hl
          induction l with
          | nil => rfl
          | cons v l ih =>
            obtain ⟨x, rfl, _⟩ := hl v (.head _)
            rw [List.map_cons, List.map_cons, List.sum_cons, ih fun y hy => hl y (.tail _ hy), S_len, List.length_cons, List.length_cons, List.length_nil]
            omega
        rw [g ws hall, List.length_map]
        have : (Str.ofString "").length = 0 := rfl
        rw [this]
        omega
      · show Q (.str (Txt.join (Str.ofString "") _)) H2
        rw [join_S]
        refine q _ ws.flatten s2 row2 (fun x hx => ?_) (by omega) (by omega)
        obtain ⟨v, hv, hx⟩ := List.mem_flatten.mp hx
        obtain ⟨y, rfl, hy⟩ := hall v hv
        rw [List.mem_singleton.mp hx]
        exact hy
end
end Cw

set_option maxHeartbeats 4000000
/-! The walk of _law_company. -/
namespace Cw
open PySem PySem.Spec PyProof.Rows L2 LamX

/-! ### the pairs that it can have gathered -/
abbrev Pr := Nat × Nat
def zP (p : Pr) : Int × Int := ((p.1 : Int), (p.2 : Int))
def addP (ps : List Pr) (p : Pr) : List Pr := if p ∈ ps then ps else ps ++ [p]
def kP (ps : List Pr) : List (List Key × V) := ps.map fun p => (keyP (zP p), V.bl true)
theorem keyP_inj {p q : Pr} (h : keyP (zP p) = keyP (zP q)) : p = q := by
  unfold keyP zP at h
  injection h with h1 h2
  injection h2 with h2 _
  have e1 := Sum.inl.inj h1
  have e2 := Sum.inl.inj h2
  exact Prod.ext (Int.ofNat.inj e1) (Int.ofNat.inj e2)
theorem kP_put (ps : List Pr) (p : Pr) : putK (kP ps) (keyP (zP p)) (.bl true) = kP (addP ps p) := by
  have e : ((kP ps).any fun kv => decide (kv.1 = keyP (zP p))) = decide (p ∈ ps) := by
    rw [Bool.eq_iff_iff, List.any_eq_true, decide_eq_true_eq]
    constructor
    · rintro ⟨kv, h, e⟩
      obtain ⟨u, hu, rfl⟩ := List.mem_map.mp h
      rw [decide_eq_true_eq] at e
      rw [← keyP_inj e]
      exact hu
    · intro h
      exact ⟨_, List.mem_map.mpr ⟨p, h, rfl⟩, by simp⟩
  unfold putK addP
  rw [e]
  by_cases h : p ∈ ps
  · rw [decide_eq_true h, if_pos rfl, if_pos h]
    unfold kP
    rw [List.map_map]
    refine List.map_congr_left fun u _ => ?_
    show (if keyP (zP u) = keyP (zP p) then (keyP (zP u), V.bl true) else (keyP (zP u), V.bl true)) = _
    split <;> rfl
  · rw [decide_eq_false h, if_neg Bool.false_ne_true, if_neg h]
    unfold kP
    rw [List.map_append]
    rfl
/-- all that may stand there with three letters -/
def PS3 : List (List Pr) := [[(0, 1), (0, 2)], [(0, 1), (1, 2)], [(0, 1), (0, 2), (1, 2)], [(0, 1), (1, 2), (0, 2)]]
theorem PS3_add : ∀ ps ∈ PS3, ∀ p ∈ [((0 : Nat), (1 : Nat)), (0, 2), (1, 2)], addP ps p ∈ PS3 := by decide
theorem PS3_len : ∀ ps ∈ PS3, ps.length ≤ 3 := by decide
def PSk (k : Nat) : List (List Pr) := if k = 2 then [[(0, 1)]] else PS3
theorem sort_two : ∀ ps ∈ PSk 2, ((ps.map zP).mergeSort leP) = co2.prs.map zP := by
  intro ps h
  rw [List.mem_singleton.mp h]
  simp [List.mergeSort, co2]
theorem sort_three : ∀ ps ∈ PSk 3, ∃ c : Co, Four c ∧ c.many = 3 ∧ ((ps.map zP).mergeSort leP) = c.prs.map zP := by
  intro ps h
  have h' : ps = [(0, 1), (0, 2)] ∨ ps = [(0, 1), (1, 2)] ∨ ps = [(0, 1), (0, 2), (1, 2)] ∨ ps = [(0, 1), (1, 2), (0, 2)] := by
    simpa [PSk, PS3] using h
  rcases h' with rfl | rfl | rfl | rfl
  · exact ⟨coA, .inr (.inl rfl), rfl, by simp [List.mergeSort, List.MergeSort.Internal.splitInTwo, List.merge, zP, coA, coB, coC, leP]⟩
  · exact ⟨coB, .inr (.inr (.inl rfl)), rfl, by simp [List.mergeSort, List.MergeSort.Internal.splitInTwo, List.merge, zP, coA, coB, coC, leP]⟩
  · exact ⟨coC, .inr (.inr (.inr rfl)), rfl, by simp [List.mergeSort, List.MergeSort.Internal.splitInTwo, List.merge, zP, coA, coB, coC, leP]⟩
  · exact ⟨coC, .inr (.inr (.inr rfl)), rfl, by simp [List.mergeSort, List.MergeSort.Internal.splitInTwo, List.merge, zP, coA, coB, coC, leP]⟩
theorem sb_at {r p : Addr} {H H' : Hp} {o : HO} (s : SB r H H') (h : H p = none) : SB r H (upd H' p o) := fun b x n e => by
  rw [upd_ne (ne_of_none e h)]
  exact s b x n e
theorem none_sb {r p : Addr} {H H' : Hp} (s : SB r H H') (h : H' p = none) (n : p ≠ r) : H p = none := by
  cases e : H p with
  | none => rfl
  | some x =>
    have := s _ _ n e
    rw [h] at this
    cases this
theorem RowAt.ne {H : Hp} {r scr p : Addr} (h : RowAt H r scr) (hp : H p = none) : p ≠ r := by
  obtain ⟨_, _, _, h⟩ := h
  exact (ne_of_none h hp).symm
theorem RowAt.keep {H : Hp} {r scr p : Addr} {o : HO} (h : RowAt H r scr) (n : p ≠ r) : RowAt (upd H p o) r scr := by
  obtain ⟨x, y, z, h⟩ := h
  exact ⟨x, y, z, Cw.keep h n.symm⟩
theorem paired_map {α β : Type} {R : β → Addr → Prop} {R' : α → Addr → Prop} {f : α → β} (h : ∀ a b, R (f a) b → R' a b) : ∀ {l : List α} {bs : List Addr}, Paired R (l.map f) bs → Paired R' l bs
  | [], [], .nil => .nil
  | _ :: _, _ :: _, .cons r t => .cons (h _ _ r) (paired_map h t)
theorem a_nei {σ : L2.St} {H : Hp} {ta tb : TE} {x y : Int} (ha : Val ta σ H (.int x)) (hb : Val tb σ H (.int y)) : Ans (tTest (tOp rNe ta tb)) σ H (!decide (x = y)) := by
  refine ans_ne ha hb rfl ?_
  congr 1
  rw [decide_eq_decide]
  constructor
  · intro h
    injection h
  · rintro rfl
    rfl
def FR (g : TG) (tb : TS) (D : Ends) (σ : L2.St) : It → Hp → Prop := fun J H1 => ∃ W : Nat → Nat → L2.St → Hp → Prop, (∃ m, W 0 m σ H1) ∧ ∀ i m σ H, W i m σ H →
  (J.stop i H ∧ D.nx σ H) ∨ (J.go i H ∧ ∃ N : L2.St → Hp → Prop, (∀ σ' H', N σ' H' → ∃ m', m' < m ∧ W (i + 1) m' σ' H') ∧ ∀ x H', J.yld i H x H' → g x σ H' fun σ2 H2 => tb { D with nx := N, ct := N, bk := D.nx } σ2 H2)
theorem for1_pass {ta : TA} {g : TG} {tb t2 : TS} {D : Ends} {σ : L2.St} {H : Hp} (PP : Nat → Hp → Prop) (k : ∀ n H', PP n H' → FR g tb { D with nx := t2 D } σ (Itr 0 n) H')
    (h : (∀ n H', PP n H' → FR g tb { D with nx := t2 D } σ (Itr 0 n) H') → iRng1 ta σ H (FR g tb { D with nx := t2 D } σ)) : tSeq (tFor (iRng1 ta) g tb) t2 D σ H := h k
section
variable {P : Program} {w : World} {K : PySem.W.Frag} {mg : Str → Option Value} {base : Heap}
def spLawCompany (K : PySem.W.Frag) : Sp := fun vs H Q _ => ∃ (r scr : Addr) (ns : List Int) (m : Nat), vs = [.ref r, .int (m : Int)] ∧ RowAt H r scr ∧ SqL K H scr (ns.map V.int) ∧ Nr K r scr ns ∧ (m = 2 ∨ m = 3) ∧
  ∀ H' a c, SB r H H' → RowAt H' r scr → CoAt H' a c → Four c → Q (.ref a) H'
theorem okLawCompany (T : Tx K mg) : OkF P w K mg base 2 "_law_company" ["_law_row", "_law_most"] (spLawCompany K) := by
  refine mkF T.dLawCompany scLawCompany (fun vs H Q E h => ?_) fun f cdv A outer s H vs Q E hr h => ?_
  · obtain ⟨r, scr, ns, m, rfl, _⟩ := h
    rfl
  · obtain ⟨r, scr, ns, m, rfl, hrow, hscr, hn0, hm, q⟩ := h
    refine ⟨_, (pss_cons (ps_par (i := 2) (j := 3) (by rfl) scLawCompany.nd rfl rfl (by decide) rfl rfl (pa_cons (pe_op op_add pe_int (pe_c (okLawTaken T) (hr.mono (by decide)) (by rfl) (pa_cons (pv 0) (pa_cons (pe_op op_sub (pv 1) pe_int) pa_nil)))) (pa_cons pe_dnewT pa_nil)) (by rfl))
      (pss_cons (ps_for PassesOwn.never rfl (pi_range2 (by rfl) T.z_range (pa_cons pe_int (pa_cons (pv 2) pa_nil))) (pg_name (i := 4) scLawCompany.nd rfl (.inl rfl)) (pss_one (ps_dput (hu_of hr) (pv 3) (pe_tup (pa_cons (pe_c (okLawTaken T) (hr.mono (by decide)) (by rfl) (pa_cons (pv 0) (pa_cons (pv 4) pa_nil))) (pa_cons (pv 4) pa_nil))) pe_bl rfl)))
      (pss_cons (ps_for PassesOwn.never rfl (pi_range1 (by rfl) T.z_range (pa_cons (pe_ifExp (pt_cmpR op_gt (pv 2) pe_int (nomark _)) (pe_c (okLawTaken T) (hr.mono (by decide)) (by rfl) (pa_cons (pv 0) (pa_cons (pe_op op_mul pe_int (pv 2)) pa_nil))) pe_int) pa_nil)) (pg_name (i := 5) scLawCompany.nd rfl (.inl rfl)) (pss_cons (ps_par (i := 6) (j := 7) (by rfl) scLawCompany.nd rfl rfl (by decide) rfl rfl (pa_cons (pe_c (okLawTaken T) (hr.mono (by decide)) (by rfl) (pa_cons (pv 0) (pa_cons (pv 2) pa_nil))) (pa_cons (pe_c (okLawTaken T) (hr.mono (by decide)) (by rfl) (pa_cons (pv 0) (pa_cons (pv 2) pa_nil))) pa_nil)) (by rfl))
      (pss_one (ps_if (pt_cmpR op_ne (pv 6) (pv 7) (nomark _)) (pss_one (ps_dput (hu_of hr) (pv 3) (pe_tup (pa_cons (pe_callB (call_min2 rfl) (by rfl) T.z_min (by decide +kernel) (pa_cons (pv 6) (pa_cons (pv 7) pa_nil))) (pa_cons (pe_callB (call_max2 rfl) (by rfl) T.z_max (by decide +kernel) (pa_cons (pv 6) (pa_cons (pv 7) pa_nil))) pa_nil))) pe_bl rfl)) pss_nil))))
      (pss_cons (ps_if (PW.pt (pw_and (pt_cmpR op_gt (pv 2) pe_int (nomark _)) (pw_and1 (pt_cmpR op_eq (pe_c (okLawTaken T) (hr.mono (by decide)) (by rfl) (pa_cons (pv 0) (pa_cons pe_int pa_nil))) pe_int (nomark _))))) (pss_cons (ps_set (i := 3) scLawCompany.nd rfl (.inl rfl) (pe_disp (pps_cons (pe_tup (pa_cons pe_int (pa_cons pe_int pa_nil))) pe_bl pps_nil) (by rfl) (by rfl) (fun z => by cases z) (by decide)))
      (pss_cons (ps_for PassesOwn.never rfl (pi_range3 (by rfl) T.z_range (pa_cons pe_int (pa_cons (pe_op op_sub (pv 2) pe_int) (pa_cons pe_int pa_nil)))) (pg_name (i := 4) scLawCompany.nd rfl (.inl rfl)) (pss_one (ps_dput (hu_of hr) (pv 3) (pe_tup (pa_cons (pv 4) (pa_cons (pe_op op_add (pv 4) pe_int) pa_nil))) pe_bl rfl)))
      (pss_one (ps_dput (hu_of hr) (pv 3) (pe_tup (pa_cons (pe_c (okLawTaken T) (hr.mono (by decide)) (by rfl) (pa_cons (pv 0) (pa_cons (pe_op op_sub (pv 2) pe_int) pa_nil))) (pa_cons (pe_op op_sub (pv 2) pe_int) pa_nil))) pe_bl rfl)))) pss_nil)
      (pss_one (ps_ret (pe_tup (pa_cons (pv 2) (pa_cons (pe_callTy (call_tuple_ofK (K := K)) (by rfl) T.z_tuple (by decide +kernel) (pa_cons (pe_callB (call_sortedPairs rfl hr) (by rfl) T.z_sorted (by decide +kernel) (pa_cons (pv 3) pa_nil)) pa_nil)) pa_nil))))))))), ?_⟩
    refine ⟨_, rfl, _, rfl, _, _, rfl, rfl, r, scr, ns, m - 1, ?_, hrow, hscr, hn0, by omega, by omega, fun H1 z s1 row1 hz => ?_⟩
    · rw [show ((m - 1 : Nat) : Int) = (m : Int) - 1 by omega]
      rfl
    refine ⟨_, _, rfl, rfl, fun p3 hp3 => ⟨_, _, rfl, ?_⟩⟩
    have h3r := row1.ne hp3
    have h3n := none_sb s1 hp3 h3r
    obtain ⟨k, hk⟩ : ∃ k : Nat, k = 2 + z := ⟨_, rfl⟩
    have ek : (2 : Int) + (z : Int) = (k : Int) := by omega
    dsimp only
    rw [ek]
    have k23 : k = 2 ∨ k = 3 := by omega
    refine ⟨_, rfl, _, _, rfl, ⟨by omega, by omega, by omega, by omega⟩, ?_⟩
    rw [show ((k : Int) - 1).toNat = k - 1 by omega]
    refine for_it walk_range (fun i σ H' => ∃ (ps : List Pr) (x4 : Option V), σ = [some (.ref r), some (.int (m : Int)), some (.int (k : Int)), some (.ref p3), x4, none, none, none] ∧ SB r H H' ∧ RowAt H' r scr ∧ H' p3 = some (.dT (kP ps)) ∧ (i = 0 → ps = []) ∧ (i = 1 → ps = [(0, 1)]) ∧ (i = 2 → ps ∈ PS3))
      ⟨[], _, rfl, sb_at s1 h3n, row1.keep h3r, upd_same, fun _ => rfl, fun h => absurd h (by decide), fun h => absurd h (by decide)⟩ (fun _ _ _ _ _ => trivial) (fun i x σ H2 H3 hi hW hy => ?_) fun σ H2 hW => ?_
    · obtain ⟨ps, x4, rfl, s2, row2, hd2, p0, p1, p2⟩ := hW
      obtain ⟨rfl, rfl⟩ := hy
      have e1 : (1 : Int) + (i : Int) = ((1 + i : Nat) : Int) := by omega
      dsimp only
      rw [e1]
      refine ⟨_, rfl, _, rfl, _, rfl, r, scr, ns, 1 + i, rfl, row2, sq_sc hscr s2 hn0, hn0, by omega, by omega, fun H4 z4 s4 row4 hz4 => ?_⟩
      refine ⟨_, rfl, (by show 2 ≤ sizeLine; decide), fun b hb => ?_⟩
      have hd4 : H4 p3 = some (.dT (kP ps)) := s4 _ _ h3r hd2
      have hbr := row4.ne hb
      have hb3 : p3 ≠ b := ne_of_none hd4 hb
      refine ⟨p3, _, rfl, .inr ⟨kP ps, keyP (zP (z4, 1 + i)), b, keep hd4 hb3, rfl, upd_same, ?_, rfl⟩, ?_⟩
      · unfold kP
        rw [List.length_map]
        refine lt_line ?_
        have : i = 0 ∨ i = 1 := by omega
        rcases this with h | h
        · rw [p0 h]; decide
        · rw [p1 h]; decide
      · rw [kP_put]
        refine ⟨addP ps (z4, 1 + i), _, rfl, sb_at (sb_at (s2.trans s4) (none_sb (s2.trans s4) hb hbr)) h3n, (row4.keep hbr).keep h3r, upd_same, fun h => by omega, fun h => ?_, fun h => ?_⟩
        · have h0 : i = 0 := by omega
          subst h0
          rw [p0 rfl]
          have : z4 = 0 := by omega
          subst this
          rfl
        · have h0 : i = 1 := by omega
          subst h0
          rw [p1 rfl]
          have : z4 = 0 ∨ z4 = 1 := by omega
          rcases this with h | h <;> subst h <;> decide
    · obtain ⟨ps, x4, rfl, s2, row2, hd2, p0, p1, p2⟩ := hW
      have hps : ps ∈ PSk k := by
        rcases k23 with h | h
        · subst h
          rw [p1 rfl]
          decide
        · subst h
          exact p2 rfl
      dsimp only
      refine for1_pass (fun n H' => (k = 2 → n = 0) ∧ SB r H H' ∧ RowAt H' r scr ∧ H' p3 = some (.dT (kP ps))) ?_ fun kk => ?_
      · rintro n2 H3 ⟨hn2, s3, row3, hd3⟩
        refine for_it walk_range (fun i σ H' => ∃ (ps : List Pr) (x4 x5 x6 x7 : Option V), σ = [some (.ref r), some (.int (m : Int)), some (.int (k : Int)), some (.ref p3), x4, x5, x6, x7] ∧ SB r H H' ∧ RowAt H' r scr ∧ H' p3 = some (.dT (kP ps)) ∧ ps ∈ PSk k)
          ⟨ps, _, _, _, _, rfl, s3, row3, hd3, hps⟩ (fun _ _ _ _ _ => trivial) (fun i x σ H4 H5 hi hW hy => ?_) fun σ H4 hW => ?_
        · obtain ⟨ps, x4, x5, x6, x7, rfl, s4, row4, hd4, hps4⟩ := hW
          obtain ⟨rfl, rfl⟩ := rng_it hy
          have k3 : k = 3 := by
            rcases k23 with h | h
            · have := hn2 h
              omega
            · exact h
          subst k3
          refine ⟨_, rfl, _, rfl, r, scr, ns, 3, rfl, row4, sq_sc hscr s4 hn0, hn0, by omega, by omega, fun H6 a s6 row6 ha => ?_⟩
          have s46 := s4.trans s6
          refine ⟨_, rfl, _, rfl, r, scr, ns, 3, rfl, row6, sq_sc hscr s46 hn0, hn0, by omega, by omega, fun H7 b s7 row7 hb => ⟨_, _, rfl, ?_⟩⟩
          have s47 := s46.trans s7
          have hd7 : H7 p3 = some (.dT (kP ps)) := s7 _ _ h3r (s6 _ _ h3r hd4)
          refine st_if (a_nei (val_var rfl) (val_var rfl)) (fun hab => ?_) fun hab => ?_
          · rw [Bool.not_eq_true', decide_eq_false_iff_not] at hab
            have hab' : a ≠ b := fun h => hab (by rw [h])
            refine ⟨_, rfl, _, rfl, _, rfl, _, _, rfl, _, rfl, _, rfl, _, _, rfl, (by show 2 ≤ sizeLine; decide), fun c hc => ?_⟩
            have hcr := row7.ne hc
            have hc3 : p3 ≠ c := ne_of_none hd7 hc
            refine ⟨p3, _, rfl, .inr ⟨kP ps, keyP (zP (min a b, max a b)), c, keep hd7 hc3, rfl, ?_, ?_, rfl⟩, ?_⟩
            · rw [upd_same]
              have e1 : (if (b : Int) < (a : Int) then (b : Int) else (a : Int)) = ((min a b : Nat) : Int) := by
                split <;> omega
              have e2 : (if (b : Int) > (a : Int) then (b : Int) else (a : Int)) = ((max a b : Nat) : Int) := by
                split <;> omega
              rw [e1, e2]
              rfl
            · unfold kP
              rw [List.length_map]
              have := PS3_len ps hps4
              exact lt_line (by omega)
            · rw [kP_put]
              refine ⟨addP ps (min a b, max a b), _, _, _, _, rfl, sb_at (sb_at s47 (none_sb s47 hc hcr)) h3n, (row7.keep hcr).keep h3r, upd_same, PS3_add ps hps4 _ ?_⟩
              have : (a = 0 ∧ b = 1) ∨ (a = 0 ∧ b = 2) ∨ (a = 1 ∧ b = 0) ∨ (a = 1 ∧ b = 2) ∨ (a = 2 ∧ b = 0) ∨ (a = 2 ∧ b = 1) := by omega
              rcases this with ⟨h1, h2⟩ | ⟨h1, h2⟩ | ⟨h1, h2⟩ | ⟨h1, h2⟩ | ⟨h1, h2⟩ | ⟨h1, h2⟩ <;> subst h1 <;> subst h2 <;> decide
          · exact ⟨ps, _, _, _, _, rfl, s47, row7, hd7, hps4⟩
        · obtain ⟨ps, x4, x5, x6, x7, rfl, s4, row4, hd4, hps4⟩ := hW
          refine st_no (ans_and0 ((a_int (val_var rfl) val_c).to (decide_eq_false (by omega)))) ?_
          have fin : ∃ c : Co, Four c ∧ c.many = k ∧ ((ps.map zP).mergeSort leP) = c.prs.map zP := by
            rcases k23 with h | h
            · subst h
              exact ⟨co2, .inl rfl, rfl, sort_two ps hps4⟩
            · subst h
              exact sort_three ps hps4
          obtain ⟨c, hF, hck, hsort⟩ := fin
          refine ⟨_, rfl, _, rfl, p3, kP ps, ps.map zP, rfl, hd4, ?_, fun l bs hl hp => ?_⟩
          · unfold kP
            rw [List.map_map, List.map_map]
            rfl
          rw [hsort] at hp
          refine ⟨l, _, rfl, .inl ⟨SqL.of upd_same, fun t ht => ⟨(by show 2 ≤ sizeLine; decide), fun a ha => ?_⟩⟩⟩
          have sl : Same H4 (upd H4 l (.lst (bs.map V.ref))) := same_new hl
          have st : Same (upd H4 l (.lst (bs.map V.ref))) (upd (upd H4 l (.lst (bs.map V.ref))) t (.tup (bs.map V.ref))) := same_new ht
          have sa : Same (upd (upd H4 l (.lst (bs.map V.ref))) t (.tup (bs.map V.ref))) (upd (upd (upd H4 l (.lst (bs.map V.ref))) t (.tup (bs.map V.ref))) a (.tup [.int (k : Int), .ref t])) := same_new ha
          have s5 := (sl.trans st).trans sa
          obtain ⟨ra, rb, rc, rr⟩ := row4
          refine q _ a c (s4.trans (sb_same s5)) ⟨ra, rb, rc, s5 _ _ rr⟩ ⟨t, bs, ?_, sa _ _ upd_same, ?_⟩ hF
          · rw [upd_same, hck]
          · exact paired_map (f := zP) (fun p b h => s5 _ _ h) hp
      · refine at_ans (a_int (val_var rfl) val_c) ?_
        rcases k23 with h | h
        · subst h
          rw [decide_eq_false (by decide)]
          exact iteF ⟨0, rfl, by decide, by decide, kk 0 _ ⟨fun _ => rfl, s2, row2, hd2⟩⟩
        · subst h
          rw [decide_eq_true (by decide)]
          refine iteT ⟨_, rfl, _, rfl, _, _, rfl, rfl, .inr ⟨by decide, by decide⟩, r, scr, ns, 6, rfl, row2, sq_sc hscr s2 hn0, hn0, by omega, by omega, fun H3 z3 s3 row3 hz3 => ?_⟩
          exact ⟨_, rfl, by omega, by omega, kk z3 _ ⟨fun h => by omega, s2.trans s3, row3, s3 _ _ h3r hd2⟩⟩
end
end Cw

set_option maxHeartbeats 4000000
/-! The law's plain part: kinds, lengths, distances. -/
namespace Cw

/-! ### kinds -/
def KOk (c : Co) : Prop := ∀ m, m < 8 → ∀ e, e < 2 → ∀ a ∈ alph c.many, (kst c.prs (m, e) a).1 < 8 ∧ (kst c.prs (m, e) a).2 < 2 ∧ ∀ b ∈ alph c.many,
  (fr c.told a b = true ∨ fr c.told b a = true → kst c.prs (kst c.prs (kst c.prs (m, e) a) b) a = kst c.prs (m, e) b) ∧ kst c.prs (kst c.prs (m, e) a) a = kst c.prs (kst c.prs (m, e) b) b ∧
  (a ≠ b → fr c.told a b = false → kst c.prs (kst c.prs (m, e) a) b = kst c.prs (kst c.prs (m, e) b) a)
def kB (c : Co) : Bool := (List.range 8).all fun m => (List.range 2).all fun e => (alph c.many).all fun a => decide ((kst c.prs (m, e) a).1 < 8) && (decide ((kst c.prs (m, e) a).2 < 2) && (alph c.many).all fun b =>
  (!(fr c.told a b || fr c.told b a) || decide (kst c.prs (kst c.prs (kst c.prs (m, e) a) b) a = kst c.prs (m, e) b)) && (decide (kst c.prs (kst c.prs (m, e) a) a = kst c.prs (kst c.prs (m, e) b) b) &&
  (decide (a = b) || (fr c.told a b || decide (kst c.prs (kst c.prs (m, e) a) b = kst c.prs (kst c.prs (m, e) b) a)))))
theorem kB_ok {c : Co} (h : kB c = true) : KOk c := by
  intro m hm e he a ha
  unfold kB at h
  have h1 := List.all_eq_true.mp (List.all_eq_true.mp (List.all_eq_true.mp h m (List.mem_range.mpr hm)) e (List.mem_range.mpr he)) a ha
  rw [Bool.and_eq_true, Bool.and_eq_true, decide_eq_true_eq, decide_eq_true_eq] at h1
  refine ⟨h1.1, h1.2.1, fun b hb => ?_⟩
  have h2 := List.all_eq_true.mp h1.2.2 b hb
  rw [Bool.and_eq_true, Bool.and_eq_true, Bool.or_eq_true, Bool.or_eq_true, Bool.or_eq_true, decide_eq_true_eq, decide_eq_true_eq, decide_eq_true_eq, decide_eq_true_eq, Bool.not_eq_true'] at h2
  obtain ⟨p1, p2, p3⟩ := h2
  refine ⟨fun hf => ?_, p2, fun hn hf => ?_⟩
  · rcases p1 with p1 | p1
    · rw [Bool.or_eq_false_iff] at p1
      rcases hf with hf | hf
      · rw [p1.1] at hf; cases hf
      · rw [p1.2] at hf; cases hf
    · exact p1
  · rcases p3 with p3 | p3 | p3
    · exact absurd p3 hn
    · rw [hf] at p3; cases p3
    · exact p3
theorem kok_four {c : Co} (h : Four c) : KOk c := by
  refine kB_ok ?_
  rcases h with rfl | rfl | rfl | rfl <;> decide +kernel
theorem kind_in {c : Co} (h : KOk c) : ∀ {u : Wd} {s : Nat × Nat}, Ok c.many u → s.1 < 8 ∧ s.2 < 2 → (u.foldl (kst c.prs) s).1 < 8 ∧ (u.foldl (kst c.prs) s).2 < 2
  | [], s, _, hs => hs
  | a :: u, (m, e), o, hs => by
    rw [List.foldl_cons]
    have q := h m hs.1 e hs.2 a (o a (.head _))
    exact kind_in h (fun x hx => o x (.tail _ hx)) ⟨q.1, q.2.1⟩
theorem kind_step {c : Co} (h : KOk c) {k : Nat} {x y : Wd} (hs : SR c.told c.many k x y) (o : Ok c.many x) : kindW c.prs x = kindW c.prs y := by
  have oy := hs.ok o
  have st : ∀ {u : Wd}, Ok c.many u → (kindW c.prs u).1 < 8 ∧ (kindW c.prs u).2 < 2 := fun {u} ou => kind_in h ou ⟨by decide, by decide⟩
  have ap : ∀ u v : Wd, kindW c.prs (u ++ v) = v.foldl (kst c.prs) (kindW c.prs u) := fun u v => List.foldl_append
  rcases hs with ⟨u, v, a, b, rfl, rfl, hf⟩ | ⟨u, v, a, s, rfl, rfl, hk, hn⟩ | ⟨u, v, a, b, rfl, rfl, hn, hf⟩ | ⟨⟨u, v, a, b, rfl, rfl, hk, hf⟩, _⟩
  · rw [ap, ap]
    obtain ⟨h1, h2⟩ := st (u := u) fun x hx => o x (by simp [hx])
    have q := ((h _ h1 _ h2 a (o a (by simp))).2.2 b (o b (by simp))).1 (.inl hf)
    simp only [List.foldl_cons]
    rw [q]
  · rw [ap, ap]
    obtain ⟨h1, h2⟩ := st (u := u) fun x hx => o x (by simp [hx])
    have q := ((h _ h1 _ h2 a (o a (by simp))).2.2 s hk).2.1
    simp only [List.foldl_cons]
    rw [q]
  · rw [ap, ap]
    obtain ⟨h1, h2⟩ := st (u := u) fun x hx => o x (by simp [hx])
    have q := ((h _ h1 _ h2 a (o a (by simp))).2.2 b (o b (by simp))).2.2 hn hf
    simp only [List.foldl_cons]
    rw [q]
  · rw [ap, ap]
    obtain ⟨h1, h2⟩ := st (u := u) fun x hx => o x (by simp [hx])
    have q := ((h _ h1 _ h2 a hk).2.2 b (o b (by simp))).1 (.inr hf)
    simp only [List.foldl_cons]
    rw [q]
theorem kind_path {c : Co} (h : KOk c) {m : Nat} : ∀ {n : Nat} {x y : Wd}, PathN (SR c.told c.many m) n x y → Ok c.many x → kindW c.prs x = kindW c.prs y ∧ Ok c.many y
  | 0, x, y, p, o => by
    have e : x = y := p
    subst e
    exact ⟨rfl, o⟩
  | n + 1, x, y, ⟨z, p, e⟩, o => by
    obtain ⟨q, oz⟩ := kind_path h p o
    exact ⟨q.trans (kind_step h e oz), e.ok oz⟩

/-! ### lengths -/
theorem len_path {t : List Nat} {k m : Nat} : ∀ {n : Nat} {x y : Wd}, PathN (SR t k m) n x y → x.length ≤ y.length + 2 * n ∧ y.length ≤ x.length + 2 * n
  | 0, x, y, p => by
    have e : x = y := p
    subst e
    omega
  | n + 1, x, y, ⟨z, p, e⟩ => by
    have := len_path p
    have := e.len_diff
    omega
theorem half_le {a b d : Nat} (h1 : a ≤ b + 2 * d) (h2 : b ≤ a + 2 * d) : (if ((a : Int) - (b : Int)) < 0 then -((a : Int) - (b : Int)) else (a : Int) - (b : Int)).fdiv 2 ≤ (d : Int) := by
  rw [Int.fdiv_eq_ediv_of_nonneg _ (by decide)]
  split <;> omega

/-! ### distances -/
section
variable {c : Co} {m : Nat} {u v x : Wd} {d e : Nat}
theorem room_more {t : List Nat} {k m n : Nat} (h : m ≤ n) {x y : Wd} (s : SR t k m x y) : SR t k n x y := by
  rcases s with s | s | s | ⟨s, q⟩
  · exact .inl s
  · exact .inr (.inl s)
  · exact .inr (.inr (.inl s))
  · exact .inr (.inr (.inr ⟨s, by omega⟩))
theorem dist_more {n : Nat} (h : m ≤ n) (hd : IsDist (c.E m) u v d) : ∃ e, e ≤ d ∧ IsDist (c.E n) u v e := dist_ex (hd.1.mono fun _ _ s => room_more h s)
theorem dist_back (h3 : Co3 c) (hI : Iw c.many m u) (hd : IsDist (c.E m) u v d) : IsDist (c.E m) v u d :=
  hd.symm (I := Iw c.many m) (fun x y => Iw.step x y) (fun x y i e => e.symm h3.gd i.1 i.2.1) hI
/-- the third word -/
theorem dist_tri (h3 : Co3 c) (hI : Iw c.many m u) (hd : IsDist (c.E m) u v d) (he : IsDist (c.E m) u x e) : ∃ f, IsDist (c.E m) v x f ∧ e ≤ d + f := by
  obtain ⟨f, _, hf⟩ := dist_ex ((dist_back h3 hI hd).1.trans he.1)
  exact ⟨f, hf, he.le (hd.1.trans hf.1)⟩
theorem dist_zero (hd : IsDist (c.E m) u v d) : (d = 0) ↔ (u = v) := by
  constructor
  · rintro rfl
    exact hd.1
  · rintro rfl
    exact hd.uniq IsDist.zero
/-- a way whose words are all short is a path -/
theorem way_path (hF : Four c) {M : Nat} (hM : 5 ≤ M) {l : List Wd} (hc : Ch (StO c.told c.many) u l v) (hl : ∀ w ∈ l, w.length ≤ 5) (hd : IsDist (c.E M) u v d) : d ≤ l.length - 1 := by
  refine hd.le ?_
  refine hc.path hl fun x y r hy => ?_
  obtain ⟨_, _, ⟨n, s⟩, _⟩ := r
  show SR (toldOf c) c.many M x y
  rw [four_told hF]
  exact s.room (by omega)
end
end Cw

set_option maxHeartbeats 8000000
/-! The walk of the law. -/
namespace Cw
open PySem PySem.Spec PyProof.Rows L2 LamX

theorem mo_sb {T : List (Addr × Str)} {H H1 H2 : Hp} {r scr : Addr} (m : Mo T H H1) (s : SB r H1 H2) (hn : H r = none) (row : RowAt H1 r scr) : Mo T H H2 := by
  obtain ⟨x, y, z, hr⟩ := row
  refine ⟨fun b o e nt => s _ _ (ne_of_none e hn) (m.1 b o e nt), fun t q hq => ?_⟩
  obtain ⟨ps, h1, h2, h3⟩ := m.2 t q hq
  refine ⟨ps, s _ _ (ne_ho h1 hr fun e => by cases e) h1, h2, fun pos cv hc => ?_⟩
  obtain ⟨c, e1, e2⟩ := h3 pos cv hc
  exact ⟨c, e1, s _ _ (ne_ho e2 hr fun e => by unfold CodeO at e; cases e) e2⟩
theorem co_sb {H H' : Hp} {a r scr : Addr} {c : Co} (h : CoAt H a c) (s : SB r H H') (row : RowAt H r scr) : CoAt H' a c := by
  obtain ⟨x, y, z, hr⟩ := row
  exact h.sb s hr
theorem sc_mo {K : PySem.W.Frag} {T : List (Addr × Str)} {scr : Addr} {H H' : Hp} {ns : List Int} (h : SqL K H scr (ns.map V.int)) (s : Mo T H H') : SqL K H' scr (ns.map V.int) := sq_mo h s
theorem v_abs {σ : L2.St} {H : Hp} {ta : TE} {x : Int} (ha : Val ta σ H (.int x)) : Val (tCB (fun xs H Q => ∃ i, xs = [V.int i] ∧ Q (.int (if i < 0 then -i else i)) H) (tCons ta tNil)) σ H (.int (if x < 0 then -x else x)) := by
  intro Q q
  exact ha _ ⟨x, rfl, q⟩
theorem or_no {t u : TT} {t1 t2 t3 : TS} {D : Ends} {σ : L2.St} {H : Hp} (h : Ans t σ H false) (k : u σ H (fun b H1 => if b = true then t1 { D with nx := t3 D } σ H1 else t2 { D with nx := t3 D } σ H1)) : tSeq (tIfS (tOr t u) t1 t2) t3 D σ H := by
  refine h _ ?_
  show (if false = true then _ else u σ H _)
  rw [if_neg Bool.false_ne_true]
  exact k
theorem or_noI {t u : TT} {t1 t2 : TS} {D : Ends} {σ : L2.St} {H : Hp} (h : Ans t σ H false) (k : u σ H (fun b H1 => if b = true then t1 D σ H1 else t2 D σ H1)) : tIfS (tOr t u) t1 t2 D σ H := by
  refine h _ ?_
  show (if false = true then _ else u σ H _)
  rw [if_neg Bool.false_ne_true]
  exact k
/-- a way that is too short to be a path has a long word -/
theorem long_word {c : Co} {M d : Nat} {u v : Wd} {l : List Wd} (hF : Four c) (hM : 5 ≤ M) (hc : Ch (StO c.told c.many) u l v) (hd : IsDist (c.E M) u v d) (hlt : l.length - 1 < d) : ∃ w ∈ l, 6 ≤ w.length := by
  by_cases h : ∃ w ∈ l, 6 ≤ w.length
  · exact h
  · have := way_path hF hM hc (fun w hw => by
      by_cases q : w.length ≤ 5
      · exact q
      · exact absurd ⟨w, hw, by omega⟩ h) hd
    omega
theorem wV_lens (l : List Wd) : (List.range (wV l).length).map (fun i => V.int (((l.getD i []).length : Nat) : Int)) = (l.map fun w => (w.length : Int)).map V.int := by
  apply List.ext_getElem?
  intro j
  rw [List.getElem?_map, List.map_map, List.getElem?_map, wV_len]
  by_cases hj : j < l.length
  · have e : l.getD j [] = l[j] := by rw [List.getD_eq_getElem?_getD, List.getElem?_eq_getElem hj]; rfl
    rw [List.getElem?_range hj, List.getElem?_eq_getElem hj, Option.map_some, e]
    rfl
  · rw [List.getElem?_eq_none (by simp; omega), List.getElem?_eq_none (by omega)]
    rfl
theorem no_flat (n : Nat) : (List.range n).flatMap (fun _ => ([] : List V)) = [] := by
  induction n with
  | zero => rfl
  | succ n ih => rw [flat_succ, ih]; rfl
theorem in_ws {ws : List Wd} {v : Wd} (h : v ∈ ws) : inV (.str (S v)) (wV ws) = true := by
  unfold inV
  rw [List.any_eq_true]
  exact ⟨_, List.mem_map.mpr ⟨v, h, rfl⟩, by simp [eqV]⟩
theorem ch_len {t : List Nat} {k : Nat} {x y : Wd} {l : List Wd} (h : Ch (StO t k) x l y) : ∀ w ∈ l, w.length ≤ x.length + 2 * l.length := by
  induction h with
  | one x =>
    intro w hw
    rw [List.mem_singleton.mp hw]
    omega
  | @cons x y z l r t ih =>
    intro w hw
    rw [List.length_cons]
    rcases List.mem_cons.mp hw with rfl | hw
    · omega
    · have := ih w hw
      obtain ⟨_, _, ⟨m, hs⟩, _⟩ := r
      have := hs.len_diff
      omega
theorem flat_ws (ws : List Wd) : (wV ws).all flatV = true := by
  rw [List.all_eq_true]
  intro x hx
  obtain ⟨v, _, rfl⟩ := List.mem_map.mp hx
  rfl
theorem st_noS {c : TT} {t1 t3 : TS} {D : Ends} {σ : L2.St} {H : Hp} (h : Ans c σ H false) (k : t3 D σ H) : tSeq (tIfS c t1 tNext) t3 D σ H := by
  refine h _ ?_
  show (if false = true then _ else _)
  rw [if_neg Bool.false_ne_true]
  exact k
section
variable {P : Program} {w : World} {K : PySem.W.Frag} {mg : Str → Option Value} {base : Heap} {P1 P2 : Addr}
def spLaw (K : PySem.W.Frag) (P1 P2 : Addr) : Sp := fun vs H Q _ => ∃ (a : Addr) (ns : List Int), vs = [.ref a] ∧ SqL K H a (ns.map V.int) ∧ Tabs (TT2 P1 P2) H ∧ ∀ H', Q (.bl true) H'
theorem okLaw (T : Tx K mg) (LL : Lams K mg base P1 P2) {f : Addr} {fd : FuncData} (F : Fun K "law" "law" sLaw f fd) : FnOk P w K mg base CX0 8 f fd ["_law_script"] (spLaw K P1 P2) := by
  refine F.ok scLaw (fun vs H Q E h => ?_) fun cdv A outer s H vs Q E hr h => ?_
  · obtain ⟨a, ns, rfl, _⟩ := h
    rfl
  · obtain ⟨a, ns, rfl, hscr, hT, q⟩ := h
    refine ⟨_, (pss_cons (ps_set (i := 1) scLaw.nd rfl (.inl rfl) (pe_lst (pa_cons (pv 0) (pa_cons pe_int (pa_cons pe_int (pa_cons pe_int pa_nil))))))
      (pss_cons (ps_set (i := 2) scLaw.nd rfl (.inl rfl) (pe_c (okLawCompany T) (hr.mono (by decide)) (by rfl) (pa_cons (pv 1) (pa_cons (pe_c (okLawPick T) (hr.mono (by decide)) (by rfl) (pa_cons (pv 1) (pa_cons (pe_lst (pa_cons pe_int (pa_cons pe_int (pa_cons pe_int pa_nil)))) pa_nil))) pa_nil))))
      (pss_cons (ps_set (i := 3) scLaw.nd rfl (.inl rfl) (pe_c (okLawWord T) (hr.mono (by decide)) (by rfl) (pa_cons (pv 1) (pa_cons (pv 2) (pa_cons pe_int pa_nil)))))
      (pss_cons (ps_set (i := 4) scLaw.nd rfl (.inl rfl) (pe_callB (call_max2 rfl) (by rfl) T.z_max (by decide +kernel) (pa_cons pe_int (pa_cons (pe_callB call_len_str (by rfl) T.z_len (by decide +kernel) (pa_cons (pv 3) pa_nil)) pa_nil))))
      (pss_cons (ps_set (i := 5) scLaw.nd rfl (.inl rfl) (pe_c (okLawPick T) (hr.mono (by decide)) (by rfl) (pa_cons (pv 1) (pa_cons (pe_c (okWordsWithin T LL) (hr.mono (by decide)) (by rfl) (pa_cons (pv 2) (pa_cons (pv 3) (pa_cons (pv 4) pa_nil)))) pa_nil))))
      (pss_cons (ps_if (PW.pt (pw_or (pt_cmpR op_gt (pe_callB call_len_str (by rfl) T.z_len (by decide +kernel) (pa_cons (pv 5) pa_nil)) (pv 4) (nomark _)) (pw_or1 (pt_not (pt_val (pe_c (okAreOne T) (hr.mono (by decide)) (by rfl) (pa_cons (pv 2) (pa_cons (pv 3) (pa_cons (pv 5) pa_nil))))))))) (pss_one (ps_ret pe_bl)) pss_nil)
      (pss_cons (ps_par (i := 6) (j := 7) (by rfl) scLaw.nd rfl rfl (by decide) rfl rfl (pa_cons (pe_c (okLeastSteps T LL) (hr.mono (by decide)) (by rfl) (pa_cons (pv 2) (pa_cons (pv 3) (pa_cons (pv 5) (pa_cons (pv 4) pa_nil))))) (pa_cons (pe_c (okLeastSteps T LL) (hr.mono (by decide)) (by rfl) (pa_cons (pv 2) (pa_cons (pv 3) (pa_cons (pv 5) (pa_cons (pe_op op_add (pv 4) pe_int) pa_nil))))) pa_nil)) (by rfl))
      (pss_cons (ps_if (PW.pt (pw_or (pt_cmpR op_isN (pv 6) pe_non (nomark _)) (pw_or (pt_cmpR op_isN (pv 7) pe_non (nomark _)) (pw_or (pt_cmpR op_gt (pv 7) (pv 6) (nomark _)) (pw_or1 (pt_cmpR op_lt (pv 6) (pe_op op_fdivN (pe_callB call_abs (by rfl) T.z_abs (by decide +kernel) (pa_cons (pe_op op_sub (pe_callB call_len_str (by rfl) T.z_len (by decide +kernel) (pa_cons (pv 3) pa_nil)) (pe_callB call_len_str (by rfl) T.z_len (by decide +kernel) (pa_cons (pv 5) pa_nil))) pa_nil)) pe_int) (nomark _))))))) (pss_one (ps_ret pe_bl)) pss_nil)
      (pss_cons (ps_if (PW.pt (pw_or (pt_cmpR op_ne (pe_c (okLeastSteps T LL) (hr.mono (by decide)) (by rfl) (pa_cons (pv 2) (pa_cons (pv 5) (pa_cons (pv 3) (pa_cons (pv 4) pa_nil))))) (pv 6) (nomark _)) (pw_or1 (pt_cmpR op_ne (pe_callB (call_len_seqK (K := K)) (by rfl) T.z_len (by decide +kernel) (pa_cons (pe_c (okLeastWay T LL) (hr.mono (by decide)) (by rfl) (pa_cons (pv 2) (pa_cons (pv 5) (pa_cons (pv 3) (pa_cons (pv 4) pa_nil))))) pa_nil)) (pe_op op_add (pv 6) pe_int) (nomark _))))) (pss_one (ps_ret pe_bl)) pss_nil)
      (pss_cons (ps_set (i := 8) scLaw.nd rfl (.inl rfl) (pe_c (okLawPick T) (hr.mono (by decide)) (by rfl) (pa_cons (pv 1) (pa_cons (pe_c (okWordsWithin T LL) (hr.mono (by decide)) (by rfl) (pa_cons (pv 2) (pa_cons (pv 3) (pa_cons (pv 4) pa_nil)))) pa_nil))))
      (pss_cons (ps_if (pt_cmpR op_gt (pe_c (okLeastSteps T LL) (hr.mono (by decide)) (by rfl) (pa_cons (pv 2) (pa_cons (pv 3) (pa_cons (pv 8) (pa_cons (pv 4) pa_nil))))) (pe_op op_add (pv 6) (pe_c (okLeastSteps T LL) (hr.mono (by decide)) (by rfl) (pa_cons (pv 2) (pa_cons (pv 5) (pa_cons (pv 8) (pa_cons (pv 4) pa_nil)))))) (nomark _)) (pss_one (ps_ret pe_bl)) pss_nil)
      (pss_cons (ps_set (i := 9) scLaw.nd rfl (.inl rfl) (pe_c (okWay T) (hr.mono (by decide)) (by rfl) (pa_cons (pv 2) (pa_cons (pv 3) (pa_cons (pv 5) pa_nil)))))
      (pss_cons (ps_if (PW.pt (pw_or (pt_cmpR op_isN (pv 9) pe_non (nomark _)) (pw_or1 (PW.pt (pw_and (pt_cmpR op_lt (pe_op op_sub (pe_callB (call_len_seqK (K := K)) (by rfl) T.z_len (by decide +kernel) (pa_cons (pv 9) pa_nil)) pe_int) (pe_c (okLeastSteps T LL) (hr.mono (by decide)) (by rfl) (pa_cons (pv 2) (pa_cons (pv 3) (pa_cons (pv 5) (pa_cons (pe_ifExp (pt_cmpR op_eq (pe_ix (ix_tupK (K := K)) (pv 2) pe_int (fun _ _ => rfl)) pe_int (nomark _)) pe_int pe_int) pa_nil))))) (nomark _)) (pw_and1 (pt_cmpR op_lt (pe_callB (cr_maxK (K := K)) (by rfl) T.z_max (by decide +kernel) (pa_cons (pe_lc (own := [("_law_step", 12)]) (tt := tYes) rfl scLaw.nd (pi_tupK (K := K) (pv 9)) (blkOk_by (N := nLaw) (sc := defScope sLaw) (by decide +kernel)) (fun _ _ _ _ _ => pg_name (i := 12) scLaw.nd rfl (Or.inl rfl)) (fun _ _ _ _ _ => pts_nil) (fun _ _ _ _ _ => (pe_callB call_len_str (by rfl) T.z_len (by decide +kernel) (pa_cons (pv 12) pa_nil)))) pa_nil)) pe_int (nomark _)))))))) (pss_one (ps_ret pe_bl)) pss_nil)
      (pss_cons (ps_set (i := 10) scLaw.nd rfl (.inl rfl) (pe_c (okWordsWithin T LL) (hr.mono (by decide)) (by rfl) (pa_cons (pv 2) (pa_cons (pv 3) (pa_cons (pv 4) pa_nil)))))
      (pss_cons (ps_set (i := 11) scLaw.nd rfl (.inr rfl) (pe_c (okWordsWithin T LL) (hr.mono (by decide)) (by rfl) (pa_cons (pv 2) (pa_cons (pv 3) (pa_cons (pe_op op_add (pv 4) pe_int) pa_nil)))))
      (pss_one (ps_ret (pe_and (pe_cmpR (op_eqDK (K := K) hr.units) (pe_lc (own := [("_law_told", 13)]) rfl scLaw.nd (pi_listK (K := K) (pv 10)) (blkOk_by (N := nLaw) (sc := defScope sLaw) (by decide +kernel)) (fun _ _ _ _ _ => pg_name (i := 13) scLaw.nd rfl (Or.inl rfl)) (fun _ _ _ _ _ => pts_one (pt_cmpR (op_notIn_seqK (K := K)) (pv 13) (pv 11) (by rfl))) (fun _ _ _ _ _ => (pv 13))) (pe_lst pa_nil) (nomark _)) (pe_one (pe_cmpR op_eq (pe_cmpR op_eq (pv 6) pe_int (nomark _)) (pe_cmpR op_eq (pv 3) (pv 5) (nomark _)) (nomark _))))))))))))))))))))), ?_⟩
    refine ⟨_, rfl, (by show 4 ≤ sizeLine; decide), fun r hr0 => ?_⟩
    have hnr : Nr K r a ns := by
      rcases hscr with (h | ⟨o, h⟩) | h
      · exact .inl (ne_of_none h hr0)
      · exact .inl (ne_of_none h hr0)
      · exact .inr fun H' => .inr h
    have m1 : Mo (TT2 P1 P2) H (upd H r (.lst [.ref a, .int 0, .int 7696, .int 0])) := mo_new hr0
    have row1 : RowAt (upd H r (.lst [.ref a, .int 0, .int 7696, .int 0])) r a := ⟨0, 7696, 0, upd_same⟩
    generalize upd H r (.lst [.ref a, .int 0, .int 7696, .int 0]) = H1 at m1 row1
    refine ⟨_, rfl, _, rfl, (by show 3 ≤ sizeLine; decide), fun l2 hl2 => ?_⟩
    have s2 : Same H1 (upd H1 l2 (.lst [.int 2, .int 2, .int 3])) := same_new hl2
    have hl2r := row1.ne hl2
    have row2 := row1.keep (o := .lst [.int 2, .int 2, .int 3]) hl2r
    have m2 := m1.trans (mo_same s2)
    refine ⟨r, l2, a, ns, _, rfl, row2, sc_mo hscr m2, hnr, SqL.of upd_same, hl2r, (by show 1 ≤ 3; decide), (by show 3 < 1000000000; decide), fun H3 x s3 row3 hx => ?_⟩
    have m3 := mo_sb m2 s3 hr0 row2
    obtain ⟨mm, rfl, hmm⟩ : ∃ mm : Nat, x = .int (mm : Int) ∧ (mm = 2 ∨ mm = 3) := by
      rcases List.mem_cons.mp hx with h | h
      · exact ⟨2, h, .inl rfl⟩
      · rcases List.mem_cons.mp h with h | h
        · exact ⟨2, h, .inl rfl⟩
        · exact ⟨3, List.mem_singleton.mp h, .inr rfl⟩
    refine ⟨r, a, ns, mm, rfl, row3, sc_mo hscr m3, hnr, hmm, fun H4 co c s4 row4 hco hF => ?_⟩
    have m4 := mo_sb m3 s4 hr0 row3
    have h3 := four_ok hF
    have hk1 := h3.ok.m2
    have hk3 := h3.three
    refine ⟨_, rfl, _, rfl, r, co, a, ns, c, rfl, row4, sc_mo hscr m4, hnr, hco, by omega, by omega, fun H5 u s5 row5 hu u1 u4 => ?_⟩
    have m5 := mo_sb m4 s5 hr0 row4
    have hco5 := co_sb hco s5 row4
    have hune : u ≠ [] := by
      rintro rfl
      simp at u1
    have iu : Iw c.many 4 u := ⟨hu, u4, hune⟩
    have iu5 : Iw c.many 5 u := ⟨hu, by omega, hune⟩
    refine s_set (v_is (y := .int ((4 : Nat) : Int)) (v_max2 val_c (v_lens (u := u) (val_var rfl) (by omega))) (by congr 1; split <;> omega)) ?_
    refine ⟨_, rfl, _, rfl, _, rfl, _, rfl, co, c, u, 4, rfl, hco5, h3, iu, by decide, m5.2 hT, fun H6 q6 ws m6 n6 w6 hws hwl => ?_⟩
    have m6' := m5.trans m6
    have row6 := row5.mo m6
    have hq6r : q6 ≠ r := by
      obtain ⟨_, _, _, h⟩ := row5
      exact n6.ne h
    have hws1 : 1 ≤ ws.length := List.length_pos_of_mem ((hws u).mpr ⟨0, IsDist.zero⟩)
    refine ⟨r, q6, a, ns, wV ws, rfl, row6, sc_mo hscr m6', hnr, SqL.of w6, hq6r, by rw [wV_len]; exact hws1, by rw [wV_len]; omega, fun H7 x s7 row7 hx => ?_⟩
    have m7 := mo_sb m6' s7 hr0 row6
    have hco7 := co_sb (hco5.mo m6) s7 row6
    obtain ⟨v, hv, rfl⟩ := List.mem_map.mp hx
    obtain ⟨d, hd⟩ := (hws v).mp hv
    have iv := iw_dist iu hd
    have iv5 : Iw c.many 5 v := ⟨iv.1, by have := iv.2.1; omega, iv.2.2⟩
    have v1 := iw_pos iv
    have v4 := iv.2.1
    have hkind : kindW c.prs u = kindW c.prs v := by
      have p := hd.1
      unfold Co.E at p
      rw [four_told hF] at p
      exact (kind_path (kok_four hF) p hu).1
    dsimp only [gName]
    refine or_no ((a_int (v_lens (u := v) (val_var rfl) (by omega)) (val_var (v := .int ((4 : Nat) : Int)) rfl)).to (decide_eq_false (by omega))) ?_
    refine ⟨_, rfl, _, rfl, _, rfl, co, c, u, v, rfl, hco7, h3.ok, hk3, u1, by omega, hu, v1, by omega, iv.1, fun H8 s8 => ⟨true, ?_, ?_⟩⟩
    · rw [decide_eq_true hkind]
    refine iteF ?_
    have m8 := m7.trans (mo_same s8)
    have hco8 := hco7.mono s8
    have row8 := row7.mo (mo_same (T := TT2 P1 P2) s8)
    refine ⟨_, rfl, _, rfl, _, rfl, _, rfl, co, c, u, v, 4, rfl, hco8, h3, iu, iv, by decide, m8.2 hT, fun H9 d9 m9 hd9 => ?_, fun H9 m9 hn => absurd hd (hn d)⟩
    have ed : d9 = d := hd9.uniq hd
    subst ed
    have m9' := m8.trans m9
    obtain ⟨d5, hd5l, hd5⟩ := dist_more (n := 5) (by decide) hd
    refine ⟨_, rfl, _, rfl, _, rfl, _, rfl, _, _, rfl, rfl, co, c, u, v, 5, rfl, hco8.mo m9, h3, iu5, iv5, by decide, m9'.2 hT, fun H10 e5 m10 he5 => ?_, fun H10 m10 hn => absurd hd5 (hn d5)⟩
    have ee : e5 = d5 := he5.uniq hd5
    subst ee
    have m10' := m9'.trans m10
    have hco10 := (hco8.mo m9).mo m10
    have row10 := (row8.mo m9).mo m10
    refine ⟨_, _, rfl, ?_⟩
    dsimp only
    obtain ⟨hl1, hl2⟩ := len_path hd.1
    refine st_noS (ans_or (ans_isN (val_var rfl) rfl) (ans_or (ans_isN (val_var rfl) rfl) (ans_or ((a_int (val_var rfl) (val_var rfl)).to (decide_eq_false (by omega))) ((a_int (val_var rfl) (v_fdiv (v_abs (v_subi (v_lens (u := u) (val_var rfl) (by omega)) (v_lens (u := v) (val_var rfl) (by omega)))) val_c (by decide) (by decide))).to (decide_eq_false ?_))))) ?_
    · have := half_le hl1 hl2
      omega
    have hdb := dist_back h3 iu hd
    refine ⟨_, rfl, _, rfl, _, rfl, _, rfl, co, c, v, u, 4, rfl, hco10, h3, iv, iu, by decide, m10'.2 hT, fun H11 d11 m11 hd11 => ?_, fun H11 m11 hn => absurd hdb (hn _)⟩
    have ed : d11 = d9 := hd11.uniq hdb
    subst ed
    have m11' := m10'.trans m11
    have hco11 := hco10.mo m11
    have row11 := row10.mo m11
    refine ⟨_, rfl, rfl, false, by simp, iteF ?_⟩
    refine ⟨_, rfl, _, rfl, _, rfl, _, rfl, co, c, v, u, 4, d11, rfl, hco11, h3, iv, iu, by decide, m11'.2 hT, hdb, fun H12 p12 xs m12 hp12 hlen => ?_⟩
    have m12' := m11'.trans m12
    have hco12 := hco11.mo m12
    have row12 := row11.mo m12
    refine ⟨p12, xs, rfl, .inr (SqT.of hp12), _, rfl, _, _, rfl, rfl, rfl, false, ?_, iteF ?_⟩
    · rw [hlen]
      simp
    refine ⟨_, rfl, _, rfl, _, rfl, _, rfl, co, c, u, 4, rfl, hco12, h3, iu, by decide, m12'.2 hT, fun H13 q13 ws13 m13 n13 w13 hws13 hwl13 => ?_⟩
    have m13' := m12'.trans m13
    have row13 := row12.mo m13
    have hq13r : q13 ≠ r := by
      obtain ⟨_, _, _, h⟩ := row12
      exact n13.ne h
    have hws131 : 1 ≤ ws13.length := List.length_pos_of_mem ((hws13 u).mpr ⟨0, IsDist.zero⟩)
    refine ⟨r, q13, a, ns, wV ws13, rfl, row13, sc_mo hscr m13', hnr, SqL.of w13, hq13r, by rw [wV_len]; exact hws131, by rw [wV_len]; omega, fun H14 x14 s14 row14 hx14 => ?_⟩
    have m14 := mo_sb m13' s14 hr0 row13
    have hco14 := co_sb (hco12.mo m13) s14 row13
    obtain ⟨x, hxm, rfl⟩ := List.mem_map.mp hx14
    obtain ⟨e, he⟩ := (hws13 x).mp hxm
    have ix := iw_dist iu he
    obtain ⟨g, hg, hle⟩ := dist_tri h3 iu hd he
    dsimp only [gName]
    refine ⟨_, rfl, _, rfl, _, rfl, _, rfl, co, c, u, x, 4, rfl, hco14, h3, iu, ix, by decide, m14.2 hT, fun H15 e15 m15 he15 => ?_, fun H15 m15 hn => absurd he (hn _)⟩
    have ee : e15 = e := he15.uniq he
    subst ee
    have m15' := m14.trans m15
    have hco15 := hco14.mo m15
    refine ⟨_, rfl, _, rfl, _, rfl, _, rfl, _, rfl, co, c, v, x, 4, rfl, hco15, h3, iv, ix, by decide, m15'.2 hT, fun H16 g16 m16 hg16 => ?_, fun H16 m16 hn => absurd hg (hn _)⟩
    have eg : g16 = g := hg16.uniq hg
    subst eg
    have m16' := m15'.trans m16
    have hco16 := hco15.mo m16
    refine ⟨_, _, rfl, rfl, _, _, rfl, rfl, false, ?_, iteF ?_⟩
    · show V.bl (decide ((d11 : Int) + (g16 : Int) < (e15 : Int))) = V.bl false
      exact congrArg V.bl (decide_eq_false (by omega))
    refine ⟨_, rfl, _, rfl, _, rfl, co, c, u, v, rfl, hco16, hF, u1, u4, hu, v1, v4, iv.1, hkind, fun H17 p17 l s17 hp17 hll hch => ?_⟩
    have m17 := m16'.trans (mo_same s17)
    have hco17 := hco16.mono s17
    dsimp only [gName]
    obtain ⟨M, hM⟩ : ∃ M : Nat, M = if c.many = 2 then 6 else 5 := ⟨_, rfl⟩
    have hM5 : 5 ≤ M := by rw [hM]; split <;> decide
    have hM6 : M ≤ 6 := by rw [hM]; split <;> decide
    obtain ⟨dM, _, hdM⟩ := dist_more (n := M) (by omega) hd
    have iuM : Iw c.many M u := ⟨hu, by omega, hune⟩
    have ivM : Iw c.many M v := ⟨iv.1, by omega, iv.2.2⟩
    refine st_pass (fun σ H' => σ = [some (.ref a), some (.ref r), some (.ref co), some (.str (S u)), some (.int ((4 : Nat) : Int)), some (.str (S v)), some (.int (d11 : Int)), some (.int (e5 : Int)), some (.str (S x)), some (.ref p17), none, none, none, none] ∧ Mo (TT2 P1 P2) H H' ∧ CoAt H' co c) ?_ fun k => ?_
    rotate_left
    refine or_noI (ans_isN (val_var rfl) rfl) ?_
    obtain ⟨tc, bsc, hcot, _⟩ := id hco17
    have row17 := (((row14.mo m15).mo m16).mo (mo_same (T := TT2 P1 P2) s17))
    refine ⟨_, rfl, p17, _, rfl, .inr (SqT.of hp17), _, _, rfl, rfl, _, rfl, _, rfl, _, rfl, ?_⟩
    refine at_ans (a_eqi (v_ixt (K := K) (val_var (i := 2) rfl) val_c (SqT.of hcot) (atI_nat (j := 0) rfl)) val_c) ?_
    have step : ∀ {te : TE} {σ : L2.St} {H : Hp} {Q : VK}, Q (.int (M : Int)) H → (if decide ((c.many : Int) = 2) = true then tC (.int 6) σ H Q else tC (.int 5) σ H Q) := by
      intro te σ H Q q
      by_cases h2 : c.many = 2
      · rw [decide_eq_true (by omega)]
        refine iteT ?_
        rw [hM, if_pos h2] at q
        exact q
      · rw [decide_eq_false (by omega)]
        refine iteF ?_
        rw [hM, if_neg h2] at q
        exact q
    refine step (te := tC .non) ?_
    refine ⟨co, c, u, v, M, rfl, hco17, h3, iuM, ivM, hM6, m17.2 hT, fun H18 d18 m18 hd18 => ?_, fun H18 m18 hn => absurd hdM (hn _)⟩
    have ed : d18 = dM := hd18.uniq hdM
    subst ed
    have m18' := m17.trans m18
    have hco18 := hco17.mo m18
    have row18 := row17.mo m18
    refine ⟨_, _, rfl, rfl, decide (((wV l).length : Int) - 1 < (d18 : Int)), rfl, ?_⟩
    have hp18 := m18.at hp17
    have hlpos : 0 < l.length := List.length_pos_iff.mpr hch.ne
    by_cases hlt : ((wV l).length : Int) - 1 < (d18 : Int)
    · rw [decide_eq_true hlt]
      rw [wV_len] at hlt
      refine iteT ?_
      refine ⟨_, rfl, p17, rfl, ⟨_, SqT.of hp18⟩, fun D1 hD1 => ?_⟩
      refine lc_pure (walk_tup (K := K) (a := p17) (xs := wV l)) (fun i => [.int (((l.getD i []).length : Nat) : Int)]) hD1 (fun k hk => flat_lt _ (c := 1) (fun i => Nat.le_refl _) (by rw [wV_len] at hk; omega)) (fun H' s' => SqT.of (s' _ _ hp18)) (fun i y H19 H20 hi s19 hy R N hR hN => ?_) fun H' s' hl' => ?_
      · obtain ⟨rfl, hx⟩ := hy
        obtain ⟨ww, hww, rfl⟩ := wV_get hx
        have eg : l.getD i [] = ww := by rw [List.getD_eq_getElem?_getD, hww]; rfl
        rw [eg] at hR
        refine ⟨rfl, yes_then ?_⟩
        have hwl : ww.length < 16000000 := by
          have := ch_len hch ww (List.mem_of_getElem? hww)
          omega
        refine at_val (v_lens (u := ww) (val_var (i := 12) rfl) hwl) ?_
        exact hR _ _ (Same.refl _) rfl
      · rw [flat_one, wV_lens] at hl'
        refine ⟨D1, _, rfl, SqL.of hl', by rw [List.length_map]; exact hlpos, fun mx hmx hall => ?_⟩
        obtain ⟨ww, hww, hw6⟩ := long_word hF hM5 hch hdM (by omega)
        have := hall _ (List.mem_map.mpr ⟨ww, hww, rfl⟩)
        refine ⟨_, _, rfl, rfl, false, ?_, iteF ?_⟩
        · show V.bl (decide (mx < 6)) = V.bl false
          exact congrArg V.bl (decide_eq_false (by omega))
        · exact k _ _ ⟨rfl, m18'.trans (mo_same s'), hco18.mono s'⟩
    · rw [decide_eq_false hlt]
      refine iteF ?_
      exact iteF (k _ _ ⟨rfl, m18', hco18⟩)
    · rintro σ H18 ⟨rfl, m18, hco18⟩
      refine ⟨_, rfl, _, rfl, _, rfl, co, c, u, 4, rfl, hco18, h3, iu, by decide, m18.2 hT, fun H19 q19 ws19 m19 n19 w19 hws19 hwl19 => ?_⟩
      have m19' := m18.trans m19
      dsimp only [gName]
      refine ⟨_, rfl, _, rfl, _, rfl, _, _, rfl, rfl, co, c, u, 5, rfl, hco18.mo m19, h3, iu5, by decide, m19'.2 hT, fun H20 q20 ws20 m20 n20 w20 hws20 hwl20 => ?_⟩
      dsimp only [gName]
      have w19' := m20.at w19
      refine ⟨_, rfl, q19, rfl, ⟨_, SqL.of w19'⟩, fun D2 hD2 => ?_⟩
      refine lc_pure (walk_list (K := K) (a := q19) (xs := wV ws19)) (fun _ => []) hD2 (fun k hk => by rw [no_flat]; decide) (fun H' s' => SqL.of (s' _ _ w19')) (fun i y H21 H22 hi s21 hy R N hR hN => ?_) fun H' s' hl' => ?_
      · obtain ⟨rfl, hx⟩ := hy
        obtain ⟨ww, hww, rfl⟩ := wV_get hx
        have hin : ww ∈ ws20 := by
          obtain ⟨dd, hdd⟩ := (hws19 ww).mp (List.mem_of_getElem? hww)
          obtain ⟨d2, _, hd2⟩ := dist_more (n := 5) (by decide) hdd
          exact (hws20 ww).mpr ⟨d2, hd2⟩
        refine ⟨rfl, _, rfl, _, rfl, q20, wV ws20, rfl, .inl (SqL.of (s21 _ _ w20)), rfl, flat_ws _, false, ?_, iteF (hN _ (Same.refl _) rfl)⟩
        rw [in_ws hin]
        rfl
      · rw [no_flat] at hl'
        refine ⟨Nat.zero_le _, fun p5 hp5 => ?_⟩
        refine ⟨.list [], .list [], .lst (SqL.of ((same_new hp5) _ _ hl')) .nil, .lst (SqL.of upd_same) .nil, rfl, rfl, true, rfl, iteT ?_⟩
        refine ⟨_, rfl, rfl, _, rfl, _, rfl, rfl, rfl, ?_⟩
        have hfin : decide (V.bl (decide (V.int (d11 : Int) = V.int 0)) = V.bl (decide (V.str (S u) = V.str (S v)))) = true := by
          rw [decide_eq_true_eq]
          congr 1
          rw [decide_eq_decide]
          have hz := dist_zero hd
          constructor
          · intro h
            injection h with h
            rw [hz.mp (by omega)]
          · intro h
            injection h with h
            rw [hz.mpr (S_inj h)]
            rfl
        show Q (.bl (decide (V.bl (decide (V.int (d11 : Int) = V.int 0)) = V.bl (decide (V.str (S u) = V.str (S v)))))) _
        rw [hfin]
        exact q _
end
end Cw

set_option maxHeartbeats 4000000
/-! The end: what the top has left, and the law as a row wants it. Printed by gen_end.py. -/
namespace Cw
open PySem PySem.Spec PyProof.Rows L2 LamX
theorem def_mk {K : PySem.W.Frag} {h : Heap} {mg : Str → Option Value} {x : Str} {st : Stmt} {ps : List Str} {f : Addr} {oc : Value} {od an : Option Addr} {sl : Array (Option Value)} {kV dc pm cd ct : Value} (X : K.In h) (G : h.Ns mainGlobals mg)
    (a : PySem.W.nsIn K mainGlobals x = some (some (.ref f))) (l : K.lookup f = some ⟨oc, od, .func (PySem.W.fnOf x x (defArgs st) (defBody st) (defScope st) .none kV dc pm an cd ct), sl⟩) (c : PySem.W.codeIn K cd x = true) (k : PySem.W.keepIn K (.ref f) = true)
    (b : ∀ (kV doc pm : Value) (an : Option Addr) (cdv ct : Value) (us : List Value), us.length = ps.length → bindArgs (PySem.W.fnOf x x (defArgs st) (defBody st) (defScope st) .none kV doc pm an cdv ct) ⟨us, []⟩ = pure (ps.zip us)) : DefOf K mg x st ps :=
  ⟨f, _, fun_mk l c k, PySem.W.mg_of X G a, (fun_mk l c k).binds b⟩
theorem tab_nil {H : Hp} {P1 P2 : Addr} (h1 : H P1 = some (.tbl #[])) (h2 : H P2 = some (.tbl #[])) : Tabs (TT2 P1 P2) H := fun p hp => by
  rcases List.mem_cons.mp hp with rfl | hp
  · exact TabS.nil h1
  · rw [List.mem_singleton.mp hp]
    exact TabS.nil h2
theorem all_mk {l : PySem.W.OpenLaw} {w : World} {K : PySem.W.Frag} {h : Heap} {mg : Str → Option Value} {fa : Addr} (X : K.In h) (G : h.Ns mainGlobals mg) (hfa : mg "law" = some (.ref fa)) {P1 P2 cS cW : Addr} (ne : P1 ≠ P2)
    (t1 : h.get? P1 = some { cls := .none, data := .fields #[] }) (t2 : h.get? P2 = some { cls := .none, data := .fields #[] }) (n1 : K.lookup P1 = none) (n2 : K.lookup P2 = none) (hS : PySem.W.codeHdIn K cS P1 = true) (hW : PySem.W.codeHdIn K cW P2 = true)
    {f0 : Addr} {od0 an0 : Option Addr} {sl0 : Array (Option Value)} {oc0 kV0 dc0 pm0 ct0 cd0 : Value}
    (a0 : PySem.W.nsIn K mainGlobals "whole" = some (some (.ref f0))) (l0 : K.lookup f0 = some ⟨oc0, od0, .func (PySem.W.fnOf "whole" "whole" (defArgs sWhole) (defBody sWhole) (defScope sWhole) .none kV0 dc0 pm0 an0 cd0 ct0), sl0⟩) (c0 : PySem.W.codeIn K cd0 "whole" = true) (k0 : PySem.W.keepIn K (.ref f0) = true)
    {f1 : Addr} {od1 an1 : Option Addr} {sl1 : Array (Option Value)} {oc1 kV1 dc1 pm1 ct1 cd1 : Value}
    (a1 : PySem.W.nsIn K mainGlobals "within" = some (some (.ref f1))) (l1 : K.lookup f1 = some ⟨oc1, od1, .func (PySem.W.fnOf "within" "within" (defArgs sWithin) (defBody sWithin) (defScope sWithin) .none kV1 dc1 pm1 an1 cd1 ct1), sl1⟩) (c1 : PySem.W.codeIn K cd1 "within" = true) (k1 : PySem.W.keepIn K (.ref f1) = true)
    {f2 : Addr} {od2 an2 : Option Addr} {sl2 : Array (Option Value)} {oc2 kV2 dc2 pm2 ct2 cd2 : Value}
    (a2 : PySem.W.nsIn K mainGlobals "need_number" = some (some (.ref f2))) (l2 : K.lookup f2 = some ⟨oc2, od2, .func (PySem.W.fnOf "need_number" "need_number" (defArgs sNeedNumber) (defBody sNeedNumber) (defScope sNeedNumber) .none kV2 dc2 pm2 an2 cd2 ct2), sl2⟩) (c2 : PySem.W.codeIn K cd2 "need_number" = true) (k2 : PySem.W.keepIn K (.ref f2) = true)
    {f3 : Addr} {od3 an3 : Option Addr} {sl3 : Array (Option Value)} {oc3 kV3 dc3 pm3 ct3 cd3 : Value}
    (a3 : PySem.W.nsIn K mainGlobals "tuple_of" = some (some (.ref f3))) (l3 : K.lookup f3 = some ⟨oc3, od3, .func (PySem.W.fnOf "tuple_of" "tuple_of" (defArgs sTupleOf) (defBody sTupleOf) (defScope sTupleOf) .none kV3 dc3 pm3 an3 cd3 ct3), sl3⟩) (c3 : PySem.W.codeIn K cd3 "tuple_of" = true) (k3 : PySem.W.keepIn K (.ref f3) = true)
    {f4 : Addr} {od4 an4 : Option Addr} {sl4 : Array (Option Value)} {oc4 kV4 dc4 pm4 ct4 cd4 : Value}
    (a4 : PySem.W.nsIn K mainGlobals "is_pair" = some (some (.ref f4))) (l4 : K.lookup f4 = some ⟨oc4, od4, .func (PySem.W.fnOf "is_pair" "is_pair" (defArgs sIsPair) (defBody sIsPair) (defScope sIsPair) .none kV4 dc4 pm4 an4 cd4 ct4), sl4⟩) (c4 : PySem.W.codeIn K cd4 "is_pair" = true) (k4 : PySem.W.keepIn K (.ref f4) = true)
    {f5 : Addr} {od5 an5 : Option Addr} {sl5 : Array (Option Value)} {oc5 kV5 dc5 pm5 ct5 cd5 : Value}
    (a5 : PySem.W.nsIn K mainGlobals "need_company" = some (some (.ref f5))) (l5 : K.lookup f5 = some ⟨oc5, od5, .func (PySem.W.fnOf "need_company" "need_company" (defArgs sNeedCompany) (defBody sNeedCompany) (defScope sNeedCompany) .none kV5 dc5 pm5 an5 cd5 ct5), sl5⟩) (c5 : PySem.W.codeIn K cd5 "need_company" = true) (k5 : PySem.W.keepIn K (.ref f5) = true)
    {f6 : Addr} {od6 an6 : Option Addr} {sl6 : Array (Option Value)} {oc6 kV6 dc6 pm6 ct6 cd6 : Value}
    (a6 : PySem.W.nsIn K mainGlobals "is_word" = some (some (.ref f6))) (l6 : K.lookup f6 = some ⟨oc6, od6, .func (PySem.W.fnOf "is_word" "is_word" (defArgs sIsWord) (defBody sIsWord) (defScope sIsWord) .none kV6 dc6 pm6 an6 cd6 ct6), sl6⟩) (c6 : PySem.W.codeIn K cd6 "is_word" = true) (k6 : PySem.W.keepIn K (.ref f6) = true)
    {f7 : Addr} {od7 an7 : Option Addr} {sl7 : Array (Option Value)} {oc7 kV7 dc7 pm7 ct7 cd7 : Value}
    (a7 : PySem.W.nsIn K mainGlobals "need_word" = some (some (.ref f7))) (l7 : K.lookup f7 = some ⟨oc7, od7, .func (PySem.W.fnOf "need_word" "need_word" (defArgs sNeedWord) (defBody sNeedWord) (defScope sNeedWord) .none kV7 dc7 pm7 an7 cd7 ct7), sl7⟩) (c7 : PySem.W.codeIn K cd7 "need_word" = true) (k7 : PySem.W.keepIn K (.ref f7) = true)
    {f8 : Addr} {od8 an8 : Option Addr} {sl8 : Array (Option Value)} {oc8 kV8 dc8 pm8 ct8 cd8 : Value}
    (a8 : PySem.W.nsIn K mainGlobals "need_short" = some (some (.ref f8))) (l8 : K.lookup f8 = some ⟨oc8, od8, .func (PySem.W.fnOf "need_short" "need_short" (defArgs sNeedShort) (defBody sNeedShort) (defScope sNeedShort) .none kV8 dc8 pm8 an8 cd8 ct8), sl8⟩) (c8 : PySem.W.codeIn K cd8 "need_short" = true) (k8 : PySem.W.keepIn K (.ref f8) = true)
    {f9 : Addr} {od9 an9 : Option Addr} {sl9 : Array (Option Value)} {oc9 kV9 dc9 pm9 ct9 cd9 : Value}
    (a9 : PySem.W.nsIn K mainGlobals "letters_of" = some (some (.ref f9))) (l9 : K.lookup f9 = some ⟨oc9, od9, .func (PySem.W.fnOf "letters_of" "letters_of" (defArgs sLettersOf) (defBody sLettersOf) (defScope sLettersOf) .none kV9 dc9 pm9 an9 cd9 ct9), sl9⟩) (c9 : PySem.W.codeIn K cd9 "letters_of" = true) (k9 : PySem.W.keepIn K (.ref f9) = true)
    {f10 : Addr} {od10 an10 : Option Addr} {sl10 : Array (Option Value)} {oc10 kV10 dc10 pm10 ct10 cd10 : Value}
    (a10 : PySem.W.nsIn K mainGlobals "friends_of_all" = some (some (.ref f10))) (l10 : K.lookup f10 = some ⟨oc10, od10, .func (PySem.W.fnOf "friends_of_all" "friends_of_all" (defArgs sFriendsOfAll) (defBody sFriendsOfAll) (defScope sFriendsOfAll) .none kV10 dc10 pm10 an10 cd10 ct10), sl10⟩) (c10 : PySem.W.codeIn K cd10 "friends_of_all" = true) (k10 : PySem.W.keepIn K (.ref f10) = true)
    {f11 : Addr} {od11 an11 : Option Addr} {sl11 : Array (Option Value)} {oc11 kV11 dc11 pm11 ct11 cd11 : Value}
    (a11 : PySem.W.nsIn K mainGlobals "bits" = some (some (.ref f11))) (l11 : K.lookup f11 = some ⟨oc11, od11, .func (PySem.W.fnOf "bits" "bits" (defArgs sBits) (defBody sBits) (defScope sBits) .none kV11 dc11 pm11 an11 cd11 ct11), sl11⟩) (c11 : PySem.W.codeIn K cd11 "bits" = true) (k11 : PySem.W.keepIn K (.ref f11) = true)
    {f12 : Addr} {od12 an12 : Option Addr} {sl12 : Array (Option Value)} {oc12 kV12 dc12 pm12 ct12 cd12 : Value}
    (a12 : PySem.W.nsIn K mainGlobals "crossed" = some (some (.ref f12))) (l12 : K.lookup f12 = some ⟨oc12, od12, .func (PySem.W.fnOf "crossed" "crossed" (defArgs sCrossed) (defBody sCrossed) (defScope sCrossed) .none kV12 dc12 pm12 an12 cd12 ct12), sl12⟩) (c12 : PySem.W.codeIn K cd12 "crossed" = true) (k12 : PySem.W.keepIn K (.ref f12) = true)
    {f13 : Addr} {od13 an13 : Option Addr} {sl13 : Array (Option Value)} {oc13 kV13 dc13 pm13 ct13 cd13 : Value}
    (a13 : PySem.W.nsIn K mainGlobals "joined" = some (some (.ref f13))) (l13 : K.lookup f13 = some ⟨oc13, od13, .func (PySem.W.fnOf "joined" "joined" (defArgs sJoined) (defBody sJoined) (defScope sJoined) .none kV13 dc13 pm13 an13 cd13 ct13), sl13⟩) (c13 : PySem.W.codeIn K cd13 "joined" = true) (k13 : PySem.W.keepIn K (.ref f13) = true)
    {f14 : Addr} {od14 an14 : Option Addr} {sl14 : Array (Option Value)} {oc14 kV14 dc14 pm14 ct14 cd14 : Value}
    (a14 : PySem.W.nsIn K mainGlobals "outer" = some (some (.ref f14))) (l14 : K.lookup f14 = some ⟨oc14, od14, .func (PySem.W.fnOf "outer" "outer" (defArgs sOuter) (defBody sOuter) (defScope sOuter) .none kV14 dc14 pm14 an14 cd14 ct14), sl14⟩) (c14 : PySem.W.codeIn K cd14 "outer" = true) (k14 : PySem.W.keepIn K (.ref f14) = true)
    {f15 : Addr} {od15 an15 : Option Addr} {sl15 : Array (Option Value)} {oc15 kV15 dc15 pm15 ct15 cd15 : Value}
    (a15 : PySem.W.nsIn K mainGlobals "need_both" = some (some (.ref f15))) (l15 : K.lookup f15 = some ⟨oc15, od15, .func (PySem.W.fnOf "need_both" "need_both" (defArgs sNeedBoth) (defBody sNeedBoth) (defScope sNeedBoth) .none kV15 dc15 pm15 an15 cd15 ct15), sl15⟩) (c15 : PySem.W.codeIn K cd15 "need_both" = true) (k15 : PySem.W.keepIn K (.ref f15) = true)
    {f16 : Addr} {od16 an16 : Option Addr} {sl16 : Array (Option Value)} {oc16 kV16 dc16 pm16 ct16 cd16 : Value}
    (a16 : PySem.W.nsIn K mainGlobals "kind_of" = some (some (.ref f16))) (l16 : K.lookup f16 = some ⟨oc16, od16, .func (PySem.W.fnOf "kind_of" "kind_of" (defArgs sKindOf) (defBody sKindOf) (defScope sKindOf) .none kV16 dc16 pm16 an16 cd16 ct16), sl16⟩) (c16 : PySem.W.codeIn K cd16 "kind_of" = true) (k16 : PySem.W.keepIn K (.ref f16) = true)
    {f17 : Addr} {od17 an17 : Option Addr} {sl17 : Array (Option Value)} {oc17 kV17 dc17 pm17 ct17 cd17 : Value}
    (a17 : PySem.W.nsIn K mainGlobals "are_one" = some (some (.ref f17))) (l17 : K.lookup f17 = some ⟨oc17, od17, .func (PySem.W.fnOf "are_one" "are_one" (defArgs sAreOne) (defBody sAreOne) (defScope sAreOne) .none kV17 dc17 pm17 an17 cd17 ct17), sl17⟩) (c17 : PySem.W.codeIn K cd17 "are_one" = true) (k17 : PySem.W.keepIn K (.ref f17) = true)
    {f18 : Addr} {od18 an18 : Option Addr} {sl18 : Array (Option Value)} {oc18 kV18 dc18 pm18 ct18 cd18 : Value}
    (a18 : PySem.W.nsIn K mainGlobals "normal_of" = some (some (.ref f18))) (l18 : K.lookup f18 = some ⟨oc18, od18, .func (PySem.W.fnOf "normal_of" "normal_of" (defArgs sNormalOf) (defBody sNormalOf) (defScope sNormalOf) .none kV18 dc18 pm18 an18 cd18 ct18), sl18⟩) (c18 : PySem.W.codeIn K cd18 "normal_of" = true) (k18 : PySem.W.keepIn K (.ref f18) = true)
    {f19 : Addr} {od19 an19 : Option Addr} {sl19 : Array (Option Value)} {oc19 kV19 dc19 pm19 ct19 cd19 : Value}
    (a19 : PySem.W.nsIn K mainGlobals "friendly" = some (some (.ref f19))) (l19 : K.lookup f19 = some ⟨oc19, od19, .func (PySem.W.fnOf "friendly" "friendly" (defArgs sFriendly) (defBody sFriendly) (defScope sFriendly) .none kV19 dc19 pm19 an19 cd19 ct19), sl19⟩) (c19 : PySem.W.codeIn K cd19 "friendly" = true) (k19 : PySem.W.keepIn K (.ref f19) = true)
    {f20 : Addr} {od20 an20 : Option Addr} {sl20 : Array (Option Value)} {oc20 kV20 dc20 pm20 ct20 cd20 : Value}
    (a20 : PySem.W.nsIn K mainGlobals "shorter" = some (some (.ref f20))) (l20 : K.lookup f20 = some ⟨oc20, od20, .func (PySem.W.fnOf "shorter" "shorter" (defArgs sShorter) (defBody sShorter) (defScope sShorter) .none kV20 dc20 pm20 an20 cd20 ct20), sl20⟩) (c20 : PySem.W.codeIn K cd20 "shorter" = true) (k20 : PySem.W.keepIn K (.ref f20) = true)
    {f21 : Addr} {od21 an21 : Option Addr} {sl21 : Array (Option Value)} {oc21 kV21 dc21 pm21 ct21 cd21 : Value}
    (a21 : PySem.W.nsIn K mainGlobals "longer" = some (some (.ref f21))) (l21 : K.lookup f21 = some ⟨oc21, od21, .func (PySem.W.fnOf "longer" "longer" (defArgs sLonger) (defBody sLonger) (defScope sLonger) .none kV21 dc21 pm21 an21 cd21 ct21), sl21⟩) (c21 : PySem.W.codeIn K cd21 "longer" = true) (k21 : PySem.W.keepIn K (.ref f21) = true)
    {f22 : Addr} {od22 an22 : Option Addr} {sl22 : Array (Option Value)} {oc22 kV22 dc22 pm22 ct22 cd22 : Value}
    (a22 : PySem.W.nsIn K mainGlobals "changed" = some (some (.ref f22))) (l22 : K.lookup f22 = some ⟨oc22, od22, .func (PySem.W.fnOf "changed" "changed" (defArgs sChanged) (defBody sChanged) (defScope sChanged) .none kV22 dc22 pm22 an22 cd22 ct22), sl22⟩) (c22 : PySem.W.codeIn K cd22 "changed" = true) (k22 : PySem.W.keepIn K (.ref f22) = true)
    {f23 : Addr} {od23 an23 : Option Addr} {sl23 : Array (Option Value)} {oc23 kV23 dc23 pm23 ct23 : Value}
    (a23 : PySem.W.nsIn K mainGlobals "steps_of" = some (some (.ref f23))) (l23 : K.lookup f23 = some ⟨oc23, od23, .func (PySem.W.fnOf "steps_of" "steps_of" (defArgs sStepsOf) (defBody sStepsOf) (defScope sStepsOf) .none kV23 dc23 pm23 an23 (.ref cS) ct23), sl23⟩) (c23 : PySem.W.codeIn K (.ref cS) "steps_of" = true) (k23 : PySem.W.keepIn K (.ref f23) = true)
    {f24 : Addr} {od24 an24 : Option Addr} {sl24 : Array (Option Value)} {oc24 kV24 dc24 pm24 ct24 cd24 : Value}
    (a24 : PySem.W.nsIn K mainGlobals "spread" = some (some (.ref f24))) (l24 : K.lookup f24 = some ⟨oc24, od24, .func (PySem.W.fnOf "spread" "spread" (defArgs sSpread) (defBody sSpread) (defScope sSpread) .none kV24 dc24 pm24 an24 cd24 ct24), sl24⟩) (c24 : PySem.W.codeIn K cd24 "spread" = true) (k24 : PySem.W.keepIn K (.ref f24) = true)
    {f25 : Addr} {od25 an25 : Option Addr} {sl25 : Array (Option Value)} {oc25 kV25 dc25 pm25 ct25 cd25 : Value}
    (a25 : PySem.W.nsIn K mainGlobals "need_spread" = some (some (.ref f25))) (l25 : K.lookup f25 = some ⟨oc25, od25, .func (PySem.W.fnOf "need_spread" "need_spread" (defArgs sNeedSpread) (defBody sNeedSpread) (defScope sNeedSpread) .none kV25 dc25 pm25 an25 cd25 ct25), sl25⟩) (c25 : PySem.W.codeIn K cd25 "need_spread" = true) (k25 : PySem.W.keepIn K (.ref f25) = true)
    {f26 : Addr} {od26 an26 : Option Addr} {sl26 : Array (Option Value)} {oc26 kV26 dc26 pm26 ct26 : Value}
    (a26 : PySem.W.nsIn K mainGlobals "words_within" = some (some (.ref f26))) (l26 : K.lookup f26 = some ⟨oc26, od26, .func (PySem.W.fnOf "words_within" "words_within" (defArgs sWordsWithin) (defBody sWordsWithin) (defScope sWordsWithin) .none kV26 dc26 pm26 an26 (.ref cW) ct26), sl26⟩) (c26 : PySem.W.codeIn K (.ref cW) "words_within" = true) (k26 : PySem.W.keepIn K (.ref f26) = true)
    {f27 : Addr} {od27 an27 : Option Addr} {sl27 : Array (Option Value)} {oc27 kV27 dc27 pm27 ct27 cd27 : Value}
    (a27 : PySem.W.nsIn K mainGlobals "least_steps" = some (some (.ref f27))) (l27 : K.lookup f27 = some ⟨oc27, od27, .func (PySem.W.fnOf "least_steps" "least_steps" (defArgs sLeastSteps) (defBody sLeastSteps) (defScope sLeastSteps) .none kV27 dc27 pm27 an27 cd27 ct27), sl27⟩) (c27 : PySem.W.codeIn K cd27 "least_steps" = true) (k27 : PySem.W.keepIn K (.ref f27) = true)
    {f28 : Addr} {od28 an28 : Option Addr} {sl28 : Array (Option Value)} {oc28 kV28 dc28 pm28 ct28 cd28 : Value}
    (a28 : PySem.W.nsIn K mainGlobals "least_way" = some (some (.ref f28))) (l28 : K.lookup f28 = some ⟨oc28, od28, .func (PySem.W.fnOf "least_way" "least_way" (defArgs sLeastWay) (defBody sLeastWay) (defScope sLeastWay) .none kV28 dc28 pm28 an28 cd28 ct28), sl28⟩) (c28 : PySem.W.codeIn K cd28 "least_way" = true) (k28 : PySem.W.keepIn K (.ref f28) = true)
    {f29 : Addr} {od29 an29 : Option Addr} {sl29 : Array (Option Value)} {oc29 kV29 dc29 pm29 ct29 cd29 : Value}
    (a29 : PySem.W.nsIn K mainGlobals "changed_at" = some (some (.ref f29))) (l29 : K.lookup f29 = some ⟨oc29, od29, .func (PySem.W.fnOf "changed_at" "changed_at" (defArgs sChangedAt) (defBody sChangedAt) (defScope sChangedAt) .none kV29 dc29 pm29 an29 cd29 ct29), sl29⟩) (c29 : PySem.W.codeIn K cd29 "changed_at" = true) (k29 : PySem.W.keepIn K (.ref f29) = true)
    {f30 : Addr} {od30 an30 : Option Addr} {sl30 : Array (Option Value)} {oc30 kV30 dc30 pm30 ct30 cd30 : Value}
    (a30 : PySem.W.nsIn K mainGlobals "carry" = some (some (.ref f30))) (l30 : K.lookup f30 = some ⟨oc30, od30, .func (PySem.W.fnOf "carry" "carry" (defArgs sCarry) (defBody sCarry) (defScope sCarry) .none kV30 dc30 pm30 an30 cd30 ct30), sl30⟩) (c30 : PySem.W.codeIn K cd30 "carry" = true) (k30 : PySem.W.keepIn K (.ref f30) = true)
    {f31 : Addr} {od31 an31 : Option Addr} {sl31 : Array (Option Value)} {oc31 kV31 dc31 pm31 ct31 cd31 : Value}
    (a31 : PySem.W.nsIn K mainGlobals "first_ill" = some (some (.ref f31))) (l31 : K.lookup f31 = some ⟨oc31, od31, .func (PySem.W.fnOf "first_ill" "first_ill" (defArgs sFirstIll) (defBody sFirstIll) (defScope sFirstIll) .none kV31 dc31 pm31 an31 cd31 ct31), sl31⟩) (c31 : PySem.W.codeIn K cd31 "first_ill" = true) (k31 : PySem.W.keepIn K (.ref f31) = true)
    {f32 : Addr} {od32 an32 : Option Addr} {sl32 : Array (Option Value)} {oc32 kV32 dc32 pm32 ct32 cd32 : Value}
    (a32 : PySem.W.nsIn K mainGlobals "ordered" = some (some (.ref f32))) (l32 : K.lookup f32 = some ⟨oc32, od32, .func (PySem.W.fnOf "ordered" "ordered" (defArgs sOrdered) (defBody sOrdered) (defScope sOrdered) .none kV32 dc32 pm32 an32 cd32 ct32), sl32⟩) (c32 : PySem.W.codeIn K cd32 "ordered" = true) (k32 : PySem.W.keepIn K (.ref f32) = true)
    {f33 : Addr} {od33 an33 : Option Addr} {sl33 : Array (Option Value)} {oc33 kV33 dc33 pm33 ct33 cd33 : Value}
    (a33 : PySem.W.nsIn K mainGlobals "relieve_all" = some (some (.ref f33))) (l33 : K.lookup f33 = some ⟨oc33, od33, .func (PySem.W.fnOf "relieve_all" "relieve_all" (defArgs sRelieveAll) (defBody sRelieveAll) (defScope sRelieveAll) .none kV33 dc33 pm33 an33 cd33 ct33), sl33⟩) (c33 : PySem.W.codeIn K cd33 "relieve_all" = true) (k33 : PySem.W.keepIn K (.ref f33) = true)
    {f34 : Addr} {od34 an34 : Option Addr} {sl34 : Array (Option Value)} {oc34 kV34 dc34 pm34 ct34 cd34 : Value}
    (a34 : PySem.W.nsIn K mainGlobals "friend_of" = some (some (.ref f34))) (l34 : K.lookup f34 = some ⟨oc34, od34, .func (PySem.W.fnOf "friend_of" "friend_of" (defArgs sFriendOf) (defBody sFriendOf) (defScope sFriendOf) .none kV34 dc34 pm34 an34 cd34 ct34), sl34⟩) (c34 : PySem.W.codeIn K cd34 "friend_of" = true) (k34 : PySem.W.keepIn K (.ref f34) = true)
    {f35 : Addr} {od35 an35 : Option Addr} {sl35 : Array (Option Value)} {oc35 kV35 dc35 pm35 ct35 cd35 : Value}
    (a35 : PySem.W.nsIn K mainGlobals "relieved" = some (some (.ref f35))) (l35 : K.lookup f35 = some ⟨oc35, od35, .func (PySem.W.fnOf "relieved" "relieved" (defArgs sRelieved) (defBody sRelieved) (defScope sRelieved) .none kV35 dc35 pm35 an35 cd35 ct35), sl35⟩) (c35 : PySem.W.codeIn K cd35 "relieved" = true) (k35 : PySem.W.keepIn K (.ref f35) = true)
    {f36 : Addr} {od36 an36 : Option Addr} {sl36 : Array (Option Value)} {oc36 kV36 dc36 pm36 ct36 cd36 : Value}
    (a36 : PySem.W.nsIn K mainGlobals "to_normal" = some (some (.ref f36))) (l36 : K.lookup f36 = some ⟨oc36, od36, .func (PySem.W.fnOf "to_normal" "to_normal" (defArgs sToNormal) (defBody sToNormal) (defScope sToNormal) .none kV36 dc36 pm36 an36 cd36 ct36), sl36⟩) (c36 : PySem.W.codeIn K cd36 "to_normal" = true) (k36 : PySem.W.keepIn K (.ref f36) = true)
    {f37 : Addr} {od37 an37 : Option Addr} {sl37 : Array (Option Value)} {oc37 kV37 dc37 pm37 ct37 cd37 : Value}
    (a37 : PySem.W.nsIn K mainGlobals "need_two" = some (some (.ref f37))) (l37 : K.lookup f37 = some ⟨oc37, od37, .func (PySem.W.fnOf "need_two" "need_two" (defArgs sNeedTwo) (defBody sNeedTwo) (defScope sNeedTwo) .none kV37 dc37 pm37 an37 cd37 ct37), sl37⟩) (c37 : PySem.W.codeIn K cd37 "need_two" = true) (k37 : PySem.W.keepIn K (.ref f37) = true)
    {f38 : Addr} {od38 an38 : Option Addr} {sl38 : Array (Option Value)} {oc38 kV38 dc38 pm38 ct38 cd38 : Value}
    (a38 : PySem.W.nsIn K mainGlobals "way" = some (some (.ref f38))) (l38 : K.lookup f38 = some ⟨oc38, od38, .func (PySem.W.fnOf "way" "way" (defArgs sWay) (defBody sWay) (defScope sWay) .none kV38 dc38 pm38 an38 cd38 ct38), sl38⟩) (c38 : PySem.W.codeIn K cd38 "way" = true) (k38 : PySem.W.keepIn K (.ref f38) = true)
    {f39 : Addr} {od39 an39 : Option Addr} {sl39 : Array (Option Value)} {oc39 kV39 dc39 pm39 ct39 cd39 : Value}
    (a39 : PySem.W.nsIn K mainGlobals "_law_taken" = some (some (.ref f39))) (l39 : K.lookup f39 = some ⟨oc39, od39, .func (PySem.W.fnOf "_law_taken" "_law_taken" (defArgs sLawTaken) (defBody sLawTaken) (defScope sLawTaken) .none kV39 dc39 pm39 an39 cd39 ct39), sl39⟩) (c39 : PySem.W.codeIn K cd39 "_law_taken" = true) (k39 : PySem.W.keepIn K (.ref f39) = true)
    {f40 : Addr} {od40 an40 : Option Addr} {sl40 : Array (Option Value)} {oc40 kV40 dc40 pm40 ct40 cd40 : Value}
    (a40 : PySem.W.nsIn K mainGlobals "_law_company" = some (some (.ref f40))) (l40 : K.lookup f40 = some ⟨oc40, od40, .func (PySem.W.fnOf "_law_company" "_law_company" (defArgs sLawCompany) (defBody sLawCompany) (defScope sLawCompany) .none kV40 dc40 pm40 an40 cd40 ct40), sl40⟩) (c40 : PySem.W.codeIn K cd40 "_law_company" = true) (k40 : PySem.W.keepIn K (.ref f40) = true)
    {f41 : Addr} {od41 an41 : Option Addr} {sl41 : Array (Option Value)} {oc41 kV41 dc41 pm41 ct41 cd41 : Value}
    (a41 : PySem.W.nsIn K mainGlobals "_law_pick" = some (some (.ref f41))) (l41 : K.lookup f41 = some ⟨oc41, od41, .func (PySem.W.fnOf "_law_pick" "_law_pick" (defArgs sLawPick) (defBody sLawPick) (defScope sLawPick) .none kV41 dc41 pm41 an41 cd41 ct41), sl41⟩) (c41 : PySem.W.codeIn K cd41 "_law_pick" = true) (k41 : PySem.W.keepIn K (.ref f41) = true)
    {f42 : Addr} {od42 an42 : Option Addr} {sl42 : Array (Option Value)} {oc42 kV42 dc42 pm42 ct42 cd42 : Value}
    (a42 : PySem.W.nsIn K mainGlobals "_law_word" = some (some (.ref f42))) (l42 : K.lookup f42 = some ⟨oc42, od42, .func (PySem.W.fnOf "_law_word" "_law_word" (defArgs sLawWord) (defBody sLawWord) (defScope sLawWord) .none kV42 dc42 pm42 an42 cd42 ct42), sl42⟩) (c42 : PySem.W.codeIn K cd42 "_law_word" = true) (k42 : PySem.W.keepIn K (.ref f42) = true)
    {f43 : Addr} {od43 an43 : Option Addr} {sl43 : Array (Option Value)} {oc43 kV43 dc43 pm43 ct43 cd43 : Value}
    (a43 : PySem.W.nsIn K mainGlobals "law" = some (some (.ref f43))) (l43 : K.lookup f43 = some ⟨oc43, od43, .func (PySem.W.fnOf "law" "law" (defArgs sLaw) (defBody sLaw) (defScope sLaw) .none kV43 dc43 pm43 an43 cd43 ct43), sl43⟩) (c43 : PySem.W.codeIn K cd43 "law" = true) (k43 : PySem.W.keepIn K (.ref f43) = true)
    (z_isinstance : PySem.W.nsIn K mainGlobals "isinstance" = some none)
    (z_int : PySem.W.nsIn K mainGlobals "int" = some none)
    (z_bool : PySem.W.nsIn K mainGlobals "bool" = some none)
    (z_tuple : PySem.W.nsIn K mainGlobals "tuple" = some none)
    (z_len : PySem.W.nsIn K mainGlobals "len" = some none)
    (z_all : PySem.W.nsIn K mainGlobals "all" = some none)
    (z_any : PySem.W.nsIn K mainGlobals "any" = some none)
    (z_enumerate : PySem.W.nsIn K mainGlobals "enumerate" = some none)
    (z_range : PySem.W.nsIn K mainGlobals "range" = some none)
    (z_str : PySem.W.nsIn K mainGlobals "str" = some none)
    (z_sum : PySem.W.nsIn K mainGlobals "sum" = some none)
    (z_sorted : PySem.W.nsIn K mainGlobals "sorted" = some none)
    (z_max : PySem.W.nsIn K mainGlobals "max" = some none)
    (z_abs : PySem.W.nsIn K mainGlobals "abs" = some none)
    (z_min : PySem.W.nsIn K mainGlobals "min" = some none)
    {t_ALPHABET : Tok} (k_ALPHABET : PySem.W.nsIn K mainGlobals "ALPHABET" = some (some (.str (Str.ofString "abcdefgh") t_ALPHABET)))
    {t_MOST_LETTERS : Tok} (k_MOST_LETTERS : PySem.W.nsIn K mainGlobals "MOST_LETTERS" = some (some (.int 8 t_MOST_LETTERS)))
    {t_MOST_WORD : Tok} (k_MOST_WORD : PySem.W.nsIn K mainGlobals "MOST_WORD" = some (some (.int 60 t_MOST_WORD)))
    {t_SHORT_WORD : Tok} (k_SHORT_WORD : PySem.W.nsIn K mainGlobals "SHORT_WORD" = some (some (.int 12 t_SHORT_WORD)))
    {t_MOST_MET : Tok} (k_MOST_MET : PySem.W.nsIn K mainGlobals "MOST_MET" = some (some (.int 4000 t_MOST_MET)))
    : LawAtS l w K CX0 8 63 "_law_script" mg fa h := by
  have e := hfa.symm.trans (PySem.W.mg_of X G a43)
  cases e
  have T : Tx K mg := {
    dWhole := def_mk X G a0 l0 c0 k0 fun _ _ _ _ _ _ us hl => match us, hl with | [_], _ => rfl
    dWithin := def_mk X G a1 l1 c1 k1 fun _ _ _ _ _ _ us hl => match us, hl with | [_, _, _], _ => rfl
    dNeedNumber := def_mk X G a2 l2 c2 k2 fun _ _ _ _ _ _ us hl => match us, hl with | [_, _, _], _ => rfl
    dTupleOf := def_mk X G a3 l3 c3 k3 fun _ _ _ _ _ _ us hl => match us, hl with | [_, _, _], _ => rfl
    dIsPair := def_mk X G a4 l4 c4 k4 fun _ _ _ _ _ _ us hl => match us, hl with | [_, _], _ => rfl
    dNeedCompany := def_mk X G a5 l5 c5 k5 fun _ _ _ _ _ _ us hl => match us, hl with | [_], _ => rfl
    dIsWord := def_mk X G a6 l6 c6 k6 fun _ _ _ _ _ _ us hl => match us, hl with | [_, _, _], _ => rfl
    dNeedWord := def_mk X G a7 l7 c7 k7 fun _ _ _ _ _ _ us hl => match us, hl with | [_, _], _ => rfl
    dNeedShort := def_mk X G a8 l8 c8 k8 fun _ _ _ _ _ _ us hl => match us, hl with | [_, _], _ => rfl
    dLettersOf := def_mk X G a9 l9 c9 k9 fun _ _ _ _ _ _ us hl => match us, hl with | [_], _ => rfl
    dFriendsOfAll := def_mk X G a10 l10 c10 k10 fun _ _ _ _ _ _ us hl => match us, hl with | [_], _ => rfl
    dBits := def_mk X G a11 l11 c11 k11 fun _ _ _ _ _ _ us hl => match us, hl with | [_], _ => rfl
    dCrossed := def_mk X G a12 l12 c12 k12 fun _ _ _ _ _ _ us hl => match us, hl with | [_, _, _], _ => rfl
    dJoined := def_mk X G a13 l13 c13 k13 fun _ _ _ _ _ _ us hl => match us, hl with | [_, _, _], _ => rfl
    dOuter := def_mk X G a14 l14 c14 k14 fun _ _ _ _ _ _ us hl => match us, hl with | [_], _ => rfl
    dNeedBoth := def_mk X G a15 l15 c15 k15 fun _ _ _ _ _ _ us hl => match us, hl with | [_, _], _ => rfl
    dKindOf := def_mk X G a16 l16 c16 k16 fun _ _ _ _ _ _ us hl => match us, hl with | [_, _], _ => rfl
    dAreOne := def_mk X G a17 l17 c17 k17 fun _ _ _ _ _ _ us hl => match us, hl with | [_, _, _], _ => rfl
    dNormalOf := def_mk X G a18 l18 c18 k18 fun _ _ _ _ _ _ us hl => match us, hl with | [_], _ => rfl
    dFriendly := def_mk X G a19 l19 c19 k19 fun _ _ _ _ _ _ us hl => match us, hl with | [_, _, _], _ => rfl
    dShorter := def_mk X G a20 l20 c20 k20 fun _ _ _ _ _ _ us hl => match us, hl with | [_, _], _ => rfl
    dLonger := def_mk X G a21 l21 c21 k21 fun _ _ _ _ _ _ us hl => match us, hl with | [_, _], _ => rfl
    dChanged := def_mk X G a22 l22 c22 k22 fun _ _ _ _ _ _ us hl => match us, hl with | [_, _], _ => rfl
    dSpread := def_mk X G a24 l24 c24 k24 fun _ _ _ _ _ _ us hl => match us, hl with | [_, _, _], _ => rfl
    dNeedSpread := def_mk X G a25 l25 c25 k25 fun _ _ _ _ _ _ us hl => match us, hl with | [_, _, _], _ => rfl
    dLeastSteps := def_mk X G a27 l27 c27 k27 fun _ _ _ _ _ _ us hl => match us, hl with | [_, _, _, _], _ => rfl
    dLeastWay := def_mk X G a28 l28 c28 k28 fun _ _ _ _ _ _ us hl => match us, hl with | [_, _, _, _], _ => rfl
    dChangedAt := def_mk X G a29 l29 c29 k29 fun _ _ _ _ _ _ us hl => match us, hl with | [_, _, _, _], _ => rfl
    dCarry := def_mk X G a30 l30 c30 k30 fun _ _ _ _ _ _ us hl => match us, hl with | [_, _, _], _ => rfl
    dFirstIll := def_mk X G a31 l31 c31 k31 fun _ _ _ _ _ _ us hl => match us, hl with | [_, _, _], _ => rfl
    dOrdered := def_mk X G a32 l32 c32 k32 fun _ _ _ _ _ _ us hl => match us, hl with | [_, _], _ => rfl
    dRelieveAll := def_mk X G a33 l33 c33 k33 fun _ _ _ _ _ _ us hl => match us, hl with | [_, _, _], _ => rfl
    dFriendOf := def_mk X G a34 l34 c34 k34 fun _ _ _ _ _ _ us hl => match us, hl with | [_, _], _ => rfl
    dRelieved := def_mk X G a35 l35 c35 k35 fun _ _ _ _ _ _ us hl => match us, hl with | [_, _, _], _ => rfl
    dToNormal := def_mk X G a36 l36 c36 k36 fun _ _ _ _ _ _ us hl => match us, hl with | [_, _], _ => rfl
    dNeedTwo := def_mk X G a37 l37 c37 k37 fun _ _ _ _ _ _ us hl => match us, hl with | [_, _, _], _ => rfl
    dWay := def_mk X G a38 l38 c38 k38 fun _ _ _ _ _ _ us hl => match us, hl with | [_, _, _], _ => rfl
    dLawTaken := def_mk X G a39 l39 c39 k39 fun _ _ _ _ _ _ us hl => match us, hl with | [_, _], _ => rfl
    dLawCompany := def_mk X G a40 l40 c40 k40 fun _ _ _ _ _ _ us hl => match us, hl with | [_, _], _ => rfl
    dLawPick := def_mk X G a41 l41 c41 k41 fun _ _ _ _ _ _ us hl => match us, hl with | [_, _], _ => rfl
    dLawWord := def_mk X G a42 l42 c42 k42 fun _ _ _ _ _ _ us hl => match us, hl with | [_, _, _], _ => rfl
    z_isinstance := PySem.W.mg_none_of X G z_isinstance
    z_int := PySem.W.mg_none_of X G z_int
    z_bool := PySem.W.mg_none_of X G z_bool
    z_tuple := PySem.W.mg_none_of X G z_tuple
    z_len := PySem.W.mg_none_of X G z_len
    z_all := PySem.W.mg_none_of X G z_all
    z_any := PySem.W.mg_none_of X G z_any
    z_enumerate := PySem.W.mg_none_of X G z_enumerate
    z_range := PySem.W.mg_none_of X G z_range
    z_str := PySem.W.mg_none_of X G z_str
    z_sum := PySem.W.mg_none_of X G z_sum
    z_sorted := PySem.W.mg_none_of X G z_sorted
    z_max := PySem.W.mg_none_of X G z_max
    z_abs := PySem.W.mg_none_of X G z_abs
    z_min := PySem.W.mg_none_of X G z_min
    k_ALPHABET := ⟨_, PySem.W.mg_of X G k_ALPHABET⟩
    k_MOST_LETTERS := ⟨_, PySem.W.mg_of X G k_MOST_LETTERS⟩
    k_MOST_WORD := ⟨_, PySem.W.mg_of X G k_MOST_WORD⟩
    k_SHORT_WORD := ⟨_, PySem.W.mg_of X G k_SHORT_WORD⟩
    k_MOST_MET := ⟨_, PySem.W.mg_of X G k_MOST_MET⟩
  }
  refine ⟨PySem.W.fnOf "law" "law" (defArgs sLaw) (defBody sLaw) (defScope sLaw) .none kV43 dc43 pm43 an43 cd43 ct43, [(cS, P1), (cW, P2)], spLaw K P1 P2, fun p hp => ?_, fun p hp => ?_, fun p hp => ?_, fun s v => .of_eq rfl, fun H a ns hl hb hH hs => ⟨a, ns, rfl, hs, tab_nil (hH _ (.head _)) (hH _ (.tail _ (.head _))), fun _ => rfl⟩, fun base KB GB TBs => ?_⟩
  · rcases List.mem_cons.mp hp with rfl | hp
    · exact t1
    · rw [List.mem_singleton.mp hp]
      exact t2
  · rcases List.mem_cons.mp hp with rfl | hp
    · exact n1
    · rw [List.mem_singleton.mp hp]
      exact n2
  · rcases List.mem_cons.mp hp with rfl | hp
    · exact PySem.W.codeHd_of_K X hS
    · rw [List.mem_singleton.mp hp]
      exact PySem.W.codeHd_of_K X hW
  · have DS : DefC K mg "steps_of" sStepsOf ["told", "word", "most"] f23 cS _ := ⟨fun_mk l23 c23 k23, PySem.W.mg_of X G a23, (fun_mk l23 c23 k23).binds fun _ _ _ _ _ _ us hl => match us, hl with | [_, _, _], _ => rfl, _, _, _, _, _, _, _, _, rfl, l23, c23⟩
    have DW : DefC K mg "words_within" sWordsWithin ["company", "word", "most"] f26 cW _ := ⟨fun_mk l26 c26 k26, PySem.W.mg_of X G a26, (fun_mk l26 c26 k26).binds fun _ _ _ _ _ _ us hl => match us, hl with | [_, _, _], _ => rfl, _, _, _, _, _, _, _, _, rfl, l26, c26⟩
    exact okLaw T ⟨⟨_, _, _, DS, TBs _ (.head _)⟩, ⟨_, _, _, DW, TBs _ (.tail _ (.head _))⟩, ne⟩ (fun_mk l43 c43 k43)

theorem walk {l : PySem.W.OpenLaw} {q : Program} {loose : List Str} {XP : (Str → Option Value) → Heap → Prop} {YP : World → Heap → Prop} {d : DefRec} {K : Params → PySem.W.Frag} (hn : l.most = some 63) (hdf : d.params.defaults = [])
    (hY : ∀ (w : World) (h : Heap), YP w h → (K w.params).In h)
    (F : ∀ (w : World) (mg : Str → Option Value) (fa : Addr) (h : Heap), YP w h → (K w.params).In h → h.Ns mainGlobals mg → mg d.name = some (.ref fa) → LawAtS l w (K w.params) CX0 8 63 "_law_script" mg fa h) :
    PySem.W.WalkO q loose XP YP l.row.toRowW d [] (fun f vs => PySem.call f vs) :=
  walk_ofTs (n := 63) (k := 8) (x := "_law_script") (CX := fun _ => CX0) hn (by decide) hdf ⟨rfl, by decide, by decide⟩ hY F fun _ _ _ _ _ z => z
end Cw

open PySem PySem.W PyProof.Rows
set_option maxRecDepth 100000 in
set_option maxHeartbeats 0 in
theorem PySem.Challenge.cw_chumwords_k96_whole_least_way_bounds_holds : PySem.Challenge.rw_chumwords_k96_whole_least_way_bounds.Holds := by
  w_on; o_law; k_head; (case hw => w_witness2)
  k_fill
  refine Cw.walk (l := PySem.Challenge.rw_chumwords_k96_whole_least_way_bounds) rfl rfl (fun w h Y => PySem.W.km_in_of Y) ?F
  case F =>
    intro w mg fa h Y KX G hmg
    refine' Cw.all_mk (P1 := 240) (P2 := 259) KX G hmg (by decide) ?t1 ?t2 ?n1 ?n2 ?hS ?hW ?a0 ?l0 ?c0 ?k0 ?a1 ?l1 ?c1 ?k1 ?a2 ?l2 ?c2 ?k2 ?a3 ?l3 ?c3 ?k3 ?a4 ?l4 ?c4 ?k4 ?a5 ?l5 ?c5 ?k5 ?a6 ?l6 ?c6 ?k6 ?a7 ?l7 ?c7 ?k7 ?a8 ?l8 ?c8 ?k8 ?a9 ?l9 ?c9 ?k9 ?a10 ?l10 ?c10 ?k10 ?a11 ?l11 ?c11 ?k11 ?a12 ?l12 ?c12 ?k12 ?a13 ?l13 ?c13 ?k13 ?a14 ?l14 ?c14 ?k14 ?a15 ?l15 ?c15 ?k15 ?a16 ?l16 ?c16 ?k16 ?a17 ?l17 ?c17 ?k17 ?a18 ?l18 ?c18 ?k18 ?a19 ?l19 ?c19 ?k19 ?a20 ?l20 ?c20 ?k20 ?a21 ?l21 ?c21 ?k21 ?a22 ?l22 ?c22 ?k22 ?a23 ?l23 ?c23 ?k23 ?a24 ?l24 ?c24 ?k24 ?a25 ?l25 ?c25 ?k25 ?a26 ?l26 ?c26 ?k26 ?a27 ?l27 ?c27 ?k27 ?a28 ?l28 ?c28 ?k28 ?a29 ?l29 ?c29 ?k29 ?a30 ?l30 ?c30 ?k30 ?a31 ?l31 ?c31 ?k31 ?a32 ?l32 ?c32 ?k32 ?a33 ?l33 ?c33 ?k33 ?a34 ?l34 ?c34 ?k34 ?a35 ?l35 ?c35 ?k35 ?a36 ?l36 ?c36 ?k36 ?a37 ?l37 ?c37 ?k37 ?a38 ?l38 ?c38 ?k38 ?a39 ?l39 ?c39 ?k39 ?a40 ?l40 ?c40 ?k40 ?a41 ?l41 ?c41 ?k41 ?a42 ?l42 ?c42 ?k42 ?a43 ?l43 ?c43 ?k43 ?z_isinstance ?z_int ?z_bool ?z_tuple ?z_len ?z_all ?z_any ?z_enumerate ?z_range ?z_str ?z_sum ?z_sorted ?z_max ?z_abs ?z_min ?k_ALPHABET ?k_MOST_LETTERS ?k_MOST_WORD ?k_SHORT_WORD ?k_MOST_MET
    (case t1 => exact PySem.W.km_tabs_of Y 240 (by decide)); (case t2 => exact PySem.W.km_tabs_of Y 259 (by decide))
    (case a0 => k_is); (case l0 => k_is); (case c0 => k_is); (case k0 => k_is)
    (case a1 => k_is); (case l1 => k_is); (case c1 => k_is); (case k1 => k_is)
    (case a2 => k_is); (case l2 => k_is); (case c2 => k_is); (case k2 => k_is)
    (case a3 => k_is); (case l3 => k_is); (case c3 => k_is); (case k3 => k_is)
    (case a4 => k_is); (case l4 => k_is); (case c4 => k_is); (case k4 => k_is)
    (case a5 => k_is); (case l5 => k_is); (case c5 => k_is); (case k5 => k_is)
    (case a6 => k_is); (case l6 => k_is); (case c6 => k_is); (case k6 => k_is)
    (case a7 => k_is); (case l7 => k_is); (case c7 => k_is); (case k7 => k_is)
    (case a8 => k_is); (case l8 => k_is); (case c8 => k_is); (case k8 => k_is)
    (case a9 => k_is); (case l9 => k_is); (case c9 => k_is); (case k9 => k_is)
    (case a10 => k_is); (case l10 => k_is); (case c10 => k_is); (case k10 => k_is)
    (case a11 => k_is); (case l11 => k_is); (case c11 => k_is); (case k11 => k_is)
    (case a12 => k_is); (case l12 => k_is); (case c12 => k_is); (case k12 => k_is)
    (case a13 => k_is); (case l13 => k_is); (case c13 => k_is); (case k13 => k_is)
    (case a14 => k_is); (case l14 => k_is); (case c14 => k_is); (case k14 => k_is)
    (case a15 => k_is); (case l15 => k_is); (case c15 => k_is); (case k15 => k_is)
    (case a16 => k_is); (case l16 => k_is); (case c16 => k_is); (case k16 => k_is)
    (case a17 => k_is); (case l17 => k_is); (case c17 => k_is); (case k17 => k_is)
    (case a18 => k_is); (case l18 => k_is); (case c18 => k_is); (case k18 => k_is)
    (case a19 => k_is); (case l19 => k_is); (case c19 => k_is); (case k19 => k_is)
    (case a20 => k_is); (case l20 => k_is); (case c20 => k_is); (case k20 => k_is)
    (case a21 => k_is); (case l21 => k_is); (case c21 => k_is); (case k21 => k_is)
    (case a22 => k_is); (case l22 => k_is); (case c22 => k_is); (case k22 => k_is)
    (case a23 => k_is); (case l23 => k_is); (case c23 => k_is); (case k23 => k_is)
    (case a24 => k_is); (case l24 => k_is); (case c24 => k_is); (case k24 => k_is)
    (case a25 => k_is); (case l25 => k_is); (case c25 => k_is); (case k25 => k_is)
    (case a26 => k_is); (case l26 => k_is); (case c26 => k_is); (case k26 => k_is)
    (case a27 => k_is); (case l27 => k_is); (case c27 => k_is); (case k27 => k_is)
    (case a28 => k_is); (case l28 => k_is); (case c28 => k_is); (case k28 => k_is)
    (case a29 => k_is); (case l29 => k_is); (case c29 => k_is); (case k29 => k_is)
    (case a30 => k_is); (case l30 => k_is); (case c30 => k_is); (case k30 => k_is)
    (case a31 => k_is); (case l31 => k_is); (case c31 => k_is); (case k31 => k_is)
    (case a32 => k_is); (case l32 => k_is); (case c32 => k_is); (case k32 => k_is)
    (case a33 => k_is); (case l33 => k_is); (case c33 => k_is); (case k33 => k_is)
    (case a34 => k_is); (case l34 => k_is); (case c34 => k_is); (case k34 => k_is)
    (case a35 => k_is); (case l35 => k_is); (case c35 => k_is); (case k35 => k_is)
    (case a36 => k_is); (case l36 => k_is); (case c36 => k_is); (case k36 => k_is)
    (case a37 => k_is); (case l37 => k_is); (case c37 => k_is); (case k37 => k_is)
    (case a38 => k_is); (case l38 => k_is); (case c38 => k_is); (case k38 => k_is)
    (case a39 => k_is); (case l39 => k_is); (case c39 => k_is); (case k39 => k_is)
    (case a40 => k_is); (case l40 => k_is); (case c40 => k_is); (case k40 => k_is)
    (case a41 => k_is); (case l41 => k_is); (case c41 => k_is); (case k41 => k_is)
    (case a42 => k_is); (case l42 => k_is); (case c42 => k_is); (case k42 => k_is)
    (case a43 => k_is); (case l43 => k_is); (case c43 => k_is); (case k43 => k_is)
    (case z_isinstance => k_is)
    (case z_int => k_is)
    (case z_bool => k_is)
    (case z_tuple => k_is)
    (case z_len => k_is)
    (case z_all => k_is)
    (case z_any => k_is)
    (case z_enumerate => k_is)
    (case z_range => k_is)
    (case z_str => k_is)
    (case z_sum => k_is)
    (case z_sorted => k_is)
    (case z_max => k_is)
    (case z_abs => k_is)
    (case z_min => k_is)
    (case k_ALPHABET => k_is)
    (case k_MOST_LETTERS => k_is)
    (case k_MOST_WORD => k_is)
    (case k_SHORT_WORD => k_is)
    (case k_MOST_MET => k_is)
    (case n1 => kernel_rfl); (case n2 => kernel_rfl); (case hS => kernel_rfl); (case hW => kernel_rfl)
