import PyProof.Rows.All
import Wide.All
import OpenK.AllK
import Wide.FinOn
import HandS.ForMost
import HandS.Defaults
import HandS.IsInst
import HandS.Wide
import HandS.WideMore
import HandS.Conv
import HandS.Walk
import HandS.Flow
import HandS.Codes
import HandS.Style
import PySem.Challenge.RW_samewell_k12_whole_way_or_case
set_option Elab.async false
set_option linter.all false
set_option maxRecDepth 100000
set_option maxHeartbeats 8000000
/-! The plain law of k12: filters, powers, the closure, ways, papers. No program in sight. -/
namespace K12
/-! ### filters -/
structure PF (D : Nat → Prop) : Prop where
  zero : D 0
  one : ¬ D 1
  lcm : ∀ a b, D (Nat.lcm a b) ↔ D a ∨ D b
  gcd : ∀ a b, D (Nat.gcd a b) ↔ D a ∧ D b

def Prime (p : Nat) : Prop := 2 ≤ p ∧ ∀ e, e ∣ p → e = 1 ∨ e = p

theorem Prime.cop {p : Nat} (h : Prime p) {x : Nat} (hx : ¬ p ∣ x) : Nat.Coprime p x := by
  rcases h.2 (Nat.gcd p x) (Nat.gcd_dvd_left p x) with e | e
  · exact e
  · exact absurd (e ▸ Nat.gcd_dvd_right p x) hx

theorem Prime.euclid {p : Nat} (h : Prime p) {x y : Nat} (hd : p ∣ x * y) : p ∣ x ∨ p ∣ y := by
  by_cases hx : p ∣ x
  · exact .inl hx
  · exact .inr ((h.cop hx).dvd_of_dvd_mul_left hd)

/-- x = p^i * x', p not in x' -/
theorem split_pow {p : Nat} (hp : 2 ≤ p) : ∀ (n x : Nat), x ≤ n → 0 < x → ∃ i x', x = p ^ i * x' ∧ ¬ p ∣ x'
  | 0, x, h, h0 => by omega
  | n + 1, x, h, h0 => by
    by_cases hd : p ∣ x
    · obtain ⟨y, rfl⟩ := hd
      have hy : 0 < y := Nat.pos_of_ne_zero fun e => by subst e; omega
      have hlt : y < p * y := by
        have := Nat.mul_le_mul_right y hp
        omega
      obtain ⟨i, x', e, h'⟩ := split_pow hp n y (by omega) hy
      exact ⟨i + 1, x', by rw [e, Nat.pow_succ, Nat.mul_comm (p ^ i) p, Nat.mul_assoc], h'⟩
    · exact ⟨0, x, by simp, hd⟩

theorem Prime.pow_lcm {p k : Nat} (h : Prime p) {a b : Nat} (hd : p ^ k ∣ Nat.lcm a b) : p ^ k ∣ a ∨ p ^ k ∣ b := by
  by_cases ha0 : a = 0
  · subst ha0; exact .inl (Nat.dvd_zero _)
  by_cases hb0 : b = 0
  · subst hb0; exact .inr (Nat.dvd_zero _)
  obtain ⟨i, a', ea, ha⟩ := split_pow h.1 a a (Nat.le_refl _) (Nat.pos_of_ne_zero ha0)
  obtain ⟨j, b', eb, hb⟩ := split_pow h.1 b b (Nat.le_refl _) (Nat.pos_of_ne_zero hb0)
  by_cases hi : k ≤ i
  · exact .inl (Nat.dvd_trans (Nat.pow_dvd_pow p hi) ⟨a', ea⟩)
  by_cases hj : k ≤ j
  · exact .inr (Nat.dvd_trans (Nat.pow_dvd_pow p hj) ⟨b', eb⟩)
  exfalso
  -- lcm a b divides p^m * (a' * b'), m = max i j < k
  have hm : ∃ m, m < k ∧ i ≤ m ∧ j ≤ m := ⟨max i j, by omega, by omega, by omega⟩
  obtain ⟨m, hk, him, hjm⟩ := hm
  have l1 : a ∣ p ^ m * (a' * b') := by
    rw [ea]
    exact Nat.mul_dvd_mul (Nat.pow_dvd_pow p him) (Nat.dvd_mul_right a' b')
  have l2 : b ∣ p ^ m * (a' * b') := by
    rw [eb]
    exact Nat.mul_dvd_mul (Nat.pow_dvd_pow p hjm) (Nat.dvd_mul_left b' a')
  have l3 : p ^ (m + 1) ∣ p ^ m * (a' * b') := Nat.dvd_trans (Nat.pow_dvd_pow p hk) (Nat.dvd_trans hd (Nat.lcm_dvd l1 l2))
  rw [Nat.pow_succ] at l3
  have hpm : 0 < p ^ m := Nat.pow_pos (by have := h.1; omega)
  have l4 : p ∣ a' * b' := Nat.dvd_of_mul_dvd_mul_left hpm l3
  rcases h.euclid l4 with z | z
  · exact ha z
  · exact hb z

theorem pf_pow {p k : Nat} (h : Prime p) (hk : 0 < k) : PF (fun x => p ^ k ∣ x) where
  zero := Nat.dvd_zero _
  one := fun z => by
    have e := Nat.dvd_one.mp z
    have : 1 < p ^ k := Nat.one_lt_pow (by omega) (by have := h.1; omega)
    omega
  lcm := fun a b => ⟨h.pow_lcm, fun z => z.elim (fun z => Nat.dvd_trans z (Nat.dvd_lcm_left a b)) fun z => Nat.dvd_trans z (Nat.dvd_lcm_right a b)⟩
  gcd := fun a b => Nat.dvd_gcd_iff

theorem pf_zero : PF (fun x => 0 ∣ x) where
  zero := Nat.dvd_zero _
  one := fun z => by have := Nat.eq_zero_of_zero_dvd z; omega
  lcm := fun a b => by simp only [Nat.zero_dvd]; exact Nat.lcm_eq_zero_iff
  gcd := fun a b => Nat.dvd_gcd_iff

/-! ### powers -/
/-- what powers(n) hands back -/
structure PowOf (n : Nat) (ps : List Nat) : Prop where
  each : ∀ q ∈ ps, PF (fun x => q ∣ x) ∧ q ∣ n
  all : ∀ x, (∀ q ∈ ps, q ∣ x) → n ∣ x

/-- the outer loop's invariant: found, the number left, the next prime -/
structure PowInv (n : Nat) (ps : List Nat) (m d : Nat) : Prop where
  each : ∀ q ∈ ps, PF (fun x => q ∣ x) ∧ q ∣ n
  dvd : m ∣ n
  pos : 0 < m
  all : ∀ x, (∀ q ∈ ps, q ∣ x) → m ∣ x → n ∣ x
  low : ∀ e, 2 ≤ e → e < d → ¬ e ∣ m
  two : 2 ≤ d
  len : ps.length + m ≤ n

theorem PowInv.start {n : Nat} (h : 0 < n) : PowInv n [] n 2 :=
  ⟨fun q hq => (by cases hq), Nat.dvd_refl _, h, fun x _ z => z, fun e h1 h2 => (by omega), Nat.le_refl _, (by simp)⟩
theorem PowInv.done {n m d : Nat} {ps : List Nat} (h : PowInv n ps m d) (hm : m ≤ 1) : PowOf n ps := by
  have e : m = 1 := by have := h.pos; omega
  subst e
  exact ⟨h.each, fun x hx => h.all x hx (Nat.one_dvd x)⟩
theorem PowInv.le {n m d : Nat} {ps : List Nat} (h : PowInv n ps m d) : m ≤ n := by have := h.len; omega

/-- the next prime as the turn takes it -/
def nextP (m d : Nat) : Nat := if m < d * d then m else d
theorem PowInv.nextP_ge {n m d : Nat} {ps : List Nat} (h : PowInv n ps m d) (hm : 1 < m) : d ≤ nextP m d := by
  unfold nextP
  split
  · exact Nat.le_of_not_lt fun z => h.low m hm z (Nat.dvd_refl m)
  · exact Nat.le_refl _
theorem PowInv.nextP_le {n m d : Nat} {ps : List Nat} (h : PowInv n ps m d) (hm : 1 < m) : nextP m d ≤ m := by
  unfold nextP
  split
  · exact Nat.le_refl _
  · have := h.two
    have : d * 1 ≤ d * d := Nat.mul_le_mul_left d (by omega)
    omega
theorem PowInv.prime {n m d : Nat} {ps : List Nat} (h : PowInv n ps m d) (hm : 1 < m) (hd : nextP m d ∣ m) : Prime (nextP m d) := by
  have ge := h.nextP_ge hm
  have two := h.two
  refine ⟨by omega, fun e he => ?_⟩
  have em : e ∣ m := Nat.dvd_trans he hd
  have hpos : 0 < m := h.pos
  have e0 : e ≠ 0 := fun z => by subst z; have := Nat.eq_zero_of_zero_dvd em; omega
  by_cases e1 : e = 1
  · exact .inl e1
  right
  have ed : d ≤ e := Nat.le_of_not_lt fun z => h.low e (by omega) z em
  unfold nextP at he ⊢
  split at he
  · rename_i hlt
    rw [if_pos hlt]
    obtain ⟨f, rfl⟩ := he
    by_cases f1 : f = 1
    · subst f1; simp
    exfalso
    have f0 : f ≠ 0 := fun z => by subst z; simp at hpos
    have fd : d ≤ f := Nat.le_of_not_lt fun z => h.low f (by omega) z (Nat.dvd_mul_left f e)
    have := Nat.mul_le_mul ed fd
    omega
  · rename_i hlt
    rw [if_neg hlt]
    have := Nat.le_of_dvd (by omega) he
    omega

/-- the inner loop's invariant: p^k * m' = m -/
theorem PowInv.step {n m d : Nat} {ps : List Nat} (h : PowInv n ps m d) (hm : 1 < m) {k m' : Nat} (em : nextP m d ^ k * m' = m) (hn : ¬ nextP m d ∣ m') :
    PowInv n (if 1 < nextP m d ^ k then ps ++ [nextP m d ^ k] else ps) m' (nextP m d + 1) := by
  have ge := h.nextP_ge hm
  have two := h.two
  have hpos := h.pos
  have d' : m' ∣ m := ⟨nextP m d ^ k, by rw [Nat.mul_comm]; exact em.symm⟩
  have m0 : 0 < m' := Nat.pos_of_ne_zero fun z => by subst z; omega
  have low : ∀ e, 2 ≤ e → e < nextP m d + 1 → ¬ e ∣ m' := fun e h2 hlt he => by
    by_cases c : e < d
    · exact h.low e h2 c (Nat.dvd_trans he d')
    by_cases c2 : e = nextP m d
    · exact hn (c2 ▸ he)
    -- d ≤ e < nextP: then nextP = m is prime
    have hP : nextP m d ∣ m := by
      unfold nextP at c2 hlt ⊢
      split
      · exact Nat.dvd_refl _
      · rename_i z
        rw [if_neg z] at hlt c2
        omega
    have hm' : nextP m d = m := by
      unfold nextP at c2 hlt ⊢
      split
      · rfl
      · rename_i z
        rw [if_neg z] at hlt c2
        omega
    have hpr := h.prime hm hP
    rcases hpr.2 e (by rw [hm']; exact Nat.dvd_trans he d') with z | z
    · omega
    · exact c2 z
  by_cases hk : k = 0
  · subst hk
    have e1 : m' = m := by simpa using em
    subst e1
    rw [if_neg (by simp)]
    exact ⟨h.each, h.dvd, h.pos, h.all, low, by omega, h.len⟩
  · have hP : nextP m d ∣ m := by
      obtain ⟨j, rfl⟩ : ∃ j, k = j + 1 := ⟨k - 1, by omega⟩
      refine ⟨nextP m d ^ j * m', ?_⟩
      have e := em
      rw [Nat.pow_succ, Nat.mul_comm (nextP m d ^ j), Nat.mul_assoc] at e
      exact e.symm
    have hpr := h.prime hm hP
    have hgt : 1 < nextP m d ^ k := Nat.one_lt_pow hk (by omega)
    rw [if_pos hgt]
    have hq : nextP m d ^ k ∣ m := ⟨m', em.symm⟩
    refine ⟨fun q hq' => ?_, Nat.dvd_trans d' h.dvd, m0, fun x hx hx' => ?_, low, by omega, ?_⟩
    · rcases List.mem_append.mp hq' with z | z
      · exact h.each q z
      · rw [List.mem_singleton.mp z]
        exact ⟨pf_pow hpr (by omega), Nat.dvd_trans hq h.dvd⟩
    · refine h.all x (fun q hq' => hx q (List.mem_append_left _ hq')) ?_
      rw [← em]
      have cp : Nat.Coprime (nextP m d ^ k) m' := (hpr.cop hn).pow_left k
      exact cp.mul_dvd_of_dvd_of_dvd (hx _ (List.mem_append_right _ (List.mem_singleton.mpr rfl))) hx'
    · have hlt : m' < m := by
        have := Nat.mul_le_mul_right m' hgt
        omega
      have := h.len
      rw [List.length_append, List.length_singleton]
      omega
end K12

/-! The closure: its stages, and what a filter sees of it. -/
namespace K12
abbrev Tie := Nat × Nat × Nat
abbrev Grid := Nat → Nat → Nat
def g0 : Grid := fun i j => if i = j then 0 else 1
def set2 (g : Grid) (u v x : Nat) : Grid := fun i j => if i = u ∧ j = v then x else g i j
def tieStep (g : Grid) (t : Tie) : Grid := set2 (set2 g t.1 t.2.1 (Nat.lcm (g t.1 t.2.1) t.2.2)) t.2.1 t.1 (Nat.lcm (g t.1 t.2.1) t.2.2)
def nearOf (n : Nat) (row : Nat → Nat) : List (Nat × Nat) := ((List.range n).map fun j => (j, row j)).filter fun p => decide (p.2 ≠ 1)
def rowStep (k : Nat) (f : Nat → Nat) (p : Nat × Nat) : Nat → Nat := fun j => if j = p.1 then Nat.lcm (f p.1) (Nat.gcd (f k) p.2) else f j
def rowFold (k : Nat) (near : List (Nat × Nat)) (f : Nat → Nat) : Nat → Nat := near.foldl (rowStep k) f
def stageStep (near : List (Nat × Nat)) (k : Nat) (g : Grid) (i : Nat) : Grid := fun i' => if i' = i then (if g i k ≠ 1 then rowFold k near (g i) else g i) else g i'
def stage (n : Nat) (g : Grid) (k : Nat) : Grid := (List.range n).foldl (stageStep (nearOf n (g k)) k) g
def closureOf (n : Nat) (ts : List Tie) : Grid := (List.range n).foldl (stage n) (ts.foldl tieStep g0)

theorem lcm_one_right (a : Nat) : Nat.lcm a 1 = a := by simp
theorem lcm_self (a : Nat) : Nat.lcm a a = a := by simp

theorem rowFold_eq (k : Nat) (h : Nat → Nat) (hk : h k = 0) : ∀ (l : List (Nat × Nat)) (f : Nat → Nat), (l.map (·.1)).Nodup → (∀ p ∈ l, p.2 = h p.1) →
    rowFold k l f = fun j => if j ∈ l.map (·.1) then Nat.lcm (f j) (Nat.gcd (f k) (h j)) else f j
  | [], f, _, _ => by funext j; simp [rowFold]
  | p :: l, f, hn, hp => by
    obtain ⟨h1, h2⟩ := List.nodup_cons.mp (show (p.1 :: l.map (·.1)).Nodup from hn)
    have ih := rowFold_eq k h hk l (rowStep k f p) h2 fun q hq => hp q (List.mem_cons_of_mem _ hq)
    have ep : p.2 = h p.1 := hp p List.mem_cons_self
    have e : rowFold k (p :: l) f = rowFold k l (rowStep k f p) := rfl
    rw [e, ih]
    have fk : rowStep k f p k = f k := by
      unfold rowStep
      by_cases c : k = p.1
      · rw [if_pos c, ep, ← c, hk, Nat.gcd_zero_right, lcm_self]
      · rw [if_neg c]
    funext j
    rw [fk]
    by_cases hj : j ∈ l.map (·.1)
    · have hne : j ≠ p.1 := fun z => h1 (z ▸ hj)
      rw [if_pos hj, if_pos (show j ∈ (p :: l).map (·.1) from List.mem_cons_of_mem _ hj)]
      unfold rowStep
      rw [if_neg hne]
    · rw [if_neg hj]
      unfold rowStep
      by_cases c : j = p.1
      · rw [if_pos c, if_pos (show j ∈ (p :: l).map (·.1) from by rw [c]; exact List.mem_cons_self), ep, c]
      · rw [if_neg c, if_neg (show ¬ j ∈ (p :: l).map (·.1) from fun z => by
          rcases List.mem_cons.mp (show j ∈ p.1 :: l.map (·.1) from z) with z | z
          · exact c z
          · exact hj z)]

theorem nearOf_map (n : Nat) (row : Nat → Nat) : (nearOf n row).map (·.1) = (List.range n).filter fun j => decide (row j ≠ 1) := by
  unfold nearOf
  rw [List.filter_map, List.map_map]
  have : ((fun x : Nat × Nat => x.1) ∘ fun j => (j, row j)) = id := rfl
  rw [this, List.map_id]
  rfl
theorem nearOf_nodup (n : Nat) (row : Nat → Nat) : ((nearOf n row).map (·.1)).Nodup := by
  rw [nearOf_map]
  exact List.Pairwise.filter _ List.nodup_range
theorem nearOf_val {n : Nat} {row : Nat → Nat} {p : Nat × Nat} (h : p ∈ nearOf n row) : p.2 = row p.1 ∧ p.1 < n ∧ p.2 ≠ 1 := by
  unfold nearOf at h
  obtain ⟨h1, h2⟩ := List.mem_filter.mp h
  obtain ⟨j, hj, e⟩ := List.mem_map.mp h1
  subst e
  exact ⟨rfl, List.mem_range.mp hj, of_decide_eq_true h2⟩

theorem rowFold_near {n k : Nat} {row f : Nat → Nat} (hk : row k = 0) {j : Nat} (hj : j < n) : rowFold k (nearOf n row) f j = Nat.lcm (f j) (Nat.gcd (f k) (row j)) := by
  rw [rowFold_eq k row hk _ f (nearOf_nodup n row) fun p hp => (nearOf_val hp).1]
  by_cases c : j ∈ (nearOf n row).map (·.1)
  · exact if_pos c
  · refine Eq.trans (if_neg c) ?_
    have e : row j = 1 := by
      rw [nearOf_map] at c
      exact Classical.byContradiction fun z => c (List.mem_filter.mpr ⟨List.mem_range.mpr hj, decide_eq_true z⟩)
    rw [e, Nat.gcd_one_right, lcm_one_right]

theorem stageFold (near : List (Nat × Nat)) (k : Nat) : ∀ (l : List Nat) (g : Grid), l.Nodup → ∀ i, l.foldl (stageStep near k) g i = if i ∈ l then (if g i k ≠ 1 then rowFold k near (g i) else g i) else g i
  | [], g, _, i => by simp
  | a :: l, g, hn, i => by
    obtain ⟨h1, h2⟩ := List.nodup_cons.mp hn
    rw [List.foldl_cons, stageFold near k l _ h2 i]
    by_cases c : i ∈ l
    · have hne : i ≠ a := fun z => h1 (z ▸ c)
      have e : stageStep near k g a i = g i := if_neg hne
      rw [if_pos c, if_pos (List.mem_cons_of_mem _ c), e]
    · rw [if_neg c]
      by_cases c2 : i = a
      · subst c2
        rw [if_pos List.mem_cons_self]
        exact if_pos rfl
      · rw [if_neg (fun z => by rcases List.mem_cons.mp z with z | z; exact c2 z; exact c z)]
        exact if_neg c2
theorem stage_eq {n k : Nat} {g : Grid} (hk : g k k = 0) {i j : Nat} (hi : i < n) (hj : j < n) : stage n g k i j = Nat.lcm (g i j) (Nat.gcd (g i k) (g k j)) := by
  unfold stage
  rw [stageFold _ _ _ _ List.nodup_range, if_pos (List.mem_range.mpr hi)]
  by_cases c : g i k = 1
  · rw [if_neg (fun z => z c), c, Nat.gcd_one_left, lcm_one_right]
  · rw [if_pos c]
    exact rowFold_near hk hj

/-! ### what a filter sees -/
def Edge (ts : List Tie) (D : Nat → Prop) (i j : Nat) : Prop := ∃ t ∈ ts, D t.2.2 ∧ ((i = t.1 ∧ j = t.2.1) ∨ (i = t.2.1 ∧ j = t.1))
theorem Edge.symm {ts : List Tie} {D : Nat → Prop} {i j : Nat} (h : Edge ts D i j) : Edge ts D j i := by
  obtain ⟨t, ht, hd, h⟩ := h
  refine ⟨t, ht, hd, ?_⟩
  rcases h with ⟨a, b⟩ | ⟨a, b⟩
  · exact .inr ⟨b, a⟩
  · exact .inl ⟨b, a⟩

theorem tieStep_at (g : Grid) (t : Tie) (i j : Nat) : tieStep g t i j = if (i = t.1 ∧ j = t.2.1) ∨ (i = t.2.1 ∧ j = t.1) then Nat.lcm (g t.1 t.2.1) t.2.2 else g i j := by
  unfold tieStep set2
  by_cases a : i = t.2.1 ∧ j = t.1
  · rw [if_pos a, if_pos (.inr a)]
  · rw [if_neg a]
    by_cases b : i = t.1 ∧ j = t.2.1
    · rw [if_pos b, if_pos (.inl b)]
    · rw [if_neg b, if_neg (fun z => z.elim b a)]

theorem ties_fold {D : Nat → Prop} (P : PF D) : ∀ (ts pre : List Tie) (g : Grid), (∀ i j, D (g i j) ↔ i = j ∨ Edge pre D i j) → (∀ i, g i i = 0) →
    (∀ i j, D (ts.foldl tieStep g i j) ↔ i = j ∨ Edge (pre ++ ts) D i j) ∧ ∀ i, ts.foldl tieStep g i i = 0
  | [], pre, g, h, h0 => by rw [List.append_nil]; exact ⟨h, h0⟩
  | t :: ts, pre, g, h, h0 => by
    have e : pre ++ t :: ts = (pre ++ [t]) ++ ts := by rw [List.append_assoc]; rfl
    rw [e, List.foldl_cons]
    have sy : D (g t.1 t.2.1) ↔ D (g t.2.1 t.1) := by
      rw [h, h]
      constructor
      · rintro (z | z)
        · exact .inl z.symm
        · exact .inr z.symm
      · rintro (z | z)
        · exact .inl z.symm
        · exact .inr z.symm
    refine ties_fold P ts (pre ++ [t]) (tieStep g t) (fun i j => ?_) fun i => ?_
    · have ed : Edge (pre ++ [t]) D i j ↔ Edge pre D i j ∨ (D t.2.2 ∧ ((i = t.1 ∧ j = t.2.1) ∨ (i = t.2.1 ∧ j = t.1))) := by
        constructor
        · rintro ⟨q, hq, hd, hh⟩
          rcases List.mem_append.mp hq with z | z
          · exact .inl ⟨q, z, hd, hh⟩
          · rw [List.mem_singleton] at z
            subst z
            exact .inr ⟨hd, hh⟩
        · rintro (⟨q, hq, hd, hh⟩ | ⟨hd, hh⟩)
          · exact ⟨q, List.mem_append_left _ hq, hd, hh⟩
          · exact ⟨t, List.mem_append_right _ (List.mem_singleton.mpr rfl), hd, hh⟩
      rw [tieStep_at, ed]
      by_cases c : (i = t.1 ∧ j = t.2.1) ∨ (i = t.2.1 ∧ j = t.1)
      · rw [if_pos c, P.lcm]
        have hij : D (g t.1 t.2.1) ↔ i = j ∨ Edge pre D i j := by
          rcases c with ⟨a, b⟩ | ⟨a, b⟩
          · rw [a, b]; exact h _ _
          · rw [a, b, sy]; exact h _ _
        rw [hij]
        constructor
        · rintro ((z | z) | z)
          · exact .inl z
          · exact .inr (.inl z)
          · exact .inr (.inr ⟨z, c⟩)
        · rintro (z | z | z)
          · exact .inl (.inl z)
          · exact .inl (.inr z)
          · exact .inr z.1
      · rw [if_neg c, h]
        constructor
        · rintro (z | z)
          · exact .inl z
          · exact .inr (.inl z)
        · rintro (z | z | z)
          · exact .inl z
          · exact .inr z
          · exact absurd z.2 c
    · rw [tieStep_at]
      by_cases c : (i = t.1 ∧ i = t.2.1) ∨ (i = t.2.1 ∧ i = t.1)
      · rw [if_pos c]
        have : t.1 = t.2.1 := by rcases c with ⟨a, b⟩ | ⟨a, b⟩ <;> omega
        rw [← this, h0, Nat.lcm_zero_left]
      · rw [if_neg c]; exact h0 i

/-- the stages' invariant, m of them gone through -/
structure FInv (n : Nat) (ts : List Tie) (D : Nat → Prop) (m : Nat) (g : Grid) : Prop where
  diag : ∀ i, i < n → g i i = 0
  edge : ∀ i j, i < n → j < n → Edge ts D i j → D (g i j)
  snd : ∀ R : Nat → Nat → Prop, (∀ i, R i i) → (∀ i j k, R i j → R j k → R i k) → (∀ i j, Edge ts D i j → R i j) → ∀ i j, i < n → j < n → D (g i j) → R i j
  tr : ∀ i j k, i < n → j < n → k < m → D (g i k) → D (g k j) → D (g i j)

theorem FInv.step {n m : Nat} {ts : List Tie} {D : Nat → Prop} (P : PF D) {g : Grid} (h : FInv n ts D m g) (hm : m < n) : FInv n ts D (m + 1) (stage n g m) := by
  have dg := h.diag m hm
  have at_ : ∀ {i j : Nat}, i < n → j < n → (D (stage n g m i j) ↔ D (g i j) ∨ (D (g i m) ∧ D (g m j))) := fun {i j} hi hj => by
    rw [stage_eq dg hi hj, P.lcm, P.gcd]
  refine ⟨fun i hi => ?_, fun i j hi hj e => ?_, fun R r1 r2 r3 i j hi hj e => ?_, fun i j k hi hj hk a b => ?_⟩
  · rw [stage_eq dg hi hi, h.diag i hi, Nat.lcm_zero_left]
  · exact (at_ hi hj).mpr (.inl (h.edge i j hi hj e))
  · rcases (at_ hi hj).mp e with z | ⟨z1, z2⟩
    · exact h.snd R r1 r2 r3 i j hi hj z
    · exact r2 i m j (h.snd R r1 r2 r3 i m hi hm z1) (h.snd R r1 r2 r3 m j hm hj z2)
  · have dm : D (g m m) := by rw [dg]; exact P.zero
    have hkn : k < n := by omega
    rw [at_ hi hj]
    have a' := (at_ hi hkn).mp a
    have b' := (at_ hkn hj).mp b
    clear a b
    rcases a' with a | ⟨a1, a2⟩
    · rcases b' with b | ⟨b1, b2⟩
      · by_cases c : k = m
        · subst c; exact .inr ⟨a, b⟩
        · exact .inl (h.tr i j k hi hj (by omega) a b)
      · by_cases c : k = m
        · subst c; exact .inr ⟨a, b2⟩
        · exact .inr ⟨h.tr i m k hi hm (by omega) a b1, b2⟩
    · rcases b' with b | ⟨b1, b2⟩
      · by_cases c : k = m
        · subst c; exact .inr ⟨a1, b⟩
        · exact .inr ⟨a1, h.tr m j k hm hj (by omega) a2 b⟩
      · exact .inr ⟨a1, b2⟩

theorem FInv.fold {n : Nat} {ts : List Tie} {D : Nat → Prop} (P : PF D) {g : Grid} (h : FInv n ts D 0 g) : ∀ m, m ≤ n → FInv n ts D m ((List.range m).foldl (stage n) g)
  | 0, _ => h
  | m + 1, hm => by
    rw [List.range_succ, List.foldl_append]
    exact (FInv.fold P h m (by omega)).step P (by omega)

theorem finv {n : Nat} {ts : List Tie} {D : Nat → Prop} (P : PF D) : FInv n ts D n (closureOf n ts) := by
  refine FInv.fold P ?_ n (Nat.le_refl _)
  obtain ⟨h, h0⟩ := ties_fold P ts [] g0 (fun i j => by
    unfold g0
    by_cases c : i = j
    · rw [if_pos c]; exact ⟨fun _ => .inl c, fun _ => P.zero⟩
    · rw [if_neg c]
      constructor
      · intro z; exact absurd z P.one
      · rintro (z | ⟨t, ht, _⟩)
        · exact absurd z c
        · cases ht) (fun i => by simp [g0])
  refine ⟨fun i _ => h0 i, fun i j _ _ e => (h i j).mpr (.inr e), fun R r1 r2 r3 i j _ _ e => ?_, fun i j k _ _ hk => by omega⟩
  rcases (h i j).mp e with z | z
  · rw [z]; exact r1 j
  · exact r3 i j z

/-! ### bounds -/
def Bd (M x : Nat) : Prop := x = 0 ∨ x ∣ M
theorem Bd.lcm {M a b : Nat} (ha : Bd M a) (hb : Bd M b) : Bd M (Nat.lcm a b) := by
  rcases ha with rfl | ha
  · left; simp
  rcases hb with rfl | hb
  · left; simp
  · exact .inr (Nat.lcm_dvd ha hb)
theorem Bd.gcd {M a b : Nat} (ha : Bd M a) (hb : Bd M b) : Bd M (Nat.gcd a b) := by
  rcases ha with rfl | ha
  · rw [Nat.gcd_zero_left]; exact hb
  · exact .inr (Nat.dvd_trans (Nat.gcd_dvd_left a b) ha)
theorem Bd.one (M : Nat) : Bd M 1 := .inr (Nat.one_dvd M)
theorem Bd.zero (M : Nat) : Bd M 0 := .inl rfl
theorem Bd.le {M x : Nat} (h : Bd M x) (hM : 0 < M) : x ≤ M := by
  rcases h with rfl | h
  · exact Nat.zero_le _
  · exact Nat.le_of_dvd hM h
theorem ties_bd {M : Nat} : ∀ (ts : List Tie) (g : Grid), (∀ t ∈ ts, Bd M t.2.2) → (∀ i j, Bd M (g i j)) → ∀ i j, Bd M (ts.foldl tieStep g i j)
  | [], g, _, h, i, j => h i j
  | t :: ts, g, ht, h, i, j => by
    rw [List.foldl_cons]
    refine ties_bd ts _ (fun q hq => ht q (List.mem_cons_of_mem _ hq)) (fun i j => ?_) i j
    rw [tieStep_at]
    split
    · exact (h _ _).lcm (ht t List.mem_cons_self)
    · exact h i j
theorem g0_bd (M : Nat) (i j : Nat) : Bd M (g0 i j) := by
  unfold g0
  split
  · exact .zero M
  · exact .one M

/-- the product of the rests that are not 0 -/
def prodOf : List Tie → Nat
  | [] => 1
  | t :: ts => (if t.2.2 = 0 then 1 else t.2.2) * prodOf ts
theorem prodOf_pos : ∀ ts : List Tie, 0 < prodOf ts
  | [] => by decide
  | t :: ts => by
    unfold prodOf
    refine Nat.mul_pos ?_ (prodOf_pos ts)
    split <;> omega
theorem prodOf_bd : ∀ {ts : List Tie} {t : Tie}, t ∈ ts → Bd (prodOf ts) t.2.2
  | a :: ts, t, h => by
    unfold prodOf
    rcases List.mem_cons.mp h with rfl | h
    · by_cases c : t.2.2 = 0
      · exact .inl c
      · rw [if_neg c]; exact .inr (Nat.dvd_mul_right _ _)
    · rcases prodOf_bd h with z | z
      · exact .inl z
      · exact .inr (Nat.dvd_trans z (Nat.dvd_mul_left _ _))
theorem prodOf_lt : ∀ {ts : List Tie}, (∀ t ∈ ts, t.2.2 ≤ 1000000) → prodOf ts ≤ 2 ^ (20 * ts.length)
  | [], _ => by decide
  | t :: ts, h => by
    unfold prodOf
    have ih := prodOf_lt fun q hq => h q (List.mem_cons_of_mem _ hq)
    have h1 : (if t.2.2 = 0 then 1 else t.2.2) ≤ 2 ^ 20 := by
      have := h t List.mem_cons_self
      split <;> omega
    rw [List.length_cons, Nat.mul_succ, Nat.add_comm (20 * ts.length) 20, Nat.pow_add]
    exact Nat.mul_le_mul h1 ih
end K12

/-! Ways, cases, papers. -/
namespace K12
/-- a way, by numbers of ties, from a point to another one, by ties of whose rests D holds -/
def Way (ts : List Tie) (D : Nat → Prop) : Nat → List Nat → Nat → Prop
  | u, [], v => u = v
  | u, t :: r, v => ∃ q : Tie, ts[t]? = some q ∧ D q.2.2 ∧ (u = q.1 ∨ u = q.2.1) ∧ Way ts D (q.1 + q.2.1 - u) r v
theorem Way.mono {ts : List Tie} {D D' : Nat → Prop} (h : ∀ x, D x → D' x) : ∀ {w : List Nat} {u v : Nat}, Way ts D u w v → Way ts D' u w v
  | [], _, _, e => e
  | t :: r, u, v, ⟨q, a, b, c, d⟩ => ⟨q, a, h _ b, c, Way.mono h d⟩
theorem Way.snoc {ts : List Tie} {D : Nat → Prop} {t : Nat} {q : Tie} (hq : ts[t]? = some q) (hd : D q.2.2) : ∀ {w : List Nat} {u x : Nat}, Way ts D u w x → (x = q.1 ∨ x = q.2.1) → Way ts D u (w ++ [t]) (q.1 + q.2.1 - x)
  | [], u, x, e, hx => by
    have e : u = x := e
    subst e
    exact ⟨q, hq, hd, hx, rfl⟩
  | a :: r, u, x, ⟨p, h1, h2, h3, h4⟩, hx => ⟨p, h1, h2, h3, Way.snoc hq hd h4 hx⟩
def restAt (ts : List Tie) (t : Nat) : Nat := (ts.getD t (0, 0, 0)).2.2
theorem restAt_of {ts : List Tie} {t : Nat} {q : Tie} (h : ts[t]? = some q) : restAt ts t = q.2.2 := by
  unfold restAt
  rw [List.getD_eq_getElem?_getD, h]
  rfl
/-- by what a way makes two points agree, behind a -/
def gcdOf (ts : List Tie) (w : List Nat) (a : Nat) : Nat := w.foldl (fun a t => Nat.gcd a (restAt ts t)) a
theorem gcdOf_dvd {ts : List Tie} {q : Nat} : ∀ {w : List Nat} {u v a : Nat}, Way ts (fun x => q ∣ x) u w v → q ∣ a → q ∣ gcdOf ts w a
  | [], _, _, _, _, h => h
  | t :: r, u, v, a, ⟨p, h1, h2, _, h4⟩, h => by
    have e : restAt ts t = p.2.2 := restAt_of h1
    exact gcdOf_dvd (w := r) h4 (Nat.dvd_gcd h (e ▸ h2))
theorem gcdOf_bd {ts : List Tie} {M : Nat} (hM : ∀ t ∈ ts, Bd M t.2.2) {D : Nat → Prop} : ∀ {w : List Nat} {u v a : Nat}, Way ts D u w v → Bd M a → Bd M (gcdOf ts w a)
  | [], _, _, _, _, h => h
  | t :: r, u, v, a, ⟨p, h1, _, _, h4⟩, h => by
    have e : restAt ts t = p.2.2 := restAt_of h1
    exact gcdOf_bd hM (w := r) h4 (h.gcd (by rw [e]; exact hM p (List.mem_of_getElem? h1)))
theorem gcdOf_take {ts : List Tie} {w : List Nat} {i t : Nat} (h : w[i]? = some t) (a : Nat) : gcdOf ts (w.take (i + 1)) a = Nat.gcd (gcdOf ts (w.take i) a) (restAt ts t) := by
  unfold gcdOf
  rw [List.take_add_one, h, List.foldl_append]
  rfl
def tot (ts : List Tie) (ws : List (List Nat)) : Nat := ws.foldl (fun a w => Nat.lcm a (gcdOf ts w 0)) 1
theorem tot_take {ts : List Tie} {ws : List (List Nat)} {i : Nat} {w : List Nat} (h : ws[i]? = some w) : tot ts (ws.take (i + 1)) = Nat.lcm (tot ts (ws.take i)) (gcdOf ts w 0) := by
  unfold tot
  rw [List.take_add_one, h, List.foldl_append]
  rfl

/-! ### cases -/
/-- the case c fits -/
def Fits (ts : List Tie) (c : List Nat) : Prop := ∀ t ∈ ts, (t.2.2 : Int) ∣ ((c.getD t.1 0 : Nat) : Int) - ((c.getD t.2.1 0 : Nat) : Int)
def gap (c : List Nat) (u v : Nat) : Int := ((c.getD u 0 : Nat) : Int) - ((c.getD v 0 : Nat) : Int)
theorem gap_self (c : List Nat) (u : Nat) : gap c u u = 0 := by unfold gap; omega
theorem gap_add (c : List Nat) (u v x : Nat) : gap c u v + gap c v x = gap c u x := by unfold gap; omega
theorem gap_neg (c : List Nat) (u v : Nat) : gap c v u = - gap c u v := by unfold gap; omega

theorem way_fits {ts : List Tie} {c : List Nat} (hf : Fits ts c) {k : Nat} : ∀ {w : List Nat} {D : Nat → Prop} {u v a : Nat}, Way ts D u w v → gcdOf ts w a = k → (k : Int) ∣ gap c u v
  | [], D, u, v, a, e, _ => by
    have e : u = v := e
    rw [e, gap_self]
    exact Int.dvd_zero _
  | t :: r, D, u, v, a, ⟨p, h1, _, h3, h4⟩, hk => by
    have e : restAt ts t = p.2.2 := restAt_of h1
    have hk : gcdOf ts r (Nat.gcd a (restAt ts t)) = k := hk
    have ih := way_fits hf (w := r) h4 hk
    have fold_dvd : ∀ (w : List Nat) (b : Nat), gcdOf ts w b ∣ b := by
      intro w
      induction w with
      | nil => intro b; exact Nat.dvd_refl _
      | cons x xs ih => intro b; exact Nat.dvd_trans (ih _) (Nat.gcd_dvd_left _ _)
    have hd : k ∣ p.2.2 := by
      have := fold_dvd r (Nat.gcd a (restAt ts t))
      rw [hk] at this
      rw [← e]
      exact Nat.dvd_trans this (Nat.gcd_dvd_right _ _)
    have hp := hf p (List.mem_of_getElem? h1)
    have hp' : (k : Int) ∣ gap c p.1 p.2.1 := Int.dvd_trans (Int.natCast_dvd_natCast.mpr hd) hp
    have e2 : gap c u (p.1 + p.2.1 - u) = gap c p.1 p.2.1 ∨ gap c u (p.1 + p.2.1 - u) = - gap c p.1 p.2.1 := by
      rcases h3 with z | z
      · left; rw [z, Nat.add_sub_cancel_left]
      · right; rw [z, Nat.add_sub_cancel, gap_neg]
    have h5 : (k : Int) ∣ gap c u (p.1 + p.2.1 - u) := by
      rcases e2 with z | z
      · rw [z]; exact hp'
      · rw [z]; exact Int.dvd_neg.mpr hp'
    have := Int.dvd_add h5 ih
    rw [gap_add] at this
    exact this

theorem lcm_dvd_int {a b : Nat} {x : Int} (ha : (a : Int) ∣ x) (hb : (b : Int) ∣ x) : ((Nat.lcm a b : Nat) : Int) ∣ x := by
  exact Int.ofNat_dvd_left.mpr (Nat.lcm_dvd (Int.ofNat_dvd_left.mp ha) (Int.ofNat_dvd_left.mp hb))

theorem tot_fits {ts : List Tie} {c : List Nat} (hf : Fits ts c) {u v : Nat} {D : Nat → Prop} : ∀ (ws : List (List Nat)) (a : Nat), (∀ w ∈ ws, Way ts D u w v) → (a : Int) ∣ gap c u v →
    ((ws.foldl (fun a w => Nat.lcm a (gcdOf ts w 0)) a : Nat) : Int) ∣ gap c u v
  | [], a, _, h => h
  | w :: ws, a, hw, h => by
    rw [List.foldl_cons]
    exact tot_fits hf ws _ (fun x hx => hw x (List.mem_cons_of_mem _ hx)) (lcm_dvd_int h (way_fits hf (hw w List.mem_cons_self) rfl))

/-! ### papers -/
inductive Paper where
  | ways (ws : List (List Nat))
  | cas (c : List Nat)
def Paper.isWays : Paper → Bool
  | .ways _ => true
  | .cas _ => false
/-- what the law's looker says -/
def shows (ts : List Tie) (u v b : Nat) : Paper → Prop
  | .ways ws => b ∣ tot ts ws
  | .cas c => ¬ (b : Int) ∣ gap c u v
instance shows_dec (ts : List Tie) (u v b : Nat) : (p : Paper) → Decidable (shows ts u v b p)
  | .ways ws => by unfold shows; exact inferInstance
  | .cas c => by unfold shows; exact inferInstance
def Good (n : Nat) (ts : List Tie) (u v : Nat) : Paper → Prop
  | .ways ws => ws.length ≤ 1000000 ∧ ∀ w ∈ ws, Way ts (fun _ => True) u w v
  | .cas c => c.length = n ∧ Fits ts c ∧ c.getD v 0 = 0
/-- what bond_paper hands back -/
structure BP (n : Nat) (ts : List Tie) (g : Grid) (u v b : Nat) (p : Paper) : Prop where
  good : Good n ts u v p
  sh : shows ts u v b p
  word : p.isWays = true ↔ b ∣ g u v

/-- a case that is one for b: no ways for b -/
theorem case_no_ways {n : Nat} {ts : List Tie} {g : Grid} {u v b : Nat} {c : List Nat} {p : Paper} (hg : Good n ts u v (.cas c)) (hs : shows ts u v b (.cas c)) (h : BP n ts g u v b p) : p.isWays = false := by
  cases p with
  | cas _ => rfl
  | ways ws =>
    exfalso
    have hb : b ∣ tot ts ws := h.sh
    have hf := tot_fits hg.2.1 ws 1 h.good.2 (Int.one_dvd _)
    exact hs (Int.dvd_trans (Int.natCast_dvd_natCast.mpr hb) hf)

/-! ### ways and the bond -/
theorem way_bond {n : Nat} {ts : List Tie} {D : Nat → Prop} (P : PF D) (hts : ∀ t ∈ ts, t.1 < n ∧ t.2.1 < n) {s : Nat} (hs : s < n) : ∀ {w : List Nat} {u v : Nat}, u < n → D (closureOf n ts s u) → Way ts D u w v → v < n ∧ D (closureOf n ts s v)
  | [], u, v, hu, hd, e => by
    have e : u = v := e
    subst e
    exact ⟨hu, hd⟩
  | t :: r, u, v, hu, hd, ⟨p, h1, h2, h3, h4⟩ => by
    have hm := List.mem_of_getElem? h1
    have hp := hts p hm
    have F := finv (n := n) (ts := ts) P
    have hx : p.1 + p.2.1 - u < n ∧ D (closureOf n ts u (p.1 + p.2.1 - u)) := by
      rcases h3 with z | z
      · rw [z, Nat.add_sub_cancel_left]
        exact ⟨hp.2, F.edge _ _ hp.1 hp.2 ⟨p, hm, h2, .inl ⟨rfl, rfl⟩⟩⟩
      · rw [z, Nat.add_sub_cancel]
        exact ⟨hp.1, F.edge _ _ hp.2 hp.1 ⟨p, hm, h2, .inr ⟨rfl, rfl⟩⟩⟩
    exact way_bond P hts hs hx.1 (F.tr _ _ _ hs hx.1 hu hd hx.2) h4

theorem bond_in {n : Nat} {ts : List Tie} {D : Nat → Prop} (P : PF D) {C : Nat → Prop} (hC : ∀ t ∈ ts, D t.2.2 → (C t.1 ↔ C t.2.1)) {u v : Nat} (hu : u < n) (hv : v < n) (hd : D (closureOf n ts u v)) (h : C u) : C v := by
  have F := finv (n := n) (ts := ts) P
  refine (F.snd (fun i j => (C i ↔ C j)) (fun _ => Iff.rfl) (fun _ _ _ a b => a.trans b) (fun i j e => ?_) u v hu hv hd).mp h
  obtain ⟨t, ht, hd, hh⟩ := e
  have := hC t ht hd
  rcases hh with ⟨a, b⟩ | ⟨a, b⟩
  · rw [a, b]; exact this
  · rw [a, b]; exact this.symm

theorem fold_bd {n : Nat} {ts : List Tie} {M : Nat} (hM : ∀ t ∈ ts, Bd M t.2.2) : ∀ m, m ≤ n → (∀ i, i < n → ((List.range m).foldl (stage n) (ts.foldl tieStep g0)) i i = 0) ∧ ∀ i j, i < n → j < n → Bd M ((List.range m).foldl (stage n) (ts.foldl tieStep g0) i j) := by
  intro m
  induction m with
  | zero =>
    intro _
    refine ⟨fun i hi => ?_, fun i j _ _ => ties_bd ts g0 hM (g0_bd M) i j⟩
    exact (ties_fold pf_zero ts [] g0 (fun i j => by
      unfold g0
      by_cases c : i = j
      · rw [if_pos c]; exact ⟨fun _ => .inl c, fun _ => Nat.dvd_refl 0⟩
      · rw [if_neg c]
        constructor
        · intro z; exact absurd z pf_zero.one
        · rintro (z | ⟨t, ht, _⟩)
          · exact absurd z c
          · cases ht) (fun i => by simp [g0])).2 i
  | succ m ih =>
    intro hm
    obtain ⟨h0, h1⟩ := ih (by omega)
    rw [List.range_succ, List.foldl_append]
    have hmn : m < n := by omega
    refine ⟨fun i hi => ?_, fun i j hi hj => ?_⟩
    · show stage n _ m i i = 0
      rw [stage_eq (h0 m hmn) hi hi, h0 i hi, Nat.lcm_zero_left]
    · show Bd M (stage n _ m i j)
      rw [stage_eq (h0 m hmn) hi hj]
      exact (h1 i j hi hj).lcm ((h1 i m hi hmn).gcd (h1 m j hmn hj))
theorem bond_bd {n : Nat} {ts : List Tie} {M : Nat} (hM : ∀ t ∈ ts, Bd M t.2.2) {i j : Nat} (hi : i < n) (hj : j < n) : Bd M (closureOf n ts i j) := (fold_bd hM n (Nat.le_refl n)).2 i j hi hj
theorem rowFold_bd {n k M : Nat} (hk : k < n) : ∀ (l : List (Nat × Nat)) (f : Nat → Nat), (∀ j, j < n → Bd M (f j)) → (∀ p ∈ l, p.1 < n ∧ Bd M p.2) → ∀ j, j < n → Bd M (rowFold k l f j)
  | [], f, hf, _, j, hj => hf j hj
  | p :: l, f, hf, hl, j, hj => by
    refine rowFold_bd hk l (rowStep k f p) (fun j hj => ?_) (fun q hq => hl q (List.mem_cons_of_mem _ hq)) j hj
    obtain ⟨h1, h2⟩ := hl p List.mem_cons_self
    unfold rowStep
    split
    · exact (hf _ h1).lcm ((hf k hk).gcd h2)
    · exact hf j hj
theorem rowFold_take {k : Nat} {l : List (Nat × Nat)} {f : Nat → Nat} {t : Nat} {p : Nat × Nat} (h : l[t]? = some p) : rowFold k (l.take (t + 1)) f = rowStep k (rowFold k (l.take t) f) p := by
  unfold rowFold
  rw [List.take_add_one, h, List.foldl_append]
  rfl
theorem tie_take {ts : List Tie} {i : Nat} {t : Tie} (h : ts[i]? = some t) (g : Grid) : (ts.take (i + 1)).foldl tieStep g = tieStep ((ts.take i).foldl tieStep g) t := by
  rw [List.take_add_one, h, List.foldl_append]
  rfl
theorem stage_bd {n k M : Nat} {g : Grid} (hk : k < n) (hg : ∀ i j, i < n → j < n → Bd M (g i j)) (m : Nat) {i j : Nat} (hi : i < n) (hj : j < n) : Bd M ((List.range m).foldl (stageStep (nearOf n (g k)) k) g i j) := by
  rw [stageFold _ _ _ _ List.nodup_range]
  split
  · split
    · exact rowFold_bd hk _ _ (fun j hj => hg i j hi hj) (fun p hp => by
        obtain ⟨h1, h2, _⟩ := nearOf_val hp
        exact ⟨h2, h1 ▸ hg k p.1 hk h2⟩) j hj
    · exact hg i j hi hj
  · exact hg i j hi hj
theorem nearOf_succ (j : Nat) (row : Nat → Nat) : nearOf (j + 1) row = nearOf j row ++ (if row j ≠ 1 then [(j, row j)] else []) := by
  unfold nearOf
  rw [List.range_succ, List.map_append, List.filter_append]
  congr 1
  by_cases c : row j = 1
  · simp [c]
  · simp [c]

/-! ### apart -/
def lcmAll (l : List Nat) : Nat := l.foldl Nat.lcm 1
theorem lcmAll_take {l : List Nat} {i x : Nat} (h : l[i]? = some x) : lcmAll (l.take (i + 1)) = Nat.lcm (lcmAll (l.take i)) x := by
  unfold lcmAll
  rw [List.take_add_one, h, List.foldl_append]
  rfl
theorem lcmFold_iff {D : Nat → Prop} (P : PF D) : ∀ (l : List Nat) (a : Nat), D (l.foldl Nat.lcm a) ↔ D a ∨ ∃ x ∈ l, D x
  | [], a => by simp
  | x :: l, a => by
    rw [List.foldl_cons, lcmFold_iff P l, P.lcm]
    constructor
    · rintro ((z | z) | ⟨y, hy, z⟩)
      · exact .inl z
      · exact .inr ⟨x, List.mem_cons_self, z⟩
      · exact .inr ⟨y, List.mem_cons_of_mem _ hy, z⟩
    · rintro (z | ⟨y, hy, z⟩)
      · exact .inl (.inl z)
      · rcases List.mem_cons.mp hy with rfl | hy
        · exact .inl (.inr z)
        · exact .inr ⟨y, hy, z⟩
theorem lcmFold_bd {M : Nat} : ∀ (l : List Nat) (a : Nat), (∀ x ∈ l, Bd M x) → Bd M a → Bd M (l.foldl Nat.lcm a)
  | [], a, _, h => h
  | x :: l, a, hl, h => lcmFold_bd l _ (fun y hy => hl y (List.mem_cons_of_mem _ hy)) (h.lcm (hl x List.mem_cons_self))
theorem lcmFold_dvd : ∀ (l : List Nat) (a : Nat), a ∣ l.foldl Nat.lcm a ∧ ∀ x ∈ l, x ∣ l.foldl Nat.lcm a
  | [], a => ⟨Nat.dvd_refl a, fun x hx => by cases hx⟩
  | y :: l, a => by
    obtain ⟨h1, h2⟩ := lcmFold_dvd l (Nat.lcm a y)
    refine ⟨Nat.dvd_trans (Nat.dvd_lcm_left a y) h1, fun x hx => ?_⟩
    rcases List.mem_cons.mp hx with rfl | hx
    · exact Nat.dvd_trans (Nat.dvd_lcm_right a x) h1
    · exact h2 x hx
/-- the rests of the ties that leave the near points -/
def crossing (near : Nat → Bool) (ts : List Tie) : List Nat := (ts.filter fun t => near t.1 != near t.2.1).map (·.2.2)
def caseOf (n : Nat) (near : Nat → Bool) (step : Nat) : List Nat := (List.range n).map fun p => if near p then step else 0
theorem caseOf_at {n : Nat} {near : Nat → Bool} {step p : Nat} (hp : p < n) : (caseOf n near step).getD p 0 = if near p then step else 0 := by
  unfold caseOf
  rw [List.getD_eq_getElem?_getD, List.getElem?_map, List.getElem?_range hp]
  rfl
theorem apart_good {n : Nat} {ts : List Tie} (hts : ∀ t ∈ ts, t.1 < n ∧ t.2.1 < n) (near : Nat → Bool) (u v : Nat) (hv : v < n) (nv : near v = false) : Good n ts u v (.cas (caseOf n near (lcmAll (crossing near ts)))) := by
  refine ⟨by simp [caseOf], fun t ht => ?_, by rw [caseOf_at hv, nv]; rfl⟩
  rw [caseOf_at (hts t ht).1, caseOf_at (hts t ht).2]
  by_cases c : near t.1 = near t.2.1
  · rw [c, Int.sub_self]
    exact Int.dvd_zero _
  · have hm : t.2.2 ∈ crossing near ts := List.mem_map.mpr ⟨t, List.mem_filter.mpr ⟨ht, by simpa using c⟩, rfl⟩
    have hd : (t.2.2 : Int) ∣ ((lcmAll (crossing near ts) : Nat) : Int) := Int.natCast_dvd_natCast.mpr ((lcmFold_dvd _ 1).2 _ hm)
    cases e1 : near t.1 <;> cases e2 : near t.2.1
    · rw [e1, e2] at c; exact absurd rfl c
    · simp only [Bool.false_eq_true, if_false, if_true]
      have : ((0 : Nat) : Int) - ((lcmAll (crossing near ts) : Nat) : Int) = - ((lcmAll (crossing near ts) : Nat) : Int) := by omega
      rw [this]
      exact Int.dvd_neg.mpr hd
    · simp only [Bool.false_eq_true, if_false, if_true]
      have : ((lcmAll (crossing near ts) : Nat) : Int) - ((0 : Nat) : Int) = ((lcmAll (crossing near ts) : Nat) : Int) := by omega
      rw [this]
      exact hd
    · rw [e1, e2] at c; exact absurd rfl c
theorem apart_shows {n : Nat} {ts : List Tie} {q b : Nat} (P : PF (fun x => q ∣ x)) (hqb : q ∣ b) {near : Nat → Bool} (hC : ∀ t ∈ ts, q ∣ t.2.2 → near t.1 = near t.2.1) {u v : Nat} (hu : u < n) (hv : v < n) (nu : near u = true) (nv : near v = false) :
    shows ts u v b (.cas (caseOf n near (lcmAll (crossing near ts)))) := by
  show ¬ (b : Int) ∣ gap _ u v
  unfold gap
  rw [caseOf_at hu, caseOf_at hv, nu, nv]
  simp only [Bool.false_eq_true, if_false, if_true]
  have : ((lcmAll (crossing near ts) : Nat) : Int) - ((0 : Nat) : Int) = ((lcmAll (crossing near ts) : Nat) : Int) := by omega
  rw [this, Int.natCast_dvd_natCast]
  intro z
  have hq : q ∣ (crossing near ts).foldl Nat.lcm 1 := Nat.dvd_trans hqb z
  rcases (lcmFold_iff P _ 1).mp hq with z | ⟨x, hx, z⟩
  · exact P.one z
  · obtain ⟨t, ht, e⟩ := List.mem_map.mp hx
    obtain ⟨h1, h2⟩ := List.mem_filter.mp ht
    have e : t.2.2 = x := e
    have := hC t h1 (e ▸ z)
    rw [this] at h2
    simp at h2

/-! ### the ways' paper -/
theorem tot_dvd {ts : List Tie} : ∀ (ws : List (List Nat)) (a q : Nat), (q ∣ a ∨ ∃ w ∈ ws, q ∣ gcdOf ts w 0) → q ∣ ws.foldl (fun a w => Nat.lcm a (gcdOf ts w 0)) a
  | [], a, q, h => by
    rcases h with h | ⟨w, hw, _⟩
    · exact h
    · cases hw
  | x :: ws, a, q, h => by
    rw [List.foldl_cons]
    refine tot_dvd ws _ q ?_
    rcases h with h | ⟨w, hw, h⟩
    · exact .inl (Nat.dvd_trans h (Nat.dvd_lcm_left _ _))
    · rcases List.mem_cons.mp hw with rfl | hw
      · exact .inl (Nat.dvd_trans h (Nat.dvd_lcm_right _ _))
      · exact .inr ⟨w, hw, h⟩
/-- the ways of a paper: one for each of the parts -/
theorem ways_bp {n : Nat} {ts : List Tie} {g : Grid} {u v b : Nat} {ps : List Nat} (hp : PowOf b ps) (hl : ps.length ≤ 1000000) {ws : List (List Nat)} (hlen : ws.length = ps.length) (hw : ∀ (i q : Nat) (w : List Nat), ps[i]? = some q → ws[i]? = some w → Way ts (fun x => q ∣ x) u w v) (hd : b ∣ g u v) : BP n ts g u v b (.ways ws) := by
  refine ⟨⟨by omega, fun w h => ?_⟩, ?_, ⟨fun _ => hd, fun _ => rfl⟩⟩
  · obtain ⟨i, hi, e⟩ := List.mem_iff_getElem.mp h
    have hi' : i < ps.length := by omega
    exact (hw i ps[i] w (List.getElem?_eq_getElem hi') (by rw [List.getElem?_eq_getElem hi, e])).mono fun _ _ => trivial
  · refine hp.all _ fun q hq => ?_
    obtain ⟨i, hi, e⟩ := List.mem_iff_getElem.mp hq
    have hi' : i < ws.length := by omega
    refine tot_dvd ws 1 q (.inr ⟨ws[i], List.getElem_mem hi', ?_⟩)
    exact gcdOf_dvd (hw i q ws[i] (by rw [List.getElem?_eq_getElem hi, e]) (List.getElem?_eq_getElem hi')) (Nat.dvd_zero _)
/-- 0 alone is a part of 0 -/
theorem powOf_zero : PowOf 0 [0] :=
  ⟨fun q hq => by rw [List.mem_singleton.mp hq]; exact ⟨pf_zero, Nat.dvd_refl 0⟩, fun x h => h 0 (List.mem_singleton.mpr rfl)⟩
end K12

/-! The text by places; what the walks ask of the top. -/
namespace K12
open PySem L2
def top (i : Nat) : Stmt := PySem.Challenge.pw_samewell_k12_whole_way_or_case.main.body.getD i (.Pass ⟨0, 0, 0, 0⟩)
abbrev sIsWhole : Stmt := top 7
abbrev sIsRest : Stmt := top 8
abbrev sDivides : Stmt := top 9
abbrev sAgree : Stmt := top 10
abbrev sCommon : Stmt := top 11
abbrev sJoined : Stmt := top 12
abbrev sJoinedAll : Stmt := top 13
abbrev sPowers : Stmt := top 14
abbrev sIsPoint : Stmt := top 16
abbrev sClosure : Stmt := top 17
abbrev sWInit : Stmt := inClass (top 18) 0
abbrev sWMany : Stmt := inClass (top 18) 1
abbrev sWTies : Stmt := inClass (top 18) 2
abbrev sWFits : Stmt := inClass (top 18) 3
abbrev sWBond : Stmt := inClass (top 18) 4
abbrev sLeads : Stmt := top 20
abbrev sWaysFrom : Stmt := top 21
abbrev sApart : Stmt := top 22
abbrev sBondPaper : Stmt := top 23
abbrev sWayRest : Stmt := top 24
abbrev sIsWays : Stmt := top 25
abbrev sIsBondPaper : Stmt := top 26
abbrev sBox : Stmt := top 28
abbrev sMixed : Stmt := top 29
abbrev sTake : Stmt := top 30
abbrev sLRest : Stmt := top 31
abbrev sLTies : Stmt := top 32
abbrev sLGcd : Stmt := top 33
abbrev sLLcm : Stmt := top 34
abbrev sWayMade : Stmt := top 35
abbrev sLFits : Stmt := top 36
abbrev sShows : Stmt := top 37
abbrev sSays : Stmt := top 38
abbrev sLaw : Stmt := top 39

/-- a def of the top as it stands: where, its data, its body, how it binds, its name -/
structure Df (K : PySem.W.Frag) (mg : Str → Option Value) (x : Str) (st : Stmt) (ps : List Str) where
  f : Addr
  fd : FuncData
  F : Fun K x x st f fd
  b : Binds K fd ps []
  g : mg x = some (.ref f)
/-- a def with keyword-only parameters: called with n positional values and the keywords ks -/
structure Dk (K : PySem.W.Frag) (mg : Str → Option Value) (x : Str) (st : Stmt) (ps ks : List Str) (n : Nat) where
  f : Addr
  fd : FuncData
  F : Fun K x x st f fd
  b : KBn K fd ps n ks (fun us ws => us ++ ws) (fun vs zs => vs ++ zs)
  g : mg x = some (.ref f)
/-- is_rest: its keyword-only default -/
structure Dd (K : PySem.W.Frag) (mg : Str → Option Value) (x : Str) (st : Stmt) (ps : List Str) (dvs : List V) where
  f : Addr
  fd : FuncData
  ds : List Value
  F : Fun K x x st f fd
  v : Vals dvs ds
  b : Binds K fd ps ds
  g : mg x = some (.ref f)
/-- a method -/
structure Dm (K : PySem.W.Frag) (C : Addr) (m qual : Str) (st : Stmt) (ps : List Str) where
  f : Addr
  fd : FuncData
  F : Fun K m qual st f fd
  b : Binds K fd ps []
  m : Meth K C m f
structure Txt (K : PySem.W.Frag) (mg : Str → Option Value) where
  C : Addr
  cl : Cls K C
  mgC : mg "Web" = some (.ref C)
  nPo : NoAttr K C "points"
  nKn : NoAttr K C "knots"
  nGr : NoAttr K C "grid"
  fI : Addr
  fdI : FuncData
  FI : Fun K "__init__" "Web.__init__" sWInit fI fdI
  bI : Binds K fdI ["self", "many", "ties"] []
  MI : Mk K C fI
  wMany : Dm K C "many" "Web.many" sWMany ["self"]
  wTies : Dm K C "ties" "Web.ties" sWTies ["self"]
  wFits : Dm K C "fits" "Web.fits" sWFits ["self", "case"]
  wBond : Dm K C "bond" "Web.bond" sWBond ["self", "u", "v"]
  isWhole : Df K mg "is_whole" sIsWhole ["thing"]
  isRest : Dd K mg "is_rest" sIsRest ["thing", "most"] [.int 1000000]
  divides : Df K mg "divides" sDivides ["rest", "number"]
  agree : Dk K mg "agree" sAgree ["one", "two", "rest"] ["rest"] 2
  common : Df K mg "common" sCommon ["one", "two"]
  joined : Df K mg "joined" sJoined ["one", "two"]
  joinedAll : Df K mg "joined_all" sJoinedAll ["rests"]
  powers : Df K mg "powers" sPowers ["number"]
  isPoint : Df K mg "is_point" sIsPoint ["thing", "many"]
  closure : Df K mg "closure" sClosure ["many", "ties"]
  leads : Df K mg "leads" sLeads ["power", "rest"]
  waysFrom : Df K mg "ways_from" sWaysFrom ["web", "start", "power"]
  apart : Df K mg "apart" sApart ["web", "u", "power"]
  bondPaper : Dk K mg "bond_paper" sBondPaper ["web", "u", "v", "rest"] ["rest"] 3
  wayRest : Df K mg "way_rest" sWayRest ["web", "u", "v", "way"]
  isWays : Df K mg "is_ways" sIsWays ["web", "u", "v", "ways", "rest"]
  isBondPaper : Dk K mg "is_bond_paper" sIsBondPaper ["web", "u", "v", "paper", "rest"] ["rest"] 4
  box : Df K mg "_law_box" sBox ["_law_script"]
  mixed : Df K mg "_law_mixed" sMixed ["_law_cell", "_law_k"]
  take : Df K mg "_law_take" sTake ["_law_box_here", "_law_size"]
  lrest : Df K mg "_law_rest" sLRest ["_law_box_here"]
  lties : Df K mg "_law_ties" sLTies ["_law_box_here", "_law_many", "_law_most"]
  lgcd : Df K mg "_law_gcd" sLGcd ["_law_one", "_law_two"]
  llcm : Df K mg "_law_lcm" sLLcm ["_law_one", "_law_two"]
  wayMade : Df K mg "_law_way_made" sWayMade ["_law_ties_here", "_law_here", "_law_goal", "_law_way"]
  lfits : Df K mg "_law_fits" sLFits ["_law_many", "_law_ties_here", "_law_case"]
  shows : Df K mg "_law_shows" sShows ["_law_many", "_law_ties_here", "_law_pair", "_law_by", "_law_paper"]
  says : Df K mg "_law_says" sSays ["_law_found", "_law_due"]
  zInst : mg "isinstance" = none
  zInt : mg "int" = none
  zBool : mg "bool" = none
  zList : mg "list" = none
  zRange : mg "range" = none
  zLen : mg "len" = none
  zAll : mg "all" = none
  zEnum : mg "enumerate" = none
/-- a list of ints stands at a -/
abbrev nv (n : Nat) : V := V.int (n : Int)
abbrev IntsAt (H : Hp) (a : Addr) (ns : List Nat) : Prop := H a = some (.lst (ns.map nv))
theorem q_bl {Q : VK} {b b' : Bool} {H : Hp} (q : Q (.bl b') H) (e : b = b') : Q (.bl b) H := e ▸ q
theorem same_upd {H : Hp} {p : Addr} {o : HO} (h : H p = none) : Same H (upd H p o) := fun b x e => by
  rw [upd_ne (ne_of_none e h)]
  exact e

section
variable {P : Program} {w : World} {K : PySem.W.Frag} {mg : Str → Option Value} {base : Heap}
/-! ### is_whole -/
theorem scIsWhole : FnScope ["thing"] ["thing"] (defScope sIsWhole) := ⟨rfl, rfl, rfl, by decide +kernel, rfl, by decide +kernel, by decide +kernel⟩
def spIsWhole : Sp := fun vs H Q _ => ∃ i : Int, vs = [.int i] ∧ Q (.bl true) H
theorem ok_isWhole (T : Txt K mg) : FnOk P w K mg base CX0 1 T.isWhole.f T.isWhole.fd ["thing"] spIsWhole := by
  refine T.isWhole.F.ok scIsWhole (fun vs H Q E h => ?_) (fun cdv A outer s H vs Q E hr h => ?_)
  · obtain ⟨i, rfl, _⟩ := h
    rfl
  · obtain ⟨i, rfl, q⟩ := h
    refine ⟨_, pss_one (ps_ret (pe_and (pe_callB call_isi (by rfl) T.zInst (by decide +kernel) (pa_cons (pv 0) (pa_cons (pe_bltn (v := .ty "int") (by rfl) T.zInt (by decide +kernel) rfl) pa_nil)))
      (pe_one (pe_not (pe_callB call_isi (by rfl) T.zInst (by decide +kernel) (pa_cons (pv 0) (pa_cons (pe_bltn (v := .ty "bool") (by rfl) T.zBool (by decide +kernel) rfl) pa_nil))))))), ?_⟩
    refine ⟨_, rfl, _, _, _, _, true, rfl, .ty "int", .base (.int _), kit_ty (by decide +kernel), _, rfl, iteT ?_⟩
    exact ⟨_, rfl, _, _, _, _, false, rfl, .ty "bool", .base (.int _), kit_ty (by decide +kernel), _, rfl, q⟩
/-! ### is_rest -/
theorem scIsRest : FnScope ["thing", "most"] ["thing", "most"] (defScope sIsRest) := ⟨rfl, rfl, rfl, by decide +kernel, rfl, by decide +kernel, by decide +kernel⟩
def spIsRest : Sp := fun vs H Q _ => ∃ i : Int, vs = [.int i, .int 1000000] ∧ 0 ≤ i ∧ i ≤ 1000000 ∧ Q (.bl true) H
theorem ok_isRest (T : Txt K mg) : FnOk P w K mg base CX0 2 T.isRest.f T.isRest.fd ["thing", "most"] spIsRest := by
  refine T.isRest.F.ok scIsRest (fun vs H Q E h => ?_) (fun cdv A outer s H vs Q E hr h => ?_)
  · obtain ⟨i, rfl, _⟩ := h
    rfl
  · obtain ⟨i, rfl, h0, h1, q⟩ := h
    refine ⟨_, pss_one (ps_ret (pe_and (pe_call (ok_isWhole T) hr (by rfl) T.isWhole.g T.isWhole.F.kp T.isWhole.b .nil pass0 (pa_cons (pv 0) pa_nil))
      (pe_one (pe_chain op_le op_le pe_int (pv 0) (pv 1))))), ?_⟩
    refine ⟨_, rfl, i, rfl, _, rfl, iteT ?_⟩
    refine ⟨_, rfl, _, _, rfl, rfl, _, rfl, ?_⟩
    rw [decide_eq_true h0]
    refine iteT ⟨_, rfl, _, _, rfl, rfl, ?_⟩
    exact q_bl q (decide_eq_true h1)
/-! ### divides -/
theorem scDivides : FnScope ["rest", "number"] ["rest", "number"] (defScope sDivides) := ⟨rfl, rfl, rfl, by decide +kernel, rfl, by decide +kernel, by decide +kernel⟩
def spDivides : Sp := fun vs H Q _ => ∃ (r : Nat) (i : Int), vs = [.int (r : Int), .int i] ∧ Q (.bl (decide ((r : Int) ∣ i))) H
theorem ok_divides (T : Txt K mg) : FnOk P w K mg base CX0 1 T.divides.f T.divides.fd ["rest", "number"] spDivides := by
  refine T.divides.F.ok scDivides (fun vs H Q E h => ?_) (fun cdv A outer s H vs Q E hr h => ?_)
  · obtain ⟨r, i, rfl, _⟩ := h
    rfl
  · obtain ⟨r, i, rfl, q⟩ := h
    refine ⟨_, pss_one (ps_ret (pe_ifExp (pt_cmpR op_gt (pv 0) pe_int (nomark _)) (pe_cmpR op_eq (pe_op op_mod (pv 1) (pv 0)) pe_int (nomark _)) (pe_cmpR op_eq (pv 1) pe_int (nomark _)))), ?_⟩
    refine ⟨_, rfl, _, _, rfl, rfl, _, rfl, ite2 (fun c => ?_) (fun c => ?_)⟩
    · have c := of_decide_eq_true c
      refine ⟨_, rfl, _, rfl, _, _, rfl, rfl, c, rfl, ?_⟩
      have e : decide (V.int (i % (r : Int)) = V.int 0) = decide ((r : Int) ∣ i) := by
        rw [decide_eq_decide]
        constructor
        · intro z; exact Int.dvd_of_emod_eq_zero (V.int.inj z)
        · intro z; rw [Int.emod_eq_zero_of_dvd z]
      rw [e]
      exact q
    · have c : ¬ (0 : Int) < (r : Int) := fun z => c (decide_eq_true z)
      have r0 : r = 0 := by omega
      subst r0
      refine ⟨_, rfl, rfl, ?_⟩
      have e : decide (V.int i = V.int 0) = decide (((0 : Nat) : Int) ∣ i) := by
        rw [decide_eq_decide]
        constructor
        · intro z; rw [V.int.inj z]; exact Int.dvd_zero _
        · intro z; rw [Int.zero_dvd.mp z]
      rw [e]
      exact q
/-! ### agree -/
theorem scAgree : FnScope ["one", "two", "rest"] ["one", "two", "rest"] (defScope sAgree) := ⟨rfl, rfl, rfl, by decide +kernel, rfl, by decide +kernel, by decide +kernel⟩
def spAgree : Sp := fun vs H Q _ => ∃ (i j : Int) (r : Nat), vs = [.int i, .int j, .int (r : Int)] ∧ Q (.bl (decide ((r : Int) ∣ i - j))) H
theorem ok_agree (T : Txt K mg) : FnOk P w K mg base CX0 2 T.agree.f T.agree.fd ["one", "two", "rest"] spAgree := by
  refine T.agree.F.ok scAgree (fun vs H Q E h => ?_) (fun cdv A outer s H vs Q E hr h => ?_)
  · obtain ⟨i, j, r, rfl, _⟩ := h
    rfl
  · obtain ⟨i, j, r, rfl, q⟩ := h
    refine ⟨_, pss_one (ps_ret (pe_and (pe_call (ok_isWhole T) hr (by rfl) T.isWhole.g T.isWhole.F.kp T.isWhole.b .nil pass0 (pa_cons (pv 2) pa_nil))
      (pe_one (pe_call (ok_divides T) hr (by rfl) T.divides.g T.divides.F.kp T.divides.b .nil pass0 (pa_cons (pv 2) (pa_cons (pe_op op_sub (pv 0) (pv 1)) pa_nil)))))), ?_⟩
    refine ⟨_, rfl, _, rfl, _, rfl, iteT ?_⟩
    exact ⟨_, rfl, _, rfl, _, rfl, _, _, rfl, rfl, r, i - j, rfl, q⟩
/-! ### is_point -/
theorem scIsPoint : FnScope ["thing", "many"] ["thing", "many"] (defScope sIsPoint) := ⟨rfl, rfl, rfl, by decide +kernel, rfl, by decide +kernel, by decide +kernel⟩
def spIsPoint : Sp := fun vs H Q _ => ∃ i n : Nat, vs = [.int (i : Int), .int (n : Int)] ∧ i < n ∧ Q (.bl true) H
theorem ok_isPoint (T : Txt K mg) : FnOk P w K mg base CX0 2 T.isPoint.f T.isPoint.fd ["thing", "many"] spIsPoint := by
  refine T.isPoint.F.ok scIsPoint (fun vs H Q E h => ?_) (fun cdv A outer s H vs Q E hr h => ?_)
  · obtain ⟨i, n, rfl, _⟩ := h
    rfl
  · obtain ⟨i, n, rfl, h1, q⟩ := h
    refine ⟨_, pss_one (ps_ret (pe_and (pe_call (ok_isWhole T) hr (by rfl) T.isWhole.g T.isWhole.F.kp T.isWhole.b .nil pass0 (pa_cons (pv 0) pa_nil))
      (pe_one (pe_chain op_le op_lt pe_int (pv 0) (pv 1))))), ?_⟩
    refine ⟨_, rfl, _, rfl, _, rfl, iteT ?_⟩
    refine ⟨_, rfl, _, _, rfl, rfl, _, rfl, ?_⟩
    rw [decide_eq_true (show (0 : Int) ≤ (i : Int) by omega)]
    refine iteT ⟨_, rfl, _, _, rfl, rfl, ?_⟩
    exact q_bl q (decide_eq_true (show (i : Int) < (n : Int) by omega))
end
end K12

/-! common, joined, joined_all, leads, and the law's own gcd, lcm. -/
namespace K12
open PySem L2
theorem lcm_div (a b : Nat) : a / Nat.gcd a b * b = Nat.lcm a b := by
  unfold Nat.lcm
  by_cases h : Nat.gcd a b = 0
  · have := Nat.gcd_eq_zero_iff.mp h
    rw [this.1, this.2]
    simp
  · rw [Nat.div_mul_right_comm (Nat.gcd_dvd_left a b)]
theorem q_int {Q : VK} {i j : Int} {H : Hp} (q : Q (.int j) H) (e : i = j) : Q (.int i) H := e ▸ q
theorem nat_lt_pow {a n : Nat} (h : a < 2 ^ n) : ((a : Nat) : Int).natAbs < 2 ^ n := by
  rw [Int.natAbs_natCast]
  exact h
section
variable {P : Program} {w : World} {K : PySem.W.Frag} {mg : Str → Option Value} {base : Heap}
/-! ### common -/
theorem scCommon : FnScope ["one", "two"] ["one", "two"] (defScope sCommon) := ⟨rfl, rfl, rfl, by decide +kernel, rfl, by decide +kernel, by decide +kernel⟩
def spGcd : Sp := fun vs H Q _ => ∃ a b : Nat, vs = [nv a, nv b] ∧ Q (nv (Nat.gcd a b)) H
theorem ok_common (T : Txt K mg) : FnOk P w K mg base CX0 1 T.common.f T.common.fd ["one", "two"] spGcd := by
  refine T.common.F.ok scCommon (fun vs H Q E h => ?_) (fun cdv A outer s H vs Q E hr h => ?_)
  · obtain ⟨a, b, rfl, _⟩ := h
    rfl
  · obtain ⟨a, b, rfl, q⟩ := h
    refine ⟨_, pss_cons (ps_while PassesOwn.never (pt_cmpR op_gt (pv 1) pe_int (nomark _))
        (pss_one (ps_par (i := 0) (j := 1) (by rfl) scCommon.nd rfl rfl (by decide) rfl rfl (pa_cons (pv 1) (pa_cons (pe_op op_mod (pv 0) (pv 1)) pa_nil)) (by rfl))))
      (pss_one (ps_ret (pv 0))), ?_⟩
    refine ⟨fun m σ H' => ∃ x y : Nat, σ = [some (nv x), some (nv y)] ∧ H' = H ∧ m = y ∧ Nat.gcd x y = Nat.gcd a b, ⟨b, a, b, rfl, rfl, rfl, rfl⟩, ?_⟩
    rintro m σ H' ⟨x, y, rfl, rfl, rfl, e⟩
    refine ⟨_, rfl, _, _, rfl, rfl, _, rfl, ite2 (fun c => ?_) (fun c => ?_)⟩
    · have c : (0 : Int) < (m : Int) := of_decide_eq_true c
      refine ⟨_, fun σ' H'' h => h, _, rfl, _, rfl, _, rfl, _, _, rfl, rfl, c, _, _, rfl, ?_⟩
      refine ⟨x % m, Nat.mod_lt _ (by omega), m, x % m, rfl, rfl, rfl, ?_⟩
      rw [← e, Nat.gcd_comm x m, Nat.gcd_rec m x, Nat.gcd_comm]
    · have c : ¬ (0 : Int) < (m : Int) := fun z => c (decide_eq_true z)
      have m0 : m = 0 := by omega
      subst m0
      rw [Nat.gcd_zero_right] at e
      refine ⟨_, rfl, ?_⟩
      rw [e]
      exact q
/-! ### joined -/
theorem scJoined : FnScope ["one", "two"] ["one", "two"] (defScope sJoined) := ⟨rfl, rfl, rfl, by decide +kernel, rfl, by decide +kernel, by decide +kernel⟩
def spLcm : Sp := fun vs H Q _ => ∃ a b : Nat, vs = [nv a, nv b] ∧ a < 2 ^ 4000 ∧ b < 2 ^ 4000 ∧ Q (nv (Nat.lcm a b)) H
theorem ok_joined (T : Txt K mg) : FnOk P w K mg base CX0 2 T.joined.f T.joined.fd ["one", "two"] spLcm := by
  refine T.joined.F.ok scJoined (fun vs H Q E h => ?_) (fun cdv A outer s H vs Q E hr h => ?_)
  · obtain ⟨a, b, rfl, _⟩ := h
    rfl
  · obtain ⟨a, b, rfl, ha, hb, q⟩ := h
    refine ⟨_, pss_cons (ps_if (PW.pt (pw_or (pt_cmpR op_eq (pv 0) pe_int (nomark _)) (pw_or1 (pt_cmpR op_eq (pv 1) pe_int (nomark _))))) (pss_one (ps_ret pe_int)) pss_nil)
      (pss_one (ps_ret (pe_op op_mulW (pe_op op_fdivW (pv 0) (pe_call (ok_common T) hr (by rfl) T.common.g T.common.F.kp T.common.b .nil pass0 (pa_cons (pv 0) (pa_cons (pv 1) pa_nil)))) (pv 1)))), ?_⟩
    refine ⟨_, rfl, rfl, _, rfl, ite2 (fun c => iteT ?_) (fun c => ?_)⟩
    · have c : a = 0 := by have := V.int.inj (of_decide_eq_true c); omega
      subst c
      rw [Nat.lcm_zero_left] at q
      exact q
    · have c : ¬ a = 0 := fun z => c (decide_eq_true (by subst z; rfl))
      refine ⟨_, rfl, rfl, _, rfl, ite2 (fun d => ?_) (fun d => ?_)⟩
      · have d : b = 0 := by have := V.int.inj (of_decide_eq_true d); omega
        subst d
        rw [Nat.lcm_zero_right] at q
        exact q
      · have d : ¬ b = 0 := fun z => d (decide_eq_true (by subst z; rfl))
        have gp : 0 < Nat.gcd a b := Nat.gcd_pos_of_pos_left b (by omega)
        have gl : Nat.gcd a b < 2 ^ 4000 := Nat.lt_of_le_of_lt (Nat.gcd_le_left b (by omega)) ha
        refine ⟨_, rfl, _, rfl, _, rfl, a, b, rfl, _, _, rfl, rfl, wide_div (show (0 : Int) < ((Nat.gcd a b : Nat) : Int) by omega) (nat_lt_pow gl) (by decide) (by decide), _, rfl, _, _, rfl, rfl, ?_, ?_⟩
        · rw [show (a : Int) / ((Nat.gcd a b : Nat) : Int) = ((a / Nat.gcd a b : Nat) : Int) from rfl]
          exact wide_mul (nat_lt_pow (Nat.lt_of_le_of_lt (Nat.div_le_self _ _) ha)) (nat_lt_pow hb) (by decide) (by decide) (by decide)
        · have e : ((a : Int) / ((Nat.gcd a b : Nat) : Int)) * (b : Int) = ((Nat.lcm a b : Nat) : Int) := by
            rw [← lcm_div a b, Int.natCast_mul]
            rfl
          exact q_int q e
/-! ### joined_all -/
theorem scJoinedAll : FnScope ["rests", "total", "rest"] ["rests"] (defScope sJoinedAll) := ⟨rfl, rfl, rfl, by decide +kernel, rfl, by decide +kernel, by decide +kernel⟩
def spJoinedAll : Sp := fun vs H Q _ => ∃ (a : Addr) (ns : List Nat) (M : Nat), vs = [.ref a] ∧ IntsAt H a ns ∧ (∀ x ∈ ns, Bd M x) ∧ 0 < M ∧ M < 2 ^ 4000 ∧ Q (nv (lcmAll ns)) H
theorem ok_joinedAll (T : Txt K mg) : FnOk P w K mg base CX0 3 T.joinedAll.f T.joinedAll.fd ["rests"] spJoinedAll := by
  refine T.joinedAll.F.ok scJoinedAll (fun vs H Q E h => ?_) (fun cdv A outer s H vs Q E hr h => ?_)
  · obtain ⟨a, b, M, rfl, _⟩ := h
    rfl
  · obtain ⟨a, ns, M, rfl, hA, hB, hM, hMl, q⟩ := h
    refine ⟨_, pss_cons (ps_set (i := 1) scJoinedAll.nd rfl (.inl rfl) pe_int)
      (pss_cons (ps_for PassesOwn.never rfl (pi_list (pv 0)) (pg_name (i := 2) scJoinedAll.nd rfl (.inl rfl))
        (pss_one (ps_set (i := 1) scJoinedAll.nd rfl (.inl rfl) (pe_call (ok_joined T) hr (by rfl) T.joined.g T.joined.F.kp T.joined.b .nil pass0 (pa_cons (pv 1) (pa_cons (pv 2) pa_nil))))))
      (pss_one (ps_ret (pv 1)))), ?_⟩
    refine ⟨_, rfl, a, rfl, ⟨_, SqL.of hA⟩, for_list (K := K) (a := a) (xs := ns.map nv) (fun i σ H' => ∃ v, σ = [some (.ref a), some (nv (lcmAll (ns.take i))), v] ∧ H' = H)
      ⟨none, rfl, rfl⟩ (fun i σ H' _ ⟨_, _, e⟩ => by rw [e]; exact SqL.of hA) ?_ ?_⟩
    · rintro i y σ H' hi ⟨v, rfl, rfl⟩
      rw [List.getElem?_map] at hi
      obtain ⟨x, hx, rfl⟩ := Option.map_eq_some_iff.mp hi
      have bx : Bd M x := hB x (List.mem_of_getElem? hx)
      have bt : Bd M (lcmAll (ns.take i)) := lcmFold_bd _ 1 (fun y hy => hB y (List.mem_of_mem_take hy)) (.one M)
      refine ⟨_, rfl, _, rfl, lcmAll (ns.take i), x, rfl, Nat.lt_of_le_of_lt (bt.le hM) hMl, Nat.lt_of_le_of_lt (bx.le hM) hMl, ?_⟩
      exact ⟨some (nv x), by rw [lcmAll_take hx]; rfl, rfl⟩
    · rintro σ H' ⟨v, rfl, rfl⟩
      refine ⟨_, rfl, ?_⟩
      rw [List.length_map, List.take_length]
      exact q
/-! ### leads -/
theorem scLeads : FnScope ["power", "rest"] ["power", "rest"] (defScope sLeads) := ⟨rfl, rfl, rfl, by decide +kernel, rfl, by decide +kernel, by decide +kernel⟩
def spLeads : Sp := fun vs H Q _ => ∃ p r : Nat, vs = [nv p, nv r] ∧ Q (.bl (decide (p ∣ r))) H
theorem ok_leads (T : Txt K mg) : FnOk P w K mg base CX0 2 T.leads.f T.leads.fd ["power", "rest"] spLeads := by
  refine T.leads.F.ok scLeads (fun vs H Q E h => ?_) (fun cdv A outer s H vs Q E hr h => ?_)
  · obtain ⟨a, b, rfl, _⟩ := h
    rfl
  · obtain ⟨p, r, rfl, q⟩ := h
    refine ⟨_, pss_one (ps_ret (pe_call (ok_divides T) hr (by rfl) T.divides.g T.divides.F.kp T.divides.b .nil pass0 (pa_cons (pv 0) (pa_cons (pv 1) pa_nil)))), ?_⟩
    refine ⟨_, rfl, _, rfl, p, (r : Int), rfl, ?_⟩
    exact q_bl q (decide_eq_decide.mpr Int.natCast_dvd_natCast)
/-! ### the law's own gcd, lcm -/
theorem scLGcd : FnScope ["_law_one", "_law_two"] ["_law_one", "_law_two"] (defScope sLGcd) := ⟨rfl, rfl, rfl, by decide +kernel, rfl, by decide +kernel, by decide +kernel⟩
theorem ok_lgcd (T : Txt K mg) : FnOk P w K mg base CX0 1 T.lgcd.f T.lgcd.fd ["_law_one", "_law_two"] spGcd := by
  refine T.lgcd.F.ok scLGcd (fun vs H Q E h => ?_) (fun cdv A outer s H vs Q E hr h => ?_)
  · obtain ⟨a, b, rfl, _⟩ := h
    rfl
  · obtain ⟨a, b, rfl, q⟩ := h
    refine ⟨_, pss_cons (ps_while PassesOwn.never (pt_cmpR op_gt (pv 1) pe_int (nomark _))
        (pss_one (ps_par (i := 0) (j := 1) (by rfl) scLGcd.nd rfl rfl (by decide) rfl rfl (pa_cons (pv 1) (pa_cons (pe_op op_mod (pv 0) (pv 1)) pa_nil)) (by rfl))))
      (pss_one (ps_ret (pv 0))), ?_⟩
    refine ⟨fun m σ H' => ∃ x y : Nat, σ = [some (nv x), some (nv y)] ∧ H' = H ∧ m = y ∧ Nat.gcd x y = Nat.gcd a b, ⟨b, a, b, rfl, rfl, rfl, rfl⟩, ?_⟩
    rintro m σ H' ⟨x, y, rfl, rfl, rfl, e⟩
    refine ⟨_, rfl, _, _, rfl, rfl, _, rfl, ite2 (fun c => ?_) (fun c => ?_)⟩
    · have c : (0 : Int) < (m : Int) := of_decide_eq_true c
      refine ⟨_, fun σ' H'' h => h, _, rfl, _, rfl, _, rfl, _, _, rfl, rfl, c, _, _, rfl, ?_⟩
      refine ⟨x % m, Nat.mod_lt _ (by omega), m, x % m, rfl, rfl, rfl, ?_⟩
      rw [← e, Nat.gcd_comm x m, Nat.gcd_rec m x, Nat.gcd_comm]
    · have c : ¬ (0 : Int) < (m : Int) := fun z => c (decide_eq_true z)
      have m0 : m = 0 := by omega
      subst m0
      rw [Nat.gcd_zero_right] at e
      refine ⟨_, rfl, ?_⟩
      rw [e]
      exact q
theorem scLLcm : FnScope ["_law_one", "_law_two"] ["_law_one", "_law_two"] (defScope sLLcm) := ⟨rfl, rfl, rfl, by decide +kernel, rfl, by decide +kernel, by decide +kernel⟩
theorem ok_llcm (T : Txt K mg) : FnOk P w K mg base CX0 2 T.llcm.f T.llcm.fd ["_law_one", "_law_two"] spLcm := by
  refine T.llcm.F.ok scLLcm (fun vs H Q E h => ?_) (fun cdv A outer s H vs Q E hr h => ?_)
  · obtain ⟨a, b, rfl, _⟩ := h
    rfl
  · obtain ⟨a, b, rfl, ha, hb, q⟩ := h
    refine ⟨_, pss_cons (ps_if (PW.pt (pw_or (pt_cmpR op_eq (pv 0) pe_int (nomark _)) (pw_or1 (pt_cmpR op_eq (pv 1) pe_int (nomark _))))) (pss_one (ps_ret pe_int)) pss_nil)
      (pss_one (ps_ret (pe_op op_mulW (pe_op op_fdivW (pv 0) (pe_call (ok_lgcd T) hr (by rfl) T.lgcd.g T.lgcd.F.kp T.lgcd.b .nil pass0 (pa_cons (pv 0) (pa_cons (pv 1) pa_nil)))) (pv 1)))), ?_⟩
    refine ⟨_, rfl, rfl, _, rfl, ite2 (fun c => iteT ?_) (fun c => ?_)⟩
    · have c : a = 0 := by have := V.int.inj (of_decide_eq_true c); omega
      subst c
      rw [Nat.lcm_zero_left] at q
      exact q
    · have c : ¬ a = 0 := fun z => c (decide_eq_true (by subst z; rfl))
      refine ⟨_, rfl, rfl, _, rfl, ite2 (fun d => ?_) (fun d => ?_)⟩
      · have d : b = 0 := by have := V.int.inj (of_decide_eq_true d); omega
        subst d
        rw [Nat.lcm_zero_right] at q
        exact q
      · have d : ¬ b = 0 := fun z => d (decide_eq_true (by subst z; rfl))
        have gp : 0 < Nat.gcd a b := Nat.gcd_pos_of_pos_left b (by omega)
        have gl : Nat.gcd a b < 2 ^ 4000 := Nat.lt_of_le_of_lt (Nat.gcd_le_left b (by omega)) ha
        refine ⟨_, rfl, _, rfl, _, rfl, a, b, rfl, _, _, rfl, rfl, wide_div (show (0 : Int) < ((Nat.gcd a b : Nat) : Int) by omega) (nat_lt_pow gl) (by decide) (by decide), _, rfl, _, _, rfl, rfl, ?_, ?_⟩
        · rw [show (a : Int) / ((Nat.gcd a b : Nat) : Int) = ((a / Nat.gcd a b : Nat) : Int) from rfl]
          exact wide_mul (nat_lt_pow (Nat.lt_of_le_of_lt (Nat.div_le_self _ _) ha)) (nat_lt_pow hb) (by decide) (by decide) (by decide)
        · have e : ((a : Int) / ((Nat.gcd a b : Nat) : Int)) * (b : Int) = ((Nat.lcm a b : Nat) : Int) := by
            rw [← lcm_div a b, Int.natCast_mul]
            rfl
          exact q_int q e
end
end K12

/-! powers. -/
namespace K12
open PySem L2
section
variable {P : Program} {w : World} {K : PySem.W.Frag} {mg : Str → Option Value} {base : Heap}
theorem scPowers : FnScope ["number", "found", "prime", "power"] ["number"] (defScope sPowers) := ⟨rfl, rfl, rfl, by decide +kernel, rfl, by decide +kernel, by decide +kernel⟩
def spPowers : Sp := fun vs H Q _ => ∃ n : Nat, vs = [nv n] ∧ 0 < n ∧ n ≤ 1000000 ∧ ∀ (ps : List Nat) (l : Addr) (H' : Hp), PowOf n ps → ps.length ≤ 1000000 → Same H H' → IntsAt H' l ps → Q (.ref l) H'
theorem ok_powers (T : Txt K mg) : FnOk P w K mg base CX0 1 T.powers.f T.powers.fd ["number"] spPowers := by
  refine T.powers.F.ok scPowers (fun vs H Q E h => ?_) (fun cdv A outer s H vs Q E hr h => ?_)
  · obtain ⟨n, rfl, _⟩ := h
    rfl
  · obtain ⟨n, rfl, hn, hn6, q⟩ := h
    refine ⟨_, pss_cons (ps_set (i := 1) scPowers.nd rfl (.inl rfl) (pe_lst pa_nil))
      (pss_cons (ps_set (i := 2) scPowers.nd rfl (.inl rfl) pe_int)
      (pss_cons (ps_while PassesOwn.never (pt_cmpR op_gt (pv 0) pe_int (nomark _))
        (C8.pss_cut (ps_if (pt_cmpR op_gt (pe_op op_mul (pv 2) (pv 2)) (pv 0) (nomark _)) (pss_one (ps_set (i := 2) scPowers.nd rfl (.inl rfl) (pv 0))) pss_nil)
        (pss_cons (ps_set (i := 3) scPowers.nd rfl (.inl rfl) pe_int)
        (pss_cons (ps_while PassesOwn.never (pt_cmpR op_eq (pe_op op_mod (pv 0) (pv 2)) pe_int (nomark _))
          (pss_cons (ps_aug (i := 0) scPowers.nd rfl (.inl rfl) (pv 2) (iop_fdiv))
          (pss_one (ps_aug (i := 3) scPowers.nd rfl (.inl rfl) (pv 2) (iop_mul)))))
        (C8.pss_cut (ps_if (pt_cmpR op_gt (pv 3) pe_int (nomark _)) (pss_one (ps_expr (pe_bm PySem.F.plainAttrs_list PySem.F.slot_list_append PySem.F.type_list_append mt_append (pv 1) (pa_cons (pv 3) pa_nil)))) pss_nil)
        (pss_one (ps_aug (i := 2) scPowers.nd rfl (.inl rfl) pe_int ip_add)))))))
      (pss_one (ps_ret (pv 1))))), ?_⟩
    -- found = []
    refine ⟨Nat.zero_le _, fun l hl => ?_⟩
    -- while number > 1
    refine ⟨fun μ σ H' => ∃ (ps : List Nat) (m d : Nat) (v3 : Option V), σ = [some (nv m), some (.ref l), some (nv d), v3] ∧ PowInv n ps m d ∧ Same H H' ∧ IntsAt H' l ps ∧ μ = m + (n + 1 - d),
      ⟨_, [], n, 2, none, rfl, .start hn, same_upd hl, upd_same, rfl⟩, ?_⟩
    rintro μ σ H' ⟨ps, m, d, v3, rfl, I, sm, hL, rfl⟩
    have hml : ∀ {b : Addr} {o : HO}, H b = some o → b ≠ l := fun e => ne_of_none e hl
    refine ⟨_, rfl, _, _, rfl, rfl, _, rfl, ite2 (fun c => ?_) (fun c => ?_)⟩
    · have hm : 1 < m := by
        have : (1 : Int) < (m : Int) := of_decide_eq_true c
        omega
      have hle := I.le
      have two := I.two
      have ge := I.nextP_ge hm
      have np := I.nextP_le hm
      obtain ⟨p, ep⟩ : ∃ p, p = nextP m d := ⟨_, rfl⟩
      refine ⟨_, fun σ' H'' h => h, ?_⟩
      -- if prime * prime > number: prime = number
      refine ⟨fun σ' H'' => σ' = [some (nv m), some (.ref l), some (nv p), v3] ∧ H'' = H', ?_, ?_⟩
      · have hd6 : d ≤ 1000000 := by omega
        refine ⟨_, rfl, _, rfl, _, _, rfl, rfl, .inl ⟨by show -(2 ^ 64) < (d : Int); omega, by show (d : Int) < 2 ^ 64; omega⟩, _, rfl, _, _, rfl, rfl, _, rfl, ite2 (fun c => ?_) (fun c => ?_)⟩
        · have c : (m : Int) < (d : Int) * (d : Int) := of_decide_eq_true c
          have c : m < d * d := by
            have : ((d * d : Nat) : Int) = (d : Int) * (d : Int) := Int.natCast_mul d d
            omega
          refine ⟨_, rfl, ?_, rfl⟩
          rw [ep]
          unfold nextP
          rw [if_pos c]
          rfl
        · have c : ¬ m < d * d := fun z => c (decide_eq_true (by
            show (m : Int) < (d : Int) * (d : Int)
            have : ((d * d : Nat) : Int) = (d : Int) * (d : Int) := Int.natCast_mul d d
            omega))
          refine ⟨?_, rfl⟩
          rw [ep]
          unfold nextP
          rw [if_neg c]
      · rintro σ' H'' ⟨rfl, rfl⟩
        rw [← ep] at ge np
        -- power = 1; while number % prime == 0
        refine ⟨fun μ2 σ2 H2 => ∃ (k y : Nat), σ2 = [some (nv y), some (.ref l), some (nv p), some (nv (p ^ k))] ∧ H2 = H'' ∧ p ^ k * y = m ∧ 0 < y ∧ μ2 = y, ⟨m, 0, m, by rw [Nat.pow_zero]; rfl, rfl, by simp, by omega, rfl⟩, ?_⟩
        rintro μ2 σ2 H2 ⟨k, y, rfl, rfl, e, hy, rfl⟩
        have hpk : 0 < p ^ k := Nat.pow_pos (by omega)
        have hyle : μ2 ≤ m := by rw [← e]; exact Nat.le_mul_of_pos_left _ hpk
        have hpkle : p ^ k ≤ m := by rw [← e]; exact Nat.le_mul_of_pos_right _ hy
        refine ⟨_, rfl, _, rfl, _, _, rfl, rfl, (show (0 : Int) < (p : Int) by omega), rfl, _, rfl, ite2 (fun c => ?_) (fun c => ?_)⟩
        · have c : (μ2 : Int) % (p : Int) = 0 := V.int.inj (of_decide_eq_true c)
          have c : p ∣ μ2 := by
            have : ((μ2 % p : Nat) : Int) = (μ2 : Int) % (p : Int) := Int.natCast_emod μ2 p
            exact Nat.dvd_of_mod_eq_zero (by omega)
          obtain ⟨z, hz⟩ := c
          refine ⟨_, fun σ' H'' h => h, ?_⟩
          have hz0 : 0 < z := Nat.pos_of_ne_zero fun q => by subst q; omega
          have ez : (μ2 : Int) / (p : Int) = (z : Int) := by
            rw [hz, Int.natCast_mul]
            exact Int.mul_ediv_cancel_left _ (by omega)
          refine ⟨_, rfl, _, rfl, _, _, rfl, rfl, ⟨(show (0 : Int) < (p : Int) by omega), (show (p : Int) < 1073741824 by omega)⟩, ?_⟩
          refine ⟨_, rfl, _, rfl, _, _, rfl, rfl, .inl ⟨by show -(2 ^ 64) < ((p ^ k : Nat) : Int); omega, by show ((p ^ k : Nat) : Int) < 2 ^ 64; omega⟩, ?_⟩
          have hlt : z < μ2 := by
            rw [hz]
            have := Nat.mul_le_mul_right z (show 2 ≤ p by omega)
            omega
          refine ⟨z, hlt, k + 1, z, ?_, rfl, ?_, hz0, rfl⟩
          · show [some (V.int ((μ2 : Int) / (p : Int))), some (.ref l), some (nv p), some (V.int (((p ^ k : Nat) : Int) * (p : Int)))] = _
            rw [ez, Nat.pow_succ]
            rfl
          · rw [← e, hz, Nat.pow_succ, Nat.mul_assoc]
        · have c : ¬ p ∣ μ2 := fun z => c (decide_eq_true (by
            have : ((μ2 % p : Nat) : Int) = (μ2 : Int) % (p : Int) := Int.natCast_emod μ2 p
            show V.int ((μ2 : Int) % (p : Int)) = V.int 0
            rw [← this, Nat.mod_eq_zero_of_dvd z]
            rfl))
          have S := I.step hm (k := k) (m' := μ2) (by rw [← ep]; exact e) (by rw [← ep]; exact c)
          rw [← ep] at S
          -- if power > 1: found.append(power)
          refine ⟨fun σ' H3 => σ' = [some (nv μ2), some (.ref l), some (nv p), some (nv (p ^ k))] ∧ Same H H3 ∧ IntsAt H3 l (if 1 < p ^ k then ps ++ [p ^ k] else ps), ?_, ?_⟩
          · refine ⟨_, rfl, _, _, rfl, rfl, _, rfl, ite2 (fun c => ?_) (fun c => ?_)⟩
            · have c : 1 < p ^ k := by
                have : (1 : Int) < ((p ^ k : Nat) : Int) := of_decide_eq_true c
                omega
              have hlen : ps.length < sizeLine := by
                have := I.len
                exact Nat.lt_of_le_of_lt (show ps.length ≤ 1000000 by omega) (by decide)
              refine ⟨_, rfl, .inl ⟨rfl, _, SqL.of hL⟩, _, rfl, l, _, _, rfl, rfl, hL, ?_, ?_⟩
              · rw [List.length_map]
                exact hlen
              · refine ⟨rfl, fun b o e => ?_, ?_⟩
                · rw [upd_ne (hml e)]
                  exact sm _ _ e
                · rw [if_pos c]
                  show upd _ l _ l = _
                  rw [upd_same, List.map_append]
                  rfl
            · have c : ¬ 1 < p ^ k := fun z => c (decide_eq_true (by
                show (1 : Int) < ((p ^ k : Nat) : Int)
                omega))
              rw [if_neg c]
              exact ⟨rfl, sm, hL⟩
          · rintro σ' H3 ⟨rfl, sm3, hL3⟩
            -- prime += 1
            refine ⟨_, rfl, _, _, rfl, rfl, ?_⟩
            have hdv : ∀ z, z ∣ m → z ≤ m := fun z hz => Nat.le_of_dvd (by omega) hz
            refine ⟨μ2 + (n + 1 - (p + 1)), ?_, _, μ2, p + 1, some (nv (p ^ k)), rfl, S, sm3, hL3, rfl⟩
            by_cases c2 : m < d * d
            · have e2 : p = m := by
                rw [ep]
                unfold nextP
                rw [if_pos c2]
              have hne : μ2 ≠ m := fun z => c (by rw [e2, z]; exact Nat.dvd_refl m)
              omega
            · have e2 : p = d := by
                rw [ep]
                unfold nextP
                rw [if_neg c2]
              have : d * 1 ≤ d * d := Nat.mul_le_mul_left d (by omega)
              omega
    · have hm : ¬ 1 < m := fun z => c (decide_eq_true (by
        show (1 : Int) < (m : Int)
        omega))
      refine ⟨_, rfl, ?_⟩
      refine q ps l H' (I.done (by omega)) ?_ sm hL
      have := I.len
      omega
end
end K12

/-! closure. -/
namespace K12
open PySem L2
/-! ### a comprehension's parts -/
def lcScope : Expr → Scope
  | .ListComp _ _ sc _ => sc
  | _ => { kind := .function, names := [], isGenerator := false, isCoroutine := false }
def lcElt : Expr → Expr
  | .ListComp e _ _ _ => e
  | e => e
def asgVal : Stmt → Expr
  | .Assign _ v _ => v
  | .Return (some v) _ => v
  | _ => .Constant .none 0 ⟨0, 0, 0, 0⟩
def stAt (b : List Stmt) (i : Nat) : Stmt := b.getD i (.Pass ⟨0, 0, 0, 0⟩)
def forBody : Stmt → List Stmt
  | .For _ _ b _ _ => b
  | _ => []
/-- items of a list, K named: within a comprehension's block -/
theorem ixl {X : Cx} {K : PySem.W.Frag} (h : X.K = K := by rfl) : IxR X (rIxL K) := h ▸ ix_list
/-! ### what stands in the heap -/
def tieV (t : Tie) : HO := .tup [nv t.1, nv t.2.1, nv t.2.2]
/-- the ties stand at a -/
def TiesAt (H : Hp) (a : Addr) (ts : List Tie) : Prop := ∃ as : List Addr, H a = some (.lst (as.map V.ref)) ∧ as.length = ts.length ∧ ∀ (i : Nat) (b : Addr) (t : Tie), as[i]? = some b → ts[i]? = some t → H b = some (tieV t)
theorem TiesAt.keep {H H' : Hp} {a : Addr} {ts : List Tie} (h : TiesAt H a ts) (s : Same H H') : TiesAt H' a ts := by
  obtain ⟨as, h1, h2, h3⟩ := h
  exact ⟨as, s _ _ h1, h2, fun i b t e1 e2 => s _ _ (h3 i b t e1 e2)⟩
def rowL (n : Nat) (f : Nat → Nat) : List V := (List.range n).map fun j => nv (f j)
theorem rowL_len (n : Nat) (f : Nat → Nat) : (rowL n f).length = n := by simp [rowL]
theorem rowL_at {n : Nat} {f : Nat → Nat} {j : Nat} (h : j < n) : (rowL n f)[j]? = some (nv (f j)) := by
  unfold rowL
  rw [List.getElem?_map, List.getElem?_range h]
  rfl
theorem rowL_set {n : Nat} {f : Nat → Nat} {j x : Nat} (h : j < n) : (rowL n f).set j (nv x) = rowL n (fun k => if k = j then x else f k) := by
  apply List.ext_getElem?
  intro k
  by_cases hk : k < n
  · rw [rowL_at hk]
    by_cases e : k = j
    · subst e
      rw [List.getElem?_set_self (by rw [rowL_len]; exact h), if_pos rfl]
    · rw [List.getElem?_set_ne (fun z => e z.symm), rowL_at hk, if_neg e]
  · rw [List.getElem?_eq_none (by rw [List.length_set, rowL_len]; omega), List.getElem?_eq_none (by rw [rowL_len]; omega)]
theorem rowL_ext {n : Nat} {f g : Nat → Nat} (h : ∀ j, j < n → f j = g j) : rowL n f = rowL n g := by
  unfold rowL
  exact List.map_congr_left fun j hj => by rw [h j (List.mem_range.mp hj)]
/-- the rows of a grid stand at as -/
def Rows (H : Hp) (as : List Addr) (n : Nat) (g : Grid) : Prop := ∀ (i : Nat) (a : Addr), as[i]? = some a → H a = some (.lst (rowL n (g i)))
/-- a grid stands at lg -/
def GridAt (H : Hp) (lg : Addr) (n : Nat) (g : Grid) : Prop := ∃ as : List Addr, H lg = some (.lst (as.map V.ref)) ∧ as.length = n ∧ Rows H as n g
theorem GridAt.keep {H H' : Hp} {a : Addr} {n : Nat} {g : Grid} (h : GridAt H a n g) (s : Same H H') : GridAt H' a n g := by
  obtain ⟨as, h1, h2, h3⟩ := h
  exact ⟨as, s _ _ h1, h2, fun i b e => s _ _ (h3 i b e)⟩
/-- all that is not at as stands as it stood -/
def Out (as : List Addr) (H H' : Hp) : Prop := ∀ b o, b ∉ as → H b = some o → H' b = some o
theorem Out.refl (as : List Addr) (H : Hp) : Out as H H := fun _ _ _ e => e
theorem Out.trans {as : List Addr} {H H1 H2 : Hp} (a : Out as H H1) (b : Out as H1 H2) : Out as H H2 := fun c o n e => b c o n (a c o n e)
theorem Out.upd {as : List Addr} {H H1 : Hp} (h : Out as H H1) {a : Addr} {o : HO} (ha : a ∈ as) : Out as H (upd H1 a o) := fun b x n e => by
  rw [upd_ne (fun z => n (by rw [z]; exact ha))]
  exact h b x n e
theorem Same.out {as : List Addr} {H H1 : Hp} (s : Same H H1) : Out as H H1 := fun b o _ e => s b o e
theorem Out.keep {as : List Addr} {H H1 : Hp} (h : Out as H H1) (hn : ∀ a ∈ as, H a = none) : Same H H1 := fun b o e => h b o (fun z => by rw [hn b z] at e; cases e) e
theorem Rows.set {H : Hp} {as : List Addr} {n : Nat} {g : Grid} (hN : as.Nodup) (h : Rows H as n g) {i : Nat} {a : Addr} (ha : as[i]? = some a) {f : Nat → Nat} : Rows (upd H a (.lst (rowL n f))) as n (fun i' => if i' = i then f else g i') := fun k b hb => by
  by_cases c : k = i
  · subst c
    have e : b = a := Option.some.inj (hb.symm.trans ha)
    subst e
    rw [upd_same]
    show _ = some (HO.lst (rowL n (if k = k then f else g k)))
    rw [if_pos rfl]
  · have ne : b ≠ a := fun z => c (nd_ix hN hb (by rw [z]; exact ha))
    rw [upd_ne ne]
    show _ = some (HO.lst (rowL n (if k = i then f else g k)))
    rw [if_neg c]
    exact h k b hb
theorem Rows.ext {H : Hp} {as : List Addr} {n : Nat} {g g' : Grid} (h : Rows H as n g) (hl : as.length = n) (e : ∀ i j, i < n → j < n → g i j = g' i j) : Rows H as n g' := fun i a ha => by
  have hi : i < n := by rw [← hl]; exact (List.getElem?_eq_some_iff.mp ha).1
  rw [h i a ha, rowL_ext fun j hj => e i j hi hj]
/-- no test: the turn is kept -/
theorem t_yes {A B : Hp → Prop} {σ : St} {H : Hp} (h : A H) : tYes σ H (fun b H3 => if b = true then A H3 else B H3) := by
  show if true = true then A H else B H
  rw [if_pos rfl]
  exact h
theorem Rows.put {H : Hp} {as : List Addr} {n : Nat} {g : Grid} (hN : as.Nodup) (h : Rows H as n g) {i j x : Nat} {a : Addr} (ha : as[i]? = some a) (hj : j < n) : Rows (upd H a (.lst ((rowL n (g i)).set j (nv x)))) as n (set2 g i j x) := by
  rw [rowL_set hj]
  have e : set2 g i j x = fun i' => if i' = i then (fun k => if k = j then x else g i k) else g i' := by
    funext i' k
    unfold set2
    by_cases c : i' = i
    · subst c
      rw [if_pos rfl]
      by_cases d : k = j
      · rw [if_pos ⟨rfl, d⟩, if_pos d]
      · rw [if_neg (fun z => d z.2), if_neg d]
    · rw [if_neg (fun z => c z.1), if_neg c]
  rw [e]
  exact h.set hN ha
theorem at_ref {as : List Addr} {i : Nat} {a : Addr} (h : as[i]? = some a) : atI (as.map V.ref) (i : Int) = some (.ref a) := atI_nat (by rw [List.getElem?_map, h]; rfl)
theorem at_row {n : Nat} {f : Nat → Nat} {j : Nat} (h : j < n) : atI (rowL n f) (j : Int) = some (nv (f j)) := atI_nat (rowL_at h)
theorem at_nv {ns : List Nat} {i x : Nat} (h : ns[i]? = some x) : atI (ns.map nv) (i : Int) = some (nv x) := atI_nat (by rw [List.getElem?_map, h]; rfl)
/-- the i-th of a list of references -/
theorem ref_at {as : List Addr} {i : Nat} {y : V} (h : (as.map V.ref)[i]? = some y) : ∃ b, as[i]? = some b ∧ y = .ref b := by
  rw [List.getElem?_map] at h
  obtain ⟨b, hb, e⟩ := Option.map_eq_some_iff.mp h
  exact ⟨b, hb, e.symm⟩
theorem get_lt {α : Type} {l : List α} {i : Nat} {x : α} (h : l[i]? = some x) : i < l.length := (List.getElem?_eq_some_iff.mp h).1
theorem get_of {α : Type} {l : List α} {i : Nat} (h : i < l.length) : ∃ x, l[i]? = some x := ⟨l[i], List.getElem?_eq_getElem h⟩
theorem ixN_nat {n j : Nat} (h : j < n) : ixN n (j : Int) = some j := by
  unfold ixN
  rw [if_pos (by omega)]
  simp [h]
end K12

namespace K12
open PySem L2
section
variable {P : Program} {w : World} {K : PySem.W.Frag} {mg : Str → Option Value} {base : Heap}
abbrev nClosure : List Str := ["many", "ties", "table", "one", "two", "rest", "by", "near", "row", "bond"]
theorem scClosure : FnScope nClosure ["many", "ties"] (defScope sClosure) := ⟨rfl, rfl, rfl, by decide +kernel, rfl, by decide +kernel, by decide +kernel⟩
abbrev cTab : Expr := asgVal (stAt (defBody sClosure) 0)
abbrev cNear : Expr := asgVal (stAt (forBody (stAt (defBody sClosure) 2)) 0)
theorem bkTab : BlkOk nClosure (defScope sClosure) (lcScope cTab) [("one", 3)] := blkOk_by (by decide +kernel)
theorem bkTab2 : BlkOk nClosure (relS (lcScope cTab) (defScope sClosure)) (lcScope (lcElt cTab)) [("two", 4)] := blkOk_by (by decide +kernel)
theorem bkNear : BlkOk nClosure (defScope sClosure) (lcScope cNear) [("two", 4), ("bond", 9)] := blkOk_by (by decide +kernel)
def spClosure : Sp := fun vs H Q _ => ∃ (n : Nat) (a : Addr) (ts : List Tie) (M : Nat), vs = [nv n, .ref a] ∧ TiesAt H a ts ∧ n ≤ 1000 ∧ (∀ t ∈ ts, t.1 < n ∧ t.2.1 < n) ∧ (∀ t ∈ ts, Bd M t.2.2) ∧ 0 < M ∧ M < 2 ^ 4000 ∧
  ∀ (lg : Addr) (H' : Hp), Same H H' → GridAt H' lg n (closureOf n ts) → Q (.ref lg) H'
theorem ok_closure (T : Txt K mg) : FnOk P w K mg base CX0 3 T.closure.f T.closure.fd ["many", "ties"] spClosure := by
  refine T.closure.F.ok scClosure (fun vs H Q E h => ?_) (fun cdv A outer s H vs Q E hr h => ?_)
  · obtain ⟨n, a, ts, M, rfl, _⟩ := h
    rfl
  · obtain ⟨n, a, ts, M, rfl, hT, hn, hp, hB, hM, hMl, q⟩ := h
    have nd := scClosure.nd
    refine ⟨_, C8.pss_cut (ps_setLc (i := 2) (own := [("one", 3)]) (g := gName 3) rfl nd rfl rfl (sw_true rfl rfl rfl (by decide +kernel)) (pi_range1 (by rfl) T.zRange (pa_cons (pv 0) pa_nil)) bkTab
        (fun _ _ _ _ _ => pg_name (i := 3) nd rfl (Or.inr rfl)) (fun _ _ _ _ _ => pts_nil)
        (fun _ _ _ _ _ => pe_lc (own := [("two", 4)]) (g := gName 4) rfl nd (pi_range1 (by rfl) T.zRange (pa_cons (pv 0) pa_nil)) bkTab2
          (fun _ _ _ _ _ => pg_name (i := 4) nd rfl (Or.inl rfl)) (fun _ _ _ _ _ => pts_nil)
          (fun _ _ _ _ _ => pe_callTy call_int1 (by rfl) T.zInt (by decide +kernel) (pa_cons (pe_cmpR op_ne (pv 3) (pv 4) (nomark _)) pa_nil))))
      (C8.pss_cut (ps_for PassesOwn.never rfl (pi_list (pv 1)) (pg_tup rfl (pgs_cons (pg_name (i := 3) nd rfl (.inl rfl)) (pgs_cons (pg_name (i := 4) nd rfl (.inl rfl)) (pgs_cons (pg_name (i := 5) nd rfl (.inl rfl)) pgs_nil))))
        (pss_one (ps_asg2 (pe_call (ok_joined T) hr (by rfl) T.joined.g T.joined.F.kp T.joined.b .nil pass0 (pa_cons (pe_ix ix_list (pe_ix ix_list (pv 2) (pv 3) (fun _ _ => rfl)) (pv 4) (fun _ _ => rfl)) (pa_cons (pv 5) pa_nil)))
          (pg_sub (pe_ix ix_list (pv 2) (pv 3) (fun _ _ => rfl)) (pv 4) set_list) (pg_sub (pe_ix ix_list (pv 2) (pv 4) (fun _ _ => rfl)) (pv 3) set_list))))
      (C8.pss_cut (ps_for PassesOwn.never rfl (pi_range1 (by rfl) T.zRange (pa_cons (pv 0) pa_nil)) (pg_name (i := 6) nd rfl (.inl rfl))
        (C8.pss_cut (ps_setLc (i := 7) (own := [("two", 4), ("bond", 9)]) (g := gTup K 2 (gCons (gName 4) (gCons (gName 9) gNil))) rfl nd rfl rfl (sw_true rfl rfl rfl (by decide +kernel)) (pi_enum (by rfl) T.zEnum (pa_cons (pe_ix ix_list (pv 2) (pv 6) (fun _ _ => rfl)) pa_nil)) bkNear
            (fun _ _ _ _ _ => pg_tup rfl (pgs_cons (pg_name (i := 4) nd rfl (.inl rfl)) (pgs_cons (pg_name (i := 9) nd rfl (.inl rfl)) pgs_nil)))
            (fun _ _ _ _ _ => pts_one (pt_cmpR op_ne (pv 9) pe_int (nomark _)))
            (fun _ _ _ _ _ => pe_tup (pa_cons (pv 4) (pa_cons (pv 9) pa_nil))))
        (pss_one (ps_for PassesOwn.never rfl (pi_list (pv 2)) (pg_name (i := 8) nd rfl (.inl rfl))
          (pss_one (ps_if (pt_cmpR op_ne (pe_ix ix_list (pv 8) (pv 6) (fun _ _ => rfl)) pe_int (nomark _))
            (pss_one (ps_for PassesOwn.never rfl (pi_list (pv 7)) (pg_tup rfl (pgs_cons (pg_name (i := 4) nd rfl (.inl rfl)) (pgs_cons (pg_name (i := 9) nd rfl (.inl rfl)) pgs_nil)))
              (pss_one (ps_asg (pe_call (ok_joined T) hr (by rfl) T.joined.g T.joined.F.kp T.joined.b .nil pass0 (pa_cons (pe_ix ix_list (pv 8) (pv 4) (fun _ _ => rfl))
                  (pa_cons (pe_call (ok_common T) (hr.mono (by decide)) (by rfl) T.common.g T.common.F.kp T.common.b .nil pass0 (pa_cons (pe_ix ix_list (pv 8) (pv 6) (fun _ _ => rfl)) (pa_cons (pv 9) pa_nil))) pa_nil)))
                (pg_sub (pv 8) (pv 4) set_list)))))
            pss_nil))))))
      (pss_one (ps_ret (pv 2))))), ?_⟩
    -- table
    refine ⟨fun σ1 H1 => ∃ (lg : Addr) (as : List Addr), σ1 = [some (nv n), some (.ref a), some (.ref lg), none, none, none, none, none, none, none] ∧ Same H H1 ∧ (∀ b ∈ as, H b = none) ∧ as.Nodup ∧ lg ∉ as ∧ as.length = n ∧ H1 lg = some (.lst (as.map V.ref)) ∧ Rows H1 as n g0, ?_, ?_⟩
    · refine ⟨_, rfl, (n : Int), rfl, by omega, by omega, fun D hD => ?_⟩
      refine lc_range (lo := 0) (n := n) (fun i H' => ∃ as : List Addr, as.length = i ∧ H' D = some (.lst (as.map V.ref)) ∧ Same H H' ∧ (∀ b ∈ as, H b = none) ∧ as.Nodup ∧ D ∉ as ∧ Rows H' as n g0)
        ⟨[], rfl, upd_same, same_upd hD, fun _ h => (by cases h), List.nodup_nil, fun h => (by cases h), fun i b h => (by simp at h)⟩ ?_ ?_
      · rintro i H1 hi ⟨as, hlen, hL, s1, hf, hN, hDn, hR⟩
        refine ⟨rfl, t_yes ?_⟩
        refine ⟨_, rfl, (n : Int), rfl, by omega, by omega, fun D2 hD2 => ?_⟩
        refine lc_range (lo := 0) (n := n) (fun j H' => H' D2 = some (.lst ((List.range j).map fun k => nv (g0 i k))) ∧ Same H1 H') ⟨upd_same, same_upd hD2⟩ ?_ ?_
        · rintro j H2 hj ⟨h1, h2⟩
          refine ⟨rfl, t_yes ?_⟩
          refine ⟨_, rfl, _, rfl, rfl, .inr ⟨_, rfl, _, h1, ?_, ?_, ?_⟩⟩
          · rw [List.length_map, List.length_range]
            exact small1000 (by omega)
          · rw [upd_same, List.range_succ, List.map_append]
            have e : V.int (if (!decide (V.int (0 + (i : Int)) = V.int (0 + (j : Int)))) = true then 1 else 0) = nv (g0 i j) := by
              unfold g0
              by_cases c : i = j
              · subst c
                simp
              · have c2 : ¬ (V.int (0 + (i : Int)) = V.int (0 + (j : Int))) := fun z => c (by have := V.int.inj z; omega)
                rw [if_neg c, decide_eq_false c2]
                rfl
            rw [e]
            rfl
          · intro b o e
            rw [upd_ne (ne_of_none e hD2)]
            exact h2 b o e
        · rintro H2 ⟨h1, h2⟩
          have nD : D ≠ D2 := ne_of_none hL hD2
          have ndas : D2 ∉ as := fun z => by
            obtain ⟨k, hk, e⟩ := List.mem_iff_getElem.mp z
            have := hR k D2 (by rw [← e]; exact List.getElem?_eq_getElem hk)
            rw [hD2] at this
            cases this
          refine ⟨_, h2 _ _ hL, ?_, as ++ [D2], ?_, ?_, ?_, ?_, ?_, ?_, ?_⟩
          · rw [List.length_map]
            exact small1000 (by omega)
          · rw [List.length_append, hlen]
            rfl
          · rw [upd_same, List.map_append]
            rfl
          · intro b o e
            have nb : b ≠ D := ne_of_none e hD
            rw [upd_ne nb]
            exact h2 _ _ (s1 _ _ e)
          · intro b hb
            rcases List.mem_append.mp hb with hb | hb
            · exact hf b hb
            · rw [List.mem_singleton.mp hb]
              exact s1.free hD2
          · exact nd_snoc hN ndas
          · intro z
            rcases List.mem_append.mp z with z | z
            · exact hDn z
            · exact nD (List.mem_singleton.mp z)
          · intro k b hk
            by_cases c : k < as.length
            · rw [List.getElem?_append_left c] at hk
              rw [upd_ne (fun z => hDn (by rw [← z]; exact List.mem_of_getElem? hk))]
              exact h2 _ _ (hR k b hk)
            · rw [List.getElem?_append_right (by omega)] at hk
              have hk0 : k - as.length = 0 := by
                have := (List.getElem?_eq_some_iff.mp hk).1
                rw [List.length_singleton] at this
                omega
              rw [hk0] at hk
              have e : D2 = b := Option.some.inj hk
              subst e
              have ek : k = i := by omega
              subst ek
              rw [upd_ne nD.symm]
              exact h1
      · rintro H1 ⟨as, hlen, hL, s1, hf, hN, hDn, hR⟩
        exact ⟨D, as, rfl, s1, hf, hN, hDn, hlen, hL, hR⟩
    · rintro σ1 H1 ⟨lg, as, rfl, s1, hf, hN, hlg, hlen, hL, hR⟩
      obtain ⟨at_, hT1, hT2, hT3⟩ := id hT
      have asl : ∀ {i : Nat}, i < n → ∃ b, as[i]? = some b := fun {i} h => get_of (by rw [hlen]; exact h)
      -- for one, two, rest in ties
      refine ⟨fun σ2 H2 => ∃ x3 x4 x5 : Option V, σ2 = [some (nv n), some (.ref a), some (.ref lg), x3, x4, x5, none, none, none, none] ∧ Same H H2 ∧ H2 lg = some (.lst (as.map V.ref)) ∧ Rows H2 as n (ts.foldl tieStep g0), ?_, ?_⟩
      · refine ⟨_, rfl, a, rfl, ⟨_, SqL.of (s1 _ _ hT1)⟩, for_list (K := K) (a := a) (xs := at_.map V.ref) (fun i σ' H' => ∃ x3 x4 x5 : Option V, σ' = [some (nv n), some (.ref a), some (.ref lg), x3, x4, x5, none, none, none, none] ∧ Same H H' ∧ H' lg = some (.lst (as.map V.ref)) ∧ Rows H' as n ((ts.take i).foldl tieStep g0))
          ⟨none, none, none, rfl, s1, hL, hR⟩ (fun i σ' H' _ ⟨_, _, _, _, sm, _⟩ => SqL.of (sm _ _ hT1)) ?_ ?_⟩
        · rintro i y σ' H' hi ⟨x3, x4, x5, rfl, sm, hL', hR'⟩
          obtain ⟨b, hb, rfl⟩ := ref_at hi
          obtain ⟨t, ht⟩ := get_of (l := ts) (i := i) (by rw [← hT2]; exact get_lt hb)
          have hbt : H' b = some (.tup [nv t.1, nv t.2.1, nv t.2.2]) := sm _ _ (hT3 i b t hb ht)
          have htm := List.mem_of_getElem? ht
          obtain ⟨hu, hv⟩ := hp t htm
          obtain ⟨au, hau⟩ := asl hu
          obtain ⟨av, hav⟩ := asl hv
          obtain ⟨g, eg⟩ : ∃ g, g = (ts.take i).foldl tieStep g0 := ⟨_, rfl⟩
          rw [← eg] at hR'
          have gb : ∀ i j, Bd M (g i j) := by rw [eg]; exact ties_bd _ g0 (fun q hq => hB q (List.mem_of_mem_take hq)) (g0_bd M)
          have rb := hB t htm
          -- the target
          refine ⟨b, _, rfl, SqT.of hbt, rfl, _, _, rfl, _, _, rfl, _, _, rfl, rfl, ?_⟩
          -- joined(table[one][two], rest)
          refine ⟨_, rfl, _, rfl, lg, _, _, _, rfl, rfl, SqL.of hL', at_ref hau, _, rfl, au, _, _, _, rfl, rfl, SqL.of (hR' _ _ hau), at_row hv, _, rfl, g t.1 t.2.1, t.2.2, rfl,
            Nat.lt_of_le_of_lt ((gb _ _).le hM) hMl, Nat.lt_of_le_of_lt (rb.le hM) hMl, ?_⟩
          obtain ⟨x, ex⟩ : ∃ x, x = Nat.lcm (g t.1 t.2.1) t.2.2 := ⟨_, rfl⟩
          rw [← ex]
          -- table[one][two] = x
          have h1 : Rows (upd H' au (.lst ((rowL n (g t.1)).set t.2.1 (nv x)))) as n (set2 g t.1 t.2.1 x) := hR'.put hN hau hv
          have ne1 : lg ≠ au := fun z => hlg (by rw [z]; exact List.mem_of_getElem? hau)
          have ne2 : lg ≠ av := fun z => hlg (by rw [z]; exact List.mem_of_getElem? hav)
          refine ⟨_, rfl, _, rfl, lg, _, _, _, rfl, rfl, SqL.of hL', at_ref hau, _, rfl, au, _, _, t.2.1, rfl, rfl, hR' _ _ hau, ixN_nat (by rw [rowL_len]; exact hv), ?_⟩
          -- table[two][one] = x
          refine ⟨_, rfl, _, rfl, lg, _, _, _, rfl, rfl, SqL.of (by rw [upd_ne ne1]; exact hL'), at_ref hav, _, rfl, av, _, _, t.1, rfl, rfl, h1 _ _ hav, ixN_nat (by rw [rowL_len]; exact hu), ?_⟩
          refine ⟨_, _, _, rfl, fun c o e => ?_, ?_, ?_⟩
          · have n1 : c ≠ au := fun z => by
              rw [z, hf au (List.mem_of_getElem? hau)] at e
              cases e
            have n2 : c ≠ av := fun z => by
              rw [z, hf av (List.mem_of_getElem? hav)] at e
              cases e
            rw [upd_ne n2, upd_ne n1]
            exact sm _ _ e
          · rw [upd_ne ne2, upd_ne ne1]
            exact hL'
          · rw [tie_take ht, ← eg]
            have e2 : tieStep g t = set2 (set2 g t.1 t.2.1 x) t.2.1 t.1 x := by
              unfold tieStep
              rw [← ex]
            rw [e2]
            exact h1.put hN hav hu
        · rintro σ' H' ⟨x3, x4, x5, rfl, sm, hL', hR'⟩
          refine ⟨x3, x4, x5, rfl, sm, hL', ?_⟩
          rw [List.length_map, hT2, List.take_length] at hR'
          exact hR'
      · rintro σ2 H2 ⟨x3, x4, x5, rfl, s2, hL2, hR2⟩
        obtain ⟨gT, egT⟩ : ∃ gT, gT = ts.foldl tieStep g0 := ⟨_, rfl⟩
        rw [← egT] at hR2
        -- for by in range(many)
        refine ⟨fun σ3 H3 => ∃ x3 x4 x5 x6 x7 x8 x9 : Option V, σ3 = [some (nv n), some (.ref a), some (.ref lg), x3, x4, x5, x6, x7, x8, x9] ∧ Same H H3 ∧ H3 lg = some (.lst (as.map V.ref)) ∧ Rows H3 as n ((List.range n).foldl (stage n) gT), ?_, ?_⟩
        · refine ⟨_, rfl, (n : Int), rfl, by omega, by omega, for_range (lo := 0) (n := n) (fun k σ' H' => ∃ x3 x4 x5 x6 x7 x8 x9 : Option V, σ' = [some (nv n), some (.ref a), some (.ref lg), x3, x4, x5, x6, x7, x8, x9] ∧ Same H H' ∧ H' lg = some (.lst (as.map V.ref)) ∧ Rows H' as n ((List.range k).foldl (stage n) gT))
            ⟨x3, x4, x5, none, none, none, none, rfl, s2, hL2, hR2⟩ ?_ ?_⟩
          · rintro k σ' H3 hk ⟨x3, x4, x5, x6, x7, x8, x9, rfl, s3, hL3, hR3⟩
            obtain ⟨g, eg⟩ : ∃ g, g = (List.range k).foldl (stage n) gT := ⟨_, rfl⟩
            rw [← eg] at hR3
            have gb : ∀ i j, i < n → j < n → Bd M (g i j) := by
              rw [eg, egT]
              exact (fold_bd hB k (by omega)).2
            obtain ⟨ak, hak⟩ := asl hk
            have e0 : (0 : Int) + (k : Int) = (k : Int) := Int.zero_add _
            show C8.tCut _ _ _ ([some (nv n), some (.ref a), some (.ref lg), x3, x4, x5, some (V.int (0 + (k : Int))), x7, x8, x9] : St) H3
            rw [e0]
            -- near = ..
            refine ⟨fun σ4 H4 => ∃ (c : Addr) (bs : List Addr) (y3 y4 y5 y8 y9 : Option V), σ4 = [some (nv n), some (.ref a), some (.ref lg), y3, y4, y5, some (nv k), some (.ref c), y8, y9] ∧ Same H3 H4 ∧ H3 c = none ∧ (∀ b ∈ bs, H3 b = none) ∧ H4 c = some (.lst (bs.map V.ref)) ∧ bs.length = (nearOf n (g k)).length ∧
              ∀ (i : Nat) (b : Addr) (p : Nat × Nat), bs[i]? = some b → (nearOf n (g k))[i]? = some p → H4 b = some (.tup [nv p.1, nv p.2]), ?_, ?_⟩
            · refine ⟨_, rfl, _, rfl, lg, _, _, _, rfl, rfl, SqL.of hL3, at_ref hak, ak, _, rfl, SqL.of (hR3 _ _ hak), fun D hD => ?_⟩
              refine lc_it (walk_enum (K := K) (a := ak) (xs := rowL n (g k))) (fun j H' => ∃ bs : List Addr, H' D = some (.lst (bs.map V.ref)) ∧ Same H3 H' ∧ (∀ b ∈ bs, H3 b = none) ∧ bs.length = (nearOf j (g k)).length ∧ D ∉ bs ∧ bs.length ≤ j ∧
                  ∀ (i : Nat) (b : Addr) (p : Nat × Nat), bs[i]? = some b → (nearOf j (g k))[i]? = some p → H' b = some (.tup [nv p.1, nv p.2]))
                ⟨[], upd_same, same_upd hD, fun _ h => (by cases h), rfl, fun h => (by cases h), Nat.le_refl _, fun i b p h => (by simp at h)⟩ (fun i H' _ ⟨_, _, sm, _⟩ => SqL.of (sm _ _ (hR3 _ _ hak))) ?_ ?_
              · rintro j y H4 H5 hj ⟨bs, hD4, sm, hbf, hbl, hDb, hbj, hb⟩ ⟨T5, y1, y2, rfl, hT5, rfl, e1, e2⟩
                have hj : j < n := by rw [rowL_len] at hj; exact hj
                have e1 : y1 = nv j := (Option.some.inj e1).symm
                subst e1
                have e2 : y2 = nv (g k j) := Option.some.inj (e2.symm.trans (rowL_at hj))
                subst e2
                refine ⟨T5, _, rfl, .inl (.inl upd_same), rfl, _, _, rfl, _, _, rfl, rfl, rfl, ?_⟩
                have ne5 : D ≠ T5 := ne_of_none hD4 hT5
                have hbt : ∀ b ∈ bs, b ≠ T5 := fun b hb' z => by
                  obtain ⟨i, hi, e⟩ := List.mem_iff_getElem.mp hb'
                  have hi2 : i < (nearOf j (g k)).length := by rw [← hbl]; exact hi
                  have := hb i b _ (by rw [← e]; exact List.getElem?_eq_getElem hi) (List.getElem?_eq_getElem hi2)
                  rw [z, hT5] at this
                  cases this
                have sm5 : Same H3 (upd H4 T5 (.tup [nv j, nv (g k j)])) := sm.trans (same_upd hT5)
                refine ⟨_, rfl, rfl, _, rfl, ite2 (fun c => ?_) (fun c => ?_)⟩
                · have c : g k j ≠ 1 := fun z => by
                    rw [z] at c
                    simp [nv] at c
                  refine ⟨_, rfl, _, rfl, (by show 2 ≤ sizeLine; decide), fun p hp => ?_⟩
                  have nDp : D ≠ p := ne_of_none (show (upd H4 T5 (.tup [nv j, nv (g k j)])) D = some _ by rw [upd_ne ne5]; exact hD4) hp
                  have hp4 : H4 p = none := (same_upd hT5).free hp
                  have hbp : ∀ b ∈ bs, b ≠ p := fun b hb' z => by
                    obtain ⟨i, hi, e⟩ := List.mem_iff_getElem.mp hb'
                    have hi2 : i < (nearOf j (g k)).length := by rw [← hbl]; exact hi
                    have := hb i b _ (by rw [← e]; exact List.getElem?_eq_getElem hi) (List.getElem?_eq_getElem hi2)
                    rw [z, hp4] at this
                    cases this
                  refine ⟨bs.map V.ref, (by rw [upd_ne nDp, upd_ne ne5]; exact hD4), (by rw [List.length_map]; exact small1000 (by omega)), bs ++ [p], ?_, ?_, ?_, ?_, ?_, ?_, ?_⟩
                  · rw [upd_same, List.map_append]
                    rfl
                  · intro b o e
                    rw [upd_ne (show b ≠ D from ne_of_none e hD), upd_ne (show b ≠ p from ne_of_none (sm5 _ _ e) hp)]
                    exact sm5 _ _ e
                  · intro b hb'
                    rcases List.mem_append.mp hb' with z | z
                    · exact hbf b z
                    · rw [List.mem_singleton.mp z]
                      exact sm5.free hp
                  · rw [nearOf_succ, if_pos c, List.length_append, List.length_append, hbl]
                    rfl
                  · intro z
                    rcases List.mem_append.mp z with z | z
                    · exact hDb z
                    · exact nDp (List.mem_singleton.mp z)
                  · rw [List.length_append, List.length_singleton]
                    omega
                  · intro i b q hi hq
                    rw [nearOf_succ, if_pos c] at hq
                    by_cases ci : i < bs.length
                    · rw [List.getElem?_append_left ci] at hi
                      rw [List.getElem?_append_left (by rw [← hbl]; exact ci)] at hq
                      have hbm := List.mem_of_getElem? hi
                      rw [upd_ne (fun z => hDb (by rw [← z]; exact hbm)), upd_ne (hbp b hbm), upd_ne (hbt b hbm)]
                      exact hb i b q hi hq
                    · rw [List.getElem?_append_right (by omega)] at hi
                      rw [List.getElem?_append_right (by omega)] at hq
                      have z0 : i - bs.length = 0 := by
                        have := get_lt hi
                        rw [List.length_singleton] at this
                        omega
                      have z1 : i - (nearOf j (g k)).length = 0 := by omega
                      rw [z0] at hi
                      rw [z1] at hq
                      have eb : p = b := Option.some.inj hi
                      have eq : (j, g k j) = q := Option.some.inj hq
                      subst eb eq
                      rw [upd_ne nDp.symm, upd_same]
                · have c : g k j = 1 := Classical.byContradiction fun z => c (by
                    have : ¬ nv (g k j) = V.int 1 := fun e => z (by have := V.int.inj e; omega)
                    rw [decide_eq_false this]
                    rfl)
                  refine ⟨bs, (by rw [upd_ne ne5]; exact hD4), sm5, hbf, ?_, hDb, by omega, ?_⟩
                  · rw [nearOf_succ, if_neg (fun z => z c), List.append_nil]
                    exact hbl
                  · intro i b q hi hq
                    rw [nearOf_succ, if_neg (fun z => z c), List.append_nil] at hq
                    rw [upd_ne (hbt b (List.mem_of_getElem? hi))]
                    exact hb i b q hi hq
              · rintro H4 ⟨bs, hD4, sm, hbf, hbl, hDb, hbj, hb⟩
                rw [rowL_len] at hbl hb
                exact ⟨D, bs, _, _, _, _, _, rfl, sm, hD, hbf, hD4, hbl, hb⟩
            · rintro σ4 H4 ⟨c, bs, y3, y4, y5, y8, y9, rfl, s4, hc, hbf, hC, hbl, hb⟩
              have hL4 := s4 _ _ hL3
              have hR4 : Rows H4 as n g := fun i b h => s4 _ _ (hR3 i b h)
              have sH4 : Same H H4 := s3.trans s4
              have cas : c ∉ as := fun z => by
                obtain ⟨i, hi, e⟩ := List.mem_iff_getElem.mp z
                have := hR3 i c (by rw [← e]; exact List.getElem?_eq_getElem hi)
                rw [hc] at this
                cases this
              have bas : ∀ b ∈ bs, b ∉ as := fun b hb' z => by
                obtain ⟨i, hi, e⟩ := List.mem_iff_getElem.mp z
                have := hR3 i b (by rw [← e]; exact List.getElem?_eq_getElem hi)
                rw [hbf b hb'] at this
                cases this
              obtain ⟨near, enear⟩ : ∃ near, near = nearOf n (g k) := ⟨_, rfl⟩
              have nearv : ∀ p ∈ near, p.1 < n ∧ Bd M p.2 := fun p hp => by
                rw [enear] at hp
                obtain ⟨h1, h2, _⟩ := nearOf_val hp
                exact ⟨h2, h1 ▸ gb k p.1 hk h2⟩
              rw [← enear] at hbl hb
              -- for row in table
              refine ⟨_, rfl, lg, rfl, ⟨_, SqL.of hL4⟩, for_list (K := K) (a := lg) (xs := as.map V.ref) (fun i σ' H' => ∃ y3 y4 y5 y8 y9 : Option V, σ' = [some (nv n), some (.ref a), some (.ref lg), y3, y4, y5, some (nv k), some (.ref c), y8, y9] ∧ Out as H4 H' ∧ Rows H' as n ((List.range i).foldl (stageStep near k) g))
                ⟨y3, y4, y5, y8, y9, rfl, .refl _ _, hR4⟩ (fun i σ' H' _ ⟨_, _, _, _, _, _, o, _⟩ => SqL.of (o _ _ hlg hL4)) ?_ ?_⟩
              · rintro i y σ' H5 hi ⟨y3, y4, y5, y8, y9, rfl, o5, hR5⟩
                obtain ⟨ai, hai, rfl⟩ := ref_at hi
                have hin : i < n := by rw [← hlen]; exact get_lt hai
                have aim := List.mem_of_getElem? hai
                obtain ⟨gi, egi⟩ : ∃ gi, gi = (List.range i).foldl (stageStep near k) g := ⟨_, rfl⟩
                rw [← egi] at hR5
                have gib : ∀ j, j < n → Bd M (gi i j) := fun j hj => by
                  rw [egi, enear]
                  exact stage_bd hk gb i hin hj
                have nxt : (List.range (i + 1)).foldl (stageStep near k) g = stageStep near k gi i := by
                  rw [List.range_succ, List.foldl_append, ← egi]
                  rfl
                -- if row[by] != 1
                refine ⟨_, rfl, _, rfl, ai, _, _, _, rfl, rfl, SqL.of (hR5 _ _ hai), at_row hk, rfl, _, rfl, ite2 (fun d => ?_) (fun d => ?_)⟩
                · have d : gi i k ≠ 1 := fun z => by
                    rw [z] at d
                    simp [nv] at d
                  -- for two, bond in near
                  refine ⟨_, rfl, c, rfl, ⟨_, SqL.of (o5 _ _ cas hC)⟩, for_list (K := K) (a := c) (xs := bs.map V.ref) (fun t σ' H' => ∃ y4 y9 : Option V, σ' = [some (nv n), some (.ref a), some (.ref lg), y3, y4, y5, some (nv k), some (.ref c), some (.ref ai), y9] ∧ Out as H4 H' ∧ Rows H' as n (fun i' => if i' = i then rowFold k (near.take t) (gi i) else gi i'))
                    ⟨y4, y9, rfl, o5, ?_⟩ (fun t σ' H' _ ⟨_, _, _, o, _⟩ => SqL.of (o _ _ cas hC)) ?_ ?_⟩
                  · have e : (fun i' => if i' = i then rowFold k (near.take 0) (gi i) else gi i') = gi := by
                      funext i'
                      by_cases z : i' = i
                      · rw [if_pos z, z]
                        rfl
                      · rw [if_neg z]
                    rw [e]
                    exact hR5
                  · rintro t y σ' H6 ht ⟨y4, y9, rfl, o6, hR6⟩
                    obtain ⟨b, hbt, rfl⟩ := ref_at ht
                    obtain ⟨p, hpt⟩ := get_of (l := near) (i := t) (by rw [← hbl]; exact get_lt hbt)
                    have hbp : H6 b = some (.tup [nv p.1, nv p.2]) := o6 _ _ (bas b (List.mem_of_getElem? hbt)) (hb t b p hbt hpt)
                    obtain ⟨hp1, hp2⟩ := nearv p (List.mem_of_getElem? hpt)
                    obtain ⟨f, ef⟩ : ∃ f, f = rowFold k (near.take t) (gi i) := ⟨_, rfl⟩
                    have fb : ∀ j, j < n → Bd M (f j) := fun j hj => by
                      rw [ef]
                      exact rowFold_bd hk _ _ gib (fun q hq => nearv q (List.mem_of_mem_take hq)) j hj
                    rw [← ef] at hR6
                    have hrow : H6 ai = some (.lst (rowL n f)) := by
                      have := hR6 i ai hai
                      rw [show (fun i' => if i' = i then f else gi i') i = f from if_pos rfl] at this
                      exact this
                    refine ⟨b, _, rfl, SqT.of hbp, rfl, _, _, rfl, _, _, rfl, rfl, ?_⟩
                    -- joined(row[two], common(row[by], bond))
                    refine ⟨_, rfl, _, rfl, ai, _, _, _, rfl, rfl, SqL.of hrow, at_row hp1, _, rfl, _, rfl, ai, _, _, _, rfl, rfl, SqL.of hrow, at_row hk, _, rfl, f k, p.2, rfl, f p.1, Nat.gcd (f k) p.2, rfl,
                      Nat.lt_of_le_of_lt ((fb _ hp1).le hM) hMl, Nat.lt_of_le_of_lt (((fb _ hk).gcd hp2).le hM) hMl, ?_⟩
                    -- row[two] = ..
                    refine ⟨_, rfl, _, rfl, ai, _, _, p.1, rfl, rfl, hrow, ixN_nat (by rw [rowL_len]; exact hp1), ?_⟩
                    refine ⟨_, _, rfl, o6.upd aim, ?_⟩
                    rw [rowL_set hp1, rowFold_take hpt, ← ef]
                    have := hR6.set hN hai (f := fun j => if j = p.1 then Nat.lcm (f p.1) (Nat.gcd (f k) p.2) else f j)
                    refine this.ext hlen fun i' j hi' hj => ?_
                    by_cases z : i' = i
                    · rw [if_pos z, if_pos z]
                      rfl
                    · rw [if_neg z, if_neg z, if_neg z]
                  · rintro σ' H6 ⟨y4, y9, rfl, o6, hR6⟩
                    rw [List.length_map, hbl, List.take_length] at hR6
                    refine ⟨_, _, _, _, _, rfl, o6, ?_⟩
                    rw [nxt]
                    refine hR6.ext hlen fun i' j hi' hj => ?_
                    unfold stageStep
                    by_cases z : i' = i
                    · rw [if_pos z, if_pos z, if_pos d]
                    · rw [if_neg z, if_neg z]
                · have d : gi i k = 1 := Classical.byContradiction fun z => d (by
                    have : ¬ nv (gi i k) = V.int 1 := fun e => z (by have := V.int.inj e; omega)
                    rw [decide_eq_false this]
                    rfl)
                  refine ⟨_, _, _, _, _, rfl, o5, ?_⟩
                  rw [nxt]
                  refine hR5.ext hlen fun i' j hi' hj => ?_
                  unfold stageStep
                  by_cases z : i' = i
                  · rw [if_pos z, if_neg (fun z => z d), z]
                  · rw [if_neg z]
              · rintro σ' H5 ⟨y3, y4, y5, y8, y9, rfl, o5, hR5⟩
                refine ⟨_, _, _, _, _, _, _, rfl, ?_, o5 _ _ hlg hL4, ?_⟩
                · exact Out.keep (Out.trans (Same.out sH4) o5) hf
                · rw [List.length_map, hlen] at hR5
                  rw [List.range_succ, List.foldl_append, ← eg]
                  show Rows H5 as n (stage n g k)
                  unfold stage
                  rw [← enear]
                  exact hR5
          · rintro σ' H3 ⟨x3, x4, x5, x6, x7, x8, x9, rfl, s3, hL3, hR3⟩
            exact ⟨_, _, _, _, _, _, _, rfl, s3, hL3, hR3⟩
        · rintro σ' H3 ⟨x3, x4, x5, x6, x7, x8, x9, rfl, s3, hL3, hR3⟩
          refine ⟨_, rfl, q lg H3 s3 ⟨as, hL3, hlen, ?_⟩⟩
          rw [egT] at hR3
          exact hR3
end
end K12

/-! Web. -/
namespace K12
open PySem L2
/-! ### the attributes -/
theorem kp_ : ¬ (("knots" : Str) = "points") := by decide +kernel
theorem gp_ : ¬ (("grid" : Str) = "points") := by decide +kernel
theorem gk_ : ¬ (("grid" : Str) = "knots") := by decide +kernel
theorem pg_ : ¬ (("points" : Str) = "grid") := by decide +kernel
theorem pk_ : ¬ (("points" : Str) = "knots") := by decide +kernel
theorem kg_ : ¬ (("knots" : Str) = "grid") := by decide +kernel
def wf (n : Nat) (lk lg : Addr) : List (Str × V) := putF "grid" (.ref lg) (putF "knots" (.ref lk) (putF "points" (nv n) []))
theorem wf_points (n : Nat) (lk lg : Addr) : (wf n lk lg).lookup ("points" : Str) = some (nv n) := by
  unfold wf
  rw [lookup_putF, if_neg pg_, lookup_putF, if_neg pk_, lookup_putF, if_pos rfl]
theorem wf_knots (n : Nat) (lk lg : Addr) : (wf n lk lg).lookup ("knots" : Str) = some (.ref lk) := by
  unfold wf
  rw [lookup_putF, if_neg kg_, lookup_putF, if_pos rfl]
theorem wf_grid (n : Nat) (lk lg : Addr) : (wf n lk lg).lookup ("grid" : Str) = some (.ref lg) := by
  unfold wf
  rw [lookup_putF, if_pos rfl]
theorem wf_no (n : Nat) (lk lg : Addr) {m : Str} (h1 : ¬ m = "grid") (h2 : ¬ m = "knots") (h3 : ¬ m = "points") : (wf n lk lg).lookup m = none := by
  unfold wf
  rw [lookup_putF, if_neg h1, lookup_putF, if_neg h2, lookup_putF, if_neg h3]
  rfl
/-- a web stands at p -/
def WebAt (C : Addr) (H : Hp) (p : Addr) (n : Nat) (ts : List Tie) : Prop := ∃ dx lk lg : Addr, H p = some (.ins C dx (wf n lk lg)) ∧ TiesAt H lk ts ∧ GridAt H lg n (closureOf n ts)
theorem WebAt.keep {C : Addr} {H H' : Hp} {p : Addr} {n : Nat} {ts : List Tie} (h : WebAt C H p n ts) (s : Same H H') : WebAt C H' p n ts := by
  obtain ⟨dx, lk, lg, h1, h2, h3⟩ := h
  exact ⟨dx, lk, lg, s _ _ h1, h2.keep s, h3.keep s⟩
/-- what the data of a web keep -/
structure WebOk (n : Nat) (ts : List Tie) (M : Nat) : Prop where
  n1 : n ≤ 1000
  pt : ∀ t ∈ ts, t.1 < n ∧ t.2.1 < n
  rs : ∀ t ∈ ts, t.2.2 ≤ 1000000
  bd : ∀ t ∈ ts, Bd M t.2.2
  M0 : 0 < M
  Ml : M < 2 ^ 4000
  len : ts.length ≤ 1000
section
variable {P : Program} {w : World} {K : PySem.W.Frag} {mg : Str → Option Value} {base : Heap}
/-! ### __init__ -/
theorem scWInit : FnScope ["self", "many", "ties", "at", "one", "two", "rest"] ["self", "many", "ties"] (defScope sWInit) := ⟨rfl, rfl, rfl, by decide +kernel, rfl, by decide +kernel, by decide +kernel⟩
def spWInit (C : Addr) : Sp := fun vs H Q _ => ∃ (p dx a : Addr) (n : Nat) (ts : List Tie) (M : Nat), vs = [.ref p, nv n, .ref a] ∧ H p = some (.ins C dx []) ∧ TiesAt H a ts ∧ WebOk n ts M ∧
  ∀ H', WebAt C H' p n ts → (∀ b o, H b = some o → b ≠ p → H' b = some o) → Q .non H'
theorem ok_wInit (T : Txt K mg) : FnOk P w K mg base CX0 4 T.fI T.fdI ["self", "many", "ties"] (spWInit T.C) := by
  refine T.FI.ok scWInit (fun vs H Q E h => ?_) (fun cdv A outer s H vs Q E hr h => ?_)
  · obtain ⟨p, dx, a, n, ts, M, rfl, _⟩ := h
    rfl
  · obtain ⟨p, dx, a, n, ts, M, rfl, hp, hT, W, q⟩ := h
    have nd := scWInit.nd
    have hr2 : Room 2 _ := hr.mono (by decide)
    refine ⟨_, pss_cons (ps_for PassesOwn.never rfl (pi_enum (by rfl) T.zEnum (pa_cons (pv 2) pa_nil))
        (pg_tup rfl (pgs_cons (pg_name (i := 3) nd rfl (.inl rfl)) (pgs_cons (pg_tup rfl (pgs_cons (pg_name (i := 4) nd rfl (.inl rfl)) (pgs_cons (pg_name (i := 5) nd rfl (.inl rfl)) (pgs_cons (pg_name (i := 6) nd rfl (.inl rfl)) pgs_nil)))) pgs_nil)))
        (pss_one (ps_if (PW.pt (pw_or (pt_not (pt_val (pe_call (ok_isPoint T) hr2 (by rfl) T.isPoint.g T.isPoint.F.kp T.isPoint.b .nil pass0 (pa_cons (pv 4) (pa_cons (pv 1) pa_nil)))))
          (pw_or (pt_not (pt_val (pe_call (ok_isPoint T) hr2 (by rfl) T.isPoint.g T.isPoint.F.kp T.isPoint.b .nil pass0 (pa_cons (pv 5) (pa_cons (pv 1) pa_nil)))))
          (pw_or1 (pt_not (pt_val (pe_call (ok_isRest T) hr2 (by rfl) T.isRest.g T.isRest.F.kp T.isRest.b T.isRest.v pass0 (pa_cons (pv 6) pa_nil)))))))) pss_never pss_nil)))
      (pss_cons (ps_fld (pv 0) (pv 1) rfl)
      (pss_cons (ps_fld (pv 0) (pe_callTy call_list_of (by rfl) T.zList (by decide +kernel) (pa_cons (pv 2) pa_nil)) rfl)
      (pss_one (ps_fld (pv 0) (pe_call (ok_closure T) hr (by rfl) T.closure.g T.closure.F.kp T.closure.b .nil pass0 (pa_cons (pv 1) (pa_cons (pv 2) pa_nil))) rfl)))), ?_⟩
    obtain ⟨at_, hT1, hT2, hT3⟩ := id hT
    refine ⟨_, rfl, a, _, rfl, SqL.of hT1, for_it (walk_enum (K := K) (a := a) (xs := at_.map V.ref)) (fun i σ H' => ∃ x3 x4 x5 x6 : Option V, σ = [some (.ref p), some (nv n), some (.ref a), x3, x4, x5, x6] ∧ Same H H')
      ⟨none, none, none, none, rfl, .refl H⟩ (fun i σ H' _ ⟨_, _, _, _, _, sm⟩ => SqL.of (sm _ _ hT1)) ?_ ?_⟩
    · rintro i y σ H1 H2 hi ⟨x3, x4, x5, x6, rfl, sm⟩ ⟨T5, y1, y2, rfl, hT5, rfl, e1, e2⟩
      have e1 : y1 = V.int (i : Nat) := (Option.some.inj e1).symm
      subst e1
      obtain ⟨b, hb, rfl⟩ := ref_at e2
      obtain ⟨t, ht⟩ := get_of (l := ts) (i := i) (by rw [← hT2]; exact get_lt hb)
      have sm2 := sm.trans (same_upd (o := .tup [.int (i : Nat), .ref b]) hT5)
      have hbt : (upd H1 T5 (.tup [.int (i : Nat), .ref b])) b = some (.tup [nv t.1, nv t.2.1, nv t.2.2]) := sm2 _ _ (hT3 i b t hb ht)
      obtain ⟨hu, hv⟩ := W.pt t (List.mem_of_getElem? ht)
      have hrs := W.rs t (List.mem_of_getElem? ht)
      refine ⟨T5, _, rfl, .inl (.inl upd_same), rfl, _, _, rfl, _, _, rfl, ⟨b, _, rfl, SqT.of hbt, rfl, _, _, rfl, _, _, rfl, _, _, rfl, rfl, rfl, ?_⟩⟩
      refine ⟨_, rfl, _, rfl, t.1, n, rfl, hu, _, rfl, iteF ?_⟩
      refine ⟨_, rfl, _, rfl, t.2.1, n, rfl, hv, _, rfl, iteF ?_⟩
      refine ⟨_, rfl, (t.2.2 : Int), rfl, by omega, by omega, _, rfl, iteF ?_⟩
      exact ⟨_, _, _, _, rfl, sm2⟩
    · rintro σ H1 ⟨x3, x4, x5, x6, rfl, sm⟩
      have hp1 := sm _ _ hp
      -- self.points = many
      refine ⟨_, rfl, _, rfl, p, T.C, dx, _, rfl, hp1, T.cl, T.nPo, (by show 0 < 1000; decide), ?_⟩
      -- self.knots = list(ties)
      have npa : p ≠ a := ne_of hp hT1 (by intro z; cases z)
      have hTa : (upd H1 p (.ins T.C dx (putF "points" (nv n) []))) a = some (.lst (at_.map V.ref)) := by
        rw [upd_ne npa.symm]
        exact sm _ _ hT1
      refine ⟨_, rfl, a, _, rfl, .inl (SqL.of hTa), fun l hl => ?_⟩
      have npl : p ≠ l := ne_of_none (show (upd H1 p (.ins T.C dx (putF "points" (nv n) []))) p = some _ from upd_same) hl
      refine ⟨_, rfl, p, T.C, dx, _, rfl, (by rw [upd_ne npl]; exact upd_same), T.cl, T.nKn, (by show 1 < 1000; decide), ?_⟩
      -- self.grid = closure(many, ties)
      obtain ⟨H2, eH2⟩ : ∃ H2, H2 = upd (upd (upd H1 p (.ins T.C dx (putF "points" (nv n) []))) l (.lst (at_.map V.ref))) p (.ins T.C dx (putF "knots" (.ref l) (putF "points" (nv n) []))) := ⟨_, rfl⟩
      have k2 : ∀ b o, H b = some o → b ≠ p → H2 b = some o := fun b o e hb => by
        rw [eH2, upd_ne hb, upd_ne, upd_ne hb]
        · exact sm _ _ e
        · refine ne_of_none (o := o) (H := upd H1 p (.ins T.C dx (putF "points" (nv n) []))) ?_ hl
          rw [upd_ne hb]
          exact sm _ _ e
      have hT2' : TiesAt H2 a ts := ⟨at_, k2 _ _ hT1 npa.symm, hT2, fun i b t e1 e2 => k2 _ _ (hT3 i b t e1 e2) (fun z => by
        have := hT3 i b t e1 e2
        rw [z, hp] at this
        cases this)⟩
      have hl2 : H2 l = some (.lst (at_.map V.ref)) := by
        rw [eH2, upd_ne npl.symm, upd_same]
      have hp2 : H2 p = some (.ins T.C dx (putF "knots" (.ref l) (putF "points" (nv n) []))) := by
        rw [eH2, upd_same]
      rw [← eH2]
      refine ⟨_, rfl, _, rfl, n, a, ts, M, rfl, hT2', W.n1, W.pt, W.bd, W.M0, W.Ml, fun lg H3 s3 hG => ?_⟩
      refine ⟨_, rfl, p, T.C, dx, _, rfl, s3 _ _ hp2, T.cl, T.nGr, (by show 2 < 1000; decide), ?_⟩
      have k3 : ∀ b o, H2 b = some o → b ≠ p → (upd H3 p (.ins T.C dx (wf n l lg))) b = some o := fun b o e hb => by
        rw [upd_ne hb]
        exact s3 _ _ e
      refine q _ ⟨dx, l, lg, upd_same, ?_, ?_⟩ fun b o e hb => k3 b o (k2 b o e hb) hb
      · refine ⟨at_, k3 _ _ hl2 npl.symm, hT2, fun i b t e1 e2 => k3 _ _ (k2 _ _ (hT3 i b t e1 e2) ?_) ?_⟩
        all_goals
          intro z
          have := hT3 i b t e1 e2
          rw [z, hp] at this
          cases this
      · obtain ⟨as, g1, g2, g3⟩ := hG
        have hp3 := s3 _ _ hp2
        refine ⟨as, (by rw [upd_ne (ne_of g1 hp3 (by intro z; cases z))]; exact g1), g2, fun i b hb => ?_⟩
        have := g3 i b hb
        rw [upd_ne (ne_of this hp3 (by intro z; cases z))]
        exact this
/-! ### many, ties, bond, fits -/
theorem scWMany : FnScope ["self"] ["self"] (defScope sWMany) := ⟨rfl, rfl, rfl, by decide +kernel, rfl, by decide +kernel, by decide +kernel⟩
def spWMany (C : Addr) : Sp := fun vs H Q _ => ∃ (p : Addr) (n : Nat) (ts : List Tie), vs = [.ref p] ∧ WebAt C H p n ts ∧ Q (nv n) H
theorem ok_wMany (T : Txt K mg) : FnOk P w K mg base CX0 1 T.wMany.f T.wMany.fd ["self"] (spWMany T.C) := by
  refine T.wMany.F.ok scWMany (fun vs H Q E h => ?_) (fun cdv A outer s H vs Q E hr h => ?_)
  · obtain ⟨p, n, ts, rfl, _⟩ := h
    rfl
  · obtain ⟨p, n, ts, rfl, ⟨dx, lk, lg, hp, _, _⟩, q⟩ := h
    refine ⟨_, pss_one (ps_ret (pe_fld (pv 0) rfl)), ?_⟩
    exact ⟨_, rfl, p, T.C, dx, _, _, rfl, hp, T.cl, T.nPo, wf_points _ _ _, q⟩
theorem scWTies : FnScope ["self"] ["self"] (defScope sWTies) := ⟨rfl, rfl, rfl, by decide +kernel, rfl, by decide +kernel, by decide +kernel⟩
def spWTies (C : Addr) : Sp := fun vs H Q _ => ∃ (p : Addr) (n : Nat) (ts : List Tie), vs = [.ref p] ∧ WebAt C H p n ts ∧ ∀ (l : Addr) (H' : Hp), H l = none → Same H H' → TiesAt H' l ts → Q (.ref l) H'
theorem ok_wTies (T : Txt K mg) : FnOk P w K mg base CX0 1 T.wTies.f T.wTies.fd ["self"] (spWTies T.C) := by
  refine T.wTies.F.ok scWTies (fun vs H Q E h => ?_) (fun cdv A outer s H vs Q E hr h => ?_)
  · obtain ⟨p, n, ts, rfl, _⟩ := h
    rfl
  · obtain ⟨p, n, ts, rfl, ⟨dx, lk, lg, hp, ⟨as, h1, h2, h3⟩, _⟩, q⟩ := h
    refine ⟨_, pss_one (ps_ret (pe_callTy call_list_of (by rfl) T.zList (by decide +kernel) (pa_cons (pe_fld (pv 0) rfl) pa_nil))), ?_⟩
    refine ⟨_, rfl, p, T.C, dx, _, _, rfl, hp, T.cl, T.nKn, wf_knots _ _ _, lk, _, rfl, .inl (SqL.of h1), fun l hl => ?_⟩
    exact q l _ hl (same_upd hl) ⟨as, upd_same, h2, fun i b t e1 e2 => same_upd hl _ _ (h3 i b t e1 e2)⟩
theorem scWBond : FnScope ["self", "u", "v", "point"] ["self", "u", "v"] (defScope sWBond) := ⟨rfl, rfl, rfl, by decide +kernel, rfl, by decide +kernel, by decide +kernel⟩
def spWBond (C : Addr) : Sp := fun vs H Q _ => ∃ (p : Addr) (n u v : Nat) (ts : List Tie), vs = [.ref p, nv u, nv v] ∧ WebAt C H p n ts ∧ u < n ∧ v < n ∧ ∀ H', Same H H' → Q (nv (closureOf n ts u v)) H'
theorem ok_wBond (T : Txt K mg) : FnOk P w K mg base CX0 3 T.wBond.f T.wBond.fd ["self", "u", "v"] (spWBond T.C) := by
  refine T.wBond.F.ok scWBond (fun vs H Q E h => ?_) (fun cdv A outer s H vs Q E hr h => ?_)
  · obtain ⟨p, n, u, v, ts, rfl, _⟩ := h
    rfl
  · obtain ⟨p, n, u, v, ts, rfl, hW, hu, hv, q⟩ := h
    have nd := scWBond.nd
    obtain ⟨dx, lk, lg, hp, hT, hG⟩ := id hW
    obtain ⟨as, g1, g2, g3⟩ := id hG
    refine ⟨_, pss_cons (ps_for PassesOwn.never rfl (pi_tup (pe_tup (pa_cons (pv 1) (pa_cons (pv 2) pa_nil)))) (pg_name (i := 3) nd rfl (.inl rfl))
        (pss_one (ps_if (pt_not (pt_val (pe_call (ok_isPoint T) hr (by rfl) T.isPoint.g T.isPoint.F.kp T.isPoint.b .nil pass0 (pa_cons (pv 3) (pa_cons (pe_fld (pv 0) rfl) pa_nil))))) pss_never pss_nil)))
      (pss_one (ps_ret (pe_ix ix_list (pe_ix ix_list (pe_fld (pv 0) rfl) (pv 1) (fun _ _ => rfl)) (pv 2) (fun _ _ => rfl)))), ?_⟩
    refine ⟨_, rfl, _, rfl, (by show 2 ≤ sizeLine; decide), fun t ht => ?_⟩
    have s1 : Same H (upd H t (.tup [nv u, nv v])) := same_upd ht
    refine ⟨t, rfl, ⟨_, SqT.of upd_same⟩, for_tup (K := K) (a := t) (xs := [nv u, nv v]) (fun i σ H' => ∃ x, σ = [some (.ref p), some (nv u), some (nv v), x] ∧ H' = upd H t (.tup [nv u, nv v]))
      ⟨none, rfl, rfl⟩ (fun i σ H' _ ⟨_, _, e⟩ => by rw [e]; exact SqT.of upd_same) ?_ ?_⟩
    · rintro i x σ H' hi ⟨y, rfl, rfl⟩
      have hx : ∃ z, z < n ∧ x = nv z := by
        match i, hi with
        | 0, hi => exact ⟨u, hu, (Option.some.inj hi).symm⟩
        | 1, hi => exact ⟨v, hv, (Option.some.inj hi).symm⟩
        | i + 2, hi => simp at hi
      obtain ⟨z, hz, rfl⟩ := hx
      refine ⟨_, rfl, _, rfl, p, T.C, dx, _, _, rfl, s1 _ _ hp, T.cl, T.nPo, wf_points _ _ _, z, n, rfl, hz, _, rfl, iteF ?_⟩
      exact ⟨_, rfl, rfl⟩
    · rintro σ H' ⟨y, rfl, rfl⟩
      obtain ⟨au, hau⟩ := get_of (l := as) (i := u) (by rw [g2]; exact hu)
      refine ⟨_, rfl, p, T.C, dx, _, _, rfl, s1 _ _ hp, T.cl, T.nGr, wf_grid _ _ _, _, rfl, lg, _, _, _, rfl, rfl, SqL.of (s1 _ _ g1), at_ref hau, _, rfl, au, _, _, _, rfl, rfl, SqL.of (s1 _ _ (g3 u au hau)), at_row hv, ?_⟩
      exact q _ s1
theorem scWFits : FnScope ["self", "case", "one", "two", "rest"] ["self", "case"] (defScope sWFits) := ⟨rfl, rfl, rfl, by decide +kernel, rfl, by decide +kernel, by decide +kernel⟩
def allArg : Expr → Expr
  | .Call _ (a :: _) _ _ => a
  | e => e
theorem bkFits : BlkOk ["self", "case", "one", "two", "rest"] (defScope sWFits) (lcScope (allArg (asgVal (stAt (defBody sWFits) 1)))) [("one", 2), ("two", 3), ("rest", 4)] := blkOk_by (by decide +kernel)
def spWFits (C : Addr) : Sp := fun vs H Q _ => ∃ (p c : Addr) (n : Nat) (ts : List Tie) (cs : List Nat) (M : Nat), vs = [.ref p, .ref c] ∧ WebAt C H p n ts ∧ IntsAt H c cs ∧ cs.length = n ∧ Fits ts cs ∧ WebOk n ts M ∧ ∀ H', Same H H' → Q (.bl true) H'
theorem at_case {cs : List Nat} {n i : Nat} (hl : cs.length = n) (h : i < n) : atI (cs.map nv) (i : Int) = some (nv (cs.getD i 0)) := by
  obtain ⟨x, hx⟩ := get_of (l := cs) (i := i) (by omega)
  rw [at_nv hx, List.getD_eq_getElem?_getD, hx]
  rfl
theorem ok_wFits (T : Txt K mg) : FnOk P w K mg base CX0 3 T.wFits.f T.wFits.fd ["self", "case"] (spWFits T.C) := by
  refine T.wFits.F.ok scWFits (fun vs H Q E h => ?_) (fun cdv A outer s H vs Q E hr h => ?_)
  · obtain ⟨p, c, n, ts, cs, M, rfl, _⟩ := h
    rfl
  · obtain ⟨p, c, n, ts, cs, M, rfl, hW, hc, hl, hf, W, q⟩ := h
    have nd := scWFits.nd
    obtain ⟨dx, lk, lg, hp, hT, hG⟩ := id hW
    obtain ⟨as, h1, h2, h3⟩ := id hT
    refine ⟨_, pss_cons (ps_if (pt_cmpR op_ne (pe_callB call_len_seq (by rfl) T.zLen PySem.boot_len (pa_cons (pv 1) pa_nil)) (pe_fld (pv 0) rfl) (nomark _)) (pss_one (ps_ret pe_bl)) pss_nil)
      (pss_one (ps_ret (pe_callB (cr_all rfl) (by rfl) T.zAll (by decide +kernel) (pa_cons (pe_lc (own := [("one", 2), ("two", 3), ("rest", 4)]) (g := gTup K 3 (gCons (gName 2) (gCons (gName 3) (gCons (gName 4) gNil)))) rfl nd (pi_list (pe_fld (pv 0) rfl)) bkFits
        (fun _ _ _ _ _ => pg_tup rfl (pgs_cons (pg_name (i := 2) nd rfl (.inl rfl)) (pgs_cons (pg_name (i := 3) nd rfl (.inl rfl)) (pgs_cons (pg_name (i := 4) nd rfl (.inl rfl)) pgs_nil))))
        (fun _ _ _ _ _ => pts_nil)
        (fun _ _ _ _ _ => pe_callN (ok_agree T) hr (by rfl) T.agree.g T.agree.F.kp T.agree.b pass0 (pa_cons (pe_ix (ixl (K := K)) (pv 1) (pv 2) (fun _ _ => rfl)) (pa_cons (pe_ix (ixl (K := K)) (pv 1) (pv 3) (fun _ _ => rfl)) pa_nil)) (pk_cons (pv 4) pk_nil))) pa_nil)))), ?_⟩
    refine ⟨_, rfl, c, _, rfl, .inl (SqL.of hc), _, rfl, p, T.C, dx, _, _, rfl, hp, T.cl, T.nPo, wf_points _ _ _, rfl, _, rfl, ?_⟩
    have e0 : decide (V.int (((cs.map nv).length : Nat) : Int) = nv n) = true := decide_eq_true (by rw [List.length_map, hl])
    rw [e0]
    refine iteF ?_
    refine ⟨_, rfl, p, T.C, dx, _, _, rfl, hp, T.cl, T.nKn, wf_knots _ _ _, lk, rfl, ⟨_, SqL.of h1⟩, fun D hD => ?_⟩
    refine lc_list (K := K) (a := lk) (xs := as.map V.ref) (fun i H' => H' D = some (.lst ((List.replicate i true).map V.bl)) ∧ Same H H' ∧ i ≤ 1000) ⟨upd_same, same_upd hD, Nat.zero_le _⟩ (fun i H' _ ⟨_, sm, _⟩ => SqL.of (sm _ _ h1)) ?_ ?_
    · rintro i y H1 hi ⟨hD1, sm, hi1⟩
      obtain ⟨b, hb, rfl⟩ := ref_at hi
      obtain ⟨t, ht⟩ := get_of (l := ts) (i := i) (by rw [← h2]; exact get_lt hb)
      have htm := List.mem_of_getElem? ht
      have hbt : H1 b = some (.tup [nv t.1, nv t.2.1, nv t.2.2]) := sm _ _ (h3 i b t hb ht)
      obtain ⟨hu, hv⟩ := W.pt t htm
      have hi2 : i < 1000 := by
        have := get_lt ht
        have := W.len
        omega
      refine ⟨b, _, rfl, SqT.of hbt, rfl, _, _, rfl, _, _, rfl, _, _, rfl, rfl, rfl, t_yes ?_⟩
      refine ⟨_, rfl, _, rfl, c, _, _, _, rfl, rfl, SqL.of (sm _ _ hc), at_case hl hu, _, rfl, _, rfl, c, _, _, _, rfl, rfl, SqL.of (sm _ _ hc), at_case hl hv, _, rfl, rfl, rfl, _, _, t.2.2, rfl, ?_⟩
      refine ⟨_, hD1, (by rw [List.length_map, List.length_replicate]; exact small1000 (by omega)), ?_, fun b o e => ?_, by omega⟩
      · have e : decide ((t.2.2 : Int) ∣ ((cs.getD t.1 0 : Nat) : Int) - ((cs.getD t.2.1 0 : Nat) : Int)) = true := decide_eq_true (hf t htm)
        rw [upd_same, e, List.replicate_succ', List.map_append]
        rfl
      · rw [upd_ne (ne_of_none e hD)]
        exact sm _ _ e
    · rintro H1 ⟨hD1, sm, _⟩
      refine ⟨D, _, rfl, SqL.of hD1, ?_⟩
      refine q_bl (q _ sm) ?_
      rw [List.all_eq_true]
      intro x hx
      exact (List.mem_replicate.mp hx).2
end
end K12

/-! ways_from. -/
namespace K12
open PySem L2
/-! ### few numbers below n -/
theorem nodup_le : ∀ (n : Nat) (l : List Nat), l.Nodup → (∀ x ∈ l, x < n) → l.length ≤ n
  | 0, l, _, h => by
    cases l with
    | nil => exact Nat.le_refl _
    | cons a r => exact absurd (h a List.mem_cons_self) (Nat.not_lt_zero _)
  | n + 1, l, hN, h => by
    have ih := nodup_le n (l.erase n) (hN.erase n) fun x hx => by
      have hx2 := (List.Nodup.mem_erase_iff hN).mp hx
      have := h x hx2.2
      have := hx2.1
      omega
    by_cases c : n ∈ l
    · rw [List.length_erase_of_mem c] at ih
      omega
    · rw [List.erase_of_not_mem c] at ih
      omega
/-! ### the dict -/
def dkv (fs : List (Nat × Addr)) : List (Key × V) := fs.map fun e => ((Sum.inl (e.1 : Int) : Key), V.ref e.2)
theorem key_inj {x y : Nat} (h : (Sum.inl (x : Int) : Key) = Sum.inl (y : Int)) : x = y := by
  have := Sum.inl.inj h
  omega
theorem dkv_none {x : Nat} : ∀ {fs : List (Nat × Addr)}, x ∉ fs.map (·.1) → valV (dkv fs) (Sum.inl (x : Int) : Key) = none
  | [], _ => rfl
  | e :: r, h => by
    have h1 : ¬ (Sum.inl (e.1 : Int) : Key) = Sum.inl (x : Int) := fun z => h (by
      rw [← key_inj z]
      exact List.mem_cons_self)
    have h2 : x ∉ r.map (·.1) := fun z => h (List.mem_cons_of_mem _ z)
    show valV (((Sum.inl (e.1 : Int) : Key), V.ref e.2) :: dkv r) _ = none
    rw [valV_neg h1]
    exact dkv_none h2
theorem dkv_some {x : Nat} {a : Addr} : ∀ {fs : List (Nat × Addr)}, (fs.map (·.1)).Nodup → (x, a) ∈ fs → valV (dkv fs) (Sum.inl (x : Int) : Key) = some (.ref a)
  | e :: r, hN, h => by
    obtain ⟨n1, n2⟩ := List.nodup_cons.mp (show (e.1 :: r.map (·.1)).Nodup from hN)
    show valV (((Sum.inl (e.1 : Int) : Key), V.ref e.2) :: dkv r) _ = _
    rcases List.mem_cons.mp h with z | z
    · subst z
      exact valV_pos rfl
    · have h1 : ¬ (Sum.inl (e.1 : Int) : Key) = Sum.inl (x : Int) := fun q => n1 (by
        rw [key_inj q]
        exact List.mem_map.mpr ⟨_, z, rfl⟩)
      rw [valV_neg h1]
      exact dkv_some n2 z
theorem dkv_put {fs : List (Nat × Addr)} {x : Nat} {p : Addr} (h : x ∉ fs.map (·.1)) : putK (dkv fs) (Sum.inl (x : Int) : Key) (.ref p) = dkv (fs ++ [(x, p)]) := by
  rw [putK_new _ (dkv_none h)]
  unfold dkv
  rw [List.map_append]
  rfl
/-- x in (a, b) -/
theorem in_pair (x a b : Nat) : inV (nv x) [nv a, nv b] = decide (x = a ∨ x = b) := by
  have e : ∀ c : Nat, eqV (nv c) (nv x) = decide (x = c) := fun c => by
    show ((c : Int) == (x : Int)) = decide (x = c)
    rw [Bool.eq_iff_iff, beq_iff_eq, decide_eq_true_eq]
    omega
  show (eqV (nv a) (nv x) || (eqV (nv b) (nv x) || false)) = _
  rw [e, e, Bool.or_false, ← Bool.decide_or]

/-! ### the search's state -/
structure BF (n : Nat) (ts : List Tie) (q u : Nat) (H H' : Hp) (d r : Addr) (fs : List (Nat × Addr)) : Prop where
  sm : Same H H'
  hd : H' d = some (.dK (dkv fs))
  hr : H' r = some (.lst ((fs.map (·.1)).map nv))
  nd : (fs.map (·.1)).Nodup
  st : u ∈ fs.map (·.1)
  lt : ∀ e ∈ fs, e.1 < n
  way : ∀ e ∈ fs, e.2 ≠ r ∧ ∃ w, IntsAt H' e.2 w ∧ Way ts (fun x => q ∣ x) u w e.1 ∧ w.length < fs.length
  new : ∀ e ∈ fs, H e.2 = none
theorem BF.len {n : Nat} {ts : List Tie} {q u : Nat} {H H' : Hp} {d r : Addr} {fs : List (Nat × Addr)} (B : BF n ts q u H H' d r fs) : fs.length ≤ n := by
  have := nodup_le n (fs.map (·.1)) B.nd fun x hx => by
    obtain ⟨e, he, rfl⟩ := List.mem_map.mp hx
    exact B.lt e he
  rw [List.length_map] at this
  exact this
theorem BF.keep {n : Nat} {ts : List Tie} {q u : Nat} {H H' H2 : Hp} {d r : Addr} {fs : List (Nat × Addr)} (B : BF n ts q u H H' d r fs) (s : Same H' H2) : BF n ts q u H H2 d r fs :=
  ⟨B.sm.trans s, s _ _ B.hd, s _ _ B.hr, B.nd, B.st, B.lt, fun e he => by
    obtain ⟨h1, w, h2, h3, h4⟩ := B.way e he
    exact ⟨h1, w, s _ _ h2, h3, h4⟩, B.new⟩
theorem BF.more {n : Nat} {ts : List Tie} {q u : Nat} {H H' : Hp} {d r p : Addr} {fs : List (Nat × Addr)} (B : BF n ts q u H H' d r fs) (hd : H d = none) (hr : H r = none) {w : List Nat} {x : Nat} (hp : IntsAt H' p w) (npr : p ≠ r) (hpn : H p = none)
    (hw : Way ts (fun x => q ∣ x) u w x) (hl : w.length ≤ fs.length) (hx : x ∉ fs.map (·.1)) (hxn : x < n) :
    BF n ts q u H (upd (upd H' d (.dK (dkv (fs ++ [(x, p)])))) r (.lst ((fs.map (·.1)).map nv ++ [nv x]))) d r (fs ++ [(x, p)]) := by
  have ndr : d ≠ r := ne_of B.hd B.hr (by intro z; cases z)
  refine ⟨fun b o e => ?_, ?_, ?_, ?_, ?_, ?_, ?_, ?_⟩
  · rw [upd_ne (ne_of_none e hr), upd_ne (ne_of_none e hd)]
    exact B.sm _ _ e
  · rw [upd_ne ndr, upd_same]
  · rw [upd_same, List.map_append, List.map_append]
    rfl
  · rw [List.map_append]
    exact nd_snoc B.nd hx
  · rw [List.map_append]
    exact List.mem_append_left _ B.st
  · intro e he
    rcases List.mem_append.mp he with z | z
    · exact B.lt e z
    · rw [List.mem_singleton.mp z]
      exact hxn
  · intro e he
    rw [List.length_append, List.length_singleton]
    rcases List.mem_append.mp he with z | z
    · obtain ⟨h1, w2, h2, h3, h4⟩ := B.way e z
      have ned : e.2 ≠ d := ne_of h2 B.hd (by intro z; cases z)
      exact ⟨h1, w2, (by show upd _ _ _ e.2 = _; rw [upd_ne h1, upd_ne ned]; exact h2), h3, by omega⟩
    · rw [List.mem_singleton.mp z]
      have npd : p ≠ d := ne_of hp B.hd (by intro z; cases z)
      exact ⟨npr, w, (by show upd _ _ _ p = _; rw [upd_ne npr, upd_ne npd]; exact hp), hw, by omega⟩
  · intro e he
    rcases List.mem_append.mp he with z | z
    · exact B.new e z
    · rw [List.mem_singleton.mp z]
      exact hpn
/-- what is done for a point by a tie -/
def Dn (q : Nat) (keys : List Nat) (x : Nat) (t : Tie) : Prop := q ∣ t.2.2 → (x = t.1 → t.2.1 ∈ keys) ∧ (x = t.2.1 → t.1 ∈ keys)
theorem Dn.more {q : Nat} {keys ks : List Nat} {x : Nat} {t : Tie} (h : Dn q keys x t) : Dn q (keys ++ ks) x t := fun z => ⟨fun e => List.mem_append_left _ ((h z).1 e), fun e => List.mem_append_left _ ((h z).2 e)⟩
/-- what ways_from hands back -/
structure Found (n : Nat) (ts : List Tie) (q u : Nat) (H H' : Hp) (d : Addr) (fs : List (Nat × Addr)) : Prop where
  hd : H' d = some (.dK (dkv fs))
  nd : (fs.map (·.1)).Nodup
  st : u ∈ fs.map (·.1)
  lt : ∀ e ∈ fs, e.1 < n
  way : ∀ e ∈ fs, ∃ w, IntsAt H' e.2 w ∧ Way ts (fun x => q ∣ x) u w e.1 ∧ w.length ≤ n
  new : ∀ e ∈ fs, H e.2 = none
  cl : ∀ t ∈ ts, q ∣ t.2.2 → (t.1 ∈ fs.map (·.1) ↔ t.2.1 ∈ fs.map (·.1))
section
variable {P : Program} {w : World} {K : PySem.W.Frag} {mg : Str → Option Value} {base : Heap}
theorem scWaysFrom : FnScope ["web", "start", "power", "found", "row", "at", "point", "number", "one", "two", "rest", "other"] ["web", "start", "power"] (defScope sWaysFrom) := ⟨rfl, rfl, rfl, by decide +kernel, rfl, by decide +kernel, by decide +kernel⟩
def spWaysFrom (C : Addr) : Sp := fun vs H Q _ => ∃ (p : Addr) (n u q : Nat) (ts : List Tie) (M : Nat), vs = [.ref p, nv u, nv q] ∧ WebAt C H p n ts ∧ WebOk n ts M ∧ u < n ∧
  ∀ (d : Addr) (fs : List (Nat × Addr)) (H' : Hp), Same H H' → Found n ts q u H H' d fs → Q (.ref d) H'
theorem ok_waysFrom (T : Txt K mg) : FnOk P w K mg base CX0 3 T.waysFrom.f T.waysFrom.fd ["web", "start", "power"] (spWaysFrom T.C) := by
  refine T.waysFrom.F.ok scWaysFrom (fun vs H Q E h => ?_) (fun cdv A outer s H vs Q E hr h => ?_)
  · obtain ⟨p, n, u, q, ts, M, rfl, _⟩ := h
    rfl
  · obtain ⟨p, n, u, q, ts, M, rfl, hW, W, hu, k⟩ := h
    have nd := scWaysFrom.nd
    have hun := hu_of hr
    have hr1 : Room 1 _ := hr.mono (by decide)
    refine ⟨_, pss_cons (ps_set (i := 3) nd rfl (.inl rfl) (pe_disp (pps_cons (pv 1) (pe_lst pa_nil) pps_nil) (by rfl) (by rfl) (fun z => by cases z) (by decide)))
      (pss_cons (ps_set (i := 4) nd rfl (.inl rfl) (pe_lst (pa_cons (pv 1) pa_nil)))
      (pss_cons (ps_set (i := 5) nd rfl (.inl rfl) pe_int)
      (pss_cons (ps_while PassesOwn.never (pt_cmpR op_lt (pv 5) (pe_callB call_len_seq (by rfl) T.zLen PySem.boot_len (pa_cons (pv 4) pa_nil)) (nomark _))
        (pss_cons (ps_set (i := 6) nd rfl (.inl rfl) (pe_ix ix_list (pv 4) (pv 5) (fun _ _ => rfl)))
        (pss_cons (ps_aug (i := 5) nd rfl (.inl rfl) pe_int ip_add)
        (pss_one (ps_for PassesOwn.never rfl (pi_enum (by rfl) T.zEnum (pa_cons (pe_meth0 (pv 0) T.cl T.wTies.m (ok_wTies T) hr1 T.wTies.b .nil pass0) pa_nil))
            (pg_tup rfl (pgs_cons (pg_name (i := 7) nd rfl (.inl rfl)) (pgs_cons (pg_tup rfl (pgs_cons (pg_name (i := 8) nd rfl (.inl rfl)) (pgs_cons (pg_name (i := 9) nd rfl (.inl rfl)) (pgs_cons (pg_name (i := 10) nd rfl (.inl rfl)) pgs_nil)))) pgs_nil)))
          (pss_one (ps_if (PW.pt (pw_and (pt_val (pe_call (ok_leads T) hr (by rfl) T.leads.g T.leads.F.kp T.leads.b .nil pass0 (pa_cons (pv 2) (pa_cons (pv 10) pa_nil)))) (pw_and1 (pt_cmpR op_in_seq (pv 6) (pe_tup (pa_cons (pv 8) (pa_cons (pv 9) pa_nil))) (by rfl)))))
            (C8.pss_cut (ps_set (i := 11) nd rfl (.inl rfl) (pe_op op_sub (pe_op op_add (pv 8) (pv 9)) (pv 6)))
            (pss_one (ps_if (pt_cmp (pc_dnotin hun (pv 11) (pv 3)))
              (pss_cons (ps_dput hun (pv 3) (pv 11) (pe_op op_cat (pe_dget hun (pv 3) (pv 6) (fun _ _ => rfl)) (pe_lst (pa_cons (pv 7) pa_nil))) rfl)
              (pss_one (ps_expr (pe_bm PySem.F.plainAttrs_list PySem.F.slot_list_append PySem.F.type_list_append mt_append (pv 4) (pa_cons (pv 11) pa_nil))))) pss_nil))) pss_nil)))))))
      (pss_one (ps_ret (pv 3)))))), ?_⟩
    -- found = {start: []}
    intro d hd
    refine ⟨_, rfl, Nat.zero_le _, fun l0 hl0 => ?_⟩
    have ndl0 : d ≠ l0 := fun z => by
      rw [← z, upd_same] at hl0
      cases hl0
    refine ⟨(by rw [upd_ne ndl0]; exact upd_same), [(Sum.inl (u : Int), .ref l0)], rfl, (by show 1 ≤ 15; decide), ?_⟩
    have em : mergeK [] [((Sum.inl (u : Int) : Key), V.ref l0)] = dkv [(u, l0)] := rfl
    rw [em]
    obtain ⟨H1, eH1⟩ : ∃ H1, H1 = upd (upd (upd H d (.dK [])) l0 (.lst [])) d (.dK (dkv [(u, l0)])) := ⟨_, rfl⟩
    have hl0' : H l0 = none := by
      rw [upd_ne ndl0.symm] at hl0
      exact hl0
    have s1 : Same H H1 := fun b o e => by
      rw [eH1, upd_ne (ne_of_none e hd), upd_ne (ne_of_none e hl0'), upd_ne (ne_of_none e hd)]
      exact e
    have hd1 : H1 d = some (.dK (dkv [(u, l0)])) := by rw [eH1, upd_same]
    have hl1 : H1 l0 = some (.lst []) := by rw [eH1, upd_ne ndl0.symm, upd_same]
    rw [← eH1]
    -- row = [start]; at = 0
    refine ⟨_, rfl, (by show 1 ≤ sizeLine; decide), fun r hr1' => ?_⟩
    have hr0 : H r = none := s1.free hr1'
    have s2 : Same H1 (upd H1 r (.lst [nv u])) := same_upd hr1'
    have B0 : BF n ts q u H (upd H1 r (.lst [nv u])) d r [(u, l0)] := by
      refine ⟨s1.trans s2, s2 _ _ hd1, upd_same, ?_, List.mem_cons_self, ?_, ?_, fun e he => by rw [List.mem_singleton.mp he]; exact hl0'⟩
      · exact List.nodup_cons.mpr ⟨List.not_mem_nil, List.nodup_nil⟩
      · intro e he
        rw [List.mem_singleton.mp he]
        exact hu
      · intro e he
        rw [List.mem_singleton.mp he]
        exact ⟨ne_of_none hl1 hr1', [], s2 _ _ hl1, rfl, Nat.zero_lt_one⟩
    -- while at < len(row)
    refine ⟨fun μ σ H' => ∃ (fs : List (Nat × Addr)) (j : Nat) (x6 x7 x8 x9 x10 x11 : Option V), σ = [some (.ref p), some (nv u), some (nv q), some (.ref d), some (.ref r), some (nv j), x6, x7, x8, x9, x10, x11] ∧ BF n ts q u H H' d r fs ∧ j ≤ fs.length ∧
        (∀ i x, i < j → (fs.map (·.1))[i]? = some x → ∀ t ∈ ts, Dn q (fs.map (·.1)) x t) ∧ μ = n - j,
      ⟨n, [(u, l0)], 0, none, none, none, none, none, none, rfl, B0, Nat.zero_le _, fun i x h => absurd h (Nat.not_lt_zero _), rfl⟩, ?_⟩
    rintro μ σ H2 ⟨fs, j, x6, x7, x8, x9, x10, x11, rfl, B, hj, hdn, rfl⟩
    have hlen := B.len
    refine ⟨_, rfl, _, rfl, r, _, rfl, .inl (SqL.of B.hr), _, _, rfl, rfl, _, rfl, ite2 (fun c => ?_) (fun c => ?_)⟩
    · have c : (j : Int) < (((fs.map (·.1)).map nv).length : Nat) := of_decide_eq_true c
      rw [List.length_map, List.length_map] at c
      have c : j < fs.length := by omega
      obtain ⟨e0, he0⟩ := get_of (l := fs) (i := j) c
      have hx0 : (fs.map (·.1))[j]? = some e0.1 := by rw [List.getElem?_map, he0]; rfl
      obtain ⟨x, ex⟩ : ∃ x, x = e0.1 := ⟨_, rfl⟩
      rw [← ex] at hx0
      refine ⟨_, fun σ' H'' h => h, ?_⟩
      -- point = row[at]; at += 1
      refine ⟨_, rfl, _, rfl, r, _, _, _, rfl, rfl, SqL.of B.hr, at_nv hx0, _, rfl, _, _, rfl, rfl, ?_⟩
      have ej : V.int ((j : Int) + 1) = nv (j + 1) := rfl
      -- for number, (one, two, rest) in enumerate(web.ties())
      obtain ⟨dx, lk, lg, hp, _, _⟩ := id hW
      refine ⟨_, rfl, p, dx, _, rfl, B.sm _ _ hp, wf_no _ _ _ (by decide +kernel) (by decide +kernel) (by decide +kernel), p, n, ts, rfl, hW.keep B.sm, fun l H3 hl2 s3 hT3 => ?_⟩
      obtain ⟨as, h1, h2, h3⟩ := hT3
      refine ⟨l, _, rfl, SqL.of h1, ?_⟩
      -- the turn keeps l apart from what it writes: l is new
      have B3 := B.keep s3
      have hW2 : WebAt T.C H p n ts := hW
      have nlr : l ≠ r := fun z => by
        rw [z, B.hr] at hl2
        cases hl2
      have nld : l ≠ d := ne_of h1 B3.hd (by intro z; cases z)
      have hxk : x ∈ fs.map (·.1) := List.mem_of_getElem? hx0
      refine for_it (walk_enum (K := K) (a := l) (xs := as.map V.ref)) (fun i σ' H' => ∃ (fs' : List (Nat × Addr)) (x7 x8 x9 x10 x11 : Option V), σ' = [some (.ref p), some (nv u), some (nv q), some (.ref d), some (.ref r), some (nv (j + 1)), some (nv x), x7, x8, x9, x10, x11] ∧ BF n ts q u H H' d r fs' ∧
          (∃ ks, fs' = fs ++ ks) ∧ (∀ b o, b ≠ d → b ≠ r → H3 b = some o → H' b = some o) ∧ ∀ i' t, i' < i → ts[i']? = some t → Dn q (fs'.map (·.1)) x t)
        ⟨fs, x7, x8, x9, x10, x11, rfl, B3, ⟨[], (List.append_nil fs).symm⟩, fun b o _ _ e => e, fun i' t h => absurd h (Nat.not_lt_zero _)⟩ (fun i σ' H' _ ⟨_, _, _, _, _, _, _, _, _, o, _⟩ => SqL.of (o _ _ nld nlr h1)) ?_ ?_
      · rintro i y σ' H4 H5 hi ⟨fs', x7, x8, x9, x10, x11, rfl, B4, ⟨ks, eks⟩, o4, dn4⟩ ⟨T5, y1, y2, rfl, hT5, rfl, e1, e2⟩
        have e1 : y1 = V.int (i : Nat) := (Option.some.inj e1).symm
        subst e1
        obtain ⟨b, hb, rfl⟩ := ref_at e2
        obtain ⟨t, ht⟩ := get_of (l := ts) (i := i) (by rw [← h2]; exact get_lt hb)
        have htm := List.mem_of_getElem? ht
        obtain ⟨htu, htv⟩ := W.pt t htm
        obtain ⟨H5, eH5⟩ : ∃ H5, H5 = upd H4 T5 (.tup [.int (i : Nat), .ref b]) := ⟨_, rfl⟩
        have s5 : Same H4 H5 := by rw [eH5]; exact same_upd hT5
        have hT5' : H5 T5 = some (.tup [.int (i : Nat), .ref b]) := by rw [eH5]; exact upd_same
        rw [← eH5]
        have B5 := B4.keep s5
        have hb3 := h3 i b t hb ht
        have nbd : b ≠ d := ne_of hb3 B3.hd (by intro z; cases z)
        have nbr : b ≠ r := ne_of hb3 B3.hr (by intro z; cases z)
        have hbt : H5 b = some (.tup [nv t.1, nv t.2.1, nv t.2.2]) := s5 _ _ (o4 _ _ nbd nbr hb3)
        have o5 : ∀ b o, b ≠ d → b ≠ r → H3 b = some o → H5 b = some o := fun b o n1 n2 e => s5 _ _ (o4 b o n1 n2 e)
        have lt5 := B5.len
        -- how a turn ends that leaves the dict as it was
        have stay : ∀ H6, Same H5 H6 → Dn q (fs'.map (·.1)) x t → ∀ x7 x8 x9 x10 x11 : Option V, ∃ (fs' : List (Nat × Addr)) (y7 y8 y9 y10 y11 : Option V), ([some (.ref p), some (nv u), some (nv q), some (.ref d), some (.ref r), some (nv (j + 1)), some (nv x), x7, x8, x9, x10, x11] : St) = [some (.ref p), some (nv u), some (nv q), some (.ref d), some (.ref r), some (nv (j + 1)), some (nv x), y7, y8, y9, y10, y11] ∧ BF n ts q u H H6 d r fs' ∧
          (∃ ks, fs' = fs ++ ks) ∧ (∀ b o, b ≠ d → b ≠ r → H3 b = some o → H6 b = some o) ∧ ∀ i' t, i' < i + 1 → ts[i']? = some t → Dn q (fs'.map (·.1)) x t := fun H6 s6 hdn x7 x8 x9 x10 x11 =>
          ⟨fs', x7, x8, x9, x10, x11, rfl, B5.keep s6, ⟨ks, eks⟩, fun b o n1 n2 e => s6 _ _ (o5 b o n1 n2 e), fun i' t' hi' ht' => by
            by_cases c : i' = i
            · subst c
              have e : t = t' := Option.some.inj (ht.symm.trans ht')
              rw [← e]
              exact hdn
            · exact dn4 i' t' (by omega) ht'⟩
        refine ⟨T5, _, rfl, .inl (.inl hT5'), rfl, _, _, rfl, _, _, rfl, ⟨b, _, rfl, SqT.of hbt, rfl, _, _, rfl, _, _, rfl, _, _, rfl, rfl, rfl, ?_⟩⟩
        -- if leads(power, rest) and point in (one, two)
        refine ⟨_, rfl, _, rfl, q, t.2.2, rfl, _, rfl, ite2 (fun c => ?_) (fun c => ?_)⟩
        · have c : q ∣ t.2.2 := of_decide_eq_true c
          refine ⟨_, rfl, _, rfl, _, rfl, (by show 2 ≤ sizeLine; decide), fun p2 hp2 => ?_⟩
          refine ⟨p2, _, rfl, .inr (SqT.of upd_same), rfl, rfl, _, rfl, ?_⟩
          show if inV (nv x) [nv t.1, nv t.2.1] = true then _ else _
          rw [in_pair]
          have s6 : Same H5 (upd H5 p2 (.tup [nv t.1, nv t.2.1])) := same_upd hp2
          refine ite2 (fun c2 => ?_) (fun c2 => ?_)
          · have c2 : x = t.1 ∨ x = t.2.1 := of_decide_eq_true c2
            obtain ⟨z, ez⟩ : ∃ z, z = t.1 + t.2.1 - x := ⟨_, rfl⟩
            have hzn : z < n := by omega
            have zdn : ∀ keys : List Nat, z ∈ keys → Dn q keys x t := fun keys hz _ => ⟨fun e => by
              have : z = t.2.1 := by omega
              rw [← this]
              exact hz, fun e => by
              have : z = t.1 := by omega
              rw [← this]
              exact hz⟩
            -- other = one + two - point
            refine ⟨fun σ6 H6 => σ6 = [some (.ref p), some (nv u), some (nv q), some (.ref d), some (.ref r), some (nv (j + 1)), some (nv x), some (nv i), some (nv t.1), some (nv t.2.1), some (nv t.2.2), some (nv z)] ∧ H6 = upd H5 p2 (.tup [nv t.1, nv t.2.1]), ?_, ?_⟩
            · refine ⟨_, rfl, _, rfl, _, _, rfl, rfl, _, rfl, _, _, rfl, rfl, ?_, rfl⟩
              have e : (t.1 : Int) + (t.2.1 : Int) - (x : Int) = (z : Int) := by omega
              show [some (.ref p), some (nv u), some (nv q), some (.ref d), some (.ref r), some (nv (j + 1)), some (nv x), some (nv i), some (nv t.1), some (nv t.2.1), some (nv t.2.2), some (V.int ((t.1 : Int) + (t.2.1 : Int) - (x : Int)))] = _
              rw [e]
            · rintro σ6 H6 ⟨rfl, eH6⟩
              rw [← eH6] at s6
              have B6 := B5.keep s6
              -- if other not in found
              refine ⟨_, rfl, _, rfl, d, _, rfl, DGet.k (k := Sum.inl (z : Int)) B6.hd, _, rfl, ?_⟩
              by_cases hz : z ∈ fs'.map (·.1)
              · obtain ⟨⟨z', az⟩, hm, hz'⟩ := List.mem_map.mp hz
                have hz' : z' = z := hz'
                subst hz'
                rw [dkv_some B6.nd hm]
                refine iteF ?_
                exact stay _ s6 (zdn _ hz) _ _ _ _ _
              · rw [dkv_none hz]
                refine iteT ?_
                -- found[other] = found[point] + [number]
                have hxk' : x ∈ fs'.map (·.1) := by
                  rw [eks, List.map_append]
                  exact List.mem_append_left _ hxk
                obtain ⟨⟨x', ax⟩, hm, hx'⟩ := List.mem_map.mp hxk'
                have hx' : x' = x := hx'
                subst hx'
                obtain ⟨_, w, hw1, hw2, hw3⟩ := B6.way _ hm
                have hw1 : H6 ax = some (.lst (w.map nv)) := hw1
                refine ⟨_, rfl, _, rfl, d, .ref ax, rfl, (by rw [← dkv_some B6.nd hm]; exact DGet.k (k := Sum.inl (x' : Int)) B6.hd), _, rfl, (by show 1 ≤ sizeLine; decide), fun p3 hp3 => ?_⟩
                have s7 : Same H6 (upd H6 p3 (.lst [nv i])) := same_upd hp3
                refine ⟨ax, p3, w.map nv, [nv i], rfl, rfl, s7 _ _ hw1, upd_same, ?_, fun p4 hp4 => ?_⟩
                · rw [List.length_map]
                  have := W.n1
                  exact Nat.le_of_lt (small1000 (by show w.length + 1 ≤ 1000; omega))
                · have s8 := s7.trans (same_upd (o := .lst (w.map nv ++ [nv i])) hp4)
                  obtain ⟨H8, eH8⟩ : ∃ H8, H8 = upd (upd H6 p3 (.lst [nv i])) p4 (.lst (w.map nv ++ [nv i])) := ⟨_, rfl⟩
                  rw [← eH8] at s8
                  have B8 := B6.keep s8
                  have hp48 : IntsAt H8 p4 (w ++ [i]) := by
                    show H8 p4 = _
                    rw [eH8, upd_same, List.map_append]
                    rfl
                  have np4r : p4 ≠ r := fun z => by
                    have := s7 _ _ B6.hr
                    rw [z, this] at hp4
                    cases hp4
                  have hway : Way ts (fun x => q ∣ x) u (w ++ [i]) z := by
                    rw [ez]
                    exact Way.snoc ht c hw2 c2
                  have hw3 : w.length < fs'.length := hw3
                  refine ⟨_, rfl, _, rfl, d, _, rfl, DPut.k (k := Sum.inl (z : Int)) (by rw [← eH8]; exact B8.hd) ?_, ?_⟩
                  · unfold dkv
                    rw [List.length_map]
                    have := W.n1
                    exact small1000 (by omega)
                  rw [dkv_put hz, ← eH8]
                  -- row.append(other)
                  have ndr : d ≠ r := ne_of B8.hd B8.hr (by intro z; cases z)
                  have hr9 : (upd H8 d (.dK (dkv (fs' ++ [(z, p4)])))) r = some (.lst ((fs'.map (·.1)).map nv)) := by
                    rw [upd_ne ndr.symm]
                    exact B8.hr
                  refine ⟨_, rfl, .inl ⟨rfl, _, SqL.of hr9⟩, _, rfl, r, _, _, rfl, rfl, hr9, ?_, ?_⟩
                  · rw [List.length_map, List.length_map]
                    have := W.n1
                    exact small1000 (by omega)
                  · have B9 := B8.more hd hr0 hp48 np4r ((B6.sm.trans s7).free hp4) hway (by rw [List.length_append, List.length_singleton]; omega) hz hzn
                    refine ⟨fs' ++ [(z, p4)], _, _, _, _, _, rfl, B9, ⟨ks ++ [(z, p4)], by rw [eks, List.append_assoc]⟩, fun b o n1 n2 e => ?_, fun i' t' hi' ht' => ?_⟩
                    · rw [upd_ne n2, upd_ne n1]
                      exact s8 _ _ (s6 _ _ (o5 b o n1 n2 e))
                    · rw [List.map_append]
                      by_cases ci : i' = i
                      · subst ci
                        have e : t = t' := Option.some.inj (ht.symm.trans ht')
                        rw [← e]
                        exact zdn _ (List.mem_append_right _ List.mem_cons_self)
                      · exact (dn4 i' t' (by omega) ht').more
          · have c2 : ¬ (x = t.1 ∨ x = t.2.1) := fun z => c2 (decide_eq_true z)
            exact stay _ s6 (fun _ => ⟨fun e => absurd (.inl e) c2, fun e => absurd (.inr e) c2⟩) _ _ _ _ _
        · have c : ¬ q ∣ t.2.2 := fun z => c (decide_eq_true z)
          exact stay _ (.refl _) (fun z => absurd z c) _ _ _ _ _
      · rintro σ' H4 ⟨fs', x7, x8, x9, x10, x11, rfl, B4, ⟨ks, eks⟩, o4, dn4⟩
        have hl4 := B4.len
        have hl5 : fs'.length = fs.length + ks.length := by rw [eks, List.length_append]
        refine ⟨n - (j + 1), by omega, fs', j + 1, _, _, _, _, _, _, rfl, B4, by omega, fun i y hi hy t ht => ?_, rfl⟩
        have hpre : (fs'.map (·.1))[i]? = (fs.map (·.1))[i]? := by
          rw [eks, List.map_append, List.getElem?_append_left (by rw [List.length_map]; omega)]
        rw [hpre] at hy
        by_cases ci : i = j
        · subst ci
          have e : x = y := Option.some.inj (hx0.symm.trans hy)
          subst e
          obtain ⟨i', hi', e'⟩ := List.mem_iff_getElem.mp ht
          exact dn4 i' t (by rw [List.length_map, h2]; exact hi') (by rw [← e']; exact List.getElem?_eq_getElem hi')
        · have := hdn i y (by omega) hy t ht
          rw [eks, List.map_append]
          exact this.more
    · have c : ¬ j < fs.length := fun z => c (decide_eq_true (by
        show (j : Int) < (((fs.map (·.1)).map nv).length : Nat)
        rw [List.length_map, List.length_map]
        omega))
      refine ⟨_, rfl, ?_⟩
      refine k d fs H2 B.sm ⟨B.hd, B.nd, B.st, B.lt, fun e he => ?_, B.new, fun t ht hq => ?_⟩
      · obtain ⟨_, w, h2, h3, h4⟩ := B.way e he
        exact ⟨w, h2, h3, by omega⟩
      · have key : ∀ x, x ∈ fs.map (·.1) → Dn q (fs.map (·.1)) x t := fun x hx => by
          obtain ⟨i, hi, e⟩ := List.mem_iff_getElem.mp hx
          rw [List.length_map] at hi
          exact hdn i x (by omega) (by rw [← e]; exact List.getElem?_eq_getElem (by rw [List.length_map]; exact hi)) t ht
        exact ⟨fun z => (key _ z hq).1 rfl, fun z => (key _ z hq).2 rfl⟩
end
end K12

/-! apart, bond_paper. -/
namespace K12
open PySem L2
theorem crossing_take {near : Nat → Bool} {ts : List Tie} {i : Nat} {t : Tie} (h : ts[i]? = some t) : crossing near (ts.take (i + 1)) = crossing near (ts.take i) ++ (if near t.1 != near t.2.1 then [t.2.2] else []) := by
  unfold crossing
  rw [List.take_add_one, h, List.filter_append, List.map_append]
  congr 1
  by_cases c : (near t.1 != near t.2.1) = true
  · simp [c]
  · simp [c]
theorem crossing_len (near : Nat → Bool) (ts : List Tie) : (crossing near ts).length ≤ ts.length := by
  unfold crossing
  rw [List.length_map]
  exact List.length_filter_le _ _
def nearF (fs : List (Nat × Addr)) : Nat → Bool := fun x => decide (x ∈ fs.map (·.1))
theorem dkv_isSome {fs : List (Nat × Addr)} (hN : (fs.map (·.1)).Nodup) (x : Nat) : (valV (dkv fs) (Sum.inl (x : Int) : Key)).isSome = nearF fs x := by
  unfold nearF
  by_cases h : x ∈ fs.map (·.1)
  · obtain ⟨⟨x', a⟩, hm, e⟩ := List.mem_map.mp h
    have e : x' = x := e
    subst e
    rw [dkv_some hN hm, decide_eq_true h]
    rfl
  · rw [dkv_none h, decide_eq_false h]
    rfl
theorem ne_bl (a b : Bool) : (!decide (V.bl a = V.bl b)) = (a != b) := by
  cases a <;> cases b <;> decide
def argOf : Expr → Expr
  | .Call _ (a :: _) _ _ => a
  | e => e
section
variable {P : Program} {w : World} {K : PySem.W.Frag} {mg : Str → Option Value} {base : Heap}
/-! ### apart -/
abbrev nApart : List Str := ["web", "u", "power", "near", "step", "one", "two", "rest", "point"]
theorem scApart : FnScope nApart ["web", "u", "power"] (defScope sApart) := ⟨rfl, rfl, rfl, by decide +kernel, rfl, by decide +kernel, by decide +kernel⟩
theorem bkStep : BlkOk nApart (defScope sApart) (lcScope (argOf (asgVal (stAt (defBody sApart) 1)))) [("one", 5), ("two", 6), ("rest", 7)] := blkOk_by (by decide +kernel)
theorem bkCase : BlkOk nApart (defScope sApart) (lcScope (asgVal (stAt (defBody sApart) 2))) [("point", 8)] := blkOk_by (by decide +kernel)
def spApart (C : Addr) : Sp := fun vs H Q _ => ∃ (p : Addr) (n u q : Nat) (ts : List Tie) (M : Nat), vs = [.ref p, nv u, nv q] ∧ WebAt C H p n ts ∧ WebOk n ts M ∧ u < n ∧
  ∀ (l : Addr) (H' : Hp) (near : Nat → Bool), H l = none → Same H H' → IntsAt H' l (caseOf n near (lcmAll (crossing near ts))) → near u = true → (∀ t ∈ ts, q ∣ t.2.2 → near t.1 = near t.2.1) →
    (∀ x, near x = true → ∃ w, Way ts (fun x => q ∣ x) u w x) → Q (.ref l) H'
theorem ok_apart (T : Txt K mg) : FnOk P w K mg base CX0 4 T.apart.f T.apart.fd ["web", "u", "power"] (spApart T.C) := by
  refine T.apart.F.ok scApart (fun vs H Q E h => ?_) (fun cdv A outer s H vs Q E hr h => ?_)
  · obtain ⟨p, n, u, q, ts, M, rfl, _⟩ := h
    rfl
  · obtain ⟨p, n, u, q, ts, M, rfl, hW, W, hu, k⟩ := h
    have nd := scApart.nd
    have hun := hu_of hr
    have hr1 : Room 1 _ := hr.mono (by decide)
    refine ⟨_, pss_cons (ps_set (i := 3) nd rfl (.inr rfl) (pe_call (ok_waysFrom T) hr (by rfl) T.waysFrom.g T.waysFrom.F.kp T.waysFrom.b .nil pass0 (pa_cons (pv 0) (pa_cons (pv 1) (pa_cons (pv 2) pa_nil)))))
      (pss_cons (ps_set (i := 4) nd rfl (.inr rfl) (pe_call (ok_joinedAll T) hr (by rfl) T.joinedAll.g T.joinedAll.F.kp T.joinedAll.b .nil pass0 (pa_cons
          (pe_lc (own := [("one", 5), ("two", 6), ("rest", 7)]) (g := gTup K 3 (gCons (gName 5) (gCons (gName 6) (gCons (gName 7) gNil)))) rfl nd (pi_list (pe_meth0 (pv 0) T.cl T.wTies.m (ok_wTies T) hr1 T.wTies.b .nil pass0)) bkStep
            (fun _ _ _ _ _ => pg_tup rfl (pgs_cons (pg_name (i := 5) nd rfl (.inl rfl)) (pgs_cons (pg_name (i := 6) nd rfl (.inl rfl)) (pgs_cons (pg_name (i := 7) nd rfl (.inl rfl)) pgs_nil))))
            (fun _ _ _ _ _ => pts_one (pt_cmpR op_ne (pe_cmp (pc_din hun (pv 5) (pv 3)) rfl) (pe_cmp (pc_din hun (pv 6) (pv 3)) rfl) (nomark _)))
            (fun _ _ _ _ _ => pv 7)) pa_nil)))
      (pss_one (ps_ret (pe_lc (own := [("point", 8)]) (g := gName 8) rfl nd (pi_range1 (by rfl) T.zRange (pa_cons (pe_meth0 (pv 0) T.cl T.wMany.m (ok_wMany T) hr1 T.wMany.b .nil pass0) pa_nil)) bkCase
        (fun _ _ _ _ _ => pg_name (i := 8) nd rfl (Or.inl rfl)) (fun _ _ _ _ _ => pts_nil)
        (fun _ _ _ _ _ => pe_ifExp (pt_cmp (pc_din hun (pv 8) (pv 3))) (pv 4) pe_int))))), ?_⟩
    obtain ⟨dx, lk, lg, hp, _, _⟩ := id hW
    -- near
    refine ⟨_, rfl, _, rfl, _, rfl, p, n, u, q, ts, M, rfl, hW, W, hu, fun d fs H1 s1 F => ?_⟩
    have nof : (wf n lk lg).lookup ("ties" : Str) = none := wf_no _ _ _ (by decide +kernel) (by decide +kernel) (by decide +kernel)
    have nom : (wf n lk lg).lookup ("many" : Str) = none := wf_no _ _ _ (by decide +kernel) (by decide +kernel) (by decide +kernel)
    -- step
    refine ⟨_, rfl, p, dx, _, rfl, s1 _ _ hp, nof, p, n, ts, rfl, hW.keep s1, fun l H2 hl2 s2 hT2 => ?_⟩
    obtain ⟨as, h1, h2, h3⟩ := hT2
    refine ⟨l, rfl, ⟨_, SqL.of h1⟩, fun D hD => ?_⟩
    have hd2 := s2 _ _ F.hd
    refine lc_list (K := K) (a := l) (xs := as.map V.ref) (fun i H' => IntsAt H' D (crossing (nearF fs) (ts.take i)) ∧ Same H2 H') ⟨upd_same, same_upd hD⟩ (fun i H' _ ⟨_, sm⟩ => SqL.of (sm _ _ h1)) ?_ ?_
    · rintro i y H3 hi ⟨hD3, sm⟩
      obtain ⟨b, hb, rfl⟩ := ref_at hi
      obtain ⟨t, ht⟩ := get_of (l := ts) (i := i) (by rw [← h2]; exact get_lt hb)
      have hbt : H3 b = some (.tup [nv t.1, nv t.2.1, nv t.2.2]) := sm _ _ (h3 i b t hb ht)
      have hd3 := sm _ _ hd2
      have hi1 : i < 1000 := by
        have := get_lt ht
        have := W.len
        omega
      have hcl : (crossing (nearF fs) (ts.take i)).length ≤ i := Nat.le_trans (crossing_len _ _) (by rw [List.length_take]; exact Nat.min_le_left _ _)
      refine ⟨b, _, rfl, SqT.of hbt, rfl, _, _, rfl, _, _, rfl, _, _, rfl, rfl, rfl, ?_⟩
      refine ⟨_, rfl, _, rfl, d, _, rfl, DGet.k (k := Sum.inl (t.1 : Int)) hd3, _, rfl, _, rfl, d, _, rfl, DGet.k (k := Sum.inl (t.2.1 : Int)) hd3, rfl, _, rfl, ?_⟩
      rw [dkv_isSome F.nd, dkv_isSome F.nd, ne_bl, crossing_take ht]
      refine ite2 (fun c => ?_) (fun c => ?_)
      · refine ⟨_, rfl, _, hD3, ?_, ?_, fun b o e => ?_⟩
        · rw [List.length_map]
          exact small1000 (by omega)
        · show upd _ D _ D = _
          rw [if_pos c, upd_same, List.map_append]
          rfl
        · rw [upd_ne (ne_of_none e hD)]
          exact sm _ _ e
      · rw [if_neg c, List.append_nil]
        exact ⟨hD3, sm⟩
    · rintro H3 ⟨hD3, sm⟩
      rw [List.length_map, h2, List.take_length] at hD3
      refine ⟨D, _, M, rfl, hD3, fun x hx => ?_, W.M0, W.Ml, ?_⟩
      · obtain ⟨t, ht, e⟩ := List.mem_map.mp hx
        rw [← e]
        exact W.bd t (List.mem_filter.mp ht).1
      obtain ⟨step, es⟩ : ∃ step, step = lcmAll (crossing (nearF fs) ts) := ⟨_, rfl⟩
      rw [← es]
      have s3 : Same H H3 := (s1.trans s2).trans sm
      have hd3 := sm _ _ hd2
      -- the case
      refine ⟨_, rfl, p, dx, _, rfl, s3 _ _ hp, nom, p, n, ts, rfl, hW.keep s3, (n : Int), rfl, ?_, ?_, fun D2 hD2 => ?_⟩
      · have := W.n1
        omega
      · have := W.n1
        omega
      refine lc_range (lo := 0) (n := n) (fun i H' => IntsAt H' D2 ((List.range i).map fun p => if nearF fs p then step else 0) ∧ Same H3 H') ⟨upd_same, same_upd hD2⟩ ?_ ?_
      · rintro i H4 hi ⟨hD4, sm4⟩
        have e0 : (0 : Int) + (i : Int) = (i : Int) := Int.zero_add _
        refine ⟨rfl, t_yes ?_⟩
        refine ⟨_, rfl, _, rfl, d, _, rfl, DGet.k (k := Sum.inl ((0 : Int) + (i : Int))) (sm4 _ _ hd3), _, rfl, ?_⟩
        rw [e0, dkv_isSome F.nd]
        have fin : ∀ x : Nat, x = (if nearF fs i then step else 0) → ∃ acc, H4 D2 = some (.lst acc) ∧ acc.length < sizeLine ∧ IntsAt (upd H4 D2 (.lst (acc ++ [nv x]))) D2 ((List.range (i + 1)).map fun p => if nearF fs p then step else 0) ∧ Same H3 (upd H4 D2 (.lst (acc ++ [nv x]))) := fun x ex => by
          refine ⟨_, hD4, ?_, ?_, fun b o e => ?_⟩
          · rw [List.length_map, List.length_map, List.length_range]
            have := W.n1
            exact small1000 (by omega)
          · show upd _ D2 _ D2 = _
            rw [upd_same, List.range_succ, List.map_append, List.map_append, ex]
            rfl
          · rw [upd_ne (ne_of_none e hD2)]
            exact sm4 _ _ e
        refine ite2 (fun c => ?_) (fun c => ?_)
        · exact ⟨_, rfl, fin step (by rw [if_pos c])⟩
        · exact fin 0 (by rw [if_neg c])
      · rintro H4 ⟨hD4, sm4⟩
        refine k D2 H4 (nearF fs) (s3.free hD2) (s3.trans sm4) ?_ ?_ ?_ ?_
        · rw [← es]
          exact hD4
        · exact decide_eq_true F.st
        · intro t ht hq
          unfold nearF
          exact decide_eq_decide.mpr (F.cl t ht hq)
        · intro x hx
          have hx : x ∈ fs.map (·.1) := of_decide_eq_true hx
          obtain ⟨e, he, rfl⟩ := List.mem_map.mp hx
          obtain ⟨w, _, h2, _⟩ := F.way e he
          exact ⟨w, h2⟩
end
end K12

/-! bond_paper. -/
namespace K12
open PySem L2
/-- a list of ways stands at l -/
def WaysAt (H : Hp) (l : Addr) (ws : List (List Nat)) : Prop := ∃ as : List Addr, H l = some (.lst (as.map V.ref)) ∧ as.length = ws.length ∧ ∀ (i : Nat) (b : Addr) (w : List Nat), as[i]? = some b → ws[i]? = some w → IntsAt H b w
theorem WaysAt.keep {H H' : Hp} {l : Addr} {ws : List (List Nat)} (h : WaysAt H l ws) (s : Same H H') : WaysAt H' l ws := by
  obtain ⟨as, h1, h2, h3⟩ := h
  exact ⟨as, s _ _ h1, h2, fun i b w e1 e2 => s _ _ (h3 i b w e1 e2)⟩
def wordOf : Paper → Str
  | .ways _ => "ways"
  | .cas _ => "case"
def bodyAt (H : Hp) (l : Addr) : Paper → Prop
  | .ways ws => WaysAt H l ws
  | .cas c => IntsAt H l c
/-- a paper stands at a -/
def PaperAt (H : Hp) (a : Addr) (p : Paper) : Prop := ∃ l : Addr, H a = some (.tup [.str (wordOf p), .ref l]) ∧ bodyAt H l p
theorem PaperAt.keep {H H' : Hp} {a : Addr} {p : Paper} (h : PaperAt H a p) (s : Same H H') : PaperAt H' a p := by
  obtain ⟨l, h1, h2⟩ := h
  refine ⟨l, s _ _ h1, ?_⟩
  cases p with
  | ways ws => exact WaysAt.keep h2 s
  | cas c => exact s _ _ h2
/-- what is new in H' against H -/
def Dif (H H' : Hp) : Hp := fun x => match H x with
  | none => H' x
  | some _ => none
theorem Dif.of {H H' : Hp} {x : Addr} {o : HO} (h : H x = none) (e : H' x = some o) : Dif H H' x = some o := by
  unfold Dif
  rw [h]
  exact e
theorem Dif.get {H H' : Hp} {x : Addr} {o : HO} (e : Dif H H' x = some o) : H x = none ∧ H' x = some o := by
  unfold Dif at e
  cases h : H x with
  | none =>
    rw [h] at e
    exact ⟨rfl, e⟩
  | some y =>
    rw [h] at e
    cases e
theorem Dif.same (H H' : Hp) : Same (Dif H H') H' := fun _ _ e => (Dif.get e).2
def tupArg (k : Nat) : Expr → Expr
  | .Tuple es _ _ => es.getD k (.Constant .none 0 ⟨0, 0, 0, 0⟩)
  | e => e
def callArg (k : Nat) : Expr → Expr
  | .Call _ es _ _ => es.getD k (.Constant .none 0 ⟨0, 0, 0, 0⟩)
  | e => e
def subOf : Expr → Expr
  | .Subscript a _ _ => a
  | e => e
def ifBody : Stmt → List Stmt
  | .If _ b _ _ => b
  | _ => []
section
variable {P : Program} {w : World} {K : PySem.W.Frag} {mg : Str → Option Value} {base : Heap}
abbrev nBond : List Str := ["web", "u", "v", "rest", "bond", "parts", "power"]
theorem scBondPaper : FnScope nBond ["web", "u", "v", "rest"] (defScope sBondPaper) := ⟨rfl, rfl, rfl, by decide +kernel, rfl, by decide +kernel, by decide +kernel⟩
theorem bkWays : BlkOk nBond (defScope sBondPaper) (lcScope (tupArg 1 (asgVal (stAt (ifBody (stAt (defBody sBondPaper) 3)) 0)))) [("power", 6)] := blkOk_by (by decide +kernel)
theorem bkPow : BlkOk nBond (defScope sBondPaper) (lcScope (subOf (callArg 2 (tupArg 1 (asgVal (stAt (defBody sBondPaper) 4)))))) [("power", 6)] := blkOk_by (by decide +kernel)
def spBondPaper (C : Addr) : Sp := fun vs H Q _ => ∃ (p : Addr) (n u v b : Nat) (ts : List Tie) (M : Nat), vs = [.ref p, nv u, nv v, nv b] ∧ WebAt C H p n ts ∧ WebOk n ts M ∧ u < n ∧ v < n ∧ b ≤ 1000000 ∧
  ∀ (a : Addr) (H' : Hp) (pp : Paper), Same H H' → PaperAt (Dif H H') a pp → BP n ts (closureOf n ts) u v b pp → Q (.ref a) H'
theorem ok_bondPaper (T : Txt K mg) : FnOk P w K mg base CX0 5 T.bondPaper.f T.bondPaper.fd ["web", "u", "v", "rest"] (spBondPaper T.C) := by
  refine T.bondPaper.F.ok scBondPaper (fun vs H Q E h => ?_) (fun cdv A outer s H vs Q E hr h => ?_)
  · obtain ⟨p, n, u, v, b, ts, M, rfl, _⟩ := h
    rfl
  · obtain ⟨p, n, u, v, b, ts, M, rfl, hW, W, hu, hv, hb, k⟩ := h
    have nd := scBondPaper.nd
    have hun := hu_of hr
    have hr1 : Room 1 _ := hr.mono (by decide)
    have hr2 : Room 2 _ := hr.mono (by decide)
    have hr3 : Room 3 _ := hr.mono (by decide)
    refine ⟨_, pss_cons (ps_set (i := 4) nd rfl (.inr rfl) (pe_meth (pv 0) T.cl T.wBond.m (ok_wBond T) hr3 T.wBond.b .nil pass0 (pa_cons (pv 1) (pa_cons (pv 2) pa_nil))))
      (pss_cons (ps_if (pt_not (pt_val (pe_call (ok_isRest T) hr2 (by rfl) T.isRest.g T.isRest.F.kp T.isRest.b T.isRest.v pass0 (pa_cons (pv 3) pa_nil)))) pss_never pss_nil)
      (C8.pss_cut (ps_set (i := 5) nd rfl (.inl rfl) (pe_ifExp (pt_cmpR op_gt (pv 3) pe_int (nomark _)) (pe_call (ok_powers T) hr1 (by rfl) T.powers.g T.powers.F.kp T.powers.b .nil pass0 (pa_cons (pv 3) pa_nil)) (pe_lst (pa_cons pe_int pa_nil))))
      (pss_cons (ps_if (pt_val (pe_call (ok_divides T) hr1 (by rfl) T.divides.g T.divides.F.kp T.divides.b .nil pass0 (pa_cons (pv 3) (pa_cons (pv 4) pa_nil))))
        (pss_one (ps_ret (pe_tup (pa_cons pe_str (pa_cons (pe_lc (own := [("power", 6)]) (g := gName 6) rfl nd (pi_list (pv 5)) bkWays
          (fun _ _ _ _ _ => pg_name (i := 6) nd rfl (Or.inl rfl)) (fun _ _ _ _ _ => pts_nil)
          (fun _ _ _ _ _ => pe_dget hun (pe_call (ok_waysFrom T) hr3 (by rfl) T.waysFrom.g T.waysFrom.F.kp T.waysFrom.b .nil pass0 (pa_cons (pv 0) (pa_cons (pv 1) (pa_cons (pv 6) pa_nil)))) (pv 2) (fun _ _ => rfl))) pa_nil))))) pss_nil)
      (pss_one (ps_ret (pe_tup (pa_cons pe_str (pa_cons (pe_call (ok_apart T) hr (by rfl) T.apart.g T.apart.F.kp T.apart.b .nil pass0 (pa_cons (pv 0) (pa_cons (pv 1) (pa_cons
          (pe_ix ix_list (pe_lc (own := [("power", 6)]) (g := gName 6) rfl nd (pi_list (pv 5)) bkPow
            (fun _ _ _ _ _ => pg_name (i := 6) nd rfl (Or.inl rfl)) (fun _ _ _ _ _ => pts_one (pt_not (pt_val (pe_call (ok_divides T) hr1 (by rfl) T.divides.g T.divides.F.kp T.divides.b .nil pass0 (pa_cons (pv 6) (pa_cons (pv 4) pa_nil))))))
            (fun _ _ _ _ _ => pv 6)) pe_int (fun _ _ => rfl)) pa_nil)))) pa_nil)))))))), ?_⟩
    obtain ⟨dx, lk, lg, hp, _, _⟩ := id hW
    have nob : (wf n lk lg).lookup ("bond" : Str) = none := wf_no _ _ _ (by decide +kernel) (by decide +kernel) (by decide +kernel)
    -- bond
    refine ⟨_, rfl, p, dx, _, rfl, hp, nob, _, rfl, _, rfl, p, n, u, v, ts, rfl, hW, hu, hv, fun H1 s1 => ?_⟩
    obtain ⟨bo, ebo⟩ : ∃ bo, bo = closureOf n ts u v := ⟨_, rfl⟩
    rw [← ebo]
    -- is_rest
    refine ⟨_, rfl, (b : Int), rfl, by omega, by omega, _, rfl, iteF ?_⟩
    -- parts
    refine ⟨fun σ2 H2 => ∃ (lp : Addr) (ps : List Nat), σ2 = [some (.ref p), some (nv u), some (nv v), some (nv b), some (nv bo), some (.ref lp), none] ∧ Same H1 H2 ∧ IntsAt H2 lp ps ∧ PowOf b ps ∧ ps.length ≤ 1000000, ?_, ?_⟩
    · refine ⟨_, rfl, _, _, rfl, rfl, _, rfl, ite2 (fun c => ?_) (fun c => ?_)⟩
      · have c : (0 : Int) < (b : Int) := of_decide_eq_true c
        exact ⟨_, rfl, b, rfl, by omega, hb, fun ps l H2 h1 h2 h3 h4 => ⟨l, ps, rfl, h3, h4, h1, h2⟩⟩
      · have c : ¬ (0 : Int) < (b : Int) := fun z => c (decide_eq_true z)
        have b0 : b = 0 := by omega
        refine ⟨(by show 1 ≤ sizeLine; decide), fun l hl => ⟨l, [0], rfl, same_upd hl, upd_same, ?_, by decide⟩⟩
        rw [b0]
        exact powOf_zero
    · rintro σ2 H2 ⟨lp, ps, rfl, s2, hps, hpow, hpl⟩
      have sH2 := s1.trans s2
      refine ⟨_, rfl, _, rfl, b, (bo : Int), rfl, _, rfl, ite2 (fun c => ?_) (fun c => ?_)⟩
      · have c : b ∣ bo := Int.natCast_dvd_natCast.mp (of_decide_eq_true c)
        -- ways
        refine ⟨_, rfl, lp, rfl, ⟨_, SqL.of hps⟩, fun D hD => ?_⟩
        refine lc_list (K := K) (a := lp) (xs := ps.map nv) (fun i H' => ∃ (as : List Addr) (ws : List (List Nat)), H' D = some (.lst (as.map V.ref)) ∧ Same H2 H' ∧ as.length = i ∧ ws.length = i ∧ D ∉ as ∧ (∀ a ∈ as, H2 a = none) ∧
            (∀ (j : Nat) (a : Addr) (w : List Nat), as[j]? = some a → ws[j]? = some w → IntsAt H' a w) ∧ ∀ (j q : Nat) (w : List Nat), ps[j]? = some q → ws[j]? = some w → Way ts (fun x => q ∣ x) u w v)
          ⟨[], [], upd_same, same_upd hD, rfl, rfl, List.not_mem_nil, fun _ h => (by cases h), fun j a w h => (by simp at h), fun j q w h1 h2 => (by simp at h2)⟩ (fun i H' _ ⟨_, _, _, sm, _⟩ => SqL.of (sm _ _ hps)) ?_ ?_
        · rintro i y H3 hi ⟨as, ws, hD3, sm, hal, hwl, hDn, hnew2, hat, hway⟩
          rw [List.getElem?_map] at hi
          obtain ⟨q, hq, rfl⟩ := Option.map_eq_some_iff.mp hi
          obtain ⟨hPF, hqb⟩ := hpow.each q (List.mem_of_getElem? hq)
          have hi6 : i < 1000000 := by
            have := get_lt hq
            omega
          refine ⟨rfl, t_yes ?_⟩
          refine ⟨_, rfl, _, rfl, _, rfl, p, n, u, q, ts, M, rfl, hW.keep (sH2.trans sm), W, hu, fun d fs H4 s4 F => ?_⟩
          -- v is among them
          have hvk : v ∈ fs.map (·.1) := by
            refine bond_in (C := fun x => x ∈ fs.map (·.1)) hPF (fun t ht hd => F.cl t ht hd) hu hv ?_ F.st
            rw [← ebo]
            exact Nat.dvd_trans hqb c
          obtain ⟨⟨v', av⟩, hm, ev⟩ := List.mem_map.mp hvk
          have ev : v' = v := ev
          subst ev
          obtain ⟨wv, hw1, hw2, hw3⟩ := F.way _ hm
          have hnew : H3 av = none := F.new _ hm
          have naD : av ≠ D := fun z => by
            rw [z, hD3] at hnew
            cases hnew
          refine ⟨_, rfl, d, .ref av, rfl, (by rw [← dkv_some F.nd hm]; exact DGet.k (k := Sum.inl (v' : Int)) F.hd), ?_⟩
          refine ⟨_, s4 _ _ hD3, ?_, as ++ [av], ws ++ [wv], ?_, ?_, ?_, ?_, ?_, ?_, ?_, ?_⟩
          · rw [List.length_map, hal]
            exact Nat.lt_of_lt_of_le hi6 (by decide)
          · rw [upd_same, List.map_append]
            rfl
          · intro b o e
            rw [upd_ne (ne_of_none e hD)]
            exact s4 _ _ (sm _ _ e)
          · rw [List.length_append, hal]
            rfl
          · rw [List.length_append, hwl]
            rfl
          · intro z
            rcases List.mem_append.mp z with z | z
            · exact hDn z
            · exact naD (List.mem_singleton.mp z).symm
          · intro a ha
            rcases List.mem_append.mp ha with z | z
            · exact hnew2 a z
            · rw [List.mem_singleton.mp z]
              exact sm.free hnew
          · intro j a w hja hjw
            by_cases cj : j < i
            · rw [List.getElem?_append_left (by omega)] at hja hjw
              show upd _ D _ a = _
              rw [upd_ne (fun z => hDn (by rw [← z]; exact List.mem_of_getElem? hja))]
              exact s4 _ _ (hat j a w hja hjw)
            · rw [List.getElem?_append_right (by omega)] at hja hjw
              have j0 : j - as.length = 0 := by
                have := get_lt hja
                rw [List.length_singleton] at this
                omega
              have j1 : j - ws.length = 0 := by omega
              rw [j0] at hja
              rw [j1] at hjw
              have e1 : av = a := Option.some.inj hja
              have e2 : wv = w := Option.some.inj hjw
              subst e1 e2
              show upd _ D _ av = _
              rw [upd_ne naD]
              exact hw1
          · intro j q' w hjq hjw
            by_cases cj : j < i
            · rw [List.getElem?_append_left (by omega)] at hjw
              exact hway j q' w hjq hjw
            · rw [List.getElem?_append_right (by omega)] at hjw
              have j1 : j - ws.length = 0 := by
                have := get_lt hjw
                rw [List.length_singleton] at this
                omega
              rw [j1] at hjw
              have e2 : wv = w := Option.some.inj hjw
              subst e2
              have ej : j = i := by omega
              subst ej
              have eq : q = q' := Option.some.inj (hq.symm.trans hjq)
              subst eq
              exact hw2
        · rintro H3 ⟨as, ws, hD3, sm, hal, hwl, hDn, hnew2, hat, hway⟩
          rw [List.length_map] at hal hwl
          refine ⟨(by show 2 ≤ sizeLine; decide), fun a ha => ?_⟩
          have s3 := same_upd (o := .tup [.str "ways", .ref D]) ha
          refine k a _ (.ways ws) ((sH2.trans sm).trans s3) ⟨D, Dif.of ((sH2.trans sm).free ha) upd_same, as, Dif.of (sH2.free hD) (s3 _ _ hD3), by omega, fun j a w h1 h2 => Dif.of (sH2.free (hnew2 a (List.mem_of_getElem? h1))) (s3 _ _ (hat j a w h1 h2))⟩ ?_
          exact ways_bp hpow hpl hwl hway (by rw [← ebo]; exact c)
      · have c : ¬ b ∣ bo := fun z => c (decide_eq_true (Int.natCast_dvd_natCast.mpr z))
        -- the parts that don't divide the bond
        refine ⟨_, rfl, _, rfl, _, rfl, lp, rfl, ⟨_, SqL.of hps⟩, fun D hD => ?_⟩
        refine lc_list (K := K) (a := lp) (xs := ps.map nv) (fun i H' => IntsAt H' D ((ps.take i).filter fun q => decide (¬ q ∣ bo)) ∧ Same H2 H') ⟨upd_same, same_upd hD⟩ (fun i H' _ ⟨_, sm⟩ => SqL.of (sm _ _ hps)) ?_ ?_
        · rintro i y H3 hi ⟨hD3, sm⟩
          rw [List.getElem?_map] at hi
          obtain ⟨q, hq, rfl⟩ := Option.map_eq_some_iff.mp hi
          have hi6 : i < 1000000 := by
            have := get_lt hq
            omega
          have hfl : ((ps.take i).filter fun q => decide (¬ q ∣ bo)).length ≤ i := Nat.le_trans (List.length_filter_le _ _) (by rw [List.length_take]; exact Nat.min_le_left _ _)
          refine ⟨rfl, _, rfl, _, rfl, q, (bo : Int), rfl, _, rfl, ?_⟩
          have ed : decide ((q : Int) ∣ (bo : Int)) = decide (q ∣ bo) := decide_eq_decide.mpr Int.natCast_dvd_natCast
          rw [ed, List.take_add_one, hq, List.filter_append]
          by_cases d : q ∣ bo
          · rw [decide_eq_true d]
            refine iteF ?_
            have e : (some q).toList.filter (fun q => decide (¬ q ∣ bo)) = [] := by simp [d]
            rw [e, List.append_nil]
            exact ⟨hD3, sm⟩
          · rw [decide_eq_false d]
            refine iteT ?_
            have e : (some q).toList.filter (fun q => decide (¬ q ∣ bo)) = [q] := by simp [d]
            refine ⟨_, rfl, _, hD3, ?_, ?_, fun b o e => ?_⟩
            · rw [List.length_map]
              exact Nat.lt_of_le_of_lt hfl (Nat.lt_of_lt_of_le hi6 (by decide))
            · show upd _ D _ D = _
              rw [upd_same, e, List.map_append]
              rfl
            · rw [upd_ne (ne_of_none e hD)]
              exact sm _ _ e
        · rintro H3 ⟨hD3, sm⟩
          rw [List.length_map, List.take_length] at hD3
          obtain ⟨l, el⟩ : ∃ l, l = ps.filter fun q => decide (¬ q ∣ bo) := ⟨_, rfl⟩
          rw [← el] at hD3
          have hne : ∃ q r, l = q :: r := by
            cases hl : l with
            | nil =>
              exfalso
              refine c (hpow.all bo fun q hq => Classical.byContradiction fun z => ?_)
              have : q ∈ l := by
                rw [el]
                exact List.mem_filter.mpr ⟨hq, decide_eq_true z⟩
              rw [hl] at this
              cases this
            | cons q r => exact ⟨q, r, rfl⟩
          obtain ⟨q, r, hqr⟩ := hne
          have hql : q ∈ ps ∧ ¬ q ∣ bo := by
            have : q ∈ l := by rw [hqr]; exact List.mem_cons_self
            rw [el] at this
            obtain ⟨h1, h2⟩ := List.mem_filter.mp this
            exact ⟨h1, of_decide_eq_true h2⟩
          obtain ⟨hPF, hqb⟩ := hpow.each q hql.1
          have hq0 : l[0]? = some q := by rw [hqr]; rfl
          refine ⟨D, _, 0, _, rfl, rfl, SqL.of hD3, at_nv (i := 0) hq0, ?_⟩
          refine ⟨p, n, u, q, ts, M, rfl, hW.keep (sH2.trans sm), W, hu, fun l' H4 near hl' s4 hI hnu hcl hway => ?_⟩
          refine ⟨(by show 2 ≤ sizeLine; decide), fun a ha => ?_⟩
          have s5 := same_upd (o := .tup [.str "case", .ref l']) ha
          have nv_ : near v = false := by
            cases e : near v with
            | false => rfl
            | true =>
              exfalso
              obtain ⟨w, hw⟩ := hway v e
              refine hql.2 ?_
              rw [ebo]
              exact (way_bond hPF W.pt hu hu (by rw [(finv hPF).diag u hu]; exact Nat.dvd_zero q) hw).2
          refine k a _ (.cas (caseOf n near (lcmAll (crossing near ts)))) (((sH2.trans sm).trans s4).trans s5) ⟨l', Dif.of (((sH2.trans sm).trans s4).free ha) upd_same, Dif.of ((sH2.trans sm).free hl') (s5 _ _ hI)⟩ ⟨apart_good W.pt near u v hv nv_, apart_shows hPF hqb hcl hu hv hnu nv_, ?_⟩
          exact ⟨fun z => (by cases z), fun z => absurd (by rw [ebo]; exact z) c⟩
end
end K12

/-! way_rest, is_ways, is_bond_paper. -/
namespace K12
open PySem L2
theorem way_at {ts : List Tie} {D : Nat → Prop} {w : List Nat} {i t here v : Nat} (h : Way ts D here (w.drop i) v) (ht : w[i]? = some t) :
    ∃ q : Tie, ts[t]? = some q ∧ (here = q.1 ∨ here = q.2.1) ∧ Way ts D (q.1 + q.2.1 - here) (w.drop (i + 1)) v := by
  have hi := get_lt ht
  have e : w.drop i = t :: w.drop (i + 1) := by
    rw [List.drop_eq_getElem_cons hi]
    congr 1
    exact Option.some.inj ((List.getElem?_eq_getElem hi).symm.trans ht)
  rw [e] at h
  obtain ⟨q, h1, _, h3, h4⟩ := h
  exact ⟨q, h1, h3, h4⟩
theorem not_in_pair {x a b : Nat} (h : x = a ∨ x = b) : (!inV (nv x) [nv a, nv b]) = false := by
  rw [in_pair, decide_eq_true h]
  rfl
section
variable {P : Program} {w : World} {K : PySem.W.Frag} {mg : Str → Option Value} {base : Heap}
/-! ### way_rest -/
theorem scWayRest : FnScope ["web", "u", "v", "way", "ties", "here", "total", "number", "one", "two", "rest"] ["web", "u", "v", "way"] (defScope sWayRest) := ⟨rfl, rfl, rfl, by decide +kernel, rfl, by decide +kernel, by decide +kernel⟩
def spWayRest (C : Addr) : Sp := fun vs H Q _ => ∃ (p lw : Addr) (n u v : Nat) (ts : List Tie) (wy : List Nat), vs = [.ref p, nv u, nv v, .ref lw] ∧ WebAt C H p n ts ∧ IntsAt H lw wy ∧ Way ts (fun _ => True) u wy v ∧
  ∀ H', Same H H' → Q (nv (gcdOf ts wy 0)) H'
theorem ok_wayRest (T : Txt K mg) : FnOk P w K mg base CX0 2 T.wayRest.f T.wayRest.fd ["web", "u", "v", "way"] (spWayRest T.C) := by
  refine T.wayRest.F.ok scWayRest (fun vs H Q E h => ?_) (fun cdv A outer s H vs Q E hr h => ?_)
  · obtain ⟨p, lw, n, u, v, ts, wy, rfl, _⟩ := h
    rfl
  · obtain ⟨p, lw, n, u, v, ts, wy, rfl, hW, hw, hway, k⟩ := h
    have nd := scWayRest.nd
    refine ⟨_, pss_cons (ps_set (i := 4) nd rfl (.inl rfl) (pe_meth0 (pv 0) T.cl T.wTies.m (ok_wTies T) hr T.wTies.b .nil pass0))
      (pss_cons (ps_set (i := 5) nd rfl (.inl rfl) (pv 1))
      (pss_cons (ps_set (i := 6) nd rfl (.inl rfl) pe_int)
      (pss_cons (ps_for PassesOwn.never rfl (pi_list (pv 3)) (pg_name (i := 7) nd rfl (.inl rfl))
        (pss_cons (ps_if (PW.pt (pw_or (pt_not (pt_val (pe_call (ok_isWhole T) hr (by rfl) T.isWhole.g T.isWhole.F.kp T.isWhole.b .nil pass0 (pa_cons (pv 7) pa_nil))))
          (pw_or1 (pt_not (pt_chain op_le op_lt pe_int (pv 7) (pe_callB call_len_seq (by rfl) T.zLen PySem.boot_len (pa_cons (pv 4) pa_nil))))))) (pss_one (ps_ret pe_non)) pss_nil)
        (pss_cons (ps_asg (pe_ix ix_list (pv 4) (pv 7) (fun _ _ => rfl)) (pg_tup rfl (pgs_cons (pg_name (i := 8) nd rfl (.inl rfl)) (pgs_cons (pg_name (i := 9) nd rfl (.inl rfl)) (pgs_cons (pg_name (i := 10) nd rfl (.inl rfl)) pgs_nil)))))
        (pss_cons (ps_if (pt_cmpR op_notIn_seq (pv 5) (pe_tup (pa_cons (pv 8) (pa_cons (pv 9) pa_nil))) (by rfl)) (pss_one (ps_ret pe_non)) pss_nil)
        (C8.pss_cut (ps_set (i := 5) nd rfl (.inl rfl) (pe_op op_sub (pe_op op_add (pv 8) (pv 9)) (pv 5)))
        (pss_one (ps_set (i := 6) nd rfl (.inl rfl) (pe_call (ok_common T) hr (by rfl) T.common.g T.common.F.kp T.common.b .nil pass0 (pa_cons (pv 6) (pa_cons (pv 10) pa_nil))))))))))
      (pss_one (ps_ret (pe_ifExp (pt_cmpR op_eq (pv 5) (pv 2) (nomark _)) (pv 6) pe_non)))))), ?_⟩
    obtain ⟨dx, lk, lg, hp, _, _⟩ := id hW
    refine ⟨_, rfl, p, dx, _, rfl, hp, wf_no _ _ _ (by decide +kernel) (by decide +kernel) (by decide +kernel), p, n, ts, rfl, hW, fun l H1 hl s1 hT1 => ?_⟩
    obtain ⟨as, h1, h2, h3⟩ := hT1
    refine ⟨_, rfl, _, rfl, lw, rfl, ⟨_, SqL.of (s1 _ _ hw)⟩, for_list (K := K) (a := lw) (xs := wy.map nv) (fun i σ H' => ∃ (here : Nat) (x7 x8 x9 x10 : Option V), σ = [some (.ref p), some (nv u), some (nv v), some (.ref lw), some (.ref l), some (nv here), some (nv (gcdOf ts (wy.take i) 0)), x7, x8, x9, x10] ∧
        Same H1 H' ∧ Way ts (fun _ => True) here (wy.drop i) v)
      ⟨u, none, none, none, none, rfl, .refl _, hway⟩ (fun i σ H' _ ⟨_, _, _, _, _, _, sm, _⟩ => SqL.of (sm _ _ (s1 _ _ hw))) ?_ ?_⟩
    · rintro i y σ H2 hi ⟨here, x7, x8, x9, x10, rfl, sm, hwy⟩
      rw [List.getElem?_map] at hi
      obtain ⟨t, ht, rfl⟩ := Option.map_eq_some_iff.mp hi
      obtain ⟨q, hq, hh, hwy'⟩ := way_at hwy ht
      have htl : t < ts.length := get_lt hq
      obtain ⟨b, hb⟩ := get_of (l := as) (i := t) (by rw [h2]; exact htl)
      have hbt : H2 b = some (.tup [nv q.1, nv q.2.1, nv q.2.2]) := sm _ _ (h3 t b q hb hq)
      have hl2 := sm _ _ h1
      -- if not is_whole(number) or not 0 <= number < len(ties)
      refine ⟨_, rfl, (t : Int), rfl, _, rfl, iteF ?_⟩
      refine ⟨_, rfl, _, _, rfl, rfl, _, rfl, ?_⟩
      rw [decide_eq_true (show (0 : Int) ≤ (t : Int) by omega)]
      refine iteT ⟨_, rfl, l, _, rfl, .inl (SqL.of hl2), _, _, rfl, rfl, _, rfl, ?_⟩
      rw [decide_eq_true (show (t : Int) < (((as.map V.ref).length : Nat) : Int) by rw [List.length_map, h2]; omega)]
      refine iteF ?_
      -- one, two, rest = ties[number]
      refine ⟨_, rfl, _, rfl, l, _, _, _, rfl, rfl, SqL.of hl2, at_ref hb, b, _, rfl, SqT.of hbt, rfl, _, _, rfl, _, _, rfl, _, _, rfl, rfl, ?_⟩
      -- if here not in (one, two)
      refine ⟨_, rfl, _, rfl, _, rfl, (by show 2 ≤ sizeLine; decide), fun p2 hp2 => ?_⟩
      refine ⟨p2, _, rfl, .inr (SqT.of upd_same), rfl, rfl, _, rfl, ?_⟩
      show if (!inV (nv here) [nv q.1, nv q.2.1]) = true then _ else _
      rw [not_in_pair hh]
      refine iteF ?_
      have s3 : Same H2 (upd H2 p2 (.tup [nv q.1, nv q.2.1])) := same_upd hp2
      -- here = one + two - here
      refine ⟨fun σ3 H3 => σ3 = [some (.ref p), some (nv u), some (nv v), some (.ref lw), some (.ref l), some (nv (q.1 + q.2.1 - here)), some (nv (gcdOf ts (wy.take i) 0)), some (nv t), some (nv q.1), some (nv q.2.1), some (nv q.2.2)] ∧ H3 = upd H2 p2 (.tup [nv q.1, nv q.2.1]), ?_, ?_⟩
      · refine ⟨_, rfl, _, rfl, _, _, rfl, rfl, _, rfl, _, _, rfl, rfl, ?_, rfl⟩
        have e : (q.1 : Int) + (q.2.1 : Int) - (here : Int) = ((q.1 + q.2.1 - here : Nat) : Int) := by omega
        show [some (.ref p), some (nv u), some (nv v), some (.ref lw), some (.ref l), some (V.int ((q.1 : Int) + (q.2.1 : Int) - (here : Int))), some (nv (gcdOf ts (wy.take i) 0)), some (nv t), some (nv q.1), some (nv q.2.1), some (nv q.2.2)] = _
        rw [e]
      · rintro σ3 H3 ⟨rfl, rfl⟩
        -- total = common(total, rest)
        refine ⟨_, rfl, _, rfl, gcdOf ts (wy.take i) 0, q.2.2, rfl, ?_⟩
        exact ⟨_, some (nv t), some (nv q.1), some (nv q.2.1), some (nv q.2.2), by rw [gcdOf_take ht, restAt_of hq]; rfl, sm.trans s3, hwy'⟩
    · rintro σ H2 ⟨here, x7, x8, x9, x10, rfl, sm, hwy⟩
      rw [List.length_map, List.drop_length] at hwy
      have e : here = v := hwy
      subst e
      refine ⟨_, rfl, _, rfl, rfl, _, rfl, ?_⟩
      rw [decide_eq_true (rfl : nv here = nv here)]
      refine iteT ⟨_, rfl, ?_⟩
      rw [List.length_map, List.take_length]
      exact k H2 (s1.trans sm)
/-! ### is_ways -/
theorem scIsWays : FnScope ["web", "u", "v", "ways", "rest", "total", "way", "made"] ["web", "u", "v", "ways", "rest"] (defScope sIsWays) := ⟨rfl, rfl, rfl, by decide +kernel, rfl, by decide +kernel, by decide +kernel⟩
def spIsWays (C : Addr) : Sp := fun vs H Q _ => ∃ (p l : Addr) (n u v b : Nat) (ts : List Tie) (ws : List (List Nat)) (M : Nat), vs = [.ref p, nv u, nv v, .ref l, nv b] ∧ WebAt C H p n ts ∧ WebOk n ts M ∧ WaysAt H l ws ∧ (∀ wy ∈ ws, Way ts (fun _ => True) u wy v) ∧
  ∀ H', Same H H' → Q (.bl (decide (b ∣ tot ts ws))) H'
theorem tot_bd {ts : List Tie} {M : Nat} (hM : ∀ t ∈ ts, Bd M t.2.2) {D : Nat → Prop} {u v : Nat} : ∀ (ws : List (List Nat)) (a : Nat), (∀ wy ∈ ws, Way ts D u wy v) → Bd M a → Bd M (ws.foldl (fun a w => Nat.lcm a (gcdOf ts w 0)) a)
  | [], a, _, h => h
  | x :: ws, a, hw, h => by
    rw [List.foldl_cons]
    exact tot_bd hM ws _ (fun y hy => hw y (List.mem_cons_of_mem _ hy)) (h.lcm (gcdOf_bd hM (hw x List.mem_cons_self) (.zero M)))
theorem ok_isWays (T : Txt K mg) : FnOk P w K mg base CX0 3 T.isWays.f T.isWays.fd ["web", "u", "v", "ways", "rest"] (spIsWays T.C) := by
  refine T.isWays.F.ok scIsWays (fun vs H Q E h => ?_) (fun cdv A outer s H vs Q E hr h => ?_)
  · obtain ⟨p, l, n, u, v, b, ts, ws, M, rfl, _⟩ := h
    rfl
  · obtain ⟨p, l, n, u, v, b, ts, ws, M, rfl, hW, W, hws, hway, k⟩ := h
    have nd := scIsWays.nd
    have hr1 : Room 1 _ := hr.mono (by decide)
    refine ⟨_, pss_cons (ps_set (i := 5) nd rfl (.inl rfl) pe_int)
      (pss_cons (ps_for PassesOwn.never rfl (pi_list (pv 3)) (pg_name (i := 6) nd rfl (.inl rfl))
        (pss_cons (ps_set (i := 7) nd rfl (.inl rfl) (pe_ifExp (pt_val (pe_callB call_isi (by rfl) T.zInst (by decide +kernel) (pa_cons (pv 6) (pa_cons (pe_bltn (v := .ty "list") (by rfl) T.zList (by decide +kernel) rfl) pa_nil))))
          (pe_call (ok_wayRest T) hr (by rfl) T.wayRest.g T.wayRest.F.kp T.wayRest.b .nil pass0 (pa_cons (pv 0) (pa_cons (pv 1) (pa_cons (pv 2) (pa_cons (pv 6) pa_nil))))) pe_non))
        (pss_cons (ps_if (pt_cmpR op_isN (pv 7) pe_non (nomark _)) (pss_one (ps_ret pe_bl)) pss_nil)
        (pss_one (ps_set (i := 5) nd rfl (.inl rfl) (pe_call (ok_joined T) hr (by rfl) T.joined.g T.joined.F.kp T.joined.b .nil pass0 (pa_cons (pv 5) (pa_cons (pv 7) pa_nil))))))))
      (pss_one (ps_ret (pe_call (ok_divides T) hr1 (by rfl) T.divides.g T.divides.F.kp T.divides.b .nil pass0 (pa_cons (pv 4) (pa_cons (pv 5) pa_nil)))))), ?_⟩
    obtain ⟨as, h1, h2, h3⟩ := hws
    refine ⟨_, rfl, l, rfl, ⟨_, SqL.of h1⟩, for_list (K := K) (a := l) (xs := as.map V.ref) (fun i σ H' => ∃ (x6 x7 : Option V), σ = [some (.ref p), some (nv u), some (nv v), some (.ref l), some (nv b), some (nv (tot ts (ws.take i))), x6, x7] ∧ Same H H')
      ⟨none, none, rfl, .refl _⟩ (fun i σ H' _ ⟨_, _, _, sm⟩ => SqL.of (sm _ _ h1)) ?_ ?_⟩
    · rintro i y σ H1 hi ⟨x6, x7, rfl, sm⟩
      obtain ⟨a, ha, rfl⟩ := ref_at hi
      obtain ⟨wy, hwy⟩ := get_of (l := ws) (i := i) (by rw [← h2]; exact get_lt ha)
      have hI : H1 a = some (.lst (wy.map nv)) := sm _ _ (h3 i a wy ha hwy)
      have hm := List.mem_of_getElem? hwy
      refine ⟨_, rfl, _, _, _, _, true, rfl, .ty "list", .base (.lst hI), kit_ty (by decide +kernel), _, rfl, iteT ?_⟩
      refine ⟨_, rfl, _, rfl, _, rfl, _, rfl, p, a, n, u, v, ts, wy, rfl, hW.keep sm, hI, hway wy hm, fun H2 s2 => ?_⟩
      refine ⟨_, rfl, rfl, _, rfl, iteF ?_⟩
      have b1 : Bd M (tot ts (ws.take i)) := tot_bd W.bd _ 1 (fun x hx => hway x (List.mem_of_mem_take hx)) (.one M)
      have b2 : Bd M (gcdOf ts wy 0) := gcdOf_bd W.bd (hway wy hm) (.zero M)
      refine ⟨_, rfl, _, rfl, tot ts (ws.take i), gcdOf ts wy 0, rfl, Nat.lt_of_le_of_lt (b1.le W.M0) W.Ml, Nat.lt_of_le_of_lt (b2.le W.M0) W.Ml, ?_⟩
      exact ⟨some (.ref a), some (nv (gcdOf ts wy 0)), by rw [tot_take hwy]; rfl, sm.trans s2⟩
    · rintro σ H1 ⟨x6, x7, rfl, sm⟩
      refine ⟨_, rfl, _, rfl, b, _, rfl, ?_⟩
      refine q_bl (k H1 sm) ?_
      rw [List.length_map, h2, List.take_length]
      exact decide_eq_decide.mpr Int.natCast_dvd_natCast
/-! ### is_bond_paper -/
abbrev nIsBond : List Str := ["web", "u", "v", "paper", "rest", "word", "things", "thing"]
theorem scIsBondPaper : FnScope nIsBond ["web", "u", "v", "paper", "rest"] (defScope sIsBondPaper) := ⟨rfl, rfl, rfl, by decide +kernel, rfl, by decide +kernel, by decide +kernel⟩
def ifTest : Stmt → Expr
  | .If c _ _ _ => c
  | _ => .Constant .none 0 ⟨0, 0, 0, 0⟩
def boolArg (k : Nat) : Expr → Expr
  | .BoolOp _ es _ => es.getD k (.Constant .none 0 ⟨0, 0, 0, 0⟩)
  | e => e
def notArg : Expr → Expr
  | .UnaryOp _ e _ => e
  | e => e
theorem bkThing : BlkOk nIsBond (defScope sIsBondPaper) (lcScope (argOf (notArg (boolArg 1 (ifTest (stAt (defBody sIsBondPaper) 3)))))) [("thing", 7)] := blkOk_by (by decide +kernel)
def spIsBondPaper (C : Addr) : Sp := fun vs H Q _ => ∃ (p a : Addr) (n u v b : Nat) (ts : List Tie) (pp : Paper) (M : Nat), vs = [.ref p, nv u, nv v, .ref a, nv b] ∧ WebAt C H p n ts ∧ WebOk n ts M ∧ u < n ∧ v < n ∧ b ≤ 1000000 ∧ PaperAt H a pp ∧ Good n ts u v pp ∧
  ∀ H', Same H H' → Q (.bl (decide (shows ts u v b pp))) H'
theorem ok_isBondPaper (T : Txt K mg) : FnOk P w K mg base CX0 4 T.isBondPaper.f T.isBondPaper.fd ["web", "u", "v", "paper", "rest"] (spIsBondPaper T.C) := by
  refine T.isBondPaper.F.ok scIsBondPaper (fun vs H Q E h => ?_) (fun cdv A outer s H vs Q E hr h => ?_)
  · obtain ⟨p, a, n, u, v, b, ts, pp, M, rfl, _⟩ := h
    rfl
  · obtain ⟨p, a, n, u, v, b, ts, pp, M, rfl, hW, W, hu, hv, hb, hP, hG, k⟩ := h
    have nd := scIsBondPaper.nd
    have hr1 : Room 1 _ := hr.mono (by decide)
    have hr2 : Room 2 _ := hr.mono (by decide)
    refine ⟨_, pss_cons (ps_asg (pv 3) (pg_tup rfl (pgs_cons (pg_name (i := 5) nd rfl (.inl rfl)) (pgs_cons (pg_name (i := 6) nd rfl (.inl rfl)) pgs_nil))))
      (pss_cons (ps_if (PW.pt (pw_or (pt_not (pt_val (pe_call (ok_isPoint T) hr2 (by rfl) T.isPoint.g T.isPoint.F.kp T.isPoint.b .nil pass0 (pa_cons (pv 1) (pa_cons (pe_meth0 (pv 0) T.cl T.wMany.m (ok_wMany T) hr1 T.wMany.b .nil pass0) pa_nil)))))
          (pw_or (pt_not (pt_val (pe_call (ok_isPoint T) hr2 (by rfl) T.isPoint.g T.isPoint.F.kp T.isPoint.b .nil pass0 (pa_cons (pv 2) (pa_cons (pe_meth0 (pv 0) T.cl T.wMany.m (ok_wMany T) hr1 T.wMany.b .nil pass0) pa_nil)))))
          (pw_or1 (pt_not (pt_val (pe_call (ok_isRest T) hr2 (by rfl) T.isRest.g T.isRest.F.kp T.isRest.b T.isRest.v pass0 (pa_cons (pv 4) pa_nil)))))))) (pss_one (ps_ret pe_bl)) pss_nil)
      (pss_cons (ps_if (pt_cmpR op_eq (pv 5) pe_str (nomark _)) (pss_one (ps_ret (pe_call (ok_isWays T) hr (by rfl) T.isWays.g T.isWays.F.kp T.isWays.b .nil pass0 (pa_cons (pv 0) (pa_cons (pv 1) (pa_cons (pv 2) (pa_cons (pv 6) (pa_cons (pv 4) pa_nil)))))))) pss_nil)
      (pss_cons (ps_if (PW.pt (pw_or (pt_cmpR op_ne (pv 5) pe_str (nomark _))
          (pw_or (pt_not (pt_val (pe_callB (cr_all rfl) (by rfl) T.zAll (by decide +kernel) (pa_cons (pe_lc (own := [("thing", 7)]) (g := gName 7) rfl nd (pi_list (pv 6)) bkThing
            (fun _ _ _ _ _ => pg_name (i := 7) nd rfl (Or.inl rfl)) (fun _ _ _ _ _ => pts_nil)
            (fun _ _ _ _ _ => pe_call (ok_isWhole T) hr1 (by rfl) T.isWhole.g T.isWhole.F.kp T.isWhole.b .nil pass0 (pa_cons (pv 7) pa_nil))) pa_nil))))
          (pw_or1 (pt_not (pt_val (pe_meth (pv 0) T.cl T.wFits.m (ok_wFits T) hr T.wFits.b .nil pass0 (pa_cons (pv 6) pa_nil)))))))) (pss_one (ps_ret pe_bl)) pss_nil)
      (pss_one (ps_ret (pe_not (pe_callN (ok_agree T) hr2 (by rfl) T.agree.g T.agree.F.kp T.agree.b pass0 (pa_cons (pe_ix ix_list (pv 6) (pv 1) (fun _ _ => rfl)) (pa_cons (pe_ix ix_list (pv 6) (pv 2) (fun _ _ => rfl)) pa_nil)) (pk_cons (pv 4) pk_nil)))))))), ?_⟩
    obtain ⟨dx, lk, lg, hp, _, _⟩ := id hW
    have nom : (wf n lk lg).lookup ("many" : Str) = none := wf_no _ _ _ (by decide +kernel) (by decide +kernel) (by decide +kernel)
    have nof : (wf n lk lg).lookup ("fits" : Str) = none := wf_no _ _ _ (by decide +kernel) (by decide +kernel) (by decide +kernel)
    obtain ⟨l, ha, hbody⟩ := hP
    refine ⟨_, rfl, a, _, rfl, SqT.of ha, rfl, _, _, rfl, _, _, rfl, rfl, ?_⟩
    refine ⟨_, rfl, _, rfl, p, dx, _, rfl, hp, nom, p, n, ts, rfl, hW, u, n, rfl, hu, _, rfl, iteF ?_⟩
    refine ⟨_, rfl, _, rfl, p, dx, _, rfl, hp, nom, p, n, ts, rfl, hW, v, n, rfl, hv, _, rfl, iteF ?_⟩
    refine ⟨_, rfl, (b : Int), rfl, by omega, by omega, _, rfl, iteF ?_⟩
    cases pp with
    | ways ws =>
      refine ⟨_, rfl, rfl, _, rfl, ?_⟩
      rw [decide_eq_true (show V.str (wordOf (.ways ws)) = V.str "ways" from rfl)]
      refine iteT ?_
      exact ⟨_, rfl, _, rfl, _, rfl, _, rfl, _, rfl, p, l, n, u, v, b, ts, ws, M, rfl, hW, W, hbody, hG.2, fun H' sm => q_bl (k H' sm) (decide_eq_decide.mpr Iff.rfl)⟩
    | cas c =>
      refine ⟨_, rfl, rfl, _, rfl, ?_⟩
      rw [decide_eq_false (show ¬ V.str (wordOf (.cas c)) = V.str "ways" from (by decide +kernel : ¬ V.str ("case" : Str) = V.str ("ways" : Str)))]
      refine iteF ?_
      refine ⟨_, rfl, rfl, _, rfl, ?_⟩
      rw [decide_eq_true (show V.str (wordOf (.cas c)) = V.str "case" from rfl)]
      refine iteF ?_
      have hc : H l = some (.lst (c.map nv)) := hbody
      have hcl : c.length ≤ 1000 := by
        have := W.n1
        have := hG.1
        omega
      refine ⟨_, rfl, l, rfl, ⟨_, SqL.of hc⟩, fun D hD => ?_⟩
      refine lc_list (K := K) (a := l) (xs := c.map nv) (fun i H' => H' D = some (.lst ((List.replicate i true).map V.bl)) ∧ Same H H') ⟨upd_same, same_upd hD⟩ (fun i H' _ ⟨_, sm⟩ => SqL.of (sm _ _ hc)) ?_ ?_
      · rintro i y H1 hi ⟨hD1, sm⟩
        have hil : i < c.length := by
          have := get_lt hi
          rw [List.length_map] at this
          exact this
        rw [List.getElem?_map] at hi
        obtain ⟨x, hx, rfl⟩ := Option.map_eq_some_iff.mp hi
        refine ⟨rfl, t_yes ?_⟩
        refine ⟨_, rfl, (x : Int), rfl, _, hD1, ?_, ?_, fun b o e => ?_⟩
        · rw [List.length_map, List.length_replicate]
          exact small1000 (by omega)
        · rw [upd_same, List.replicate_succ', List.map_append]
          rfl
        · rw [upd_ne (ne_of_none e hD)]
          exact sm _ _ e
      · rintro H1 ⟨hD1, sm⟩
        refine ⟨D, _, rfl, SqL.of hD1, _, rfl, ?_⟩
        have e : (List.replicate (c.map nv).length true).all id = true := by
          rw [List.all_eq_true]
          intro x hx
          exact (List.mem_replicate.mp hx).2
        rw [e]
        refine iteF ?_
        have hc1 := sm _ _ hc
        -- web.fits(things)
        refine ⟨_, rfl, p, dx, _, rfl, sm _ _ hp, nof, _, rfl, p, l, n, ts, c, M, rfl, hW.keep sm, hc1, hG.1, hG.2.1, W, fun H2 s2 => ?_⟩
        refine ⟨_, rfl, iteF ?_⟩
        have hc2 := s2 _ _ hc1
        refine ⟨_, rfl, _, rfl, l, _, _, _, rfl, rfl, SqL.of hc2, at_case hG.1 hu, _, rfl, _, rfl, l, _, _, _, rfl, rfl, SqL.of hc2, at_case hG.1 hv, _, rfl, rfl, rfl, _, _, b, rfl, _, rfl, ?_⟩
        refine q_bl (k H2 (sm.trans s2)) ?_
        rw [← decide_not]
        exact decide_eq_decide.mpr Iff.rfl
end
end K12

/-! The law's own walk: _law_way_made, _law_fits, _law_shows, _law_says. -/
namespace K12
open PySem L2
theorem isiK {X : Cx} {K : PySem.W.Frag} (h : X.K = K := by rfl) : CallR X (.builtin "isinstance") (rIsi K) := h ▸ call_isi
section
variable {P : Program} {w : World} {K : PySem.W.Frag} {mg : Str → Option Value} {base : Heap}
/-! ### _law_way_made -/
theorem scWayMade : FnScope ["_law_ties_here", "_law_here", "_law_goal", "_law_way", "_law_found", "_law_at", "_law_one", "_law_two", "_law_by"] ["_law_ties_here", "_law_here", "_law_goal", "_law_way"] (defScope sWayMade) := ⟨rfl, rfl, rfl, by decide +kernel, rfl, by decide +kernel, by decide +kernel⟩
def spWayMade : Sp := fun vs H Q _ => ∃ (lt lw : Addr) (u v : Nat) (ts : List Tie) (wy : List Nat), vs = [.ref lt, nv u, nv v, .ref lw] ∧ TiesAt H lt ts ∧ IntsAt H lw wy ∧ Way ts (fun _ => True) u wy v ∧ Q (nv (gcdOf ts wy 0)) H
theorem ok_wayMade (T : Txt K mg) : FnOk P w K mg base CX0 2 T.wayMade.f T.wayMade.fd ["_law_ties_here", "_law_here", "_law_goal", "_law_way"] spWayMade := by
  refine T.wayMade.F.ok scWayMade (fun vs H Q E h => ?_) (fun cdv A outer s H vs Q E hr h => ?_)
  · obtain ⟨lt, lw, u, v, ts, wy, rfl, _⟩ := h
    rfl
  · obtain ⟨lt, lw, u, v, ts, wy, rfl, hT, hw, hway, k⟩ := h
    have nd := scWayMade.nd
    refine ⟨_, pss_cons (ps_set (i := 4) nd rfl (.inl rfl) pe_int)
      (pss_cons (ps_for PassesOwn.never rfl (pi_list (pv 3)) (pg_name (i := 5) nd rfl (.inl rfl))
        (pss_cons (ps_if (PW.pt (pw_or (pt_val (pe_callB call_isi (by rfl) T.zInst (by decide +kernel) (pa_cons (pv 5) (pa_cons (pe_bltn (v := .ty "bool") (by rfl) T.zBool (by decide +kernel) rfl) pa_nil))))
          (pw_or (pt_not (pt_val (pe_callB call_isi (by rfl) T.zInst (by decide +kernel) (pa_cons (pv 5) (pa_cons (pe_bltn (v := .ty "int") (by rfl) T.zInt (by decide +kernel) rfl) pa_nil)))))
          (pw_or1 (pt_not (pt_chain op_le op_lt pe_int (pv 5) (pe_callB call_len_seq (by rfl) T.zLen PySem.boot_len (pa_cons (pv 0) pa_nil)))))))) (pss_one (ps_ret pe_non)) pss_nil)
        (pss_cons (ps_asg (pe_ix ix_list (pv 0) (pv 5) (fun _ _ => rfl)) (pg_tup rfl (pgs_cons (pg_name (i := 6) nd rfl (.inl rfl)) (pgs_cons (pg_name (i := 7) nd rfl (.inl rfl)) (pgs_cons (pg_name (i := 8) nd rfl (.inl rfl)) pgs_nil)))))
        (pss_cons (ps_if (PW.pt (pw_and (pt_cmpR op_ne (pv 1) (pv 6) (nomark _)) (pw_and1 (pt_cmpR op_ne (pv 1) (pv 7) (nomark _))))) (pss_one (ps_ret pe_non)) pss_nil)
        (C8.pss_cut (ps_set (i := 1) nd rfl (.inl rfl) (pe_op op_sub (pe_op op_add (pv 6) (pv 7)) (pv 1)))
        (pss_one (ps_set (i := 4) nd rfl (.inl rfl) (pe_call (ok_lgcd T) hr (by rfl) T.lgcd.g T.lgcd.F.kp T.lgcd.b .nil pass0 (pa_cons (pv 4) (pa_cons (pv 8) pa_nil))))))))))
      (pss_one (ps_ret (pe_ifExp (pt_cmpR op_eq (pv 1) (pv 2) (nomark _)) (pv 4) pe_non)))), ?_⟩
    obtain ⟨as, h1, h2, h3⟩ := hT
    refine ⟨_, rfl, lw, rfl, ⟨_, SqL.of hw⟩, for_list (K := K) (a := lw) (xs := wy.map nv) (fun i σ H' => ∃ (here : Nat) (x5 x6 x7 x8 : Option V), σ = [some (.ref lt), some (nv here), some (nv v), some (.ref lw), some (nv (gcdOf ts (wy.take i) 0)), x5, x6, x7, x8] ∧
        H' = H ∧ Way ts (fun _ => True) here (wy.drop i) v)
      ⟨u, none, none, none, none, rfl, rfl, hway⟩ (fun i σ H' _ ⟨_, _, _, _, _, _, e, _⟩ => by rw [e]; exact SqL.of hw) ?_ ?_⟩
    · rintro i y σ H2 hi ⟨here, x5, x6, x7, x8, rfl, rfl, hwy⟩
      rw [List.getElem?_map] at hi
      obtain ⟨t, ht, rfl⟩ := Option.map_eq_some_iff.mp hi
      obtain ⟨q, hq, hh, hwy'⟩ := way_at hwy ht
      have htl : t < ts.length := get_lt hq
      obtain ⟨b, hb⟩ := get_of (l := as) (i := t) (by rw [h2]; exact htl)
      have hbt : H2 b = some (.tup [nv q.1, nv q.2.1, nv q.2.2]) := h3 t b q hb hq
      refine ⟨_, rfl, _, _, _, _, false, rfl, .ty "bool", .base (.int _), kit_ty (by decide +kernel), _, rfl, iteF ?_⟩
      refine ⟨_, rfl, _, _, _, _, true, rfl, .ty "int", .base (.int _), kit_ty (by decide +kernel), _, rfl, iteF ?_⟩
      refine ⟨_, rfl, _, _, rfl, rfl, _, rfl, ?_⟩
      rw [decide_eq_true (show (0 : Int) ≤ (t : Int) by omega)]
      refine iteT ⟨_, rfl, lt, _, rfl, .inl (SqL.of h1), _, _, rfl, rfl, _, rfl, ?_⟩
      rw [decide_eq_true (show (t : Int) < (((as.map V.ref).length : Nat) : Int) by rw [List.length_map, h2]; omega)]
      refine iteF ?_
      refine ⟨_, rfl, _, rfl, lt, _, _, _, rfl, rfl, SqL.of h1, at_ref hb, b, _, rfl, SqT.of hbt, rfl, _, _, rfl, _, _, rfl, _, _, rfl, rfl, ?_⟩
      -- if here != one and here != two
      have step : ∀ b1 : Bool, b1 = true → b1 = true := fun _ h => h
      refine ⟨_, rfl, _, rfl, rfl, _, rfl, ?_⟩
      refine ite2 (fun c => ?_) (fun c => iteF ?_)
      · have c : ¬ here = q.1 := fun z => by
          rw [z] at c
          simp [nv] at c
        have c2 : here = q.2.1 := hh.resolve_left c
        refine ⟨_, rfl, _, rfl, rfl, _, rfl, ?_⟩
        rw [c2]
        refine iteNS rfl ?_
        refine ⟨fun σ3 H3 => σ3 = [some (.ref lt), some (nv (q.1 + q.2.1 - here)), some (nv v), some (.ref lw), some (nv (gcdOf ts (wy.take i) 0)), some (nv t), some (nv q.1), some (nv q.2.1), some (nv q.2.2)] ∧ H3 = H2, ?_, ?_⟩
        · refine ⟨_, rfl, _, rfl, _, _, rfl, rfl, _, rfl, _, _, rfl, rfl, ?_, rfl⟩
          have e : (q.1 : Int) + (q.2.1 : Int) - (q.2.1 : Int) = ((q.1 + q.2.1 - here : Nat) : Int) := by omega
          show [some (.ref lt), some (V.int ((q.1 : Int) + (q.2.1 : Int) - (q.2.1 : Int))), some (nv v), some (.ref lw), some (nv (gcdOf ts (wy.take i) 0)), some (nv t), some (nv q.1), some (nv q.2.1), some (nv q.2.2)] = _
          rw [e]
        · rintro σ3 H3 ⟨rfl, rfl⟩
          refine ⟨_, rfl, _, rfl, gcdOf ts (wy.take i) 0, q.2.2, rfl, ?_⟩
          exact ⟨_, some (nv t), some (nv q.1), some (nv q.2.1), some (nv q.2.2), by rw [gcdOf_take ht, restAt_of hq]; rfl, rfl, hwy'⟩
      · have c2 : here = q.1 := Classical.byContradiction fun z => c (by
          have : ¬ nv here = nv q.1 := fun e => z (by have := V.int.inj e; omega)
          rw [decide_eq_false this]
          rfl)
        refine ⟨fun σ3 H3 => σ3 = [some (.ref lt), some (nv (q.1 + q.2.1 - here)), some (nv v), some (.ref lw), some (nv (gcdOf ts (wy.take i) 0)), some (nv t), some (nv q.1), some (nv q.2.1), some (nv q.2.2)] ∧ H3 = H2, ?_, ?_⟩
        · refine ⟨_, rfl, _, rfl, _, _, rfl, rfl, _, rfl, _, _, rfl, rfl, ?_, rfl⟩
          have e : (q.1 : Int) + (q.2.1 : Int) - (here : Int) = ((q.1 + q.2.1 - here : Nat) : Int) := by omega
          show [some (.ref lt), some (V.int ((q.1 : Int) + (q.2.1 : Int) - (here : Int))), some (nv v), some (.ref lw), some (nv (gcdOf ts (wy.take i) 0)), some (nv t), some (nv q.1), some (nv q.2.1), some (nv q.2.2)] = _
          rw [e]
        · rintro σ3 H3 ⟨rfl, rfl⟩
          refine ⟨_, rfl, _, rfl, gcdOf ts (wy.take i) 0, q.2.2, rfl, ?_⟩
          exact ⟨_, some (nv t), some (nv q.1), some (nv q.2.1), some (nv q.2.2), by rw [gcdOf_take ht, restAt_of hq]; rfl, rfl, hwy'⟩
    · rintro σ H2 ⟨here, x5, x6, x7, x8, rfl, rfl, hwy⟩
      rw [List.length_map, List.drop_length] at hwy
      have e : here = v := hwy
      subst e
      refine ⟨_, rfl, _, rfl, rfl, _, rfl, ?_⟩
      rw [decide_eq_true (rfl : nv here = nv here)]
      refine iteT ⟨_, rfl, ?_⟩
      rw [List.length_map, List.take_length]
      exact k
/-! ### _law_fits -/
abbrev nLFits : List Str := ["_law_many", "_law_ties_here", "_law_case", "_law_one", "_law_two", "_law_by", "_law_gap"]
theorem scLFits : FnScope nLFits ["_law_many", "_law_ties_here", "_law_case"] (defScope sLFits) := ⟨rfl, rfl, rfl, by decide +kernel, rfl, by decide +kernel, by decide +kernel⟩
theorem bkLFits : BlkOk nLFits (defScope sLFits) (lcScope (argOf (notArg (boolArg 1 (ifTest (stAt (defBody sLFits) 0)))))) [("_law_one", 3)] := blkOk_by (by decide +kernel)
def spLFits : Sp := fun vs H Q _ => ∃ (lt lc : Addr) (n : Nat) (ts : List Tie) (cs : List Nat) (M : Nat), vs = [nv n, .ref lt, .ref lc] ∧ TiesAt H lt ts ∧ WebOk n ts M ∧ IntsAt H lc cs ∧ cs.length = n ∧ Fits ts cs ∧ ∀ H', Same H H' → Q (.bl true) H'
theorem ok_lfits (T : Txt K mg) : FnOk P w K mg base CX0 1 T.lfits.f T.lfits.fd ["_law_many", "_law_ties_here", "_law_case"] spLFits := by
  refine T.lfits.F.ok scLFits (fun vs H Q E h => ?_) (fun cdv A outer s H vs Q E hr h => ?_)
  · obtain ⟨lt, lc, n, ts, cs, M, rfl, _⟩ := h
    rfl
  · obtain ⟨lt, lc, n, ts, cs, M, rfl, hT, W, hc, hl, hf, k⟩ := h
    have nd := scLFits.nd
    refine ⟨_, pss_cons (ps_if (PW.pt (pw_or (pt_cmpR op_ne (pe_callB call_len_seq (by rfl) T.zLen PySem.boot_len (pa_cons (pv 2) pa_nil)) (pv 0) (nomark _))
        (pw_or1 (pt_not (pt_val (pe_callB (cr_all rfl) (by rfl) T.zAll (by decide +kernel) (pa_cons (pe_lc (own := [("_law_one", 3)]) (g := gName 3) rfl nd (pi_list (pv 2)) bkLFits
            (fun _ _ _ _ _ => pg_name (i := 3) nd rfl (Or.inl rfl)) (fun _ _ _ _ _ => pts_nil)
            (fun _ _ _ _ _ => pe_and (pe_callB (isiK (K := K)) (by rfl) T.zInst (by decide +kernel) (pa_cons (pv 3) (pa_cons (pe_bltn (v := .ty "int") (by rfl) T.zInt (by decide +kernel) rfl) pa_nil)))
              (pe_one (pe_not (pe_callB (isiK (K := K)) (by rfl) T.zInst (by decide +kernel) (pa_cons (pv 3) (pa_cons (pe_bltn (v := .ty "bool") (by rfl) T.zBool (by decide +kernel) rfl) pa_nil))))))) pa_nil)))))))
        (pss_one (ps_ret pe_bl)) pss_nil)
      (pss_cons (ps_for PassesOwn.never rfl (pi_list (pv 1)) (pg_tup rfl (pgs_cons (pg_name (i := 3) nd rfl (.inl rfl)) (pgs_cons (pg_name (i := 4) nd rfl (.inl rfl)) (pgs_cons (pg_name (i := 5) nd rfl (.inl rfl)) pgs_nil))))
        (pss_cons (ps_set (i := 6) nd rfl (.inl rfl) (pe_op op_sub (pe_ix ix_list (pv 2) (pv 3) (fun _ _ => rfl)) (pe_ix ix_list (pv 2) (pv 4) (fun _ _ => rfl))))
        (pss_one (ps_if (PW.pt (pw_or (PW.pt (pw_and (pt_cmpR op_eq (pv 5) pe_int (nomark _)) (pw_and1 (pt_cmpR op_ne (pv 6) pe_int (nomark _)))))
          (pw_or1 (PW.pt (pw_and (pt_cmpR op_gt (pv 5) pe_int (nomark _)) (pw_and1 (pt_cmpR op_ne (pe_op op_mod (pv 6) (pv 5)) pe_int (nomark _)))))))) (pss_one (ps_ret pe_bl)) pss_nil))))
      (pss_one (ps_ret pe_bl))), ?_⟩
    obtain ⟨as, h1, h2, h3⟩ := hT
    refine ⟨_, rfl, lc, _, rfl, .inl (SqL.of hc), _, rfl, rfl, _, rfl, ?_⟩
    have e0 : decide (V.int (((cs.map nv).length : Nat) : Int) = nv n) = true := decide_eq_true (by rw [List.length_map, hl])
    rw [e0]
    refine iteF ?_
    have hcl : cs.length ≤ 1000 := by
      have := W.n1
      omega
    refine ⟨_, rfl, lc, rfl, ⟨_, SqL.of hc⟩, fun D hD => ?_⟩
    refine lc_list (K := K) (a := lc) (xs := cs.map nv) (fun i H' => H' D = some (.lst ((List.replicate i true).map V.bl)) ∧ Same H H') ⟨upd_same, same_upd hD⟩ (fun i H' _ ⟨_, sm⟩ => SqL.of (sm _ _ hc)) ?_ ?_
    · rintro i y H1 hi ⟨hD1, sm⟩
      have hil : i < cs.length := by
        have := get_lt hi
        rw [List.length_map] at this
        exact this
      rw [List.getElem?_map] at hi
      obtain ⟨x, hx, rfl⟩ := Option.map_eq_some_iff.mp hi
      refine ⟨rfl, t_yes ?_⟩
      refine ⟨_, rfl, _, _, _, _, true, rfl, .ty "int", .base (.int _), kit_ty (by decide +kernel), _, rfl, iteT ?_⟩
      refine ⟨_, rfl, _, _, _, _, false, rfl, .ty "bool", .base (.int _), kit_ty (by decide +kernel), _, rfl, _, hD1, ?_, ?_, fun b o e => ?_⟩
      · rw [List.length_map, List.length_replicate]
        exact small1000 (by omega)
      · rw [upd_same, List.replicate_succ', List.map_append]
        rfl
      · rw [upd_ne (ne_of_none e hD)]
        exact sm _ _ e
    · rintro H1 ⟨hD1, sm⟩
      refine ⟨D, _, rfl, SqL.of hD1, _, rfl, ?_⟩
      have e : (List.replicate (cs.map nv).length true).all id = true := by
        rw [List.all_eq_true]
        intro x hx
        exact (List.mem_replicate.mp hx).2
      rw [e]
      refine iteF ?_
      have hc1 := sm _ _ hc
      refine ⟨_, rfl, lt, rfl, ⟨_, SqL.of (sm _ _ h1)⟩, for_list (K := K) (a := lt) (xs := as.map V.ref) (fun i σ H' => ∃ (x3 x4 x5 x6 : Option V), σ = [some (nv n), some (.ref lt), some (.ref lc), x3, x4, x5, x6] ∧ H' = H1)
        ⟨none, none, none, none, rfl, rfl⟩ (fun i σ H' _ ⟨_, _, _, _, _, e⟩ => by rw [e]; exact SqL.of (sm _ _ h1)) ?_ ?_⟩
      · rintro i y σ H2 hi ⟨x3, x4, x5, x6, rfl, rfl⟩
        obtain ⟨b, hb, rfl⟩ := ref_at hi
        obtain ⟨t, ht⟩ := get_of (l := ts) (i := i) (by rw [← h2]; exact get_lt hb)
        have htm := List.mem_of_getElem? ht
        have hbt : H2 b = some (.tup [nv t.1, nv t.2.1, nv t.2.2]) := sm _ _ (h3 i b t hb ht)
        obtain ⟨hu, hv⟩ := W.pt t htm
        have hfit := hf t htm
        refine ⟨b, _, rfl, SqT.of hbt, rfl, _, _, rfl, _, _, rfl, _, _, rfl, rfl, ?_⟩
        refine ⟨_, rfl, _, rfl, lc, _, _, _, rfl, rfl, SqL.of hc1, at_case hl hu, _, rfl, _, rfl, lc, _, _, _, rfl, rfl, SqL.of hc1, at_case hl hv, _, _, rfl, rfl, ?_⟩
        refine ⟨_, rfl, rfl, _, rfl, ite2 (fun c => ?_) (fun c => ?_)⟩
        · have c : t.2.2 = 0 := by
            have := V.int.inj (of_decide_eq_true c)
            omega
          rw [c] at hfit
          have z : ((cs.getD t.1 0 : Nat) : Int) - ((cs.getD t.2.1 0 : Nat) : Int) = 0 := Int.zero_dvd.mp hfit
          refine ⟨_, rfl, rfl, _, rfl, ?_⟩
          rw [decide_eq_true (show V.int (((cs.getD t.1 0 : Nat) : Int) - ((cs.getD t.2.1 0 : Nat) : Int)) = V.int 0 by rw [z])]
          refine iteF ?_
          refine ⟨_, rfl, _, _, rfl, rfl, _, rfl, ?_⟩
          rw [decide_eq_false (show ¬ (0 : Int) < (t.2.2 : Int) by omega)]
          exact iteF ⟨_, _, _, _, rfl, rfl⟩
        · have c : ¬ t.2.2 = 0 := fun z => c (decide_eq_true (by rw [z]; rfl))
          refine iteF ?_
          refine ⟨_, rfl, _, _, rfl, rfl, _, rfl, ?_⟩
          rw [decide_eq_true (show (0 : Int) < (t.2.2 : Int) by omega)]
          refine iteT ?_
          refine ⟨_, rfl, _, rfl, _, _, rfl, rfl, (show (0 : Int) < (t.2.2 : Int) by omega), rfl, _, rfl, ?_⟩
          rw [decide_eq_true (show V.int ((((cs.getD t.1 0 : Nat) : Int) - ((cs.getD t.2.1 0 : Nat) : Int)) % (t.2.2 : Int)) = V.int 0 by rw [Int.emod_eq_zero_of_dvd hfit])]
          exact iteF ⟨_, _, _, _, rfl, rfl⟩
      · rintro σ H2 ⟨x3, x4, x5, x6, rfl, rfl⟩
        exact k _ sm
/-! ### _law_says -/
theorem scSays : FnScope ["_law_found", "_law_due"] ["_law_found", "_law_due"] (defScope sSays) := ⟨rfl, rfl, rfl, by decide +kernel, rfl, by decide +kernel, by decide +kernel⟩
def spSays : Sp := fun vs H Q _ => ∃ x : Bool, vs = [.bl x, .bl x] ∧ Q (.bl true) H
theorem ok_says (T : Txt K mg) : FnOk P w K mg base CX0 1 T.says.f T.says.fd ["_law_found", "_law_due"] spSays := by
  refine T.says.F.ok scSays (fun vs H Q E h => ?_) (fun cdv A outer s H vs Q E hr h => ?_)
  · obtain ⟨x, rfl, _⟩ := h
    rfl
  · obtain ⟨x, rfl, k⟩ := h
    refine ⟨_, pss_one (ps_ret (pe_and (pe_callB call_isi (by rfl) T.zInst (by decide +kernel) (pa_cons (pv 0) (pa_cons (pe_bltn (v := .ty "bool") (by rfl) T.zBool (by decide +kernel) rfl) pa_nil)))
      (pe_one (pe_cmpR op_eq (pv 0) (pv 1) (nomark _))))), ?_⟩
    refine ⟨_, rfl, _, _, _, _, true, rfl, .ty "bool", .base (.bl _), kit_ty (by decide +kernel), _, rfl, iteT ?_⟩
    exact ⟨_, rfl, _, rfl, rfl, q_bl k (decide_eq_true rfl)⟩
end
end K12

/-! _law_shows. -/
namespace K12
open PySem L2
section
variable {P : Program} {w : World} {K : PySem.W.Frag} {mg : Str → Option Value} {base : Heap}
abbrev nShows : List Str := ["_law_many", "_law_ties_here", "_law_pair", "_law_by", "_law_paper", "_law_here", "_law_goal", "_law_word", "_law_things", "_law_gap", "_law_total", "_law_way", "_law_built"]
theorem scShows : FnScope nShows ["_law_many", "_law_ties_here", "_law_pair", "_law_by", "_law_paper"] (defScope sShows) := ⟨rfl, rfl, rfl, by decide +kernel, rfl, by decide +kernel, by decide +kernel⟩
def spShows : Sp := fun vs H Q _ => ∃ (lt lp a : Addr) (n u v b : Nat) (ts : List Tie) (pp : Paper) (M : Nat), vs = [nv n, .ref lt, .ref lp, nv b, .ref a] ∧ TiesAt H lt ts ∧ WebOk n ts M ∧ H lp = some (.tup [nv u, nv v]) ∧ u < n ∧ v < n ∧ PaperAt H a pp ∧ Good n ts u v pp ∧
  ∀ H', Same H H' → Q (.bl (decide (shows ts u v b pp))) H'
theorem ok_shows (T : Txt K mg) : FnOk P w K mg base CX0 3 T.shows.f T.shows.fd ["_law_many", "_law_ties_here", "_law_pair", "_law_by", "_law_paper"] spShows := by
  refine T.shows.F.ok scShows (fun vs H Q E h => ?_) (fun cdv A outer s H vs Q E hr h => ?_)
  · obtain ⟨lt, lp, a, n, u, v, b, ts, pp, M, rfl, _⟩ := h
    rfl
  · obtain ⟨lt, lp, a, n, u, v, b, ts, pp, M, rfl, hT, W, hlp, hu, hv, hP, hG, k⟩ := h
    have nd := scShows.nd
    have hr1 : Room 1 _ := hr.mono (by decide)
    refine ⟨_, pss_cons (ps_asg (pv 2) (pg_tup rfl (pgs_cons (pg_name (i := 5) nd rfl (.inl rfl)) (pgs_cons (pg_name (i := 6) nd rfl (.inl rfl)) pgs_nil))))
      (pss_cons (ps_asg (pv 4) (pg_tup rfl (pgs_cons (pg_name (i := 7) nd rfl (.inl rfl)) (pgs_cons (pg_name (i := 8) nd rfl (.inl rfl)) pgs_nil))))
      (pss_cons (ps_if (pt_cmpR op_eq (pv 7) pe_str (nomark _))
        (pss_cons (ps_if (pt_not (pt_val (pe_call (ok_lfits T) hr1 (by rfl) T.lfits.g T.lfits.F.kp T.lfits.b .nil pass0 (pa_cons (pv 0) (pa_cons (pv 1) (pa_cons (pv 8) pa_nil)))))) (pss_one (ps_ret pe_bl)) pss_nil)
        (pss_cons (ps_set (i := 9) nd rfl (.inl rfl) (pe_op op_sub (pe_ix ix_list (pv 8) (pv 5) (fun _ _ => rfl)) (pe_ix ix_list (pv 8) (pv 6) (fun _ _ => rfl))))
        (pss_one (ps_ret (pe_and (pe_cmpR op_ne (pv 9) pe_int (nomark _)) (pe_one (pe_or (pe_cmpR op_eq (pv 3) pe_int (nomark _)) (pe_one (pe_cmpR op_ne (pe_op op_mod (pv 9) (pv 3)) pe_int (nomark _)))))))))) pss_nil)
      (pss_cons (ps_set (i := 10) nd rfl (.inl rfl) pe_int)
      (pss_cons (ps_for PassesOwn.never rfl (pi_list (pv 8)) (pg_name (i := 11) nd rfl (.inl rfl))
        (pss_cons (ps_set (i := 12) nd rfl (.inl rfl) pe_non)
        (pss_cons (ps_if (pt_val (pe_callB call_isi (by rfl) T.zInst (by decide +kernel) (pa_cons (pv 11) (pa_cons (pe_bltn (v := .ty "list") (by rfl) T.zList (by decide +kernel) rfl) pa_nil))))
          (pss_one (ps_set (i := 12) nd rfl (.inl rfl) (pe_call (ok_wayMade T) hr (by rfl) T.wayMade.g T.wayMade.F.kp T.wayMade.b .nil pass0 (pa_cons (pv 1) (pa_cons (pv 5) (pa_cons (pv 6) (pa_cons (pv 11) pa_nil))))))) pss_nil)
        (pss_cons (ps_if (PW.pt (pw_or (pt_cmpR op_ne (pv 7) pe_str (nomark _)) (pw_or1 (pt_cmpR op_isN (pv 12) pe_non (nomark _))))) (pss_one (ps_ret pe_bl)) pss_nil)
        (pss_one (ps_set (i := 10) nd rfl (.inl rfl) (pe_call (ok_llcm T) hr (by rfl) T.llcm.g T.llcm.F.kp T.llcm.b .nil pass0 (pa_cons (pv 10) (pa_cons (pv 12) pa_nil)))))))))
      (pss_one (ps_ret (pe_and (pe_cmpR op_eq (pv 7) pe_str (nomark _)) (pe_one (pe_or (pe_cmpR op_eq (pv 10) pe_int (nomark _)) (pe_one (pe_and (pe_cmpR op_gt (pv 3) pe_int (nomark _)) (pe_one (pe_cmpR op_eq (pe_op op_mod (pv 10) (pv 3)) pe_int (nomark _)))))))))))))), ?_⟩
    obtain ⟨l, ha, hbody⟩ := hP
    refine ⟨_, rfl, lp, _, rfl, SqT.of hlp, rfl, _, _, rfl, _, _, rfl, rfl, ?_⟩
    refine ⟨_, rfl, a, _, rfl, SqT.of ha, rfl, _, _, rfl, _, _, rfl, rfl, ?_⟩
    cases pp with
    | cas c =>
      have hc : H l = some (.lst (c.map nv)) := hbody
      refine ⟨_, rfl, rfl, _, rfl, ?_⟩
      rw [decide_eq_true (show V.str (wordOf (.cas c)) = V.str "case" from rfl)]
      refine iteT ?_
      refine ⟨_, rfl, _, rfl, _, rfl, lt, l, n, ts, c, M, rfl, hT, W, hc, hG.1, hG.2.1, fun H1 sm => ?_⟩
      refine ⟨_, rfl, iteF ?_⟩
      have hc1 := sm _ _ hc
      refine ⟨_, rfl, _, rfl, l, _, _, _, rfl, rfl, SqL.of hc1, at_case hG.1 hu, _, rfl, _, rfl, l, _, _, _, rfl, rfl, SqL.of hc1, at_case hG.1 hv, _, _, rfl, rfl, ?_⟩
      have fin : ∀ x : Bool, (x = true ↔ ¬ (b : Int) ∣ gap c u v) → Q (.bl x) H1 := fun x hx => by
        refine q_bl (k H1 sm) ?_
        rw [Bool.eq_iff_iff, hx, decide_eq_true_eq]
        rfl
      have eg : ((c.getD u 0 : Nat) : Int) - ((c.getD v 0 : Nat) : Int) = gap c u v := rfl
      refine ⟨_, rfl, rfl, _, rfl, ite2 (fun d => ?_) (fun d => ?_)⟩
      · have d : ¬ gap c u v = 0 := fun z => by
          rw [← eg] at z
          simp only [z] at d
          simp at d
        refine ⟨_, rfl, rfl, _, rfl, ite2 (fun e => ?_) (fun e => ?_)⟩
        · have e : b = 0 := by
            have := V.int.inj (of_decide_eq_true e)
            omega
          refine fin true ⟨fun _ z => ?_, fun _ => rfl⟩
          rw [e] at z
          exact d (Int.zero_dvd.mp z)
        · have e : ¬ b = 0 := fun z => e (decide_eq_true (by rw [z]; rfl))
          refine ⟨_, rfl, _, rfl, _, _, rfl, rfl, (show (0 : Int) < (b : Int) by omega), rfl, ?_⟩
          refine fin _ ?_
          rw [Bool.not_eq_true', decide_eq_false_iff_not]
          constructor
          · intro z h
            exact z (by
              show V.int (gap c u v % (b : Int)) = V.int 0
              rw [Int.emod_eq_zero_of_dvd h])
          · intro z h
            exact z (Int.dvd_of_emod_eq_zero (V.int.inj h))
      · have d : gap c u v = 0 := Classical.byContradiction fun z => d (by
          have : ¬ V.int (((c.getD u 0 : Nat) : Int) - ((c.getD v 0 : Nat) : Int)) = V.int 0 := fun e => z (V.int.inj e)
          rw [decide_eq_false this]
          rfl)
        refine fin false ⟨fun z => (by cases z), fun z => absurd ?_ z⟩
        rw [d]
        exact Int.dvd_zero _
    | ways ws =>
      obtain ⟨as, h1, h2, h3⟩ := hbody
      refine ⟨_, rfl, rfl, _, rfl, ?_⟩
      rw [decide_eq_false (show ¬ V.str (wordOf (.ways ws)) = V.str "case" from (by decide +kernel : ¬ V.str ("ways" : Str) = V.str ("case" : Str)))]
      refine iteF ?_
      refine ⟨_, rfl, l, rfl, ⟨_, SqL.of h1⟩, for_list (K := K) (a := l) (xs := as.map V.ref) (fun i σ H' => ∃ x11 x12 : Option V, σ = [some (nv n), some (.ref lt), some (.ref lp), some (nv b), some (.ref a), some (nv u), some (nv v), some (.str (wordOf (.ways ws))), some (.ref l), none, some (nv (tot ts (ws.take i))), x11, x12] ∧ H' = H)
        ⟨none, none, rfl, rfl⟩ (fun i σ H' _ ⟨_, _, _, e⟩ => by rw [e]; exact SqL.of h1) ?_ ?_⟩
      · rintro i y σ H1 hi ⟨x11, x12, rfl, rfl⟩
        obtain ⟨b', hb', rfl⟩ := ref_at hi
        obtain ⟨wy, hwy⟩ := get_of (l := ws) (i := i) (by rw [← h2]; exact get_lt hb')
        have hI : H1 b' = some (.lst (wy.map nv)) := h3 i b' wy hb' hwy
        have hm := List.mem_of_getElem? hwy
        refine ⟨_, rfl, _, _, _, _, true, rfl, .ty "list", .base (.lst hI), kit_ty (by decide +kernel), _, rfl, iteT ?_⟩
        refine ⟨_, rfl, _, rfl, _, rfl, _, rfl, lt, b', u, v, ts, wy, rfl, hT, hI, hG.2 wy hm, ?_⟩
        refine ⟨_, rfl, rfl, _, rfl, ?_⟩
        rw [decide_eq_true (show V.str (wordOf (.ways ws)) = V.str "ways" from rfl)]
        refine iteF ?_
        refine ⟨_, rfl, rfl, _, rfl, iteF ?_⟩
        have b1 : Bd M (tot ts (ws.take i)) := tot_bd W.bd _ 1 (fun x hx => hG.2 x (List.mem_of_mem_take hx)) (.one M)
        have b2 : Bd M (gcdOf ts wy 0) := gcdOf_bd W.bd (hG.2 wy hm) (.zero M)
        refine ⟨_, rfl, _, rfl, tot ts (ws.take i), gcdOf ts wy 0, rfl, Nat.lt_of_le_of_lt (b1.le W.M0) W.Ml, Nat.lt_of_le_of_lt (b2.le W.M0) W.Ml, ?_⟩
        exact ⟨some (.ref b'), some (nv (gcdOf ts wy 0)), by rw [tot_take hwy]; rfl, rfl⟩
      · rintro σ H1 ⟨x11, x12, rfl, rfl⟩
        rw [List.length_map, h2, List.take_length]
        have fin : ∀ x : Bool, (x = true ↔ b ∣ tot ts ws) → Q (.bl x) H1 := fun x hx => by
          refine q_bl (k H1 (.refl _)) ?_
          rw [Bool.eq_iff_iff, hx, decide_eq_true_eq]
          rfl
        refine ⟨_, rfl, rfl, _, rfl, ?_⟩
        rw [decide_eq_true (show V.str (wordOf (.ways ws)) = V.str "ways" from rfl)]
        refine iteT ?_
        refine ⟨_, rfl, rfl, _, rfl, ite2 (fun d => ?_) (fun d => ?_)⟩
        · have d : tot ts ws = 0 := by
            have := V.int.inj (of_decide_eq_true d)
            omega
          refine fin true ⟨fun _ => ?_, fun _ => rfl⟩
          rw [d]
          exact Nat.dvd_zero b
        · have d : ¬ tot ts ws = 0 := fun z => d (decide_eq_true (by rw [z]; rfl))
          refine ⟨_, rfl, _, _, rfl, rfl, _, rfl, ite2 (fun e => ?_) (fun e => ?_)⟩
          · have e : (0 : Int) < (b : Int) := of_decide_eq_true e
            refine ⟨_, rfl, _, rfl, _, _, rfl, rfl, e, rfl, ?_⟩
            refine fin _ ?_
            rw [decide_eq_true_eq]
            constructor
            · intro z
              exact Int.natCast_dvd_natCast.mp (Int.dvd_of_emod_eq_zero (V.int.inj z))
            · intro z
              show V.int ((tot ts ws : Int) % (b : Int)) = V.int 0
              rw [Int.emod_eq_zero_of_dvd (Int.natCast_dvd_natCast.mpr z)]
          · have e : b = 0 := by
              have : ¬ (0 : Int) < (b : Int) := fun z => e (decide_eq_true z)
              omega
            refine fin false ⟨fun z => (by cases z), fun z => ?_⟩
            rw [e] at z
            exact absurd (Nat.eq_zero_of_zero_dvd z) d
end
end K12

/-! The law's box: _law_box, _law_mixed, _law_take. -/
namespace K12
open PySem L2
/-! ### what a box is, and what its changes leave -/
def big : Int := 1000000000000000000
/-- what looks like a box, or like its great cells -/
def Boxy (o : HO) : Prop := ∃ vs : List V, o = .lst vs ∧ ((∃ (g l : Addr) (c k : Int), vs = [.ref g, .int c, .ref l, .int k]) ∨ ∃ (x : Int) (xs : List Int), vs = (x :: xs).map V.int ∧ ∀ y ∈ x :: xs, big ≤ y)
/-- all stands but what looks like a box -/
def Keep (H H' : Hp) : Prop := ∀ b o, ¬ Boxy o → H b = some o → H' b = some o
theorem Keep.refl (H : Hp) : Keep H H := fun _ _ _ e => e
theorem Keep.trans {H H1 H2 : Hp} (a : Keep H H1) (b : Keep H1 H2) : Keep H H2 := fun c o n e => b c o n (a c o n e)
theorem Same.kept {H H1 : Hp} (s : Same H H1) : Keep H H1 := fun b o _ e => s b o e
theorem Keep.upd {H H1 : Hp} (h : Keep H H1) {a : Addr} {o o' : HO} (ha : H1 a = some o') (hb : Boxy o') : Keep H (upd H1 a o) := fun b x n e => by
  have hx := h b x n e
  rw [upd_ne (fun z => n (by
    rw [z, ha] at hx
    rw [← Option.some.inj hx]
    exact hb))]
  exact hx
theorem nb_refs (as : List Addr) : ¬ Boxy (.lst (as.map V.ref)) := by
  rintro ⟨vs, e, h⟩
  have e := (HO.lst.inj e).symm
  rcases h with ⟨g, l, c, k, rfl⟩ | ⟨x, xs, rfl, _⟩
  · cases as with
    | nil => cases e
    | cons a r =>
      cases r with
      | nil => cases e
      | cons b r => cases (List.cons.inj (List.cons.inj e).2).1
  · cases as with
    | nil => cases e
    | cons a r => cases (List.cons.inj e).1
theorem nb_tup (xs : List V) : ¬ Boxy (.tup xs) := by
  rintro ⟨vs, e, _⟩
  cases e
theorem nb_ins (C dx : Addr) (fs : List (Str × V)) : ¬ Boxy (.ins C dx fs) := by
  rintro ⟨vs, e, _⟩
  cases e
theorem nb_ints {ns : List Nat} (h : ∀ x ∈ ns, ns ≠ [] → ∃ y ∈ ns, y < 1000000000000000000) : ¬ Boxy (.lst (ns.map nv)) := by
  rintro ⟨vs, e, hh⟩
  have e := (HO.lst.inj e).symm
  rcases hh with ⟨g, l, c, k, rfl⟩ | ⟨x, xs, rfl, hb⟩
  · cases ns with
    | nil => cases e
    | cons a r => cases (List.cons.inj e).1
  · cases ns with
    | nil => cases e
    | cons a r =>
      obtain ⟨y, hy, hlt⟩ := h a List.mem_cons_self (fun z => by cases z)
      have : V.int (y : Int) ∈ (x :: xs).map V.int := by
        rw [e]
        exact List.mem_map.mpr ⟨y, hy, rfl⟩
      obtain ⟨z, hz, ez⟩ := List.mem_map.mp this
      have ez := V.int.inj ez
      have := hb z hz
      unfold big at this
      omega
theorem nb_small {ns : List Nat} (h : ∀ x ∈ ns, x < 1000000000000000000) : ¬ Boxy (.lst (ns.map nv)) := nb_ints fun x hx _ => ⟨x, hx, h x hx⟩
theorem nb_strs (xs : List Str) : ¬ Boxy (.lst (xs.map V.str)) := by
  rintro ⟨vs, e, hh⟩
  have e := (HO.lst.inj e).symm
  rcases hh with ⟨g, l, c, k, rfl⟩ | ⟨x, xs', rfl, _⟩
  · cases xs with
    | nil => cases e
    | cons a r => cases (List.cons.inj e).1
  · cases xs with
    | nil => cases e
    | cons a r => cases (List.cons.inj e).1
theorem nb_row {n : Nat} {f : Nat → Nat} {i : Nat} (hi : i < n) (h0 : f i = 0) : ¬ Boxy (.lst (rowL n f)) := by
  have e : rowL n f = ((List.range n).map f).map nv := by
    unfold rowL
    rw [List.map_map]
    rfl
  rw [e]
  exact nb_ints fun x _ _ => ⟨0, List.mem_map.mpr ⟨i, List.mem_range.mpr hi, h0⟩, by decide⟩
theorem TiesAt.kept {H H' : Hp} {a : Addr} {ts : List Tie} (h : TiesAt H a ts) (s : Keep H H') : TiesAt H' a ts := by
  obtain ⟨as, h1, h2, h3⟩ := h
  exact ⟨as, s _ _ (nb_refs _) h1, h2, fun i b t e1 e2 => s _ _ (nb_tup _) (h3 i b t e1 e2)⟩
theorem WebAt.kept {C : Addr} {H H' : Hp} {p : Addr} {n : Nat} {ts : List Tie} (h : WebAt C H p n ts) (s : Keep H H') : WebAt C H' p n ts := by
  obtain ⟨dx, lk, lg, h1, h2, as, g1, g2, g3⟩ := h
  refine ⟨dx, lk, lg, s _ _ (nb_ins _ _ _) h1, h2.kept s, as, s _ _ (nb_refs _) g1, g2, fun i b hb => s _ _ ?_ (g3 i b hb)⟩
  have hi : i < n := by rw [← g2]; exact get_lt hb
  exact nb_row hi ((finv pf_zero).diag i hi)
/-- a box stands at b; its count is m at most -/
structure BoxV (H : Hp) (b g l : Addr) (c : Int) (gs ls : List Int) (k : Nat) : Prop where
  hb : H b = some (.lst [.ref g, .int c, .ref l, .int (k : Int)])
  hg : H g = some (.lst (gs.map V.int))
  hl : H l = some (.lst (ls.map V.int))
  gb : ∀ x ∈ gs, big ≤ x
  lb : ∀ x ∈ ls, x < big
  c0 : 0 ≤ c
def BoxAt (H : Hp) (b g l : Addr) (m : Nat) : Prop := ∃ (c : Int) (gs ls : List Int) (k : Nat), BoxV H b g l c gs ls k ∧ k ≤ m
theorem BoxV.same {H H' : Hp} {b g l : Addr} {c : Int} {gs ls : List Int} {k : Nat} (B : BoxV H b g l c gs ls k) (s : Same H H') : BoxV H' b g l c gs ls k := ⟨s _ _ B.hb, s _ _ B.hg, s _ _ B.hl, B.gb, B.lb, B.c0⟩
theorem BoxAt.same {H H' : Hp} {b g l : Addr} {m : Nat} (B : BoxAt H b g l m) (s : Same H H') : BoxAt H' b g l m := by
  obtain ⟨c, gs, ls, k, h, hk⟩ := B
  exact ⟨c, gs, ls, k, h.same s, hk⟩
theorem BoxAt.le {H : Hp} {b g l : Addr} {m m' : Nat} (B : BoxAt H b g l m) (h : m ≤ m') : BoxAt H b g l m' := by
  obtain ⟨c, gs, ls, k, hb, hk⟩ := B
  exact ⟨c, gs, ls, k, hb, Nat.le_trans hk h⟩
/-- a list stored anew at a place that is none of the box's -/
theorem BoxAt.off {H : Hp} {b g l a : Addr} {m : Nat} {o : HO} (B : BoxAt H b g l m) (n1 : b ≠ a) (n2 : g ≠ a) (n3 : l ≠ a) : BoxAt (upd H a o) b g l m := by
  obtain ⟨c, gs, ls, k, B, hk⟩ := B
  exact ⟨c, gs, ls, k, ⟨by rw [upd_ne n1]; exact B.hb, by rw [upd_ne n2]; exact B.hg, by rw [upd_ne n3]; exact B.hl, B.gb, B.lb, B.c0⟩, hk⟩
theorem BoxAt.there {H : Hp} {b g l a : Addr} {m : Nat} (B : BoxAt H b g l m) (h : H a = none) : b ≠ a ∧ g ≠ a ∧ l ≠ a := by
  obtain ⟨c, gs, ls, k, B, hk⟩ := B
  exact ⟨ne_of_none B.hb h, ne_of_none B.hg h, ne_of_none B.hl h⟩
theorem ref_ints {g : Addr} {vs : List V} {xs : List Int} : ¬ HO.lst (.ref g :: vs) = .lst (xs.map V.int) := fun e => by
  have e := HO.lst.inj e
  cases xs with
  | nil => cases e
  | cons a r => cases (List.cons.inj e).1
theorem BoxV.bg {H : Hp} {b g l : Addr} {c : Int} {gs ls : List Int} {k : Nat} (B : BoxV H b g l c gs ls k) : b ≠ g := ne_of B.hb B.hg ref_ints
theorem BoxV.bl {H : Hp} {b g l : Addr} {c : Int} {gs ls : List Int} {k : Nat} (B : BoxV H b g l c gs ls k) : b ≠ l := ne_of B.hb B.hl ref_ints
theorem boxy_box (g l : Addr) (c k : Int) : Boxy (.lst [.ref g, .int c, .ref l, .int k]) := ⟨_, rfl, .inl ⟨g, l, c, k, rfl⟩⟩
/-- the box's own list stored anew -/
theorem BoxV.put {H : Hp} {b g l : Addr} {c : Int} {gs ls : List Int} {k : Nat} (B : BoxV H b g l c gs ls k) {c' : Int} {k' : Nat} (h : 0 ≤ c') : BoxV (upd H b (.lst [.ref g, .int c', .ref l, .int (k' : Int)])) b g l c' gs ls k' :=
  ⟨upd_same, by rw [upd_ne B.bg.symm]; exact B.hg, by rw [upd_ne B.bl.symm]; exact B.hl, B.gb, B.lb, h⟩
/-- a value left by // or %: any number in its bounds -/
theorem q_mod {Q : VK} {H : Hp} {x m : Int} (hm : 0 < m) (h : ∀ r : Nat, (r : Int) < m → Q (nv r) H) : Q (.int (x % m)) H := by
  have h0 := Int.emod_nonneg x (show m ≠ 0 by omega)
  have h1 := Int.emod_lt_of_pos x hm
  have e : x % m = ((x % m).toNat : Int) := (Int.toNat_of_nonneg h0).symm
  rw [e]
  exact h _ (by omega)
section
variable {P : Program} {w : World} {K : PySem.W.Frag} {mg : Str → Option Value} {base : Heap}
/-! ### _law_box -/
abbrev nBox : List Str := ["_law_script", "_law_great", "_law_cell"]
theorem scBox : FnScope nBox ["_law_script"] (defScope sBox) := ⟨rfl, rfl, rfl, by decide +kernel, rfl, by decide +kernel, by decide +kernel⟩
def lstArg (k : Nat) : Expr → Expr
  | .List es _ => es.getD k (.Constant .none 0 ⟨0, 0, 0, 0⟩)
  | e => e
theorem bkBox1 : BlkOk nBox (defScope sBox) (lcScope (asgVal (stAt (defBody sBox) 0))) [("_law_cell", 2)] := blkOk_by (by decide +kernel)
theorem bkBox2 : BlkOk nBox (defScope sBox) (lcScope (lstArg 2 (asgVal (stAt (defBody sBox) 1)))) [("_law_cell", 2)] := blkOk_by (by decide +kernel)
def spBox (K : PySem.W.Frag) : Sp := fun vs H Q _ => ∃ (a : Addr) (ns : List Int), vs = [.ref a] ∧ SqL K H a (ns.map V.int) ∧ ns.length ≤ 63 ∧ ∀ (b g l : Addr) (H' : Hp), Same H H' → BoxAt H' b g l 0 → Q (.ref b) H'
theorem ok_box (T : Txt K mg) : FnOk P w K mg base CX0 1 T.box.f T.box.fd ["_law_script"] (spBox K) := by
  refine T.box.F.ok scBox (fun vs H Q E h => ?_) (fun cdv A outer s H vs Q E hr h => ?_)
  · obtain ⟨a, ns, rfl, _⟩ := h
    rfl
  · obtain ⟨a, ns, rfl, hS, hlen, k⟩ := h
    have nd := scBox.nd
    refine ⟨_, pss_cons (ps_setLc (i := 1) (own := [("_law_cell", 2)]) (g := gName 2) rfl nd rfl rfl (sw_true rfl rfl rfl (by decide +kernel)) (pi_list (pv 0)) bkBox1
        (fun _ _ _ _ _ => pg_name (i := 2) nd rfl (Or.inl rfl)) (fun _ _ _ _ _ => pts_one (pt_cmpR op_ge (pv 2) (pe_op op_pow pe_int pe_int) (nomark _))) (fun _ _ _ _ _ => pv 2))
      (pss_one (ps_ret (pe_lst (pa_cons (pv 1) (pa_cons pe_int (pa_cons (pe_lc (own := [("_law_cell", 2)]) (g := gName 2) rfl nd (pi_list (pv 0)) bkBox2
        (fun _ _ _ _ _ => pg_name (i := 2) nd rfl (Or.inl rfl)) (fun _ _ _ _ _ => pts_one (pt_cmpR op_lt (pv 2) (pe_op op_pow pe_int pe_int) (nomark _))) (fun _ _ _ _ _ => pv 2)) (pa_cons pe_int pa_nil))))))), ?_⟩
    have hpow : (10 : Int) ^ (18 : Int).toNat = big := by decide
    refine ⟨_, rfl, a, rfl, ⟨_, hS⟩, fun D hD => ?_⟩
    refine lc_list (K := K) (a := a) (xs := ns.map V.int) (fun i H' => ∃ gs : List Int, H' D = some (.lst (gs.map V.int)) ∧ gs.length ≤ i ∧ (∀ x ∈ gs, big ≤ x) ∧ Same H H' ∧ i ≤ 63) ⟨[], upd_same, Nat.le_refl _, fun _ h => (by cases h), same_upd hD, Nat.zero_le _⟩ (fun i H' _ ⟨_, _, _, _, sm, _⟩ => sm.seq hS) ?_ ?_
    · rintro i y H1 hi ⟨gs, hD1, hgl, hgb, sm, hi6⟩
      have hil : i < ns.length := by
        have := get_lt hi
        rw [List.length_map] at this
        exact this
      rw [List.getElem?_map] at hi
      obtain ⟨x, hx, rfl⟩ := Option.map_eq_some_iff.mp hi
      refine ⟨rfl, _, rfl, _, _, rfl, rfl, ⟨by decide, by decide, by decide⟩, _, _, rfl, rfl, _, rfl, ?_⟩
      rw [hpow]
      refine ite2 (fun c => ?_) (fun c => ?_)
      · have c : big ≤ x := of_decide_eq_true c
        refine ⟨_, rfl, _, hD1, ?_, gs ++ [x], ?_, ?_, ?_, fun b o e => ?_, by omega⟩
        · rw [List.length_map]
          exact small1000 (by omega)
        · rw [upd_same, List.map_append]
          rfl
        · rw [List.length_append, List.length_singleton]
          omega
        · intro z hz
          rcases List.mem_append.mp hz with q | q
          · exact hgb z q
          · rw [List.mem_singleton.mp q]
            exact c
        · rw [upd_ne (ne_of_none e hD)]
          exact sm _ _ e
      · exact ⟨gs, hD1, by omega, hgb, sm, by omega⟩
    · rintro H1 ⟨gs, hD1, hgl, hgb, sm, _⟩
      have hS1 := sm.seq hS
      refine ⟨_, rfl, _, rfl, a, rfl, ⟨_, hS1⟩, fun D2 hD2 => ?_⟩
      refine lc_list (K := K) (a := a) (xs := ns.map V.int) (fun i H' => ∃ ls : List Int, H' D2 = some (.lst (ls.map V.int)) ∧ ls.length ≤ i ∧ (∀ x ∈ ls, x < big) ∧ Same H1 H' ∧ i ≤ 63) ⟨[], upd_same, Nat.le_refl _, fun _ h => (by cases h), same_upd hD2, Nat.zero_le _⟩ (fun i H' _ ⟨_, _, _, _, sm, _⟩ => sm.seq hS1) ?_ ?_
      · rintro i y H2 hi ⟨ls, hD3, hgl, hlb, sm2, hi6⟩
        have hil : i < ns.length := by
          have := get_lt hi
          rw [List.length_map] at this
          exact this
        rw [List.getElem?_map] at hi
        obtain ⟨x, hx, rfl⟩ := Option.map_eq_some_iff.mp hi
        refine ⟨rfl, _, rfl, _, _, rfl, rfl, ⟨by decide, by decide, by decide⟩, _, _, rfl, rfl, _, rfl, ?_⟩
        rw [hpow]
        refine ite2 (fun c => ?_) (fun c => ?_)
        · have c : x < big := of_decide_eq_true c
          refine ⟨_, rfl, _, hD3, ?_, ls ++ [x], ?_, ?_, ?_, fun b o e => ?_, by omega⟩
          · rw [List.length_map]
            exact small1000 (by omega)
          · rw [upd_same, List.map_append]
            rfl
          · rw [List.length_append, List.length_singleton]
            omega
          · intro z hz
            rcases List.mem_append.mp hz with q | q
            · exact hlb z q
            · rw [List.mem_singleton.mp q]
              exact c
          · rw [upd_ne (ne_of_none e hD2)]
            exact sm2 _ _ e
        · exact ⟨ls, hD3, by omega, hlb, sm2, by omega⟩
      · rintro H2 ⟨ls, hD3, _, hlb, sm2, _⟩
        refine ⟨(by show 4 ≤ sizeLine; decide), fun b hb => ?_⟩
        have s3 := same_upd (o := .lst [.ref D, .int 0, .ref D2, .int 0]) hb
        exact k b D D2 _ ((sm.trans sm2).trans s3) ⟨0, gs, ls, 0, ⟨upd_same, s3 _ _ (sm2 _ _ hD1), s3 _ _ hD3, hgb, hlb, Int.le_refl _⟩, Nat.le_refl _⟩
/-! ### _law_mixed -/
theorem scMixed : FnScope ["_law_cell", "_law_k", "_law_whole"] ["_law_cell", "_law_k"] (defScope sMixed) := ⟨rfl, rfl, rfl, by decide +kernel, rfl, by decide +kernel, by decide +kernel⟩
def spMixed : Sp := fun vs H Q _ => ∃ x k : Int, vs = [.int x, .int k] ∧ 0 ≤ k ∧ k ≤ 200000 ∧ ∀ r : Nat, Q (nv r) H
theorem ok_mixed (T : Txt K mg) : FnOk P w K mg base CX0 1 T.mixed.f T.mixed.fd ["_law_cell", "_law_k"] spMixed := by
  refine T.mixed.F.ok scMixed (fun vs H Q E h => ?_) (fun cdv A outer s H vs Q E hr h => ?_)
  · obtain ⟨x, k, rfl, _⟩ := h
    rfl
  · obtain ⟨x, k, rfl, k0, k1, q⟩ := h
    have nd := scMixed.nd
    refine ⟨_, pss_cons (ps_set (i := 2) nd rfl (.inl rfl) (pe_op op_mod (pe_op op_pow (pe_op op_add (pe_op op_add (pe_op op_add (pe_op op_mod (pv 0) pe_int) (pe_op op_mul (pe_op op_mul pe_int (pv 1)) (pv 1))) (pe_op op_mul pe_int (pv 1))) pe_int) pe_int) pe_int))
      (pss_one (ps_ret (pe_op op_mod (pe_op op_add (pe_op op_mul (pv 2) pe_int) (pe_op op_mul pe_int (pv 1))) pe_int))), ?_⟩
    have h0 := Int.emod_nonneg x (show (2147483647 : Int) ≠ 0 by decide)
    have h1 := Int.emod_lt_of_pos x (show (0 : Int) < 2147483647 by decide)
    have hm0 : 0 ≤ 1009 * k * k := Int.mul_nonneg (by omega) k0
    have hm1 : 1009 * k * k ≤ 201800000 * 200000 := Int.mul_le_mul (by omega) k1 k0 (by omega)
    refine ⟨_, rfl, _, _, rfl, rfl, (by decide : (0 : Int) < 2147483647), _, rfl, _, _, rfl, rfl, .inl ⟨by decide, by decide⟩, _, rfl, _, _, rfl, rfl, .inl ⟨by omega, by omega⟩, _, _, rfl, rfl,
      _, rfl, _, _, rfl, rfl, .inl ⟨by decide, by decide⟩, _, _, rfl, rfl, _, _, rfl, rfl, _, _, rfl, rfl, ⟨by decide, by decide, ?_⟩, _, _, rfl, rfl, (by decide : (0 : Int) < 2147483647), ?_⟩
    · show (x % 2147483647 + 1009 * k * k + 48611 * k + 17).natAbs < 2 ^ 64
      omega
    · refine ⟨_, rfl, _, _, rfl, rfl, .inr ⟨by decide, by decide⟩, _, rfl, _, _, rfl, rfl, .inl ⟨by decide, by decide⟩, _, _, rfl, rfl, _, _, rfl, rfl, (by decide : (0 : Int) < 1000000007), ?_⟩
      exact q_mod (by decide) fun r _ => q r
end
end K12

/-! _law_take. -/
namespace K12
open PySem L2
section
variable {P : Program} {w : World} {K : PySem.W.Frag} {mg : Str → Option Value} {base : Heap}
theorem scTake : FnScope ["_law_box_here", "_law_size", "_law_found", "_law_cell", "_law_reach"] ["_law_box_here", "_law_size"] (defScope sTake) := ⟨rfl, rfl, rfl, by decide +kernel, rfl, by decide +kernel, by decide +kernel⟩
def spTake : Sp := fun vs H Q _ => ∃ (b g l : Addr) (size m : Nat), vs = [.ref b, nv size] ∧ BoxAt H b g l m ∧ m ≤ 100000 ∧ 1 ≤ size ∧ size ≤ 1000001 ∧ ∀ (r : Nat) (H' : Hp), r < size → Keep H H' → BoxAt H' b g l (m + 1) → Q (nv r) H'
theorem ok_take (T : Txt K mg) : FnOk P w K mg base CX0 2 T.take.f T.take.fd ["_law_box_here", "_law_size"] spTake := by
  refine T.take.F.ok scTake (fun vs H Q E h => ?_) (fun cdv A outer s H vs Q E hr h => ?_)
  · obtain ⟨b, g, l, size, m, rfl, _⟩ := h
    rfl
  · obtain ⟨b, g, l, size, m, rfl, ⟨c, gs, ls, k, B, hk⟩, hm, hs1, hs2, q⟩ := h
    have nd := scTake.nd
    refine ⟨_, pss_cons (ps_asg (pe_op op_add (pe_ix ix_list (pv 0) pe_int (fun _ _ => rfl)) pe_int) (pg_sub (pv 0) pe_int set_list))
      (C8.pss_cut (ps_if (PW.pt (pw_and (pt_cmpR op_eq (pe_ix ix_list (pv 0) pe_int (fun _ _ => rfl)) pe_int (nomark _)) (pw_and1 (pt_cmpR op_gt (pe_callB call_len_seq (by rfl) T.zLen PySem.boot_len (pa_cons (pe_ix ix_list (pv 0) pe_int (fun _ _ => rfl)) pa_nil)) pe_int (nomark _)))))
        (pss_one (ps_asg (pe_bm PySem.F.plainAttrs_list PySem.F.slot_list_pop PySem.F.type_list_pop mt_popAt (pe_ix ix_list (pv 0) pe_int (fun _ _ => rfl)) (pa_cons pe_int pa_nil)) (pg_sub (pv 0) pe_int set_list))) pss_nil)
      (pss_cons (ps_if (pt_cmpR op_gt (pe_ix ix_list (pv 0) pe_int (fun _ _ => rfl)) pe_int (nomark _))
        (pss_cons (ps_set (i := 2) nd rfl (.inl rfl) (pe_op op_mod (pe_ix ix_list (pv 0) pe_int (fun _ _ => rfl)) (pv 1)))
        (pss_cons (ps_asg (pe_op op_fdivW (pe_ix ix_list (pv 0) pe_int (fun _ _ => rfl)) (pv 1)) (pg_sub (pv 0) pe_int set_list))
        (pss_one (ps_ret (pv 2))))) pss_nil)
      (pss_cons (ps_set (i := 3) nd rfl (.inl rfl) (pe_op op_mul pe_int (pe_ix ix_list (pv 0) pe_int (fun _ _ => rfl))))
      (C8.pss_cut (ps_if (pt_cmpR op_gt (pe_callB call_len_seq (by rfl) T.zLen PySem.boot_len (pa_cons (pe_ix ix_list (pv 0) pe_int (fun _ _ => rfl)) pa_nil)) pe_int (nomark _))
        (pss_one (ps_set (i := 3) nd rfl (.inl rfl) (pe_ix ix_list (pe_ix ix_list (pv 0) pe_int (fun _ _ => rfl)) (pe_op op_mod (pe_ix ix_list (pv 0) pe_int (fun _ _ => rfl)) (pe_callB call_len_seq (by rfl) T.zLen PySem.boot_len (pa_cons (pe_ix ix_list (pv 0) pe_int (fun _ _ => rfl)) pa_nil))) (fun _ _ => rfl)))) pss_nil)
      (pss_cons (ps_set (i := 2) nd rfl (.inl rfl) pe_int)
      (pss_cons (ps_set (i := 4) nd rfl (.inl rfl) pe_int)
      (pss_cons (ps_while PassesOwn.never (pt_cmpR op_lt (pv 4) (pv 1) (nomark _))
        (pss_cons (ps_set (i := 2) nd rfl (.inl rfl) (pe_op op_add (pe_op op_mul (pv 2) pe_int) (pe_call (ok_mixed T) hr (by rfl) T.mixed.g T.mixed.F.kp T.mixed.b .nil pass0 (pa_cons (pv 3) (pa_cons (pe_op op_add (pe_ix ix_list (pv 0) pe_int (fun _ _ => rfl)) (pe_op op_mul pe_int (pe_op op_mod (pv 2) pe_int))) pa_nil)))))
        (pss_one (ps_set (i := 4) nd rfl (.inl rfl) (pe_op op_mul (pv 4) pe_int)))))
      (pss_one (ps_ret (pe_op op_mod (pv 2) (pv 1))))))))))), ?_⟩
    -- the box's places
    have a0 : ∀ {c : Int} {k : Int}, atI [V.ref g, .int c, .ref l, .int k] (0 : Int) = some (.ref g) := rfl
    have a1 : ∀ {c : Int} {k : Int}, atI [V.ref g, .int c, .ref l, .int k] (1 : Int) = some (.int c) := rfl
    have a2 : ∀ {c : Int} {k : Int}, atI [V.ref g, .int c, .ref l, .int k] (2 : Int) = some (.ref l) := rfl
    have a3 : ∀ {c : Int} {k : Int}, atI [V.ref g, .int c, .ref l, .int k] (3 : Int) = some (.int k) := rfl
    -- box[3] = box[3] + 1
    refine ⟨_, rfl, b, _, _, _, rfl, rfl, SqL.of B.hb, a3, _, _, rfl, rfl, ?_⟩
    refine ⟨_, rfl, b, _, _, 3, rfl, rfl, B.hb, rfl, ?_⟩
    have B1 : BoxV (upd H b (.lst [.ref g, .int c, .ref l, .int ((k + 1 : Nat) : Int)])) b g l c gs ls (k + 1) := B.put B.c0
    have K1 : Keep H (upd H b (.lst [.ref g, .int c, .ref l, .int ((k + 1 : Nat) : Int)])) := Keep.upd (.refl H) B.hb (boxy_box _ _ _ _)
    obtain ⟨H1, eH1⟩ : ∃ H1, H1 = upd H b (.lst [.ref g, .int c, .ref l, .int ((k + 1 : Nat) : Int)]) := ⟨_, rfl⟩
    rw [← eH1] at B1 K1
    -- if box[1] == 0 and len(box[0]) > 0
    refine ⟨fun σ2 H2 => ∃ (c' : Int) (gs' : List Int), σ2 = [some (.ref b), some (nv size), none, none, none] ∧ BoxV H2 b g l c' gs' ls (k + 1) ∧ Keep H H2, ?_, ?_⟩
    · show tIfS _ _ _ _ ([some (.ref b), some (nv size), none, none, none] : St) (upd H b (.lst [.ref g, .int c, .ref l, .int ((k + 1 : Nat) : Int)]))
      rw [← eH1]
      refine ⟨_, rfl, b, _, _, _, rfl, rfl, SqL.of B1.hb, a1, rfl, _, rfl, ite2 (fun e => ?_) (fun e => iteF ⟨c, gs, rfl, B1, K1⟩)⟩
      refine ⟨_, rfl, b, _, _, _, rfl, rfl, SqL.of B1.hb, a0, g, _, rfl, .inl (SqL.of B1.hg), _, _, rfl, rfl, _, rfl, ite2 (fun e2 => ?_) (fun e2 => ⟨c, gs, rfl, B1, K1⟩)⟩
      have e2 : (0 : Int) < (((gs.map V.int).length : Nat) : Int) := of_decide_eq_true e2
      rw [List.length_map] at e2
      obtain ⟨x, gr, egs⟩ : ∃ x gr, gs = x :: gr := by
        cases gs with
        | nil => exact absurd e2 (by decide)
        | cons x gr => exact ⟨x, gr, rfl⟩
      have hgx : H1 g = some (.lst (.int x :: gr.map V.int)) := by
        rw [B1.hg, egs]
        rfl
      have seq0 : seqIndex? 0 (V.int x :: gr.map V.int).length = some 0 := by
        unfold seqIndex?
        rw [List.length_cons]
        simp
      -- box[1] = box[0].pop(0)
      refine ⟨_, rfl, b, _, _, _, rfl, rfl, SqL.of B1.hb, a0, .inl ⟨rfl, _, SqL.of hgx⟩, g, _, _, _, _, rfl, rfl, hgx, by decide, by decide, seq0, rfl, ?_⟩
      have nbg := B1.bg
      have hb2 : (upd H1 g (.lst ((V.int x :: gr.map V.int).eraseIdx 0))) b = some (.lst [.ref g, .int c, .ref l, .int ((k + 1 : Nat) : Int)]) := by
        rw [upd_ne nbg]
        exact B1.hb
      refine ⟨_, rfl, b, _, _, 1, rfl, rfl, hb2, rfl, ?_⟩
      have nlg : l ≠ g := fun z => by
        have h1 := B1.hl
        rw [z, hgx] at h1
        have h1 := HO.lst.inj (Option.some.inj h1)
        cases hls : ls with
        | nil =>
          rw [hls] at h1
          cases h1
        | cons y r =>
          rw [hls] at h1
          have h2 := V.int.inj (List.cons.inj h1).1
          have h3 := B1.lb y (by rw [hls]; exact List.mem_cons_self)
          have h4 := B1.gb x (by rw [egs]; exact List.mem_cons_self)
          omega
      have hx : big ≤ x := B1.gb x (by rw [egs]; exact List.mem_cons_self)
      have B2 : BoxV (upd H1 g (.lst (gr.map V.int))) b g l c gr ls (k + 1) := ⟨by rw [upd_ne nbg]; exact B1.hb, upd_same, by rw [upd_ne nlg]; exact B1.hl, fun y hy => B1.gb y (by rw [egs]; exact List.mem_cons_of_mem _ hy), B1.lb, B1.c0⟩
      refine ⟨x, gr, rfl, B2.put (by unfold big at hx; omega), ?_⟩
      refine Keep.upd (Keep.upd K1 hgx ?_) hb2 (boxy_box _ _ _ _)
      exact ⟨_, rfl, .inr ⟨x, gr, rfl, by rw [← egs]; exact B1.gb⟩⟩
    · rintro σ2 H2 ⟨c2, gs2, rfl, B2, K2⟩
      have c0 := B2.c0
      -- if box[1] > 0
      refine ⟨_, rfl, b, _, _, _, rfl, rfl, SqL.of B2.hb, a1, _, _, rfl, rfl, _, rfl, ite2 (fun e => ?_) (fun e => ?_)⟩
      · refine ⟨_, rfl, b, _, _, _, rfl, rfl, SqL.of B2.hb, a1, _, rfl, _, _, rfl, rfl, (show (0 : Int) < (size : Int) by omega), ?_⟩
        refine ⟨_, rfl, b, _, _, _, rfl, rfl, SqL.of B2.hb, a1, _, rfl, _, _, rfl, rfl, wide_div (show (0 : Int) < (size : Int) by omega) (b := 30) (by show (size : Int).natAbs < 2 ^ 30; omega) (by decide) (by decide), ?_⟩
        refine ⟨_, rfl, b, _, _, 1, rfl, rfl, B2.hb, rfl, ?_⟩
        refine ⟨_, rfl, ?_⟩
        refine q_mod (by omega) fun r hr' => ?_
        refine q r _ (by omega) (Keep.upd K2 B2.hb (boxy_box _ _ _ _)) ⟨c2 / (size : Int), gs2, ls, k + 1, B2.put (Int.ediv_nonneg c0 (by omega)), by omega⟩
      · -- cell
        refine ⟨_, rfl, b, _, _, _, rfl, rfl, SqL.of B2.hb, a3, _, _, rfl, rfl, .inl ⟨by decide, by decide⟩, ?_⟩
        refine ⟨fun σ3 H3 => ∃ x : Int, σ3 = [some (.ref b), some (nv size), none, some (.int x), none] ∧ H3 = H2, ?_, ?_⟩
        · refine ⟨_, rfl, b, _, _, _, rfl, rfl, SqL.of B2.hb, a2, l, _, rfl, .inl (SqL.of B2.hl), _, _, rfl, rfl, _, rfl, ite2 (fun e2 => ?_) (fun e2 => ⟨_, rfl, rfl⟩)⟩
          have e2 : (0 : Int) < (((ls.map V.int).length : Nat) : Int) := of_decide_eq_true e2
          have hlt : (k + 1) % (ls.map V.int).length < (ls.map V.int).length := Nat.mod_lt _ (by omega)
          obtain ⟨y, hy⟩ := get_of hlt
          obtain ⟨z, hz, rfl⟩ : ∃ z, ls[(k + 1) % (ls.map V.int).length]? = some z ∧ y = V.int z := by
            rw [List.getElem?_map] at hy
            obtain ⟨z, hz, e⟩ := Option.map_eq_some_iff.mp hy
            exact ⟨z, hz, e.symm⟩
          refine ⟨_, rfl, b, _, _, _, rfl, rfl, SqL.of B2.hb, a2, _, rfl, b, _, _, _, rfl, rfl, SqL.of B2.hb, a3, _, rfl, b, _, _, _, rfl, rfl, SqL.of B2.hb, a2, l, _, rfl, .inl (SqL.of B2.hl), _, _, rfl, rfl, e2, l, _, _, _, rfl, rfl, SqL.of B2.hl, at_of (j := (k + 1) % (ls.map V.int).length) rfl hy, ?_⟩
          exact ⟨z, rfl, rfl⟩
        · rintro σ3 H3 ⟨x, rfl, rfl⟩
          -- found = 0; reach = 1; while reach < size
          refine ⟨fun μ σ4 H4 => ∃ (fo re : Int), σ4 = [some (.ref b), some (nv size), some (.int fo), some (.int x), some (.int re)] ∧ H4 = H3 ∧ ((μ = 1 ∧ fo = 0 ∧ re = 1) ∨ (μ = 0 ∧ re = 1000000007)), ⟨1, 0, 1, rfl, rfl, .inl ⟨rfl, rfl, rfl⟩⟩, ?_⟩
          rintro μ σ4 H4 ⟨fo, re, rfl, rfl, hst⟩
          refine ⟨_, rfl, _, rfl, _, _, rfl, rfl, _, rfl, ite2 (fun e2 => ?_) (fun e2 => ?_)⟩
          · have e2 : re < (size : Int) := of_decide_eq_true e2
            rcases hst with ⟨rfl, rfl, rfl⟩ | ⟨_, rfl⟩
            · refine ⟨_, fun σ' H'' h => h, ?_⟩
              refine ⟨_, rfl, _, _, rfl, rfl, .inr ⟨by decide, by decide⟩, _, rfl, _, rfl, b, _, _, _, rfl, rfl, SqL.of B2.hb, a3, _, rfl, _, _, rfl, rfl, (by decide : (0 : Int) < 89), _, _, rfl, rfl, .inl ⟨by decide, by decide⟩, _, _, rfl, rfl,
                x, _, rfl, ?_, ?_, fun r => ⟨_, _, rfl, rfl, ?_⟩⟩
              · show (0 : Int) ≤ ((k + 1 : Nat) : Int) + 1000 * ((0 : Int) % 89)
                omega
              · show ((k + 1 : Nat) : Int) + 1000 * ((0 : Int) % 89) ≤ 200000
                omega
              · refine ⟨_, rfl, _, _, rfl, rfl, .inl ⟨by decide, by decide⟩, ?_⟩
                exact ⟨0, Nat.zero_lt_one, _, _, rfl, rfl, .inr ⟨rfl, rfl⟩⟩
            · omega
          · refine ⟨_, rfl, _, rfl, _, _, rfl, rfl, (show (0 : Int) < (size : Int) by omega), ?_⟩
            refine q_mod (by omega) fun r hr' => ?_
            exact q r H4 (by omega) K2 ⟨c2, gs2, ls, k + 1, B2, by omega⟩
end
end K12

/-! _law_rest, _law_ties. -/
namespace K12
open PySem L2
section
variable {P : Program} {w : World} {K : PySem.W.Frag} {mg : Str → Option Value} {base : Heap}
theorem scLRest : FnScope ["_law_box_here", "_law_way", "_law_built", "_law_k"] ["_law_box_here"] (defScope sLRest) := ⟨rfl, rfl, rfl, by decide +kernel, rfl, by decide +kernel, by decide +kernel⟩
def spLRest : Sp := fun vs H Q _ => ∃ (b g l : Addr) (m : Nat), vs = [.ref b] ∧ BoxAt H b g l m ∧ m ≤ 90000 ∧ ∀ (r : Nat) (H' : Hp), r ≤ 1000000 → Keep H H' → BoxAt H' b g l (m + 10) → Q (nv r) H'
theorem ok_lrest (T : Txt K mg) : FnOk P w K mg base CX0 3 T.lrest.f T.lrest.fd ["_law_box_here"] spLRest := by
  refine T.lrest.F.ok scLRest (fun vs H Q E h => ?_) (fun cdv A outer s H vs Q E hr h => ?_)
  · obtain ⟨b, g, l, m, rfl, _⟩ := h
    rfl
  · obtain ⟨b, g, l, m, rfl, B, hm, q⟩ := h
    have nd := scLRest.nd
    refine ⟨_, pss_cons (ps_set (i := 1) nd rfl (.inl rfl) (pe_call (ok_take T) hr (by rfl) T.take.g T.take.F.kp T.take.b .nil pass0 (pa_cons (pv 0) (pa_cons pe_int pa_nil))))
      (pss_cons (ps_if (pt_cmpR op_lt (pv 1) pe_int (nomark _)) (pss_one (ps_ret (pv 1))) pss_nil)
      (pss_cons (ps_if (pt_cmpR op_lt (pv 1) pe_int (nomark _)) (pss_one (ps_ret (pe_ix ix_list (pe_lst (pa_cons pe_int (pa_cons pe_int (pa_cons pe_int (pa_cons pe_int (pa_cons pe_int (pa_cons pe_int pa_nil)))))))
          (pe_call (ok_take T) hr (by rfl) T.take.g T.take.F.kp T.take.b .nil pass0 (pa_cons (pv 0) (pa_cons pe_int pa_nil))) (fun _ _ => rfl)))) pss_nil)
      (pss_cons (ps_if (pt_cmpR op_lt (pv 1) pe_int (nomark _))
        (pss_cons (ps_set (i := 2) nd rfl (.inl rfl) pe_int)
        (pss_cons (ps_for PassesOwn.never rfl (pi_range1 (by rfl) T.zRange (pa_cons (pe_call (ok_take T) hr (by rfl) T.take.g T.take.F.kp T.take.b .nil pass0 (pa_cons (pv 0) (pa_cons pe_int pa_nil))) pa_nil)) (pg_name (i := 3) nd rfl (.inl rfl))
          (pss_one (ps_set (i := 2) nd rfl (.inl rfl) (pe_op op_mul (pv 2) (pe_ix ix_list (pe_lst (pa_cons pe_int (pa_cons pe_int (pa_cons pe_int (pa_cons pe_int (pa_cons pe_int pa_nil))))))
            (pe_call (ok_take T) hr (by rfl) T.take.g T.take.F.kp T.take.b .nil pass0 (pa_cons (pv 0) (pa_cons pe_int pa_nil))) (fun _ _ => rfl))))))
        (pss_one (ps_ret (pv 2))))) pss_nil)
      (pss_one (ps_ret (pe_ix ix_list (pe_lst (pa_cons pe_int (pa_cons pe_int (pa_cons (pe_call (ok_take T) hr (by rfl) T.take.g T.take.F.kp T.take.b .nil pass0 (pa_cons (pv 0) (pa_cons pe_int pa_nil))) pa_nil))))
          (pe_call (ok_take T) hr (by rfl) T.take.g T.take.F.kp T.take.b .nil pass0 (pa_cons (pv 0) (pa_cons pe_int pa_nil))) (fun _ _ => rfl))))))), ?_⟩
    refine ⟨_, rfl, b, g, l, 8, m, rfl, B, by omega, by decide, by decide, fun way H1 hway K1 B1 => ?_⟩
    refine ⟨_, rfl, _, _, rfl, rfl, _, rfl, ite2 (fun c => ?_) (fun c => ?_)⟩
    · exact ⟨_, rfl, q way H1 (by omega) K1 (B1.le (by omega))⟩
    refine ⟨_, rfl, _, _, rfl, rfl, _, rfl, ite2 (fun c => ?_) (fun c => ?_)⟩
    · refine ⟨(by show 6 ≤ sizeLine; decide), fun p hp => ?_⟩
      have s2 := same_upd (o := .lst (([2, 3, 4, 6, 9, 12] : List Nat).map nv)) hp
      refine ⟨_, rfl, b, g, l, 6, m + 1, rfl, B1.same s2, by omega, by decide, by decide, fun r H2 hr2 K2 B2 => ?_⟩
      have hp2 : H2 p = some (.lst (([2, 3, 4, 6, 9, 12] : List Nat).map nv)) := K2 _ _ (nb_small (by decide)) upd_same
      obtain ⟨x, hx⟩ := get_of (l := ([2, 3, 4, 6, 9, 12] : List Nat)) (i := r) hr2
      have hxm : x ≤ 1000000 := by
        have := List.mem_of_getElem? hx
        have key : ∀ y ∈ ([2, 3, 4, 6, 9, 12] : List Nat), y ≤ 1000000 := by decide
        exact key x this
      refine ⟨p, _, _, _, rfl, rfl, SqL.of hp2, at_nv hx, ?_⟩
      exact q x H2 hxm (K1.trans ((Same.kept s2).trans K2)) (B2.le (by omega))
    refine ⟨_, rfl, _, _, rfl, rfl, _, rfl, ite2 (fun c => ?_) (fun c => ?_)⟩
    · refine ⟨_, rfl, b, g, l, 7, m + 1, rfl, B1, by omega, by decide, by decide, fun r H2 hr2 K2 B2 => ?_⟩
      refine ⟨(r : Int), rfl, by omega, by omega, for_range (lo := 0) (n := r) (fun i σ H' => ∃ (bt : Nat) (x3 : Option V), σ = [some (.ref b), some (nv way), some (nv bt), x3] ∧ bt ≤ 7 ^ i ∧ Keep H H' ∧ BoxAt H' b g l (m + 2 + i))
        ⟨1, none, rfl, Nat.le_refl _, K1.trans K2, B2⟩ ?_ ?_⟩
      · rintro i σ H3 hi ⟨bt, x3, rfl, hbt, K3, B3⟩
        have h76 : (7 : Nat) ^ i ≤ 7 ^ 6 := Nat.pow_le_pow_right (by decide) (by omega)
        have h76' : (7 : Nat) ^ 6 = 117649 := by decide
        refine ⟨_, rfl, (by show 5 ≤ sizeLine; decide), fun p hp => ?_⟩
        have s4 := same_upd (o := .lst (([2, 2, 3, 5, 7] : List Nat).map nv)) hp
        refine ⟨_, rfl, b, g, l, 5, m + 2 + i, rfl, B3.same s4, by omega, by decide, by decide, fun y H4 hy K4 B4 => ?_⟩
        have hp4 : H4 p = some (.lst (([2, 2, 3, 5, 7] : List Nat).map nv)) := K4 _ _ (nb_small (by decide)) upd_same
        obtain ⟨x, hx⟩ := get_of (l := ([2, 2, 3, 5, 7] : List Nat)) (i := y) hy
        have hxm : x ≤ 7 := by
          have := List.mem_of_getElem? hx
          have key : ∀ y ∈ ([2, 2, 3, 5, 7] : List Nat), y ≤ 7 := by decide
          exact key x this
        refine ⟨p, _, _, _, rfl, rfl, SqL.of hp4, at_nv hx, _, _, rfl, rfl, .inl ⟨by omega, by omega⟩, ?_⟩
        refine ⟨bt * x, some (V.int (0 + (i : Int))), ?_, ?_, K3.trans ((Same.kept s4).trans K4), B4⟩
        · have e : (bt : Int) * (x : Int) = ((bt * x : Nat) : Int) := (Int.natCast_mul bt x).symm
          show [some (.ref b), some (nv way), some (V.int ((bt : Int) * (x : Int))), some (V.int (0 + (i : Int)))] = _
          rw [e]
        · rw [Nat.pow_succ]
          exact Nat.mul_le_mul hbt hxm
      · rintro σ H3 ⟨bt, x3, rfl, hbt, K3, B3⟩
        have h76 : (7 : Nat) ^ r ≤ 7 ^ 6 := Nat.pow_le_pow_right (by decide) (by omega)
        have h76' : (7 : Nat) ^ 6 = 117649 := by decide
        exact ⟨_, rfl, q bt H3 (by omega) K3 (B3.le (by omega))⟩
    · refine ⟨_, rfl, b, g, l, 1000001, m + 1, rfl, B1, by omega, by decide, by decide, fun x H2 hx K2 B2 => ?_⟩
      refine ⟨(by show 3 ≤ sizeLine; decide), fun p hp => ?_⟩
      have s3 := same_upd (o := .lst (([1000000, 999983, x] : List Nat).map nv)) hp
      refine ⟨_, rfl, b, g, l, 3, m + 2, rfl, B2.same s3, by omega, by decide, by decide, fun r H3 hr3 K3 B3 => ?_⟩
      have hsm : ∀ y ∈ ([1000000, 999983, x] : List Nat), y ≤ 1000000 := by
        intro y hy
        rcases List.mem_cons.mp hy with rfl | hy
        · decide
        rcases List.mem_cons.mp hy with rfl | hy
        · decide
        rw [List.mem_singleton.mp hy]
        omega
      have hp3 : H3 p = some (.lst (([1000000, 999983, x] : List Nat).map nv)) := K3 _ _ (nb_small fun y hy => Nat.lt_of_le_of_lt (hsm y hy) (by decide)) upd_same
      obtain ⟨y, hy⟩ := get_of (l := ([1000000, 999983, x] : List Nat)) (i := r) hr3
      refine ⟨p, _, _, _, rfl, rfl, SqL.of hp3, at_nv hy, ?_⟩
      exact q y H3 (hsm y (List.mem_of_getElem? hy)) (K1.trans (K2.trans ((Same.kept s3).trans K3))) (B3.le (by omega))
/-! ### _law_ties -/
theorem scLTies : FnScope ["_law_box_here", "_law_many", "_law_most", "_law_ties_here", "_law_close", "_law_k", "_law_span"] ["_law_box_here", "_law_many", "_law_most"] (defScope sLTies) := ⟨rfl, rfl, rfl, by decide +kernel, rfl, by decide +kernel, by decide +kernel⟩
def spLTies : Sp := fun vs H Q _ => ∃ (b g l : Addr) (n most m : Nat), vs = [.ref b, nv n, nv most] ∧ BoxAt H b g l m ∧ m ≤ 1000 ∧ 1 ≤ n ∧ n ≤ 24 ∧ most ≤ 60 ∧
  ∀ (a : Addr) (ts : List Tie) (H' : Hp), Keep H H' → BoxAt H' b g l (m + 1000) → TiesAt H' a ts → ts.length ≤ 60 → (∀ t ∈ ts, t.1 < n ∧ t.2.1 < n) → (∀ t ∈ ts, t.2.2 ≤ 1000000) → Q (.ref a) H'
theorem ok_lties (T : Txt K mg) : FnOk P w K mg base CX0 4 T.lties.f T.lties.fd ["_law_box_here", "_law_many", "_law_most"] spLTies := by
  refine T.lties.F.ok scLTies (fun vs H Q E h => ?_) (fun cdv A outer s H vs Q E hr h => ?_)
  · obtain ⟨b, g, l, n, most, m, rfl, _⟩ := h
    rfl
  · obtain ⟨b, g, l, n, most, m, rfl, B, hm, hn1, hn2, hmost, q⟩ := h
    have nd := scLTies.nd
    have hr2 : Room 2 _ := hr.mono (by decide)
    refine ⟨_, pss_cons (ps_set (i := 3) nd rfl (.inl rfl) (pe_lst pa_nil))
      (pss_cons (ps_set (i := 4) nd rfl (.inl rfl) (pe_op op_add pe_int (pe_call (ok_take T) hr2 (by rfl) T.take.g T.take.F.kp T.take.b .nil pass0 (pa_cons (pv 0) (pa_cons (pv 1) pa_nil)))))
      (pss_cons (ps_for PassesOwn.never rfl (pi_range1 (by rfl) T.zRange (pa_cons (pe_call (ok_take T) hr2 (by rfl) T.take.g T.take.F.kp T.take.b .nil pass0 (pa_cons (pv 0) (pa_cons (pe_op op_add (pv 2) pe_int) pa_nil))) pa_nil)) (pg_name (i := 5) nd rfl (.inl rfl))
        (pss_cons (ps_set (i := 6) nd rfl (.inl rfl) (pe_ix ix_list (pe_lst (pa_cons (pv 1) (pa_cons (pv 4) pa_nil))) (pe_call (ok_take T) hr2 (by rfl) T.take.g T.take.F.kp T.take.b .nil pass0 (pa_cons (pv 0) (pa_cons pe_int pa_nil))) (fun _ _ => rfl)))
        (pss_one (ps_expr (pe_bm PySem.F.plainAttrs_list PySem.F.slot_list_append PySem.F.type_list_append mt_append (pv 3) (pa_cons (pe_tup
          (pa_cons (pe_call (ok_take T) hr2 (by rfl) T.take.g T.take.F.kp T.take.b .nil pass0 (pa_cons (pv 0) (pa_cons (pv 6) pa_nil)))
          (pa_cons (pe_call (ok_take T) hr2 (by rfl) T.take.g T.take.F.kp T.take.b .nil pass0 (pa_cons (pv 0) (pa_cons (pv 1) pa_nil)))
          (pa_cons (pe_call (ok_lrest T) hr (by rfl) T.lrest.g T.lrest.F.kp T.lrest.b .nil pass0 (pa_cons (pv 0) pa_nil)) pa_nil)))) pa_nil))))))
      (pss_one (ps_ret (pv 3))))), ?_⟩
    refine ⟨Nat.zero_le _, fun a ha => ?_⟩
    have s1 := same_upd (o := .lst []) ha
    -- close
    refine ⟨_, rfl, _, rfl, b, g, l, n, m, rfl, B.same s1, by omega, hn1, by omega, fun cl H1 hcl K1 B1 => ?_⟩
    have ha1 : H1 a = some (.lst (([] : List Addr).map V.ref)) := K1 _ _ (nb_refs []) upd_same
    refine ⟨1, (cl : Int), rfl, rfl, ?_⟩
    have ecl : V.int (1 + (cl : Int)) = nv (cl + 1) := by
      show V.int (1 + (cl : Int)) = V.int ((cl + 1 : Nat) : Int)
      congr 1
      omega
    -- for k in range(take(box, most + 1))
    refine ⟨_, rfl, _, rfl, _, _, rfl, rfl, b, g, l, most + 1, m + 1, rfl, B1, by omega, by omega, by omega, fun cnt H2 hcnt K2 B2 => ?_⟩
    have ha2 := K2 _ _ (nb_refs []) ha1
    refine ⟨(cnt : Int), rfl, by omega, by omega, for_range (lo := 0) (n := cnt) (fun i σ H' => ∃ (as : List Addr) (ts : List Tie) (x5 x6 : Option V), σ = [some (.ref b), some (nv n), some (nv most), some (.ref a), some (nv (cl + 1)), x5, x6] ∧ Keep H H' ∧ BoxAt H' b g l (m + 2 + 13 * i) ∧ H' a = some (.lst (as.map V.ref)) ∧
        as.length = i ∧ ts.length = i ∧ (∀ (j : Nat) (c : Addr) (t : Tie), as[j]? = some c → ts[j]? = some t → H' c = some (tieV t)) ∧ (∀ t ∈ ts, t.1 < n ∧ t.2.1 < n) ∧ (∀ t ∈ ts, t.2.2 ≤ 1000000))
      ⟨[], [], none, none, by rw [← ecl]; rfl, (Same.kept s1).trans (K1.trans K2), B2, ha2, rfl, rfl, fun j c t h => (by simp at h), fun t h => (by cases h), fun t h => (by cases h)⟩ ?_ ?_⟩
    · rintro i σ H3 hi ⟨as, ts, x5, x6, rfl, K3, B3, ha3, hal, htl, hat, hpt, hrs⟩
      -- span
      refine ⟨_, rfl, _, rfl, (by show 2 ≤ sizeLine; decide), fun p hp => ?_⟩
      have s4 := same_upd (o := .lst (([n, cl + 1] : List Nat).map nv)) hp
      refine ⟨_, rfl, b, g, l, 2, m + 2 + 13 * i, rfl, B3.same s4, by omega, by decide, by decide, fun r H4 hr4 K4 B4 => ?_⟩
      have hsp : ∀ y ∈ ([n, cl + 1] : List Nat), 1 ≤ y ∧ y ≤ n := by
        intro y hy
        rcases List.mem_cons.mp hy with rfl | hy
        · omega
        rw [List.mem_singleton.mp hy]
        omega
      have hp4 : H4 p = some (.lst (([n, cl + 1] : List Nat).map nv)) := K4 _ _ (nb_small fun y hy => by have := hsp y hy; omega) upd_same
      obtain ⟨sp, hsp2⟩ := get_of (l := ([n, cl + 1] : List Nat)) (i := r) hr4
      obtain ⟨sp1, sp2⟩ := hsp sp (List.mem_of_getElem? hsp2)
      refine ⟨p, _, _, _, rfl, rfl, SqL.of hp4, at_nv hsp2, ?_⟩
      have K34 := (Same.kept s4).trans K4
      have ha4 := K34 _ _ (nb_refs as) ha3
      -- the tie
      refine ⟨_, rfl, .inl ⟨rfl, _, SqL.of ha4⟩, _, rfl, _, rfl, b, g, l, sp, _, rfl, B4, by omega, sp1, by omega, fun u H5 hu5 K5 B5 => ?_⟩
      refine ⟨_, rfl, _, rfl, b, g, l, n, _, rfl, B5, by omega, hn1, by omega, fun v H6 hv6 K6 B6 => ?_⟩
      refine ⟨_, rfl, b, g, l, _, rfl, B6, by omega, fun x H7 hx7 K7 B7 => ?_⟩
      refine ⟨(by show 3 ≤ sizeLine; decide), fun t ht => ?_⟩
      have s8 := same_upd (o := .tup [nv u, nv v, nv x]) ht
      have K38 := ((K34.trans K5).trans (K6.trans K7)).trans (Same.kept s8)
      have ha8 := K38 _ _ (nb_refs as) ha3
      have nta : a ≠ t := ne_of_none (((K34.trans K5).trans (K6.trans K7)) _ _ (nb_refs as) ha3) ht
      refine ⟨a, _, _, rfl, rfl, ha8, ?_, ?_⟩
      · rw [List.length_map, hal]
        exact small1000 (by omega)
      · have k9 : ∀ c o, c ≠ a → (upd H7 t (.tup [nv u, nv v, nv x])) c = some o → (upd (upd H7 t (.tup [nv u, nv v, nv x])) a (.lst (as.map V.ref ++ [.ref t]))) c = some o := fun c o hc e => by
          rw [upd_ne hc]
          exact e
        refine ⟨as ++ [t], ts ++ [(u, v, x)], _, _, rfl, fun c o nb e => ?_, ?_, ?_, ?_, ?_, ?_, ?_, ?_⟩
        · exact k9 c o (ne_of_none e ha) (K38 c o nb (K3 c o nb e))
        · obtain ⟨n1, n2, n3⟩ := B.there ha
          exact ((B7.same s8).off n1 n2 n3).le (by omega)
        · rw [upd_same, List.map_append]
          rfl
        · rw [List.length_append, hal]
          rfl
        · rw [List.length_append, htl]
          rfl
        · intro j c t' hj ht'
          by_cases cj : j < i
          · rw [List.getElem?_append_left (by omega)] at hj ht'
            have h3 := hat j c t' hj ht'
            have nca : c ≠ a := ne_of h3 ha3 (by intro z; cases z)
            exact k9 c _ nca (K38 c _ (nb_tup _) h3)
          · rw [List.getElem?_append_right (by omega)] at hj ht'
            have j0 : j - as.length = 0 := by
              have := get_lt hj
              rw [List.length_singleton] at this
              omega
            have j1 : j - ts.length = 0 := by omega
            rw [j0] at hj
            rw [j1] at ht'
            have e1 : t = c := Option.some.inj hj
            have e2 : (u, v, x) = t' := Option.some.inj ht'
            subst e1 e2
            exact k9 t _ nta.symm upd_same
        · intro t' ht'
          rcases List.mem_append.mp ht' with z | z
          · exact hpt t' z
          · rw [List.mem_singleton.mp z]
            exact ⟨by show u < n; omega, hv6⟩
        · intro t' ht'
          rcases List.mem_append.mp ht' with z | z
          · exact hrs t' z
          · rw [List.mem_singleton.mp z]
            exact hx7
    · rintro σ H3 ⟨as, ts, x5, x6, rfl, K3, B3, ha3, hal, htl, hat, hpt, hrs⟩
      refine ⟨_, rfl, ?_⟩
      exact q a ts H3 K3 (B3.le (by omega)) ⟨as, ha3, by omega, hat⟩ (by omega) hpt hrs
end
end K12

/-! A list's slice by each fifth item. -/
namespace K12
open PySem L2 PySem.Spec PyProof.Rows
def fifths {α : Type} (xs : List α) : List α := ((List.range ((xs.length + 4) / 5)).map fun k => 5 * k).filterMap fun i => xs[i]?
theorem fifths_map {α β : Type} (f : α → β) (xs : List α) : fifths (xs.map f) = (fifths xs).map f := by
  unfold fifths
  rw [List.length_map, List.map_filterMap]
  congr 1
  funext i
  rw [List.getElem?_map]
theorem fifths_mem {α : Type} {xs : List α} {x : α} (h : x ∈ fifths xs) : x ∈ xs := by
  unfold fifths at h
  obtain ⟨i, _, e⟩ := List.mem_filterMap.mp h
  exact List.mem_of_getElem? e
theorem fifths_len {α : Type} (xs : List α) : (fifths xs).length ≤ xs.length := by
  unfold fifths
  refine Nat.le_trans (List.length_filterMap_le _ _) ?_
  rw [List.length_map, List.length_range]
  omega
theorem fifths_head {α : Type} (x : α) (xs : List α) : ∃ ys, fifths (x :: xs) = x :: ys := by
  unfold fifths
  have e : ((x :: xs).length + 4) / 5 = (xs.length) / 5 + 1 := by
    rw [List.length_cons]
    omega
  rw [e, List.range_succ_eq_map, List.map_cons, List.filterMap_cons]
  exact ⟨_, rfl⟩
theorem fifths_pick (its : Array Value) : slicePick its none none (some 5) = (fifths its.toList).toArray := by
  unfold slicePick fifths
  have eb : sliceBounds none none (some 5) its.size = (0, (its.size : Int), 5) := rfl
  rw [eb]
  have er : sliceRange 0 (its.size : Int) 5 = (List.range ((its.size + 4) / 5)).map fun k => 5 * k := by
    unfold sliceRange
    by_cases h : (0 : Int) < (its.size : Int)
    · have ec : (((its.size : Int) - 0 + 5 - 1) / 5).toNat = (its.size + 4) / 5 := by omega
      simp only [show (5 : Int) > 0 from by decide, if_true, h, ec]
      refine List.map_congr_left fun k _ => ?_
      omega
    · have e0 : its.size = 0 := by omega
      rw [e0]
      rfl
  show ((sliceRange 0 (its.size : Int) 5).filterMap fun i => its[i]?).toArray = _
  rw [er, Array.length_toList]
  have ef : (fun i : Nat => its[i]?) = fun i => its.toList[i]? := by
    funext i
    rw [Array.getElem?_toList]
  rw [ef]
theorem vals_fifths {xs : List V} {us : List Value} (r : Vals xs us) : Vals (fifths xs) (fifths us) := by
  have key : ∀ l : List Nat, Vals (l.filterMap fun i => xs[i]?) (l.filterMap fun i => us[i]?) := by
    intro l
    induction l with
    | nil => exact .nil
    | cons i l ih =>
      rw [List.filterMap_cons, List.filterMap_cons]
      cases hx : xs[i]? with
      | none =>
        rw [r.none_of hx]
        exact ih
      | some x =>
        obtain ⟨u, hu, q⟩ := r.get hx
        rw [hu]
        exact .cons q ih
  unfold fifths
  rw [r.length]
  exact key _
/-- xs[::5] -/
def tFifths (K : PySem.W.Frag) (te : TE) : TE := fun σ H Q => te σ H fun x H1 => ∃ a xs, x = .ref a ∧ SqL K H1 a xs ∧ ∀ p, H1 p = none → Q (.ref p) (upd H1 p (.lst (fifths xs)))
theorem pe_fifths {X : Cx} {e : Expr} {te : TE} {k : Nat} {pn ps pe_ : Pos} (he : PE X e te) : PE X (.Subscript e (.Slice none none (some (.Constant (.int 5) k pn)) ps) pe_) (tFifths X.K te) := by
  constructor
  intro pins s0 σ H Q inv hq
  apply Subscript_
  refine thn (he.run pins s0 σ H _ inv hq) ?_
  rintro val s1 ⟨x, Ha, inv1, rel, a, xs, rfl, hsq, fin⟩
  cases rel
  have five : PO X (some (.Constant (.int 5) k pn)) (tPart (tC (.int 5))) := po_some pe_int
  apply wpAny_Slice
  refine thn (po_none.run pins s1 σ Ha (fun o Hb => o = none ∧ Hb = Ha) inv1 ⟨rfl, rfl⟩) ?_
  rintro w1 s2 ⟨_, _, inv2, part1, rfl, rfl⟩
  refine thn (po_none.run pins s2 σ _ (fun o Hb => o = none ∧ Hb = _) inv2 ⟨rfl, rfl⟩) ?_
  rintro w2 s3 ⟨_, _, inv3, part2, rfl, rfl⟩
  refine thn (five.run pins s3 σ _ (fun o Hb => o = some 5 ∧ Hb = _) inv3 ⟨5, rfl, rfl, rfl⟩) ?_
  rintro w3 s4 ⟨_, Hz, inv4, part3, rfl, rfl⟩
  -- the slice object is laid; it is not tracked
  have inv5 : Inv X pins σ Hz { s4 with heap := s4.heap.push { cls := .type "slice", data := .fields #[w1, w2, w3] } } :=
    inv4.kept (t' := s4.toks) (fun _ _ q => Heap.get?_push_of_some _ q)
  obtain ⟨its, vals, isl, room⟩ := inv5.list hsq
  have same_len := vals.length
  show wpAny (model X.prog X.w) X.A (subscriptTail e (.Slice none none (some (.Constant (.int 5) k pn)) ps) (.ref a) (.ref s4.heap.objs.size)) (EP X pins σ Q) X.xe _
  refine tail_any (ops := [.ref a, .ref s4.heap.objs.size]) isl.isList.typeIs PySem.slot_list_getitem.lookup ?_ (by with_unfolding_all rfl)
  refine wpAny_getItem_list_slice isl.isList (Heap.IsSliceOf.new _ w1 w2 w3) part1 part2 part3 (by decide) ?_ ?_
  · rw [fifths_pick]
    refine ⟨.ref _, _, inv5.laid (t' := s4.toks) (o := .lst (fifths xs)) (fun _ _ q => Heap.get?_push_of_some _ q) (Nat.le_refl _) ?_, rfl, fin _ (inv5.hok.fresh (Nat.le_refl _))⟩
    exact ⟨Nat.le_trans (fifths_len xs) room, _, 0, vals_fifths vals, Heap.get?_push_size _ rfl⟩
  · rw [List.size_toArray]
    omega
end K12

/-! law. -/
namespace K12
open PySem L2
theorem way_lt {ts : List Tie} {D : Nat → Prop} : ∀ {w : List Nat} {u v : Nat}, Way ts D u w v → ∀ t ∈ w, t < ts.length
  | [], _, _, _, t, h => by cases h
  | x :: r, u, v, ⟨q, h1, _, _, h4⟩, t, h => by
    rcases List.mem_cons.mp h with rfl | h
    · exact get_lt h1
    · exact way_lt h4 t h
theorem PaperAt.kept {H H' : Hp} {a : Addr} {n u v : Nat} {ts : List Tie} {p : Paper} (h : PaperAt H a p) (hG : Good n ts u v p) (hl : ts.length ≤ 1000) (hv : v < n) (s : Keep H H') : PaperAt H' a p := by
  obtain ⟨l, h1, h2⟩ := h
  refine ⟨l, s _ _ (nb_tup _) h1, ?_⟩
  cases p with
  | ways ws =>
    obtain ⟨as, g1, g2, g3⟩ := h2
    refine ⟨as, s _ _ (nb_refs _) g1, g2, fun i b w e1 e2 => s _ _ (nb_small fun x hx => ?_) (g3 i b w e1 e2)⟩
    have := way_lt (hG.2 w (List.mem_of_getElem? e2)) x hx
    omega
  | cas c =>
    refine s _ _ (nb_ints fun x _ _ => ⟨0, ?_, by decide⟩) h2
    obtain ⟨y, hy⟩ := get_of (l := c) (i := v) (by rw [hG.1]; exact hv)
    have := hG.2.2
    rw [List.getD_eq_getElem?_getD, hy] at this
    have e : y = 0 := this
    rw [← e]
    exact List.mem_of_getElem? hy
/-- what stands ahead of the papers -/
structure LawSt (C : Addr) (H : Hp) (n : Nat) (ts : List Tie) (u v : Nat) (lt pw lp : Addr) : Prop where
  T : TiesAt H lt ts
  W : WebAt C H pw n ts
  P : H lp = some (.tup [nv u, nv v])
theorem LawSt.keep {C : Addr} {H H' : Hp} {n : Nat} {ts : List Tie} {u v : Nat} {lt pw lp : Addr} (L : LawSt C H n ts u v lt pw lp) (s : Same H H') : LawSt C H' n ts u v lt pw lp := ⟨L.T.keep s, L.W.keep s, s _ _ L.P⟩
theorem LawSt.kept {C : Addr} {H H' : Hp} {n : Nat} {ts : List Tie} {u v : Nat} {lt pw lp : Addr} (L : LawSt C H n ts u v lt pw lp) (s : Keep H H') : LawSt C H' n ts u v lt pw lp := ⟨L.T.kept s, L.W.kept s, s _ _ (nb_tup _) L.P⟩
/-- the wished rests and their papers, as data -/
structure PapOk (n : Nat) (ts : List Tie) (u v : Nat) (ws : List Nat) (pps : List Paper) : Prop where
  wl : ws.length ≤ 1000
  w1 : 0 < ws.length
  wb : ∀ x ∈ ws, x ≤ 1000000
  pl : pps.length = ws.length
  bp : ∀ (i b : Nat) (p : Paper), ws[i]? = some b → pps[i]? = some p → BP n ts (closureOf n ts) u v b p
/-- .. and as they stand -/
structure PapSt (H : Hp) (lw la lo : Addr) (ws : List Nat) (as : List Addr) (pps : List Paper) : Prop where
  w : IntsAt H lw ws
  a : H la = some (.lst (as.map V.ref))
  al : as.length = ws.length
  o : H lo = some (.lst ((pps.map wordOf).map V.str))
  pa : ∀ (i : Nat) (c : Addr) (p : Paper), as[i]? = some c → pps[i]? = some p → PaperAt H c p
theorem PapSt.keep {H H' : Hp} {lw la lo : Addr} {ws : List Nat} {as : List Addr} {pps : List Paper} (L : PapSt H lw la lo ws as pps) (s : Same H H') : PapSt H' lw la lo ws as pps :=
  ⟨s _ _ L.w, s _ _ L.a, L.al, s _ _ L.o, fun i c p e1 e2 => (L.pa i c p e1 e2).keep s⟩
theorem PapSt.kept {H H' : Hp} {lw la lo : Addr} {n u v : Nat} {ts : List Tie} {ws : List Nat} {as : List Addr} {pps : List Paper} (L : PapSt H lw la lo ws as pps) (O : PapOk n ts u v ws pps) (hl : ts.length ≤ 1000) (hv : v < n) (s : Keep H H') : PapSt H' lw la lo ws as pps :=
  ⟨s _ _ (nb_small fun x hx => Nat.lt_of_le_of_lt (O.wb x hx) (by decide)) L.w, s _ _ (nb_refs _) L.a, L.al, s _ _ (nb_strs _) L.o, fun i c p e1 e2 => by
    obtain ⟨b, hb⟩ := get_of (l := ws) (i := i) (by rw [← O.pl]; exact get_lt e2)
    exact (L.pa i c p e1 e2).kept (O.bp i b p hb e2).good hl hv s⟩
def sg (a b : Addr) (wd : Bool) (n : Nat) (lt pw lp : Addr) (bo : Nat) (lw la lo : Addr) (x11 x12 x13 x14 x15 x16 x17 x18 x19 : Option V) : St :=
  [some (.ref a), some (.ref b), some (.bl wd), some (nv n), some (.ref lt), some (.ref pw), some (.ref lp), some (nv bo), some (.ref lw), some (.ref la), some (.ref lo), x11, x12, x13, x14, x15, x16, x17, x18, x19]
@[irreducible] def under (x : Nat) : Bool := decide (x ≤ 1000000)
theorem under_iff (x : Nat) : under x = true ↔ x ≤ 1000000 := by
  unfold under
  exact decide_eq_true_iff
/-- all but what stands at D -/
def Off (D : Addr) (H : Hp) : Hp := fun x => if x = D then none else H x
theorem Off.get {D x : Addr} {H : Hp} {o : HO} (e : Off D H x = some o) : x ≠ D ∧ H x = some o := by
  unfold Off at e
  by_cases c : x = D
  · rw [if_pos c] at e
    cases e
  · rw [if_neg c] at e
    exact ⟨c, e⟩
theorem Off.of {D x : Addr} {H : Hp} {o : HO} (c : x ≠ D) (e : H x = some o) : Off D H x = some o := by
  unfold Off
  rw [if_neg c]
  exact e
theorem Off.same (D : Addr) (H : Hp) : Same (Off D H) H := fun _ _ e => (Off.get e).2
theorem Off.mono {D : Addr} {H H' : Hp} (s : Same H H') : Same (Off D H) (Off D H') := fun _ _ e => Off.of (Off.get e).1 (s _ _ (Off.get e).2)
theorem Off.upd {D : Addr} {H : Hp} {o : HO} : Same (Off D H) (Off D (upd H D o)) := fun _ _ e => Off.of (Off.get e).1 (by rw [upd_ne (Off.get e).1]; exact (Off.get e).2)
theorem Dif.off {D : Addr} {H H' : Hp} {o : HO} (h : H D = some o) : Same (Dif H H') (Off D H') := fun x _ e => Off.of (fun z => by
  have := (Dif.get e).1
  rw [z, h] at this
  cases this) (Dif.get e).2
theorem flat_nats (ws : List Nat) : (ws.map nv).all flatV = true := by
  rw [List.all_map, List.all_eq_true]
  exact fun _ _ => rfl
theorem eqV_nv (x y : Nat) : eqV (nv x) (nv y) = decide (x = y) := by
  show ((x : Int) == (y : Int)) = decide (x = y)
  rw [Bool.eq_iff_iff, beq_iff_eq, decide_eq_true_eq]
  omega
theorem in_nats (x : Nat) (ws : List Nat) : inV (nv x) (ws.map nv) = decide (x ∈ ws) := by
  unfold inV
  rw [List.any_map, Bool.eq_iff_iff, List.any_eq_true, decide_eq_true_eq]
  constructor
  · rintro ⟨y, hy, e⟩
    have e : eqV (nv y) (nv x) = true := e
    rw [eqV_nv] at e
    rw [← of_decide_eq_true e]
    exact hy
  · intro h
    exact ⟨x, h, by show eqV (nv x) (nv x) = true; rw [eqV_nv]; exact decide_eq_true rfl⟩
theorem first_at : ∀ {ws : List Nat} {x : Nat}, x ∈ ws → ∃ j : Nat, ws[j]? = some x ∧ ∀ (m y : Nat), m < j → ws[m]? = some y → y ≠ x
  | a :: r, x, h => by
    by_cases c : a = x
    · exact ⟨0, by rw [c]; rfl, fun m y hm => absurd hm (Nat.not_lt_zero _)⟩
    · have hx : x ∈ r := (List.mem_cons.mp h).resolve_left fun z => c z.symm
      obtain ⟨j, h1, h2⟩ := first_at hx
      refine ⟨j + 1, h1, fun m y hm hy => ?_⟩
      cases m with
      | zero =>
        have e : a = y := Option.some.inj hy
        rw [← e]
        exact c
      | succ m => exact h2 m y (by omega) hy
theorem at_word {pps : List Paper} {i : Nat} {p : Paper} (h : pps[i]? = some p) : ((pps.map wordOf).map V.str)[i]? = some (.str (wordOf p)) := by
  rw [List.getElem?_map, List.getElem?_map, h]
  rfl
theorem way_word {p : Paper} : wordOf p = ("ways" : Str) ↔ p.isWays = true := by
  cases p with
  | ways ws => exact ⟨fun _ => rfl, fun _ => rfl⟩
  | cas c => exact ⟨fun z => absurd z (by decide +kernel : ¬ ("case" : Str) = ("ways" : Str)), fun z => (by cases z)⟩
theorem case_word {p : Paper} : wordOf p = ("case" : Str) ↔ p.isWays = false := by
  cases p with
  | ways ws => exact ⟨fun z => absurd z (by decide +kernel : ¬ ("ways" : Str) = ("case" : Str)), fun z => (by cases z)⟩
  | cas c => exact ⟨fun _ => rfl, fun _ => rfl⟩
theorem word_ix {p : Paper} {D : Prop} [Decidable D] (h : p.isWays = true ↔ D) : atI [V.str "case", V.str "ways"] (if decide D = true then 1 else 0) = some (.str (wordOf p)) := by
  by_cases d : D
  · rw [decide_eq_true d, way_word.mpr (h.mpr d)]
    rfl
  · have e : p.isWays = false := by
      cases hb : p.isWays with
      | true => exact absurd (h.mp hb) d
      | false => rfl
    rw [decide_eq_false d, case_word.mpr e]
    rfl
def binArg (r : Bool) : Expr → Expr
  | .BinOp a _ b _ => if r then b else a
  | e => e
section
variable {P : Program} {w : World} {K : PySem.W.Frag} {mg : Str → Option Value} {base : Heap}
abbrev nLaw : List Str := ["_law_script", "_law_box_here", "_law_wide", "_law_many", "_law_ties_here", "_law_web", "_law_pair", "_law_bond", "_law_wished", "_law_papers", "_law_words", "_law_k", "_law_by", "_law_holds", "_law_j", "_law_other", "_law_both", "_law_turn", "_law_paper", "_law_due"]
theorem scLaw : FnScope nLaw ["_law_script"] (defScope sLaw) := ⟨rfl, rfl, rfl, by decide +kernel, rfl, by decide +kernel, by decide +kernel⟩
abbrev lawSt (i : Nat) : Stmt := stAt (defBody sLaw) i
theorem bkMul : BlkOk nLaw (defScope sLaw) (lcScope (binArg true (binArg false (asgVal (lawSt 7))))) [("_law_k", 11)] := blkOk_by (by decide +kernel)
theorem bkDiv : BlkOk nLaw (defScope sLaw) (lcScope (binArg true (asgVal (lawSt 7)))) [("_law_k", 11)] := blkOk_by (by decide +kernel)
theorem bkCut : BlkOk nLaw (defScope sLaw) (lcScope (asgVal (lawSt 8))) [("_law_by", 12)] := blkOk_by (by decide +kernel)
theorem bkPap : BlkOk nLaw (defScope sLaw) (lcScope (asgVal (lawSt 10))) [("_law_by", 12)] := blkOk_by (by decide +kernel)
theorem bkWords : BlkOk nLaw (defScope sLaw) (lcScope (asgVal (lawSt 11))) [("_law_paper", 18)] := blkOk_by (by decide +kernel)
theorem ixt {X : Cx} {K : PySem.W.Frag} (h : X.K = K := by rfl) : IxR X (rIxT K) := h ▸ ix_tup
def spLaw (K : PySem.W.Frag) : Sp := fun vs H Q _ => ∃ (a : Addr) (ns : List Int), vs = [.ref a] ∧ SqL K H a (ns.map V.int) ∧ ns.length ≤ 63 ∧ ∀ H', Q (.bl true) H'
theorem ok_law (T : Txt K mg) {f : Addr} {fd : FuncData} (F : Fun K "law" "law" sLaw f fd) : FnOk P w K mg base CX0 6 f fd ["_law_script"] (spLaw K) := by
  refine F.ok scLaw (fun vs H Q E h => ?_) (fun cdv A outer s H vs Q E hr h => ?_)
  · obtain ⟨a, ns, rfl, _⟩ := h
    rfl
  · obtain ⟨a, ns, rfl, hS, hlen, q⟩ := h
    have nd := scLaw.nd
    have hr1 : Room 1 _ := hr.mono (by decide)
    have hr2 : Room 2 _ := hr.mono (by decide)
    have hr3 : Room 3 _ := hr.mono (by decide)
    have hr4 : Room 4 _ := hr.mono (by decide)
    refine ⟨_, pss_cons (ps_set (i := 1) nd rfl (.inl rfl) (pe_call (ok_box T) hr1 (by rfl) T.box.g T.box.F.kp T.box.b .nil pass0 (pa_cons (pv 0) pa_nil)))
      (C8.pss_cut (ps_set (i := 2) nd rfl (.inl rfl) (pe_cmpR op_eq (pe_call (ok_take T) hr2 (by rfl) T.take.g T.take.F.kp T.take.b .nil pass0 (pa_cons (pv 1) (pa_cons pe_int pa_nil))) pe_int (nomark _)))
      (C8.pss_cut (ps_set (i := 3) nd rfl (.inl rfl) (pe_op op_add pe_int (pe_call (ok_take T) hr2 (by rfl) T.take.g T.take.F.kp T.take.b .nil pass0 (pa_cons (pv 1) (pa_cons (pe_ix ix_list (pe_lst (pa_cons pe_int (pa_cons pe_int pa_nil))) (pe_callTy call_int1 (by rfl) T.zInt (by decide +kernel) (pa_cons (pv 2) pa_nil)) (fun _ _ => rfl)) pa_nil)))))
      (pss_cons (ps_set (i := 4) nd rfl (.inl rfl) (pe_call (ok_lties T) hr4 (by rfl) T.lties.g T.lties.F.kp T.lties.b .nil pass0 (pa_cons (pv 1) (pa_cons (pv 3) (pa_cons (pe_ix ix_list (pe_lst (pa_cons pe_int (pa_cons pe_int pa_nil))) (pe_callTy call_int1 (by rfl) T.zInt (by decide +kernel) (pa_cons (pv 2) pa_nil)) (fun _ _ => rfl)) pa_nil)))))
      (pss_cons (ps_set (i := 5) nd rfl (.inr rfl) (pe_make T.MI (ok_wInit T) hr (by rfl) T.mgC T.bI .nil pass0 (pa_cons (pv 3) (pa_cons (pv 4) pa_nil))))
      (pss_cons (ps_set (i := 6) nd rfl (.inr rfl) (pe_tup (pa_cons (pe_call (ok_take T) hr2 (by rfl) T.take.g T.take.F.kp T.take.b .nil pass0 (pa_cons (pv 1) (pa_cons (pv 3) pa_nil))) (pa_cons (pe_call (ok_take T) hr2 (by rfl) T.take.g T.take.F.kp T.take.b .nil pass0 (pa_cons (pv 1) (pa_cons (pv 3) pa_nil))) pa_nil))))
      (C8.pss_cut (ps_set (i := 7) nd rfl (.inr rfl) (pe_meth (pv 5) T.cl T.wBond.m (ok_wBond T) hr3 T.wBond.b .nil pass0 (pa_cons (pe_ix ix_tup (pv 6) pe_int (fun _ _ => rfl)) (pa_cons (pe_ix ix_tup (pv 6) pe_int (fun _ _ => rfl)) pa_nil))))
      (C8.pss_cut (ps_set (i := 8) nd rfl (.inl rfl) (pe_op op_cat (pe_op op_cat (pe_listRg rfl (by rfl) T.zList (prg_1 (by rfl) T.zRange pe_int))
          (pe_lc (own := [("_law_k", 11)]) (g := gName 11) rfl nd (pi_list (pe_lst (pa_cons pe_int (pa_cons pe_int (pa_cons pe_int (pa_cons pe_int (pa_cons pe_int pa_nil))))))) bkMul
            (fun _ _ _ _ _ => pg_name (i := 11) nd rfl (Or.inl rfl)) (fun _ _ _ _ _ => pts_nil) (fun _ _ _ _ _ => pe_op op_mul (pv 7) (pv 11))))
          (pe_lc (own := [("_law_k", 11)]) (g := gName 11) rfl nd (pi_list (pe_lst (pa_cons pe_int (pa_cons pe_int (pa_cons pe_int (pa_cons pe_int pa_nil)))))) bkDiv
            (fun _ _ _ _ _ => pg_name (i := 11) nd rfl (Or.inl rfl)) (fun _ _ _ _ _ => pts_nil) (fun _ _ _ _ _ => pe_op op_fdivW (pv 7) (pv 11)))))
      (C8.pss_cut (ps_setLc (i := 8) (own := [("_law_by", 12)]) (g := gName 12) rfl nd rfl rfl (sw_true rfl rfl rfl (by decide +kernel)) (pi_list (pv 8)) bkCut
          (fun _ _ _ _ _ => pg_name (i := 12) nd rfl (Or.inl rfl)) (fun _ _ _ _ _ => pts_one (pt_cmpR op_lt (pv 12) pe_int (nomark _))) (fun _ _ _ _ _ => pv 12))
      (C8.pss_cut (ps_if (pt_val (pv 2)) (pss_one (ps_set (i := 8) nd rfl (.inl rfl) (pe_fifths (pv 8)))) pss_nil)
      (C8.pss_cut (ps_setLc (i := 9) (own := [("_law_by", 12)]) (g := gName 12) rfl nd rfl rfl (sw_true rfl rfl rfl (by decide +kernel)) (pi_list (pv 8)) bkPap
          (fun _ _ _ _ _ => pg_name (i := 12) nd rfl (Or.inl rfl)) (fun _ _ _ _ _ => pts_nil)
          (fun _ _ _ _ _ => pe_callN (ok_bondPaper T) hr (by rfl) T.bondPaper.g T.bondPaper.F.kp T.bondPaper.b pass0 (pa_cons (pv 5) (pa_cons (pe_ix (ixt (K := K)) (pv 6) pe_int (fun _ _ => rfl)) (pa_cons (pe_ix (ixt (K := K)) (pv 6) pe_int (fun _ _ => rfl)) pa_nil))) (pk_cons (pv 12) pk_nil)))
      (C8.pss_cut (ps_setLc (i := 10) (own := [("_law_paper", 18)]) (g := gName 18) rfl nd rfl rfl (sw_true rfl rfl rfl (by decide +kernel)) (pi_list (pv 9)) bkWords
          (fun _ _ _ _ _ => pg_name (i := 18) nd rfl (Or.inl rfl)) (fun _ _ _ _ _ => pts_nil) (fun _ _ _ _ _ => pe_ix (ixt (K := K)) (pv 18) pe_int (fun _ _ => rfl)))
      (C8.pss_cut (ps_for PassesOwn.never rfl (pi_range1 (by rfl) T.zRange (pa_cons (pe_callB call_len_seq (by rfl) T.zLen PySem.boot_len (pa_cons (pv 8) pa_nil)) pa_nil)) (pg_name (i := 11) nd rfl (.inl rfl))
          (pss_cons (ps_set (i := 12) nd rfl (.inl rfl) (pe_ix ix_list (pv 8) (pv 11) (fun _ _ => rfl)))
          (C8.pss_cut (ps_set (i := 13) nd rfl (.inl rfl) (pe_or (pe_cmpR op_eq (pv 7) pe_int (nomark _)) (pe_one (pe_and (pe_cmpR op_gt (pv 12) pe_int (nomark _)) (pe_one (pe_cmpR op_eq (pe_op op_mod (pv 7) (pv 12)) pe_int (nomark _)))))))
          (C8.pss_cut (ps_if (PW.pt (pw_or (pt_cmpR op_ne (pe_ix ix_list (pv 10) (pv 11) (fun _ _ => rfl)) (pe_ix ix_list (pe_lst (pa_cons pe_str (pa_cons pe_str pa_nil))) (pe_callTy call_int1 (by rfl) T.zInt (by decide +kernel) (pa_cons (pv 13) pa_nil)) (fun _ _ => rfl)) (nomark _))
              (pw_or1 (pt_not (pt_val (pe_call (ok_shows T) hr3 (by rfl) T.shows.g T.shows.F.kp T.shows.b .nil pass0 (pa_cons (pv 3) (pa_cons (pv 4) (pa_cons (pv 6) (pa_cons (pv 12) (pa_cons (pe_ix ix_list (pv 9) (pv 11) (fun _ _ => rfl)) pa_nil))))))))))) (pss_one (ps_ret pe_bl)) pss_nil)
          (pss_one (ps_for PassesOwn.never rfl (pi_range1 (by rfl) T.zRange (pa_cons (pe_callB call_len_seq (by rfl) T.zLen PySem.boot_len (pa_cons (pv 8) pa_nil)) pa_nil)) (pg_name (i := 14) nd rfl (.inl rfl))
            (pss_cons (ps_set (i := 15) nd rfl (.inl rfl) (pe_ix ix_list (pv 8) (pv 14) (fun _ _ => rfl)))
            (C8.pss_cut (ps_if (PW.pt (pw_and (pt_cmpR op_eq (pe_ix ix_list (pv 10) (pv 11) (fun _ _ => rfl)) pe_str (nomark _)) (pw_and (pt_cmpR op_eq (pe_ix ix_list (pv 10) (pv 14) (fun _ _ => rfl)) pe_str (nomark _))
                (pw_and1 (PW.pt (pw_or (pt_cmpR op_eq (pv 12) pe_int (nomark _)) (pw_or1 (PW.pt (pw_and (pt_cmpR op_gt (pv 15) pe_int (nomark _)) (pw_and1 (pt_cmpR op_eq (pe_op op_mod (pv 12) (pv 15)) pe_int (nomark _)))))))))))) (pss_one (ps_ret pe_bl)) pss_nil)
            (pss_cons (ps_set (i := 16) nd rfl (.inl rfl) (pe_call (ok_llcm T) hr2 (by rfl) T.llcm.g T.llcm.F.kp T.llcm.b .nil pass0 (pa_cons (pv 12) (pa_cons (pv 15) pa_nil))))
            (pss_one (ps_if (PW.pt (pw_and (pt_chain op_eq op_eq (pe_ix ix_list (pv 10) (pv 11) (fun _ _ => rfl)) (pe_ix ix_list (pv 10) (pv 14) (fun _ _ => rfl)) pe_str) (pw_and (pt_cmpR op_in_seq (pv 16) (pv 8) (by rfl))
                (pw_and1 (pt_cmpR op_ne (pe_ix ix_list (pv 10) (pe_bm PySem.F.plainAttrs_list PySem.F.slot_list_index PySem.F.type_list_index mt_index (pv 8) (pa_cons (pv 16) pa_nil)) (fun _ _ => rfl)) pe_str (nomark _)))))) (pss_one (ps_ret pe_bl)) pss_nil)))))))))))
      (C8.pss_cut (ps_for PassesOwn.never rfl (pi_range1 (by rfl) T.zRange (pa_cons pe_int pa_nil)) (pg_name (i := 17) nd rfl (.inl rfl))
          (pss_cons (ps_set (i := 18) nd rfl (.inl rfl) (pe_ix ix_list (pv 9) (pe_call (ok_take T) hr2 (by rfl) T.take.g T.take.F.kp T.take.b .nil pass0 (pa_cons (pv 1) (pa_cons (pe_callB call_len_seq (by rfl) T.zLen PySem.boot_len (pa_cons (pv 9) pa_nil)) pa_nil))) (fun _ _ => rfl)))
          (pss_cons (ps_set (i := 12) nd rfl (.inl rfl) (pe_ix ix_list (pv 8) (pe_call (ok_take T) hr2 (by rfl) T.take.g T.take.F.kp T.take.b .nil pass0 (pa_cons (pv 1) (pa_cons (pe_callB call_len_seq (by rfl) T.zLen PySem.boot_len (pa_cons (pv 8) pa_nil)) pa_nil))) (fun _ _ => rfl)))
          (pss_cons (ps_set (i := 19) nd rfl (.inl rfl) (pe_call (ok_shows T) hr3 (by rfl) T.shows.g T.shows.F.kp T.shows.b .nil pass0 (pa_cons (pv 3) (pa_cons (pv 4) (pa_cons (pv 6) (pa_cons (pv 12) (pa_cons (pv 18) pa_nil)))))))
          (pss_cons (ps_if (pt_not (pt_val (pe_call (ok_says T) hr1 (by rfl) T.says.g T.says.F.kp T.says.b .nil pass0 (pa_cons
              (pe_callN (ok_isBondPaper T) hr4 (by rfl) T.isBondPaper.g T.isBondPaper.F.kp T.isBondPaper.b pass0 (pa_cons (pv 5) (pa_cons (pe_ix ix_tup (pv 6) pe_int (fun _ _ => rfl)) (pa_cons (pe_ix ix_tup (pv 6) pe_int (fun _ _ => rfl)) (pa_cons (pv 18) pa_nil)))) (pk_cons (pv 12) pk_nil))
              (pa_cons (pv 19) pa_nil))))) (pss_one (ps_ret pe_bl)) pss_nil)
          (pss_one (ps_if (PW.pt (pw_and (pt_cmpR op_eq (pe_ix ix_tup (pv 18) pe_int (fun _ _ => rfl)) pe_str (nomark _)) (pw_and1 (pt_val (pe_call (ok_shows T) hr3 (by rfl) T.shows.g T.shows.F.kp T.shows.b .nil pass0 (pa_cons (pv 3) (pa_cons (pv 4) (pa_cons (pv 6) (pa_cons (pv 12) (pa_cons (pv 18) pa_nil)))))))))) 
            (pss_one (ps_if (pt_cmpR op_ne (pe_ix ix_tup (pe_callN (ok_bondPaper T) hr (by rfl) T.bondPaper.g T.bondPaper.F.kp T.bondPaper.b pass0 (pa_cons (pv 5) (pa_cons (pe_ix ix_tup (pv 6) pe_int (fun _ _ => rfl)) (pa_cons (pe_ix ix_tup (pv 6) pe_int (fun _ _ => rfl)) pa_nil))) (pk_cons (pv 12) pk_nil)) pe_int (fun _ _ => rfl)) pe_str (nomark _)) (pss_one (ps_ret pe_bl)) pss_nil)) pss_nil)))))))
      (pss_one (ps_ret pe_bl))))))))))))))), ?_⟩
    -- box
    refine ⟨_, rfl, a, ns, rfl, hS, hlen, fun b g l H1 s1 B1 => ?_⟩
    -- wide
    refine ⟨fun σ2 H2 => ∃ wd : Bool, σ2 = [some (.ref a), some (.ref b), some (.bl wd), none, none, none, none, none, none, none, none, none, none, none, none, none, none, none, none, none] ∧ BoxAt H2 b g l 1, ?_, ?_⟩
    · exact ⟨_, rfl, b, g, l, 8, 0, rfl, B1, by decide, by decide, by decide, fun r H2 _ _ B2 => ⟨rfl, _, rfl, B2⟩⟩
    rintro σ2 H2 ⟨wd, rfl, B2⟩
    -- many
    refine ⟨fun σ3 H3 => ∃ n : Nat, σ3 = [some (.ref a), some (.ref b), some (.bl wd), some (nv n), none, none, none, none, none, none, none, none, none, none, none, none, none, none, none, none] ∧ 1 ≤ n ∧ n ≤ 24 ∧ BoxAt H3 b g l 2, ?_, ?_⟩
    · refine ⟨_, rfl, (by show 2 ≤ sizeLine; decide), fun p hp => ?_⟩
      obtain ⟨x, hx1, hx2, hat⟩ : ∃ x, 1 ≤ x ∧ x ≤ 23 + 1 ∧ atI (([8, 24] : List Nat).map nv) (if wd = true then 1 else 0) = some (nv x) := by
        cases wd with
        | true => exact ⟨24, by decide, by decide, rfl⟩
        | false => exact ⟨8, by decide, by decide, rfl⟩
      have sp := same_upd (o := .lst (([8, 24] : List Nat).map nv)) hp
      refine ⟨_, rfl, .inr ⟨wd, rfl, p, _, _, _, rfl, rfl, SqL.of upd_same, hat, b, g, l, x, 1, rfl, B2.same sp, by decide, hx1, by omega, fun r H3 hr3 _ B3 => ?_⟩⟩
      refine ⟨1, (r : Int), rfl, rfl, r + 1, ?_, by omega, by omega, B3⟩
      have e : (1 : Int) + (r : Int) = ((r + 1 : Nat) : Int) := by omega
      show [some (.ref a), some (.ref b), some (.bl wd), some (V.int ((1 : Int) + (r : Int))), none, none, none, none, none, none, none, none, none, none, none, none, none, none, none, none] = _
      rw [e]
    rintro σ3 H3 ⟨n, rfl, hn1, hn2, B3⟩
    -- ties
    obtain ⟨most, hmost, hat⟩ : ∃ x, x ≤ 60 ∧ atI (([14, 60] : List Nat).map nv) (if wd = true then 1 else 0) = some (nv x) := by
      cases wd with
      | true => exact ⟨60, by decide, rfl⟩
      | false => exact ⟨14, by decide, rfl⟩
    refine ⟨_, rfl, _, rfl, (by show 2 ≤ sizeLine; decide), fun p hp => ?_⟩
    have sp := same_upd (o := .lst (([14, 60] : List Nat).map nv)) hp
    refine ⟨_, rfl, .inr ⟨wd, rfl, p, _, _, _, rfl, rfl, SqL.of upd_same, hat, b, g, l, n, most, 2, rfl, B3.same sp, by decide, hn1, hn2, hmost, fun lt ts H4 _ B4 T4 htl hpt hrs => ?_⟩⟩
    -- web
    have W : WebOk n ts (prodOf ts) := ⟨by omega, hpt, hrs, fun t ht => prodOf_bd ht, prodOf_pos ts, Nat.lt_of_le_of_lt (prodOf_lt hrs) (Nat.pow_lt_pow_right (by decide) (by omega)), by omega⟩
    refine ⟨_, rfl, _, rfl, ?_⟩
    intro pw dx nx ndx nex
    have s0 : Same H4 (upd (upd H4 dx (.own pw)) pw (.ins T.C dx [])) := fun c o e => by
      rw [upd_ne (ne_of_none e nx), upd_ne (ne_of_none e ndx)]
      exact e
    refine ⟨pw, dx, lt, n, ts, prodOf ts, rfl, upd_same, T4.keep s0, W, fun H5 W5 kp => ⟨rfl, ?_⟩⟩
    have s5 : Same H4 H5 := Same.made nx ndx kp
    -- pair
    refine ⟨_, rfl, _, rfl, b, g, l, n, 1002, rfl, B4.same s5, by decide, hn1, by omega, fun u H6 hu K6 B6 => ?_⟩
    refine ⟨_, rfl, _, rfl, b, g, l, n, 1003, rfl, B6, by decide, hn1, by omega, fun v H7 hv K7 B7 => ?_⟩
    refine ⟨(by show 2 ≤ sizeLine; decide), fun lp hlp => ?_⟩
    have s8 := same_upd (o := .tup [nv u, nv v]) hlp
    have L8 : LawSt T.C (upd H7 lp (.tup [nv u, nv v])) n ts u v lt pw lp := ⟨(((T4.keep s5).kept (K6.trans K7)).keep s8), ((W5.kept (K6.trans K7)).keep s8), upd_same⟩
    have B8 := B7.same s8
    -- bond
    refine ⟨fun σ9 H9 => ∃ bo : Nat, σ9 = [some (.ref a), some (.ref b), some (.bl wd), some (nv n), some (.ref lt), some (.ref pw), some (.ref lp), some (nv bo), none, none, none, none, none, none, none, none, none, none, none, none] ∧ bo = closureOf n ts u v ∧ LawSt T.C H9 n ts u v lt pw lp ∧ BoxAt H9 b g l 1004, ?_, ?_⟩
    · obtain ⟨dx', lk, lg, hpw, _, _⟩ := id L8.W
      refine ⟨_, rfl, pw, dx', _, rfl, hpw, wf_no _ _ _ (by decide +kernel) (by decide +kernel) (by decide +kernel), _, rfl, lp, _, _, _, rfl, rfl, SqT.of L8.P, rfl, _, rfl, lp, _, _, _, rfl, rfl, SqT.of L8.P, rfl, pw, n, u, v, ts, rfl, L8.W, hu, hv, fun H9 s9 => ?_⟩
      exact ⟨_, rfl, rfl, L8.keep s9, B8.same s9⟩
    rintro σ9 H9 ⟨bo, rfl, ebo, L9, B9⟩
    have hbb : Bd (prodOf ts) bo := by rw [ebo]; exact bond_bd W.bd hu hv
    have hbl : bo < 2 ^ 4000 := Nat.lt_of_le_of_lt (hbb.le W.M0) W.Ml
    -- wished
    refine ⟨fun σ10 H10 => ∃ (lw : Addr) (ws : List Nat), σ10 = [some (.ref a), some (.ref b), some (.bl wd), some (nv n), some (.ref lt), some (.ref pw), some (.ref lp), some (nv bo), some (.ref lw), none, none, none, none, none, none, none, none, none, none, none] ∧ LawSt T.C H10 n ts u v lt pw lp ∧ BoxAt H10 b g l 1004 ∧ IntsAt H10 lw (0 :: ws) ∧ ws.length ≤ 100, ?_, ?_⟩
    · have mapGo : ∀ (f : Nat → Nat) (ks : List Nat) {i k : Nat}, ks[i]? = some k → ((ks.take (i + 1)).map f).map nv = ((ks.take i).map f).map nv ++ [nv (f k)] := fun f ks {i k} h => by
        rw [List.take_add_one, h, List.map_append, List.map_append]
        rfl
      refine ⟨31, rfl, .of_le (by decide) (by decide) (by decide) (by decide), fun q1 hq1 => ?_⟩
      have e1 : rgV 0 31 = (List.range 31).map nv := by
        unfold rgV
        exact List.map_congr_left fun i _ => by rw [Int.zero_add]
      rw [e1]
      have t1 := same_upd (o := .lst ((List.range 31).map nv)) hq1
      -- the multiples
      refine ⟨(by show 5 ≤ sizeLine; decide), fun q2 hq2 => ?_⟩
      have t2 := same_upd (o := .lst (([1, 2, 3, 5, 7] : List Nat).map nv)) hq2
      refine ⟨q2, rfl, ⟨_, SqL.of upd_same⟩, fun D hD => ?_⟩
      obtain ⟨Ha, eHa⟩ : ∃ Ha, Ha = upd (upd H9 q1 (.lst ((List.range 31).map nv))) q2 (.lst (([1, 2, 3, 5, 7] : List Nat).map nv)) := ⟨_, rfl⟩
      have hD' : Ha D = none := by rw [eHa]; exact hD
      have hq2a : Ha q2 = some (.lst (([1, 2, 3, 5, 7] : List Nat).map nv)) := by rw [eHa]; exact upd_same
      have sa : Same H9 Ha := by rw [eHa]; exact t1.trans t2
      have hq1a : Ha q1 = some (.lst ((List.range 31).map nv)) := by rw [eHa]; exact t2 _ _ upd_same
      refine lc_list (K := K) (a := q2) (xs := ([1, 2, 3, 5, 7] : List Nat).map nv) (fun i H' => IntsAt H' D ((([1, 2, 3, 5, 7] : List Nat).take i).map fun k => bo * k) ∧ Same Ha H' ∧ i ≤ 5) ⟨upd_same, (by rw [eHa]; exact same_upd hD), Nat.zero_le _⟩ (fun i H' _ ⟨_, sm, _⟩ => SqL.of (sm _ _ hq2a)) ?_ ?_
      · rintro i y H' hi ⟨hI, sm, _⟩
        rw [List.getElem?_map] at hi
        obtain ⟨k, hk, rfl⟩ := Option.map_eq_some_iff.mp hi
        have hi5 : i < 5 := get_lt hk
        have hk7 : k ≤ 7 := by
          have key : ∀ y ∈ ([1, 2, 3, 5, 7] : List Nat), y ≤ 7 := by decide
          exact key k (List.mem_of_getElem? hk)
        refine ⟨rfl, t_yes ?_⟩
        refine ⟨_, rfl, _, rfl, _, _, rfl, rfl, .inr ⟨by show -(2 ^ 64) < (k : Int); omega, by show (k : Int) < 2 ^ 64; omega⟩, _, hI, ?_, ?_, fun c o e => ?_, by omega⟩
        · rw [List.length_map, List.length_map, List.length_take]
          exact small1000 (by omega)
        · show upd _ D _ D = _
          rw [upd_same, mapGo _ _ hk]
          have e : V.int ((bo : Int) * (k : Int)) = nv (bo * k) := congrArg V.int (Int.natCast_mul bo k).symm
          rw [← e]
        · rw [upd_ne (ne_of_none e hD')]
          exact sm _ _ e
      · rintro Hb ⟨hI, sm, _⟩
        refine ⟨q1, D, _, _, rfl, rfl, sm _ _ hq1a, hI, (by rw [List.length_map, List.length_range, List.length_map, List.length_map]; exact Nat.le_of_lt (small1000 (by decide))), fun q3 hq3 => ?_⟩
        obtain ⟨L3, eL3⟩ : ∃ L3 : List Nat, L3 = (List.range 31) ++ ((([1, 2, 3, 5, 7] : List Nat).take (([1, 2, 3, 5, 7] : List Nat).map nv).length).map fun k => bo * k) := ⟨_, rfl⟩
        have eM : (List.range 31).map nv ++ ((([1, 2, 3, 5, 7] : List Nat).take (([1, 2, 3, 5, 7] : List Nat).map nv).length).map fun k => bo * k).map nv = L3.map nv := by rw [eL3, List.map_append]
        have t3 := same_upd (o := .lst (L3.map nv)) hq3
        -- the divisors
        refine ⟨(by show 4 ≤ sizeLine; decide), ?_⟩
        rw [eM]
        intro q4 hq4
        have t4 := same_upd (o := .lst (([2, 3, 5, 7] : List Nat).map nv)) hq4
        refine ⟨q4, rfl, ⟨_, SqL.of upd_same⟩, fun D2 hD2 => ?_⟩
        obtain ⟨Hc, eHc⟩ : ∃ Hc, Hc = upd (upd Hb q3 (.lst (L3.map nv))) q4 (.lst (([2, 3, 5, 7] : List Nat).map nv)) := ⟨_, rfl⟩
        have hD2' : Hc D2 = none := by rw [eHc]; exact hD2
        have hq4c : Hc q4 = some (.lst (([2, 3, 5, 7] : List Nat).map nv)) := by rw [eHc]; exact upd_same
        have sc : Same Hb Hc := by rw [eHc]; exact t3.trans t4
        have hq3c : Hc q3 = some (.lst (L3.map nv)) := by rw [eHc]; exact t4 _ _ upd_same
        refine lc_list (K := K) (a := q4) (xs := ([2, 3, 5, 7] : List Nat).map nv) (fun i H' => IntsAt H' D2 ((([2, 3, 5, 7] : List Nat).take i).map fun k => bo / k) ∧ Same Hc H' ∧ i ≤ 4) ⟨upd_same, (by rw [eHc]; exact same_upd hD2), Nat.zero_le _⟩ (fun i H' _ ⟨_, sm, _⟩ => SqL.of (sm _ _ hq4c)) ?_ ?_
        · rintro i y H' hi ⟨hI2, sm2, _⟩
          rw [List.getElem?_map] at hi
          obtain ⟨k, hk, rfl⟩ := Option.map_eq_some_iff.mp hi
          have hi5 : i < 4 := get_lt hk
          have hk7 : 2 ≤ k ∧ k ≤ 7 := by
            have key : ∀ y ∈ ([2, 3, 5, 7] : List Nat), 2 ≤ y ∧ y ≤ 7 := by decide
            exact key k (List.mem_of_getElem? hk)
          refine ⟨rfl, t_yes ?_⟩
          refine ⟨_, rfl, _, rfl, _, _, rfl, rfl, wide_div (b := 30) (show (0 : Int) < (k : Int) by omega) (by show (k : Int).natAbs < 2 ^ 30; omega) (by decide) (by decide), _, hI2, ?_, ?_, fun c o e => ?_, by omega⟩
          · rw [List.length_map, List.length_map, List.length_take]
            exact small1000 (by omega)
          · show upd _ D2 _ D2 = _
            rw [upd_same, mapGo _ _ hk]
            rfl
          · rw [upd_ne (ne_of_none e hD2')]
            exact sm2 _ _ e
        · rintro Hd ⟨hI2, sm2, _⟩
          have hl3 : L3.length ≤ 36 := by
            rw [eL3, List.length_append, List.length_range, List.length_map, List.length_take]
            show 31 + min _ 5 ≤ 36
            omega
          obtain ⟨L4, eL4⟩ : ∃ L4 : List Nat, L4 = ((([2, 3, 5, 7] : List Nat).take (([2, 3, 5, 7] : List Nat).map nv).length).map fun k => bo / k) := ⟨_, rfl⟩
          rw [← eL4] at hI2
          have hl4 : L4.length ≤ 4 := by
            rw [eL4, List.length_map, List.length_take]
            show min _ 4 ≤ 4
            omega
          obtain ⟨ws, ews⟩ : ∃ ws, L3 ++ L4 = 0 :: ws := by
            rw [eL3]
            exact ⟨_, rfl⟩
          refine ⟨q3, D2, _, _, rfl, rfl, sm2 _ _ hq3c, hI2, (by rw [List.length_map, List.length_map]; exact Nat.le_of_lt (small1000 (by omega))), fun q5 hq5 => ?_⟩
          have s5' := same_upd (o := .lst (L3.map nv ++ L4.map nv)) hq5
          have sAll : Same H9 Hd := ((sa.trans sm).trans sc).trans sm2
          refine ⟨q5, ws, rfl, (L9.keep sAll).keep s5', (B9.same sAll).same s5', ?_, ?_⟩
          · show upd _ q5 _ q5 = _
            rw [upd_same, ← List.map_append, ews]
          · have : (L3 ++ L4).length = ws.length + 1 := by rw [ews]; rfl
            rw [List.length_append] at this
            omega
    rintro σ10 H10 ⟨lw0, ws0, rfl, L10, B10, hw0, hw0l⟩
    -- those below 1000001
    refine ⟨fun σ11 H11 => ∃ (lw : Addr) (ws : List Nat), σ11 = [some (.ref a), some (.ref b), some (.bl wd), some (nv n), some (.ref lt), some (.ref pw), some (.ref lp), some (nv bo), some (.ref lw), none, none, none, none, none, none, none, none, none, none, none] ∧ LawSt T.C H11 n ts u v lt pw lp ∧ BoxAt H11 b g l 1004 ∧ IntsAt H11 lw (0 :: ws) ∧ ws.length ≤ 100 ∧ (∀ x ∈ 0 :: ws, x ≤ 1000000), ?_, ?_⟩
    · refine ⟨_, rfl, lw0, rfl, ⟨_, SqL.of hw0⟩, fun D hD => ?_⟩
      refine lc_list (K := K) (a := lw0) (xs := (0 :: ws0).map nv) (fun i H' => IntsAt H' D (((0 :: ws0).take i).filter under) ∧ Same H10 H') ⟨upd_same, same_upd hD⟩ (fun i H' _ ⟨_, sm⟩ => SqL.of (sm _ _ hw0)) ?_ ?_
      · rintro i y H' hi ⟨hI, sm⟩
        rw [List.getElem?_map] at hi
        obtain ⟨x, hx, rfl⟩ := Option.map_eq_some_iff.mp hi
        have hil : i < 101 := by
          have := get_lt hx
          rw [List.length_cons] at this
          omega
        have hfl : (((0 :: ws0).take i).filter under).length ≤ i := Nat.le_trans (List.length_filter_le _ _) (by rw [List.length_take]; exact Nat.min_le_left _ _)
        refine ⟨rfl, nv x, rfl, (x : Int), 1000001, rfl, rfl, decide ((x : Int) < 1000001), rfl, ?_⟩
        generalize hdc : decide ((x : Int) < 1000001) = dc
        rw [List.take_add_one, hx, List.filter_append]
        cases dc with
        | true =>
          refine iteT ?_
          have c0 := of_decide_eq_true hdc
          have c : x ≤ 1000000 := by omega
          have e : (some x).toList.filter under = [x] := by simp [(under_iff x).mpr c]
          refine ⟨_, rfl, _, hI, ?_, ?_, fun c o e => ?_⟩
          · rw [List.length_map]
            exact small1000 (by omega)
          · show upd _ D _ D = _
            rw [upd_same, e, List.map_append]
            rfl
          · rw [upd_ne (ne_of_none e hD)]
            exact sm _ _ e
        | false =>
          refine iteF ?_
          have c0 := of_decide_eq_false hdc
          have c : ¬ x ≤ 1000000 := by omega
          have e : (some x).toList.filter under = [] := by simp [show under x = false from Bool.eq_false_iff.mpr fun z => c ((under_iff x).mp z)]
          rw [e, List.append_nil]
          exact ⟨hI, sm⟩
      · rintro H' ⟨hI, sm⟩
        rw [List.length_map, List.take_length] at hI
        have e0 : (0 :: ws0).filter under = 0 :: ws0.filter under := List.filter_cons_of_pos ((under_iff 0).mpr (by decide))
        rw [e0] at hI
        refine ⟨D, ws0.filter under, rfl, L10.keep sm, B10.same sm, hI, Nat.le_trans (List.length_filter_le _ _) hw0l, fun x hx => ?_⟩
        rw [← e0] at hx
        exact (under_iff x).mp (List.mem_filter.mp hx).2
    rintro σ11 H11 ⟨lw1, ws1, rfl, L11, B11, hw1, hw1l, hw1b⟩
    -- if wide: each fifth
    refine ⟨fun σ12 H12 => ∃ (lw : Addr) (ws : List Nat), σ12 = [some (.ref a), some (.ref b), some (.bl wd), some (nv n), some (.ref lt), some (.ref pw), some (.ref lp), some (nv bo), some (.ref lw), none, none, none, none, none, none, none, none, none, none, none] ∧ LawSt T.C H12 n ts u v lt pw lp ∧ BoxAt H12 b g l 1004 ∧ IntsAt H12 lw ws ∧ ws.length ≤ 1000 ∧ 0 < ws.length ∧ (∀ x ∈ ws, x ≤ 1000000), ?_, ?_⟩
    · refine ⟨_, rfl, _, rfl, ite2 (fun _ => ?_) (fun _ => ⟨lw1, 0 :: ws1, rfl, L11, B11, hw1, by rw [List.length_cons]; omega, Nat.zero_lt_succ _, hw1b⟩)⟩
      refine ⟨_, rfl, lw1, _, rfl, SqL.of hw1, fun p hp => ?_⟩
      have sp := same_upd (o := .lst (fifths ((0 :: ws1).map nv))) hp
      refine ⟨p, fifths (0 :: ws1), rfl, L11.keep sp, B11.same sp, ?_, ?_, ?_, fun x hx => hw1b x (fifths_mem hx)⟩
      · show upd _ p _ p = _
        rw [upd_same, fifths_map]
      · have := fifths_len (0 :: ws1)
        rw [List.length_cons] at this
        omega
      · obtain ⟨ys, e⟩ := fifths_head 0 ws1
        rw [e]
        exact Nat.zero_lt_succ _
    rintro σ12 H12 ⟨lw, ws, rfl, L12, B12, hw, hwl, hw0', hwb⟩
    -- papers
    refine ⟨fun σ13 H13 => ∃ (la : Addr) (as : List Addr) (pps : List Paper), σ13 = [some (.ref a), some (.ref b), some (.bl wd), some (nv n), some (.ref lt), some (.ref pw), some (.ref lp), some (nv bo), some (.ref lw), some (.ref la), none, none, none, none, none, none, none, none, none, none] ∧ LawSt T.C H13 n ts u v lt pw lp ∧ BoxAt H13 b g l 1004 ∧ IntsAt H13 lw ws ∧
        H13 la = some (.lst (as.map V.ref)) ∧ as.length = ws.length ∧ pps.length = ws.length ∧ (∀ (i : Nat) (c : Addr) (p : Paper), as[i]? = some c → pps[i]? = some p → PaperAt H13 c p) ∧ (∀ (i k : Nat) (p : Paper), ws[i]? = some k → pps[i]? = some p → BP n ts (closureOf n ts) u v k p), ?_, ?_⟩
    · refine ⟨_, rfl, lw, rfl, ⟨_, SqL.of hw⟩, fun D hD => ?_⟩
      refine lc_list (K := K) (a := lw) (xs := ws.map nv) (fun i H' => ∃ (as : List Addr) (pps : List Paper), H' D = some (.lst (as.map V.ref)) ∧ Same H12 H' ∧ as.length = i ∧ pps.length = i ∧
          (∀ (j : Nat) (c : Addr) (p : Paper), as[j]? = some c → pps[j]? = some p → PaperAt (Off D H') c p) ∧ (∀ (j k : Nat) (p : Paper), ws[j]? = some k → pps[j]? = some p → BP n ts (closureOf n ts) u v k p))
        ⟨[], [], upd_same, same_upd hD, rfl, rfl, fun j c p h => (by simp at h), fun j k p h1 h2 => (by simp at h2)⟩ (fun i H' _ ⟨_, _, _, sm, _⟩ => SqL.of (sm _ _ hw)) ?_ ?_
      · rintro i y H' hi ⟨as, pps, hD1, sm, hal, hpl, hpa, hbp⟩
        rw [List.getElem?_map] at hi
        obtain ⟨k, hk, rfl⟩ := Option.map_eq_some_iff.mp hi
        have hil : i < 1000 := by
          have := get_lt hk
          omega
        have L13 := L12.keep sm
        refine ⟨rfl, t_yes ?_⟩
        refine ⟨_, rfl, _, rfl, lp, _, _, _, rfl, rfl, SqT.of L13.P, rfl, _, rfl, lp, _, _, _, rfl, rfl, SqT.of L13.P, rfl, _, rfl, rfl, rfl, pw, n, u, v, k, ts, prodOf ts, rfl, L13.W, W, hu, hv, hwb k (List.mem_of_getElem? hk), fun c H'' pp sm2 hP hB => ?_⟩
        have hP2 : PaperAt (Off D H'') c pp := hP.keep (Dif.off hD1)
        refine ⟨_, sm2 _ _ hD1, ?_, as ++ [c], pps ++ [pp], ?_, fun x o e => ?_, ?_, ?_, ?_, ?_⟩
        · rw [List.length_map, hal]
          exact small1000 (by omega)
        · rw [upd_same, List.map_append]
          rfl
        · rw [upd_ne (ne_of_none e hD)]
          exact sm2 _ _ (sm _ _ e)
        · rw [List.length_append, hal]
          rfl
        · rw [List.length_append, hpl]
          rfl
        · intro j c' p' hj hp'
          by_cases cj : j < i
          · rw [List.getElem?_append_left (by omega)] at hj hp'
            exact ((hpa j c' p' hj hp').keep (Off.mono sm2)).keep Off.upd
          · rw [List.getElem?_append_right (by omega)] at hj hp'
            have j0 : j - as.length = 0 := by
              have := get_lt hj
              rw [List.length_singleton] at this
              omega
            have j1 : j - pps.length = 0 := by omega
            rw [j0] at hj
            rw [j1] at hp'
            have e1 : c = c' := Option.some.inj hj
            have e2 : pp = p' := Option.some.inj hp'
            subst e1 e2
            exact hP2.keep Off.upd
        · intro j k' p' hj hp'
          by_cases cj : j < i
          · rw [List.getElem?_append_left (by omega)] at hp'
            exact hbp j k' p' hj hp'
          · rw [List.getElem?_append_right (by omega)] at hp'
            have j1 : j - pps.length = 0 := by
              have := get_lt hp'
              rw [List.length_singleton] at this
              omega
            rw [j1] at hp'
            have e2 : pp = p' := Option.some.inj hp'
            subst e2
            have ej : j = i := by omega
            subst ej
            have ek : k = k' := Option.some.inj (hk.symm.trans hj)
            subst ek
            exact hB
      · rintro H' ⟨as, pps, hD1, sm, hal, hpl, hpa, hbp⟩
        rw [List.length_map] at hal hpl
        exact ⟨D, as, pps, rfl, L12.keep sm, B12.same sm, sm _ _ hw, hD1, hal, hpl, fun i c p h1 h2 => (hpa i c p h1 h2).keep (Off.same D H'), hbp⟩
    rintro σ13 H13 ⟨la, as, pps, rfl, L13, B13, hw13, ha13, hal, hpl, hpa13, hbp⟩
    have O : PapOk n ts u v ws pps := ⟨hwl, hw0', hwb, hpl, hbp⟩
    -- words
    refine ⟨fun σ14 H14 => ∃ lo : Addr, σ14 = sg a b wd n lt pw lp bo lw la lo none none none none none none none none none ∧ LawSt T.C H14 n ts u v lt pw lp ∧ BoxAt H14 b g l 1004 ∧ PapSt H14 lw la lo ws as pps, ?_, ?_⟩
    · refine ⟨_, rfl, la, rfl, ⟨_, SqL.of ha13⟩, fun D hD => ?_⟩
      refine lc_list (K := K) (a := la) (xs := as.map V.ref) (fun i H' => H' D = some (.lst (((pps.take i).map wordOf).map V.str)) ∧ Same H13 H') ⟨upd_same, same_upd hD⟩ (fun i H' _ ⟨_, sm⟩ => SqL.of (sm _ _ ha13)) ?_ ?_
      · rintro i y H' hi ⟨hI, sm⟩
        obtain ⟨c, hc, rfl⟩ := ref_at hi
        have hil : i < ws.length := by rw [← hal]; exact get_lt hc
        obtain ⟨p, hp⟩ := get_of (l := pps) (i := i) (by rw [hpl]; exact hil)
        obtain ⟨lb, hcp, _⟩ := (hpa13 i c p hc hp).keep sm
        refine ⟨rfl, t_yes ?_⟩
        refine ⟨_, rfl, c, _, _, _, rfl, rfl, SqT.of hcp, rfl, _, hI, ?_, ?_, fun c o e => ?_⟩
        · rw [List.length_map, List.length_map, List.length_take]
          exact small1000 (by omega)
        · rw [upd_same, List.take_add_one, hp, List.map_append, List.map_append]
          rfl
        · rw [upd_ne (ne_of_none e hD)]
          exact sm _ _ e
      · rintro H' ⟨hI, sm⟩
        rw [List.length_map, hal, ← hpl, List.take_length] at hI
        exact ⟨D, rfl, L13.keep sm, B13.same sm, sm _ _ hw13, sm _ _ ha13, hal, hI, fun i c p h1 h2 => (hpa13 i c p h1 h2).keep sm⟩
    rintro σ14 H14 ⟨lo, rfl, L14, B14, P14⟩
    -- for k in range(len(wished))
    refine ⟨fun σ15 H15 => ∃ x11 x12 x13 x14 x15 x16 x17 x18 x19 : Option V, σ15 = sg a b wd n lt pw lp bo lw la lo x11 x12 x13 x14 x15 x16 x17 x18 x19 ∧ Same H14 H15, ?_, ?_⟩
    · have hwn : (ws.map nv).length = ws.length := List.length_map ..
      refine ⟨_, rfl, lw, _, rfl, .inl (SqL.of P14.w), _, rfl, by omega, by omega, for_range (lo := 0) (n := (ws.map nv).length) (fun i σ' H' => ∃ x11 x12 x13 x14 x15 x16 x17 x18 x19 : Option V, σ' = sg a b wd n lt pw lp bo lw la lo x11 x12 x13 x14 x15 x16 x17 x18 x19 ∧ Same H14 H')
        ⟨_, _, _, _, _, _, _, _, _, rfl, .refl _⟩ ?_ ?_⟩
      · rintro k σ' H' hk ⟨x11, x12, x13, x14, x15, x16, x17, x18, x19, rfl, sm⟩
        rw [hwn] at hk
        obtain ⟨wk, hwk⟩ := get_of (l := ws) hk
        obtain ⟨pk, hpk⟩ := get_of (l := pps) (i := k) (by rw [hpl]; exact hk)
        obtain ⟨ck, hck⟩ := get_of (l := as) (i := k) (by rw [hal]; exact hk)
        have Bk := hbp k wk pk hwk hpk
        have word : ∀ {i x : Nat} {p : Paper}, ws[i]? = some x → pps[i]? = some p → (p.isWays = true ↔ x ∣ bo) := fun {i x p} h1 h2 => by
          rw [ebo]
          exact (hbp i x p h1 h2).word
        have P16 := P14.keep sm
        have L16 := L14.keep sm
        -- by = wished[k]
        refine ⟨_, rfl, _, rfl, lw, _, _, _, rfl, rfl, SqL.of P16.w, at_of (j := k) (Int.zero_add _) (by rw [List.getElem?_map, hwk]; rfl), ?_⟩
        -- holds
        refine ⟨fun σ2 H2 => σ2 = sg a b wd n lt pw lp bo lw la lo (some (.int (0 + (k : Int)))) (some (nv wk)) (some (.bl (decide (wk ∣ bo)))) x14 x15 x16 x17 x18 x19 ∧ H2 = H', ?_, ?_⟩
        · have fin : ∀ x : Bool, (x = true ↔ wk ∣ bo) → ([some (.ref a), some (.ref b), some (.bl wd), some (nv n), some (.ref lt), some (.ref pw), some (.ref lp), some (nv bo), some (.ref lw), some (.ref la), some (.ref lo), some (.int (0 + (k : Int))), some (nv wk), some (.bl x), x14, x15, x16, x17, x18, x19] : St) = sg a b wd n lt pw lp bo lw la lo (some (.int (0 + (k : Int)))) (some (nv wk)) (some (.bl (decide (wk ∣ bo)))) x14 x15 x16 x17 x18 x19 ∧ H' = H' := fun x hx => by
            have e : x = decide (wk ∣ bo) := by
              rw [Bool.eq_iff_iff, hx, decide_eq_true_eq]
            rw [e]
            exact ⟨rfl, rfl⟩
          refine ⟨_, rfl, rfl, _, rfl, ite2 (fun d => ?_) (fun d => ?_)⟩
          · have d : bo = 0 := by
              have := V.int.inj (of_decide_eq_true d)
              omega
            exact fin true ⟨fun _ => by rw [d]; exact Nat.dvd_zero _, fun _ => rfl⟩
          · have d : ¬ bo = 0 := fun z => d (decide_eq_true (by rw [z]; rfl))
            refine ⟨_, rfl, _, _, rfl, rfl, _, rfl, ite2 (fun e => ?_) (fun e => ?_)⟩
            · have e : (0 : Int) < (wk : Int) := of_decide_eq_true e
              refine ⟨_, rfl, _, rfl, _, _, rfl, rfl, e, rfl, ?_⟩
              refine fin _ ?_
              rw [decide_eq_true_eq]
              constructor
              · intro z
                exact Int.natCast_dvd_natCast.mp (Int.dvd_of_emod_eq_zero (V.int.inj z))
              · intro z
                show V.int ((bo : Int) % (wk : Int)) = V.int 0
                rw [Int.emod_eq_zero_of_dvd (Int.natCast_dvd_natCast.mpr z)]
            · have e : wk = 0 := by
                have : ¬ (0 : Int) < (wk : Int) := fun z => e (decide_eq_true z)
                omega
              refine fin false ⟨fun z => (by cases z), fun z => ?_⟩
              rw [e] at z
              exact absurd (Nat.eq_zero_of_zero_dvd z) d
        rintro σ2 H2 ⟨rfl, rfl⟩
        -- the paper says so, and shows it
        refine ⟨fun σ3 H3 => σ3 = sg a b wd n lt pw lp bo lw la lo (some (.int (0 + (k : Int)))) (some (nv wk)) (some (.bl (decide (wk ∣ bo)))) x14 x15 x16 x17 x18 x19 ∧ Same H2 H3, ?_, ?_⟩
        · refine ⟨_, rfl, _, rfl, lo, _, _, _, rfl, rfl, SqL.of P16.o, at_of (j := k) (Int.zero_add _) (at_word hpk), (by show 2 ≤ sizeLine; decide), fun p hp => ?_⟩
          have sp := same_upd (o := .lst [.str "case", .str "ways"]) hp
          refine ⟨_, rfl, .inr ⟨_, rfl, p, _, _, _, rfl, rfl, SqL.of upd_same, word_ix (word hwk hpk), rfl, _, rfl, iteNS rfl ?_⟩⟩
          refine ⟨_, rfl, _, rfl, _, rfl, _, rfl, _, rfl, _, rfl, la, _, _, _, rfl, rfl, SqL.of (sp _ _ P16.a), at_of (j := k) (Int.zero_add _) (by rw [List.getElem?_map, hck]; rfl), lt, lp, ck, n, u, v, wk, ts, pk, prodOf ts, rfl, L16.T.keep sp, W, sp _ _ L16.P, hu, hv, (P16.pa k ck pk hck hpk).keep sp, Bk.good, fun H3 sm3 => ?_⟩
          refine ⟨_, rfl, iteNS Bk.sh ?_⟩
          exact ⟨rfl, sp.trans sm3⟩
        rintro σ3 H3 ⟨rfl, sm3⟩
        have P17 := P16.keep sm3
        -- for j in range(len(wished))
        refine ⟨_, rfl, lw, _, rfl, .inl (SqL.of P17.w), _, rfl, by omega, by omega, for_range (lo := 0) (n := (ws.map nv).length) (fun j σ' H' => ∃ x14 x15 x16 : Option V, σ' = sg a b wd n lt pw lp bo lw la lo (some (.int (0 + (k : Int)))) (some (nv wk)) (some (.bl (decide (wk ∣ bo)))) x14 x15 x16 x17 x18 x19 ∧ H' = H3)
          ⟨_, _, _, rfl, rfl⟩ ?_ ?_⟩
        · rintro j σ' H' hj ⟨x14, x15, x16, rfl, rfl⟩
          rw [hwn] at hj
          obtain ⟨wj, hwj⟩ := get_of (l := ws) hj
          obtain ⟨pj, hpj⟩ := get_of (l := pps) (i := j) (by rw [hpl]; exact hj)
          refine ⟨_, rfl, _, rfl, lw, _, _, _, rfl, rfl, SqL.of P17.w, at_of (j := j) (Int.zero_add _) (by rw [List.getElem?_map, hwj]; rfl), ?_⟩
          -- no case for a divisor
          refine ⟨fun σ4 H4 => σ4 = sg a b wd n lt pw lp bo lw la lo (some (.int (0 + (k : Int)))) (some (nv wk)) (some (.bl (decide (wk ∣ bo)))) (some (.int (0 + (j : Int)))) (some (nv wj)) x16 x17 x18 x19 ∧ H4 = H', ?_, ?_⟩
          · refine ⟨_, rfl, _, rfl, lo, _, _, _, rfl, rfl, SqL.of P17.o, at_of (j := k) (Int.zero_add _) (at_word hpk), rfl, _, rfl, ite2 (fun c1 => ?_) (fun c1 => iteF ⟨rfl, rfl⟩)⟩
            have c1 : wk ∣ bo := (word hwk hpk).mp (way_word.mp (V.str.inj (of_decide_eq_true c1)))
            refine ⟨_, rfl, _, rfl, lo, _, _, _, rfl, rfl, SqL.of P17.o, at_of (j := j) (Int.zero_add _) (at_word hpj), rfl, _, rfl, ite2 (fun c2 => ?_) (fun c2 => iteF ⟨rfl, rfl⟩)⟩
            have c2 : ¬ wj ∣ bo := fun z => by
              have h1 := case_word.mp (V.str.inj (of_decide_eq_true c2))
              have h2 := (word hwj hpj).mpr z
              rw [h1] at h2
              cases h2
            refine ⟨_, rfl, rfl, _, rfl, ite2 (fun c3 => ?_) (fun c3 => ?_)⟩
            · exfalso
              have c3 : wk = 0 := by
                have := V.int.inj (of_decide_eq_true c3)
                omega
              rw [c3] at c1
              have := Nat.eq_zero_of_zero_dvd c1
              rw [this] at c2
              exact c2 (Nat.dvd_zero _)
            · refine ⟨_, rfl, _, _, rfl, rfl, _, rfl, ite2 (fun c4 => ?_) (fun c4 => iteF ⟨rfl, rfl⟩)⟩
              have c4 : (0 : Int) < (wj : Int) := of_decide_eq_true c4
              refine ⟨_, rfl, _, rfl, _, _, rfl, rfl, c4, rfl, _, rfl, ite2 (fun c5 => ?_) (fun c5 => ⟨rfl, rfl⟩)⟩
              exfalso
              have c5 : (wk : Int) % (wj : Int) = 0 := V.int.inj (of_decide_eq_true c5)
              exact c2 (Nat.dvd_trans (Int.natCast_dvd_natCast.mp (Int.dvd_of_emod_eq_zero c5)) c1)
          rintro σ4 H4 ⟨rfl, rfl⟩
          -- both
          have small : ∀ {i x : Nat}, ws[i]? = some x → x < 2 ^ 4000 := fun {i x} h => Nat.lt_of_le_of_lt (hwb x (List.mem_of_getElem? h)) (Nat.lt_of_lt_of_le (by decide : 1000000 < 2 ^ 20) (Nat.pow_le_pow_right (by decide) (by decide)))
          refine ⟨_, rfl, _, rfl, wk, wj, rfl, small hwk, small hwj, ?_⟩
          -- the least common multiple of two with ways
          refine ⟨_, rfl, _, rfl, lo, _, _, _, rfl, rfl, SqL.of P17.o, at_of (j := k) (Int.zero_add _) (at_word hpk), _, rfl, _, rfl, lo, _, _, _, rfl, rfl, SqL.of P17.o, at_of (j := j) (Int.zero_add _) (at_word hpj), rfl, _, rfl, ite2 (fun c1 => ?_) (fun c1 => ⟨_, rfl, iteF ⟨_, _, _, rfl, rfl⟩⟩)⟩
          refine ⟨rfl, _, rfl, ite2 (fun c2 => ?_) (fun c2 => iteF ⟨_, _, _, rfl, rfl⟩)⟩
          have c2 := V.str.inj (of_decide_eq_true c2)
          have c1 := V.str.inj (of_decide_eq_true c1)
          have dk : wk ∣ bo := (word hwk hpk).mp (way_word.mp (c1.trans c2))
          have dj : wj ∣ bo := (word hwj hpj).mp (way_word.mp c2)
          refine ⟨_, rfl, _, rfl, lw, _, rfl, .inl (SqL.of P17.w), rfl, flat_nats ws, _, rfl, ?_⟩
          show if inV (nv (Nat.lcm wk wj)) (ws.map nv) = true then _ else _
          rw [in_nats]
          refine ite2 (fun c3 => ?_) (fun c3 => iteF ⟨_, _, _, rfl, rfl⟩)
          have c3 : Nat.lcm wk wj ∈ ws := of_decide_eq_true c3
          obtain ⟨m, hm1, hm2⟩ := first_at c3
          obtain ⟨pm, hpm⟩ := get_of (l := pps) (i := m) (by rw [hpl]; exact get_lt hm1)
          refine ⟨_, rfl, _, rfl, .inl ⟨rfl, _, SqL.of P17.w⟩, _, rfl, lw, _, _, m, _, rfl, rfl, SqL.of P17.w, rfl, flat_nats ws, (by rw [List.getElem?_map, hm1]; rfl), (by rw [eqV_nv]; exact decide_eq_true rfl), ?_, ?_⟩
          · intro m' z' hm' hz'
            rw [List.getElem?_map] at hz'
            obtain ⟨y, hy, rfl⟩ := Option.map_eq_some_iff.mp hz'
            rw [eqV_nv]
            exact decide_eq_false (hm2 m' y hm' hy)
          · refine ⟨lo, _, _, _, rfl, rfl, SqL.of P17.o, atI_nat (at_word hpm), rfl, _, rfl, ?_⟩
            refine iteNS (congrArg V.str (way_word.mpr ((word hm1 hpm).mpr (Nat.lcm_dvd dk dj)))) ?_
            exact ⟨_, _, _, rfl, rfl⟩
        · rintro σ' H' ⟨x14, x15, x16, rfl, rfl⟩
          exact ⟨_, _, _, _, _, _, _, _, _, rfl, sm.trans sm3⟩
      · rintro σ' H' ⟨x11, x12, x13, x14, x15, x16, x17, x18, x19, rfl, sm⟩
        exact ⟨_, _, _, _, _, _, _, _, _, rfl, sm⟩
    rintro σ15 H15 ⟨x11, x12, x13, x14, x15, x16, x17, x18, x19, rfl, s15⟩
    have L15 := L14.keep s15
    have B15 := B14.same s15
    have P15 := P14.keep s15
    -- for turn in range(12)
    refine ⟨fun _ _ => True, ?_, ?_⟩
    · refine ⟨12, rfl, by decide, by decide, for_range (lo := 0) (n := 12) (fun i σ' H' => ∃ x11 x12 x13 x14 x15 x16 x17 x18 x19 : Option V, σ' = sg a b wd n lt pw lp bo lw la lo x11 x12 x13 x14 x15 x16 x17 x18 x19 ∧ LawSt T.C H' n ts u v lt pw lp ∧ BoxAt H' b g l (1004 + 2 * i) ∧ PapSt H' lw la lo ws as pps)
        ⟨_, _, _, _, _, _, _, _, _, rfl, L15, B15, P15⟩ ?_ ?_⟩
      · rintro i σ' H' hi ⟨x11, x12, x13, x14, x15, x16, x17, x18, x19, rfl, L, B, PP⟩
        have hwn : (ws.map nv).length = ws.length := List.length_map ..
        have han : (as.map V.ref).length = ws.length := (List.length_map ..).trans hal
        -- paper
        refine ⟨_, rfl, _, rfl, _, rfl, la, _, rfl, .inl (SqL.of PP.a), b, g, l, (as.map V.ref).length, 1004 + 2 * i, rfl, B, by omega, by omega, by omega, fun r1 H1 hr1 K1 B1 => ?_⟩
        have P1 := PP.kept O W.len hv K1
        have L1 := L.kept K1
        obtain ⟨c1, hc1⟩ := get_of (l := as) (i := r1) (by omega)
        obtain ⟨p1, hp1⟩ := get_of (l := pps) (i := r1) (by omega)
        obtain ⟨w1, hw1⟩ := get_of (l := ws) (i := r1) (by omega)
        have G1 := (hbp r1 w1 p1 hw1 hp1).good
        refine ⟨la, _, _, _, rfl, rfl, SqL.of P1.a, at_ref hc1, ?_⟩
        -- by
        refine ⟨_, rfl, _, rfl, _, rfl, lw, _, rfl, .inl (SqL.of P1.w), b, g, l, (ws.map nv).length, 1004 + 2 * i + 1, rfl, B1, by omega, by omega, by omega, fun r2 H2 hr2 K2 B2 => ?_⟩
        have P2 := P1.kept O W.len hv K2
        have L2' := L1.kept K2
        obtain ⟨wb, hwb2⟩ := get_of (l := ws) (i := r2) (by omega)
        have hwb6 := hwb wb (List.mem_of_getElem? hwb2)
        refine ⟨lw, _, _, _, rfl, rfl, SqL.of P2.w, at_nv hwb2, ?_⟩
        -- due
        refine ⟨_, rfl, _, rfl, _, rfl, _, rfl, _, rfl, lt, lp, c1, n, u, v, wb, ts, p1, prodOf ts, rfl, L2'.T, W, L2'.P, hu, hv, P2.pa r1 c1 p1 hc1 hp1, G1, fun H3 s3 => ?_⟩
        have P3 := P2.keep s3
        have L3 := L2'.keep s3
        have B3 := B2.same s3
        -- is_bond_paper says the same
        refine ⟨_, rfl, _, rfl, lp, _, _, _, rfl, rfl, SqT.of L3.P, rfl, _, rfl, lp, _, _, _, rfl, rfl, SqT.of L3.P, rfl, _, rfl, _, rfl, rfl, rfl, pw, c1, n, u, v, wb, ts, p1, prodOf ts, rfl, L3.W, W, hu, hv, hwb6, P3.pa r1 c1 p1 hc1 hp1, G1, fun H4 s4 => ?_⟩
        have P4 := P3.keep s4
        have L4 := L3.keep s4
        have B4 := B3.same s4
        refine ⟨_, rfl, _, rfl, _, rfl, iteF ?_⟩
        -- a case that is one for this rest
        have hpa4 := P4.pa r1 c1 p1 hc1 hp1
        obtain ⟨lb, hcp, _⟩ := id hpa4
        refine ⟨_, rfl, c1, _, _, _, rfl, rfl, SqT.of hcp, rfl, rfl, _, rfl, ite2 (fun c => ?_) (fun c => iteF ⟨_, _, _, _, _, _, _, _, _, rfl, L4, B4.le (by omega), P4⟩)⟩
        have c : p1.isWays = false := case_word.mp (V.str.inj (of_decide_eq_true c))
        refine ⟨_, rfl, _, rfl, _, rfl, _, rfl, _, rfl, lt, lp, c1, n, u, v, wb, ts, p1, prodOf ts, rfl, L4.T, W, L4.P, hu, hv, hpa4, G1, fun H5 s5' => ?_⟩
        have P5 := P4.keep s5'
        have L5 := L4.keep s5'
        have B5 := B4.same s5'
        refine ⟨_, rfl, ite2 (fun d => ?_) (fun d => ⟨_, _, _, _, _, _, _, _, _, rfl, L5, B5.le (by omega), P5⟩)⟩
        have d : shows ts u v wb p1 := of_decide_eq_true d
        refine ⟨_, rfl, _, rfl, lp, _, _, _, rfl, rfl, SqT.of L5.P, rfl, _, rfl, lp, _, _, _, rfl, rfl, SqT.of L5.P, rfl, _, rfl, rfl, rfl, pw, n, u, v, wb, ts, prodOf ts, rfl, L5.W, W, hu, hv, hwb6, fun a2 H6 p2 s6 hP2 hB2 => ?_⟩
        obtain ⟨lb2, hcp2, _⟩ := hP2.keep (Dif.same H5 H6)
        have nw : p2.isWays = false := by
          cases p1 with
          | ways _ => cases c
          | cas cs => exact case_no_ways G1 d hB2
        refine ⟨a2, _, _, _, rfl, rfl, SqT.of hcp2, rfl, rfl, _, rfl, iteNS (congrArg V.str (case_word.mpr nw)) ?_⟩
        exact ⟨_, _, _, _, _, _, _, _, _, rfl, L5.keep s6, (B5.same s6).le (by omega), P5.keep s6⟩
      · rintro σ' H' _
        trivial
    · rintro σ' H' _
      exact q H'
end
end K12

/-! What the top has written; the head; the last theorem. Printed by gen_end.py. -/
namespace K12
open PySem L2
theorem all_mk {l : PySem.W.OpenLaw} {w : World} {K : PySem.W.Frag} {h : Heap} {mg : Str → Option Value} {fa C : Addr} (X : K.In h) (G : h.Ns mainGlobals mg) (hfa : mg "law" = some (.ref fa))
    {f_isWhole : Addr} {od_isWhole an_isWhole : Option Addr} {sl_isWhole : Array (Option Value)} {oc_isWhole kV_isWhole dc_isWhole pm_isWhole cd_isWhole ct_isWhole : Value}
    {f_divides : Addr} {od_divides an_divides : Option Addr} {sl_divides : Array (Option Value)} {oc_divides kV_divides dc_divides pm_divides cd_divides ct_divides : Value}
    {f_common : Addr} {od_common an_common : Option Addr} {sl_common : Array (Option Value)} {oc_common kV_common dc_common pm_common cd_common ct_common : Value}
    {f_joined : Addr} {od_joined an_joined : Option Addr} {sl_joined : Array (Option Value)} {oc_joined kV_joined dc_joined pm_joined cd_joined ct_joined : Value}
    {f_joinedAll : Addr} {od_joinedAll an_joinedAll : Option Addr} {sl_joinedAll : Array (Option Value)} {oc_joinedAll kV_joinedAll dc_joinedAll pm_joinedAll cd_joinedAll ct_joinedAll : Value}
    {f_powers : Addr} {od_powers an_powers : Option Addr} {sl_powers : Array (Option Value)} {oc_powers kV_powers dc_powers pm_powers cd_powers ct_powers : Value}
    {f_isPoint : Addr} {od_isPoint an_isPoint : Option Addr} {sl_isPoint : Array (Option Value)} {oc_isPoint kV_isPoint dc_isPoint pm_isPoint cd_isPoint ct_isPoint : Value}
    {f_closure : Addr} {od_closure an_closure : Option Addr} {sl_closure : Array (Option Value)} {oc_closure kV_closure dc_closure pm_closure cd_closure ct_closure : Value}
    {f_leads : Addr} {od_leads an_leads : Option Addr} {sl_leads : Array (Option Value)} {oc_leads kV_leads dc_leads pm_leads cd_leads ct_leads : Value}
    {f_waysFrom : Addr} {od_waysFrom an_waysFrom : Option Addr} {sl_waysFrom : Array (Option Value)} {oc_waysFrom kV_waysFrom dc_waysFrom pm_waysFrom cd_waysFrom ct_waysFrom : Value}
    {f_apart : Addr} {od_apart an_apart : Option Addr} {sl_apart : Array (Option Value)} {oc_apart kV_apart dc_apart pm_apart cd_apart ct_apart : Value}
    {f_wayRest : Addr} {od_wayRest an_wayRest : Option Addr} {sl_wayRest : Array (Option Value)} {oc_wayRest kV_wayRest dc_wayRest pm_wayRest cd_wayRest ct_wayRest : Value}
    {f_isWays : Addr} {od_isWays an_isWays : Option Addr} {sl_isWays : Array (Option Value)} {oc_isWays kV_isWays dc_isWays pm_isWays cd_isWays ct_isWays : Value}
    {f_box : Addr} {od_box an_box : Option Addr} {sl_box : Array (Option Value)} {oc_box kV_box dc_box pm_box cd_box ct_box : Value}
    {f_mixed : Addr} {od_mixed an_mixed : Option Addr} {sl_mixed : Array (Option Value)} {oc_mixed kV_mixed dc_mixed pm_mixed cd_mixed ct_mixed : Value}
    {f_take : Addr} {od_take an_take : Option Addr} {sl_take : Array (Option Value)} {oc_take kV_take dc_take pm_take cd_take ct_take : Value}
    {f_lrest : Addr} {od_lrest an_lrest : Option Addr} {sl_lrest : Array (Option Value)} {oc_lrest kV_lrest dc_lrest pm_lrest cd_lrest ct_lrest : Value}
    {f_lties : Addr} {od_lties an_lties : Option Addr} {sl_lties : Array (Option Value)} {oc_lties kV_lties dc_lties pm_lties cd_lties ct_lties : Value}
    {f_lgcd : Addr} {od_lgcd an_lgcd : Option Addr} {sl_lgcd : Array (Option Value)} {oc_lgcd kV_lgcd dc_lgcd pm_lgcd cd_lgcd ct_lgcd : Value}
    {f_llcm : Addr} {od_llcm an_llcm : Option Addr} {sl_llcm : Array (Option Value)} {oc_llcm kV_llcm dc_llcm pm_llcm cd_llcm ct_llcm : Value}
    {f_wayMade : Addr} {od_wayMade an_wayMade : Option Addr} {sl_wayMade : Array (Option Value)} {oc_wayMade kV_wayMade dc_wayMade pm_wayMade cd_wayMade ct_wayMade : Value}
    {f_lfits : Addr} {od_lfits an_lfits : Option Addr} {sl_lfits : Array (Option Value)} {oc_lfits kV_lfits dc_lfits pm_lfits cd_lfits ct_lfits : Value}
    {f_shows : Addr} {od_shows an_shows : Option Addr} {sl_shows : Array (Option Value)} {oc_shows kV_shows dc_shows pm_shows cd_shows ct_shows : Value}
    {f_says : Addr} {od_says an_says : Option Addr} {sl_says : Array (Option Value)} {oc_says kV_says dc_says pm_says cd_says ct_says : Value}
    {f_agree : Addr} {od_agree an_agree : Option Addr} {sl_agree : Array (Option Value)} {oc_agree kV_agree dc_agree pm_agree cd_agree ct_agree : Value}
    {f_bondPaper : Addr} {od_bondPaper an_bondPaper : Option Addr} {sl_bondPaper : Array (Option Value)} {oc_bondPaper kV_bondPaper dc_bondPaper pm_bondPaper cd_bondPaper ct_bondPaper : Value}
    {f_isBondPaper : Addr} {od_isBondPaper an_isBondPaper : Option Addr} {sl_isBondPaper : Array (Option Value)} {oc_isBondPaper kV_isBondPaper dc_isBondPaper pm_isBondPaper cd_isBondPaper ct_isBondPaper : Value}
    {D_isRest : Addr} {t_isRest : Tok}
    {f_isRest : Addr} {od_isRest an_isRest : Option Addr} {sl_isRest : Array (Option Value)} {oc_isRest dc_isRest pm_isRest cd_isRest ct_isRest : Value}
    {f_I : Addr} {od_I an_I : Option Addr} {sl_I : Array (Option Value)} {oc_I kV_I dc_I pm_I cd_I ct_I : Value}
    {f_wMany : Addr} {od_wMany an_wMany : Option Addr} {sl_wMany : Array (Option Value)} {oc_wMany kV_wMany dc_wMany pm_wMany cd_wMany ct_wMany : Value}
    {f_wTies : Addr} {od_wTies an_wTies : Option Addr} {sl_wTies : Array (Option Value)} {oc_wTies kV_wTies dc_wTies pm_wTies cd_wTies ct_wTies : Value}
    {f_wFits : Addr} {od_wFits an_wFits : Option Addr} {sl_wFits : Array (Option Value)} {oc_wFits kV_wFits dc_wFits pm_wFits cd_wFits ct_wFits : Value}
    {f_wBond : Addr} {od_wBond an_wBond : Option Addr} {sl_wBond : Array (Option Value)} {oc_wBond kV_wBond dc_wBond pm_wBond cd_wBond ct_wBond : Value}
    {f_law : Addr} {od_law an_law : Option Addr} {sl_law : Array (Option Value)} {oc_law kV_law dc_law pm_law cd_law ct_law : Value}
    (aC : PySem.W.nsIn K mainGlobals "Web" = some (some (.ref C)))
    (a_isWhole : PySem.W.nsIn K mainGlobals "is_whole" = some (some (.ref f_isWhole)))
    (l_isWhole : K.lookup f_isWhole = some ⟨oc_isWhole, od_isWhole, .func (PySem.W.fnOf "is_whole" "is_whole" (defArgs sIsWhole) (defBody sIsWhole) (defScope sIsWhole) .none kV_isWhole dc_isWhole pm_isWhole an_isWhole cd_isWhole ct_isWhole), sl_isWhole⟩)
    (c_isWhole : PySem.W.codeIn K cd_isWhole "is_whole" = true)
    (k_isWhole : PySem.W.keepIn K (.ref f_isWhole) = true)
    (a_divides : PySem.W.nsIn K mainGlobals "divides" = some (some (.ref f_divides)))
    (l_divides : K.lookup f_divides = some ⟨oc_divides, od_divides, .func (PySem.W.fnOf "divides" "divides" (defArgs sDivides) (defBody sDivides) (defScope sDivides) .none kV_divides dc_divides pm_divides an_divides cd_divides ct_divides), sl_divides⟩)
    (c_divides : PySem.W.codeIn K cd_divides "divides" = true)
    (k_divides : PySem.W.keepIn K (.ref f_divides) = true)
    (a_common : PySem.W.nsIn K mainGlobals "common" = some (some (.ref f_common)))
    (l_common : K.lookup f_common = some ⟨oc_common, od_common, .func (PySem.W.fnOf "common" "common" (defArgs sCommon) (defBody sCommon) (defScope sCommon) .none kV_common dc_common pm_common an_common cd_common ct_common), sl_common⟩)
    (c_common : PySem.W.codeIn K cd_common "common" = true)
    (k_common : PySem.W.keepIn K (.ref f_common) = true)
    (a_joined : PySem.W.nsIn K mainGlobals "joined" = some (some (.ref f_joined)))
    (l_joined : K.lookup f_joined = some ⟨oc_joined, od_joined, .func (PySem.W.fnOf "joined" "joined" (defArgs sJoined) (defBody sJoined) (defScope sJoined) .none kV_joined dc_joined pm_joined an_joined cd_joined ct_joined), sl_joined⟩)
    (c_joined : PySem.W.codeIn K cd_joined "joined" = true)
    (k_joined : PySem.W.keepIn K (.ref f_joined) = true)
    (a_joinedAll : PySem.W.nsIn K mainGlobals "joined_all" = some (some (.ref f_joinedAll)))
    (l_joinedAll : K.lookup f_joinedAll = some ⟨oc_joinedAll, od_joinedAll, .func (PySem.W.fnOf "joined_all" "joined_all" (defArgs sJoinedAll) (defBody sJoinedAll) (defScope sJoinedAll) .none kV_joinedAll dc_joinedAll pm_joinedAll an_joinedAll cd_joinedAll ct_joinedAll), sl_joinedAll⟩)
    (c_joinedAll : PySem.W.codeIn K cd_joinedAll "joined_all" = true)
    (k_joinedAll : PySem.W.keepIn K (.ref f_joinedAll) = true)
    (a_powers : PySem.W.nsIn K mainGlobals "powers" = some (some (.ref f_powers)))
    (l_powers : K.lookup f_powers = some ⟨oc_powers, od_powers, .func (PySem.W.fnOf "powers" "powers" (defArgs sPowers) (defBody sPowers) (defScope sPowers) .none kV_powers dc_powers pm_powers an_powers cd_powers ct_powers), sl_powers⟩)
    (c_powers : PySem.W.codeIn K cd_powers "powers" = true)
    (k_powers : PySem.W.keepIn K (.ref f_powers) = true)
    (a_isPoint : PySem.W.nsIn K mainGlobals "is_point" = some (some (.ref f_isPoint)))
    (l_isPoint : K.lookup f_isPoint = some ⟨oc_isPoint, od_isPoint, .func (PySem.W.fnOf "is_point" "is_point" (defArgs sIsPoint) (defBody sIsPoint) (defScope sIsPoint) .none kV_isPoint dc_isPoint pm_isPoint an_isPoint cd_isPoint ct_isPoint), sl_isPoint⟩)
    (c_isPoint : PySem.W.codeIn K cd_isPoint "is_point" = true)
    (k_isPoint : PySem.W.keepIn K (.ref f_isPoint) = true)
    (a_closure : PySem.W.nsIn K mainGlobals "closure" = some (some (.ref f_closure)))
    (l_closure : K.lookup f_closure = some ⟨oc_closure, od_closure, .func (PySem.W.fnOf "closure" "closure" (defArgs sClosure) (defBody sClosure) (defScope sClosure) .none kV_closure dc_closure pm_closure an_closure cd_closure ct_closure), sl_closure⟩)
    (c_closure : PySem.W.codeIn K cd_closure "closure" = true)
    (k_closure : PySem.W.keepIn K (.ref f_closure) = true)
    (a_leads : PySem.W.nsIn K mainGlobals "leads" = some (some (.ref f_leads)))
    (l_leads : K.lookup f_leads = some ⟨oc_leads, od_leads, .func (PySem.W.fnOf "leads" "leads" (defArgs sLeads) (defBody sLeads) (defScope sLeads) .none kV_leads dc_leads pm_leads an_leads cd_leads ct_leads), sl_leads⟩)
    (c_leads : PySem.W.codeIn K cd_leads "leads" = true)
    (k_leads : PySem.W.keepIn K (.ref f_leads) = true)
    (a_waysFrom : PySem.W.nsIn K mainGlobals "ways_from" = some (some (.ref f_waysFrom)))
    (l_waysFrom : K.lookup f_waysFrom = some ⟨oc_waysFrom, od_waysFrom, .func (PySem.W.fnOf "ways_from" "ways_from" (defArgs sWaysFrom) (defBody sWaysFrom) (defScope sWaysFrom) .none kV_waysFrom dc_waysFrom pm_waysFrom an_waysFrom cd_waysFrom ct_waysFrom), sl_waysFrom⟩)
    (c_waysFrom : PySem.W.codeIn K cd_waysFrom "ways_from" = true)
    (k_waysFrom : PySem.W.keepIn K (.ref f_waysFrom) = true)
    (a_apart : PySem.W.nsIn K mainGlobals "apart" = some (some (.ref f_apart)))
    (l_apart : K.lookup f_apart = some ⟨oc_apart, od_apart, .func (PySem.W.fnOf "apart" "apart" (defArgs sApart) (defBody sApart) (defScope sApart) .none kV_apart dc_apart pm_apart an_apart cd_apart ct_apart), sl_apart⟩)
    (c_apart : PySem.W.codeIn K cd_apart "apart" = true)
    (k_apart : PySem.W.keepIn K (.ref f_apart) = true)
    (a_wayRest : PySem.W.nsIn K mainGlobals "way_rest" = some (some (.ref f_wayRest)))
    (l_wayRest : K.lookup f_wayRest = some ⟨oc_wayRest, od_wayRest, .func (PySem.W.fnOf "way_rest" "way_rest" (defArgs sWayRest) (defBody sWayRest) (defScope sWayRest) .none kV_wayRest dc_wayRest pm_wayRest an_wayRest cd_wayRest ct_wayRest), sl_wayRest⟩)
    (c_wayRest : PySem.W.codeIn K cd_wayRest "way_rest" = true)
    (k_wayRest : PySem.W.keepIn K (.ref f_wayRest) = true)
    (a_isWays : PySem.W.nsIn K mainGlobals "is_ways" = some (some (.ref f_isWays)))
    (l_isWays : K.lookup f_isWays = some ⟨oc_isWays, od_isWays, .func (PySem.W.fnOf "is_ways" "is_ways" (defArgs sIsWays) (defBody sIsWays) (defScope sIsWays) .none kV_isWays dc_isWays pm_isWays an_isWays cd_isWays ct_isWays), sl_isWays⟩)
    (c_isWays : PySem.W.codeIn K cd_isWays "is_ways" = true)
    (k_isWays : PySem.W.keepIn K (.ref f_isWays) = true)
    (a_box : PySem.W.nsIn K mainGlobals "_law_box" = some (some (.ref f_box)))
    (l_box : K.lookup f_box = some ⟨oc_box, od_box, .func (PySem.W.fnOf "_law_box" "_law_box" (defArgs sBox) (defBody sBox) (defScope sBox) .none kV_box dc_box pm_box an_box cd_box ct_box), sl_box⟩)
    (c_box : PySem.W.codeIn K cd_box "_law_box" = true)
    (k_box : PySem.W.keepIn K (.ref f_box) = true)
    (a_mixed : PySem.W.nsIn K mainGlobals "_law_mixed" = some (some (.ref f_mixed)))
    (l_mixed : K.lookup f_mixed = some ⟨oc_mixed, od_mixed, .func (PySem.W.fnOf "_law_mixed" "_law_mixed" (defArgs sMixed) (defBody sMixed) (defScope sMixed) .none kV_mixed dc_mixed pm_mixed an_mixed cd_mixed ct_mixed), sl_mixed⟩)
    (c_mixed : PySem.W.codeIn K cd_mixed "_law_mixed" = true)
    (k_mixed : PySem.W.keepIn K (.ref f_mixed) = true)
    (a_take : PySem.W.nsIn K mainGlobals "_law_take" = some (some (.ref f_take)))
    (l_take : K.lookup f_take = some ⟨oc_take, od_take, .func (PySem.W.fnOf "_law_take" "_law_take" (defArgs sTake) (defBody sTake) (defScope sTake) .none kV_take dc_take pm_take an_take cd_take ct_take), sl_take⟩)
    (c_take : PySem.W.codeIn K cd_take "_law_take" = true)
    (k_take : PySem.W.keepIn K (.ref f_take) = true)
    (a_lrest : PySem.W.nsIn K mainGlobals "_law_rest" = some (some (.ref f_lrest)))
    (l_lrest : K.lookup f_lrest = some ⟨oc_lrest, od_lrest, .func (PySem.W.fnOf "_law_rest" "_law_rest" (defArgs sLRest) (defBody sLRest) (defScope sLRest) .none kV_lrest dc_lrest pm_lrest an_lrest cd_lrest ct_lrest), sl_lrest⟩)
    (c_lrest : PySem.W.codeIn K cd_lrest "_law_rest" = true)
    (k_lrest : PySem.W.keepIn K (.ref f_lrest) = true)
    (a_lties : PySem.W.nsIn K mainGlobals "_law_ties" = some (some (.ref f_lties)))
    (l_lties : K.lookup f_lties = some ⟨oc_lties, od_lties, .func (PySem.W.fnOf "_law_ties" "_law_ties" (defArgs sLTies) (defBody sLTies) (defScope sLTies) .none kV_lties dc_lties pm_lties an_lties cd_lties ct_lties), sl_lties⟩)
    (c_lties : PySem.W.codeIn K cd_lties "_law_ties" = true)
    (k_lties : PySem.W.keepIn K (.ref f_lties) = true)
    (a_lgcd : PySem.W.nsIn K mainGlobals "_law_gcd" = some (some (.ref f_lgcd)))
    (l_lgcd : K.lookup f_lgcd = some ⟨oc_lgcd, od_lgcd, .func (PySem.W.fnOf "_law_gcd" "_law_gcd" (defArgs sLGcd) (defBody sLGcd) (defScope sLGcd) .none kV_lgcd dc_lgcd pm_lgcd an_lgcd cd_lgcd ct_lgcd), sl_lgcd⟩)
    (c_lgcd : PySem.W.codeIn K cd_lgcd "_law_gcd" = true)
    (k_lgcd : PySem.W.keepIn K (.ref f_lgcd) = true)
    (a_llcm : PySem.W.nsIn K mainGlobals "_law_lcm" = some (some (.ref f_llcm)))
    (l_llcm : K.lookup f_llcm = some ⟨oc_llcm, od_llcm, .func (PySem.W.fnOf "_law_lcm" "_law_lcm" (defArgs sLLcm) (defBody sLLcm) (defScope sLLcm) .none kV_llcm dc_llcm pm_llcm an_llcm cd_llcm ct_llcm), sl_llcm⟩)
    (c_llcm : PySem.W.codeIn K cd_llcm "_law_lcm" = true)
    (k_llcm : PySem.W.keepIn K (.ref f_llcm) = true)
    (a_wayMade : PySem.W.nsIn K mainGlobals "_law_way_made" = some (some (.ref f_wayMade)))
    (l_wayMade : K.lookup f_wayMade = some ⟨oc_wayMade, od_wayMade, .func (PySem.W.fnOf "_law_way_made" "_law_way_made" (defArgs sWayMade) (defBody sWayMade) (defScope sWayMade) .none kV_wayMade dc_wayMade pm_wayMade an_wayMade cd_wayMade ct_wayMade), sl_wayMade⟩)
    (c_wayMade : PySem.W.codeIn K cd_wayMade "_law_way_made" = true)
    (k_wayMade : PySem.W.keepIn K (.ref f_wayMade) = true)
    (a_lfits : PySem.W.nsIn K mainGlobals "_law_fits" = some (some (.ref f_lfits)))
    (l_lfits : K.lookup f_lfits = some ⟨oc_lfits, od_lfits, .func (PySem.W.fnOf "_law_fits" "_law_fits" (defArgs sLFits) (defBody sLFits) (defScope sLFits) .none kV_lfits dc_lfits pm_lfits an_lfits cd_lfits ct_lfits), sl_lfits⟩)
    (c_lfits : PySem.W.codeIn K cd_lfits "_law_fits" = true)
    (k_lfits : PySem.W.keepIn K (.ref f_lfits) = true)
    (a_shows : PySem.W.nsIn K mainGlobals "_law_shows" = some (some (.ref f_shows)))
    (l_shows : K.lookup f_shows = some ⟨oc_shows, od_shows, .func (PySem.W.fnOf "_law_shows" "_law_shows" (defArgs sShows) (defBody sShows) (defScope sShows) .none kV_shows dc_shows pm_shows an_shows cd_shows ct_shows), sl_shows⟩)
    (c_shows : PySem.W.codeIn K cd_shows "_law_shows" = true)
    (k_shows : PySem.W.keepIn K (.ref f_shows) = true)
    (a_says : PySem.W.nsIn K mainGlobals "_law_says" = some (some (.ref f_says)))
    (l_says : K.lookup f_says = some ⟨oc_says, od_says, .func (PySem.W.fnOf "_law_says" "_law_says" (defArgs sSays) (defBody sSays) (defScope sSays) .none kV_says dc_says pm_says an_says cd_says ct_says), sl_says⟩)
    (c_says : PySem.W.codeIn K cd_says "_law_says" = true)
    (k_says : PySem.W.keepIn K (.ref f_says) = true)
    (a_agree : PySem.W.nsIn K mainGlobals "agree" = some (some (.ref f_agree)))
    (l_agree : K.lookup f_agree = some ⟨oc_agree, od_agree, .func (PySem.W.fnOf "agree" "agree" (defArgs sAgree) (defBody sAgree) (defScope sAgree) .none kV_agree dc_agree pm_agree an_agree cd_agree ct_agree), sl_agree⟩)
    (c_agree : PySem.W.codeIn K cd_agree "agree" = true)
    (k_agree : PySem.W.keepIn K (.ref f_agree) = true)
    (a_bondPaper : PySem.W.nsIn K mainGlobals "bond_paper" = some (some (.ref f_bondPaper)))
    (l_bondPaper : K.lookup f_bondPaper = some ⟨oc_bondPaper, od_bondPaper, .func (PySem.W.fnOf "bond_paper" "bond_paper" (defArgs sBondPaper) (defBody sBondPaper) (defScope sBondPaper) .none kV_bondPaper dc_bondPaper pm_bondPaper an_bondPaper cd_bondPaper ct_bondPaper), sl_bondPaper⟩)
    (c_bondPaper : PySem.W.codeIn K cd_bondPaper "bond_paper" = true)
    (k_bondPaper : PySem.W.keepIn K (.ref f_bondPaper) = true)
    (a_isBondPaper : PySem.W.nsIn K mainGlobals "is_bond_paper" = some (some (.ref f_isBondPaper)))
    (l_isBondPaper : K.lookup f_isBondPaper = some ⟨oc_isBondPaper, od_isBondPaper, .func (PySem.W.fnOf "is_bond_paper" "is_bond_paper" (defArgs sIsBondPaper) (defBody sIsBondPaper) (defScope sIsBondPaper) .none kV_isBondPaper dc_isBondPaper pm_isBondPaper an_isBondPaper cd_isBondPaper ct_isBondPaper), sl_isBondPaper⟩)
    (c_isBondPaper : PySem.W.codeIn K cd_isBondPaper "is_bond_paper" = true)
    (k_isBondPaper : PySem.W.keepIn K (.ref f_isBondPaper) = true)
    (a_isRest : PySem.W.nsIn K mainGlobals "is_rest" = some (some (.ref f_isRest)))
    (l_isRest : K.lookup f_isRest = some ⟨oc_isRest, od_isRest, .func (PySem.W.fnOf "is_rest" "is_rest" (defArgs sIsRest) (defBody sIsRest) (defScope sIsRest) .none (.ref D_isRest) dc_isRest pm_isRest an_isRest cd_isRest ct_isRest), sl_isRest⟩)
    (c_isRest : PySem.W.codeIn K cd_isRest "is_rest" = true)
    (k_isRest : PySem.W.keepIn K (.ref f_isRest) = true)
    (d_isRest : PySem.W.nsIn K D_isRest "most" = some (some (.int 1000000 t_isRest)))
    (a_I : PySem.W.findIn K (.ref C) "__init__" = some (some (.ref f_I)))
    (i_I : PySem.W.isFn K (.ref f_I) = true)
    (l_I : K.lookup f_I = some ⟨oc_I, od_I, .func (PySem.W.fnOf "__init__" "Web.__init__" (defArgs sWInit) (defBody sWInit) (defScope sWInit) .none kV_I dc_I pm_I an_I cd_I ct_I), sl_I⟩)
    (c_I : PySem.W.codeIn K cd_I "Web.__init__" = true)
    (k_I : PySem.W.keepIn K (.ref f_I) = true)
    (a_wMany : PySem.W.findIn K (.ref C) "many" = some (some (.ref f_wMany)))
    (i_wMany : PySem.W.isFn K (.ref f_wMany) = true)
    (l_wMany : K.lookup f_wMany = some ⟨oc_wMany, od_wMany, .func (PySem.W.fnOf "many" "Web.many" (defArgs sWMany) (defBody sWMany) (defScope sWMany) .none kV_wMany dc_wMany pm_wMany an_wMany cd_wMany ct_wMany), sl_wMany⟩)
    (c_wMany : PySem.W.codeIn K cd_wMany "Web.many" = true)
    (k_wMany : PySem.W.keepIn K (.ref f_wMany) = true)
    (a_wTies : PySem.W.findIn K (.ref C) "ties" = some (some (.ref f_wTies)))
    (i_wTies : PySem.W.isFn K (.ref f_wTies) = true)
    (l_wTies : K.lookup f_wTies = some ⟨oc_wTies, od_wTies, .func (PySem.W.fnOf "ties" "Web.ties" (defArgs sWTies) (defBody sWTies) (defScope sWTies) .none kV_wTies dc_wTies pm_wTies an_wTies cd_wTies ct_wTies), sl_wTies⟩)
    (c_wTies : PySem.W.codeIn K cd_wTies "Web.ties" = true)
    (k_wTies : PySem.W.keepIn K (.ref f_wTies) = true)
    (a_wFits : PySem.W.findIn K (.ref C) "fits" = some (some (.ref f_wFits)))
    (i_wFits : PySem.W.isFn K (.ref f_wFits) = true)
    (l_wFits : K.lookup f_wFits = some ⟨oc_wFits, od_wFits, .func (PySem.W.fnOf "fits" "Web.fits" (defArgs sWFits) (defBody sWFits) (defScope sWFits) .none kV_wFits dc_wFits pm_wFits an_wFits cd_wFits ct_wFits), sl_wFits⟩)
    (c_wFits : PySem.W.codeIn K cd_wFits "Web.fits" = true)
    (k_wFits : PySem.W.keepIn K (.ref f_wFits) = true)
    (a_wBond : PySem.W.findIn K (.ref C) "bond" = some (some (.ref f_wBond)))
    (i_wBond : PySem.W.isFn K (.ref f_wBond) = true)
    (l_wBond : K.lookup f_wBond = some ⟨oc_wBond, od_wBond, .func (PySem.W.fnOf "bond" "Web.bond" (defArgs sWBond) (defBody sWBond) (defScope sWBond) .none kV_wBond dc_wBond pm_wBond an_wBond cd_wBond ct_wBond), sl_wBond⟩)
    (c_wBond : PySem.W.codeIn K cd_wBond "Web.bond" = true)
    (k_wBond : PySem.W.keepIn K (.ref f_wBond) = true)
    (a_law : PySem.W.nsIn K mainGlobals "law" = some (some (.ref f_law)))
    (l_law : K.lookup f_law = some ⟨oc_law, od_law, .func (PySem.W.fnOf "law" "law" (defArgs sLaw) (defBody sLaw) (defScope sLaw) .none kV_law dc_law pm_law an_law cd_law ct_law), sl_law⟩)
    (c_law : PySem.W.codeIn K cd_law "law" = true)
    (k_law : PySem.W.keepIn K (.ref f_law) = true)
    (pg : PySem.W.plainGet K C Str.empty = true)
    (hd : PySem.W.hasDictIn K C = true)
    (po : PySem.W.plainOver K C = true)
    (sa : PySem.W.findIn K (.ref C) "__setattr__" = some (some (.builtin "object.__setattr__")))
    (mk : PySem.W.makesIn K C = true)
    (kc : PySem.W.keepIn K (.ref C) = true)
    (nPo : PySem.W.findIn K (.ref C) "points" = some none)
    (nKn : PySem.W.findIn K (.ref C) "knots" = some none)
    (nGr : PySem.W.findIn K (.ref C) "grid" = some none)
    (zInst : PySem.W.nsIn K mainGlobals "isinstance" = some none)
    (zInt : PySem.W.nsIn K mainGlobals "int" = some none)
    (zBool : PySem.W.nsIn K mainGlobals "bool" = some none)
    (zList : PySem.W.nsIn K mainGlobals "list" = some none)
    (zRange : PySem.W.nsIn K mainGlobals "range" = some none)
    (zLen : PySem.W.nsIn K mainGlobals "len" = some none)
    (zAll : PySem.W.nsIn K mainGlobals "all" = some none)
    (zEnum : PySem.W.nsIn K mainGlobals "enumerate" = some none)
    : ∃ fd : FuncData, (∀ (s : Shared) (v : Value), BindsTo s fd ⟨[v], []⟩ [("_law_script", v)]) ∧ ∀ base : Heap, K.In base → base.Ns mainGlobals mg → FnOk l.prog w K mg base CX0 6 fa fd ["_law_script"] (spLaw K) := by
  have e := hfa.symm.trans (PySem.W.mg_of X G a_law)
  cases e
  have F_isWhole := fun_mk (st := sIsWhole) l_isWhole c_isWhole k_isWhole
  have F_divides := fun_mk (st := sDivides) l_divides c_divides k_divides
  have F_common := fun_mk (st := sCommon) l_common c_common k_common
  have F_joined := fun_mk (st := sJoined) l_joined c_joined k_joined
  have F_joinedAll := fun_mk (st := sJoinedAll) l_joinedAll c_joinedAll k_joinedAll
  have F_powers := fun_mk (st := sPowers) l_powers c_powers k_powers
  have F_isPoint := fun_mk (st := sIsPoint) l_isPoint c_isPoint k_isPoint
  have F_closure := fun_mk (st := sClosure) l_closure c_closure k_closure
  have F_leads := fun_mk (st := sLeads) l_leads c_leads k_leads
  have F_waysFrom := fun_mk (st := sWaysFrom) l_waysFrom c_waysFrom k_waysFrom
  have F_apart := fun_mk (st := sApart) l_apart c_apart k_apart
  have F_wayRest := fun_mk (st := sWayRest) l_wayRest c_wayRest k_wayRest
  have F_isWays := fun_mk (st := sIsWays) l_isWays c_isWays k_isWays
  have F_box := fun_mk (st := sBox) l_box c_box k_box
  have F_mixed := fun_mk (st := sMixed) l_mixed c_mixed k_mixed
  have F_take := fun_mk (st := sTake) l_take c_take k_take
  have F_lrest := fun_mk (st := sLRest) l_lrest c_lrest k_lrest
  have F_lties := fun_mk (st := sLTies) l_lties c_lties k_lties
  have F_lgcd := fun_mk (st := sLGcd) l_lgcd c_lgcd k_lgcd
  have F_llcm := fun_mk (st := sLLcm) l_llcm c_llcm k_llcm
  have F_wayMade := fun_mk (st := sWayMade) l_wayMade c_wayMade k_wayMade
  have F_lfits := fun_mk (st := sLFits) l_lfits c_lfits k_lfits
  have F_shows := fun_mk (st := sShows) l_shows c_shows k_shows
  have F_says := fun_mk (st := sSays) l_says c_says k_says
  have F_agree := fun_mk (st := sAgree) l_agree c_agree k_agree
  have F_bondPaper := fun_mk (st := sBondPaper) l_bondPaper c_bondPaper k_bondPaper
  have F_isBondPaper := fun_mk (st := sIsBondPaper) l_isBondPaper c_isBondPaper k_isBondPaper
  have F_isRest := fun_mk (st := sIsRest) l_isRest c_isRest k_isRest
  have F_I := fun_mk (st := sWInit) l_I c_I k_I
  have F_law := fun_mk (st := sLaw) l_law c_law k_law
  have F_wMany := fun_mk (st := sWMany) l_wMany c_wMany k_wMany
  have F_wTies := fun_mk (st := sWTies) l_wTies c_wTies k_wTies
  have F_wFits := fun_mk (st := sWFits) l_wFits c_wFits k_wFits
  have F_wBond := fun_mk (st := sWBond) l_wBond c_wBond k_wBond
  have B_agree : KBn K _ ["one", "two", "rest"] 2 ["rest"] (fun us ws => us ++ ws) (fun vs zs => vs ++ zs) := ⟨fun s us ws _ h1 h2 => match us, ws, h1, h2 with | [_, _], [_], _, _ => BindsTo.of_eq (fd := PySem.W.fnOf "agree" "agree" (defArgs sAgree) (defBody sAgree) (defScope sAgree) .none kV_agree dc_agree pm_agree an_agree cd_agree ct_agree) rfl, fun r1 r2 => r1.append r2⟩
  have B_bondPaper : KBn K _ ["web", "u", "v", "rest"] 3 ["rest"] (fun us ws => us ++ ws) (fun vs zs => vs ++ zs) := ⟨fun s us ws _ h1 h2 => match us, ws, h1, h2 with | [_, _, _], [_], _, _ => BindsTo.of_eq (fd := PySem.W.fnOf "bond_paper" "bond_paper" (defArgs sBondPaper) (defBody sBondPaper) (defScope sBondPaper) .none kV_bondPaper dc_bondPaper pm_bondPaper an_bondPaper cd_bondPaper ct_bondPaper) rfl, fun r1 r2 => r1.append r2⟩
  have B_isBondPaper : KBn K _ ["web", "u", "v", "paper", "rest"] 4 ["rest"] (fun us ws => us ++ ws) (fun vs zs => vs ++ zs) := ⟨fun s us ws _ h1 h2 => match us, ws, h1, h2 with | [_, _, _, _], [_], _, _ => BindsTo.of_eq (fd := PySem.W.fnOf "is_bond_paper" "is_bond_paper" (defArgs sIsBondPaper) (defBody sIsBondPaper) (defScope sIsBondPaper) .none kV_isBondPaper dc_isBondPaper pm_isBondPaper an_isBondPaper cd_isBondPaper ct_isBondPaper) rfl, fun r1 r2 => r1.append r2⟩
  have FD : FunD K "is_rest" "is_rest" (defArgs sIsRest) (defBody sIsRest) (defScope sIsRest) [] [("most", .int 1000000)] f_isRest _ := ⟨⟨_, _, _, _, _, _, _, _, _, _, rfl, l_isRest, c_isRest, .inl ⟨rfl, rfl⟩, .inr ⟨D_isRest, rfl, fun q hq => by rw [List.mem_singleton.mp hq]; exact ⟨_, d_isRest, _, rfl⟩⟩⟩, k_isRest⟩
  obtain ⟨ds, hv, hb⟩ := FD.binds0 (ps := ["thing", "most"]) 1 (by simp) rfl (fun D dc pm an cd ct us ks h1 h2 => match us, ks, h1, h2 with | [_], [_], _, _ => ⟨_, _, _, _, _, _, rfl, rfl, rfl⟩)
  have T : Txt K mg := {
    C := C
    cl := ⟨pg, hd, po, sa⟩
    mgC := PySem.W.mg_of X G aC
    nPo := nPo
    nKn := nKn
    nGr := nGr
    fI := f_I
    fdI := _
    FI := F_I
    bI := (F_I.binds (ps := ["self", "many", "ties"]) fun _ _ _ _ _ _ us hl => match us, hl with | [_, _, _], _ => rfl)
    MI := ⟨mk, a_I, i_I, kc⟩
    wMany := ⟨f_wMany, _, F_wMany, (F_wMany.binds (ps := ["self"]) fun _ _ _ _ _ _ us hl => match us, hl with | [_], _ => rfl), ⟨a_wMany, i_wMany, k_wMany⟩⟩
    wTies := ⟨f_wTies, _, F_wTies, (F_wTies.binds (ps := ["self"]) fun _ _ _ _ _ _ us hl => match us, hl with | [_], _ => rfl), ⟨a_wTies, i_wTies, k_wTies⟩⟩
    wFits := ⟨f_wFits, _, F_wFits, (F_wFits.binds (ps := ["self", "case"]) fun _ _ _ _ _ _ us hl => match us, hl with | [_, _], _ => rfl), ⟨a_wFits, i_wFits, k_wFits⟩⟩
    wBond := ⟨f_wBond, _, F_wBond, (F_wBond.binds (ps := ["self", "u", "v"]) fun _ _ _ _ _ _ us hl => match us, hl with | [_, _, _], _ => rfl), ⟨a_wBond, i_wBond, k_wBond⟩⟩
    isWhole := ⟨f_isWhole, _, F_isWhole, (F_isWhole.binds (ps := ["thing"]) fun _ _ _ _ _ _ us hl => match us, hl with | [_], _ => rfl), PySem.W.mg_of X G a_isWhole⟩
    divides := ⟨f_divides, _, F_divides, (F_divides.binds (ps := ["rest", "number"]) fun _ _ _ _ _ _ us hl => match us, hl with | [_, _], _ => rfl), PySem.W.mg_of X G a_divides⟩
    common := ⟨f_common, _, F_common, (F_common.binds (ps := ["one", "two"]) fun _ _ _ _ _ _ us hl => match us, hl with | [_, _], _ => rfl), PySem.W.mg_of X G a_common⟩
    joined := ⟨f_joined, _, F_joined, (F_joined.binds (ps := ["one", "two"]) fun _ _ _ _ _ _ us hl => match us, hl with | [_, _], _ => rfl), PySem.W.mg_of X G a_joined⟩
    joinedAll := ⟨f_joinedAll, _, F_joinedAll, (F_joinedAll.binds (ps := ["rests"]) fun _ _ _ _ _ _ us hl => match us, hl with | [_], _ => rfl), PySem.W.mg_of X G a_joinedAll⟩
    powers := ⟨f_powers, _, F_powers, (F_powers.binds (ps := ["number"]) fun _ _ _ _ _ _ us hl => match us, hl with | [_], _ => rfl), PySem.W.mg_of X G a_powers⟩
    isPoint := ⟨f_isPoint, _, F_isPoint, (F_isPoint.binds (ps := ["thing", "many"]) fun _ _ _ _ _ _ us hl => match us, hl with | [_, _], _ => rfl), PySem.W.mg_of X G a_isPoint⟩
    closure := ⟨f_closure, _, F_closure, (F_closure.binds (ps := ["many", "ties"]) fun _ _ _ _ _ _ us hl => match us, hl with | [_, _], _ => rfl), PySem.W.mg_of X G a_closure⟩
    leads := ⟨f_leads, _, F_leads, (F_leads.binds (ps := ["power", "rest"]) fun _ _ _ _ _ _ us hl => match us, hl with | [_, _], _ => rfl), PySem.W.mg_of X G a_leads⟩
    waysFrom := ⟨f_waysFrom, _, F_waysFrom, (F_waysFrom.binds (ps := ["web", "start", "power"]) fun _ _ _ _ _ _ us hl => match us, hl with | [_, _, _], _ => rfl), PySem.W.mg_of X G a_waysFrom⟩
    apart := ⟨f_apart, _, F_apart, (F_apart.binds (ps := ["web", "u", "power"]) fun _ _ _ _ _ _ us hl => match us, hl with | [_, _, _], _ => rfl), PySem.W.mg_of X G a_apart⟩
    wayRest := ⟨f_wayRest, _, F_wayRest, (F_wayRest.binds (ps := ["web", "u", "v", "way"]) fun _ _ _ _ _ _ us hl => match us, hl with | [_, _, _, _], _ => rfl), PySem.W.mg_of X G a_wayRest⟩
    isWays := ⟨f_isWays, _, F_isWays, (F_isWays.binds (ps := ["web", "u", "v", "ways", "rest"]) fun _ _ _ _ _ _ us hl => match us, hl with | [_, _, _, _, _], _ => rfl), PySem.W.mg_of X G a_isWays⟩
    box := ⟨f_box, _, F_box, (F_box.binds (ps := ["_law_script"]) fun _ _ _ _ _ _ us hl => match us, hl with | [_], _ => rfl), PySem.W.mg_of X G a_box⟩
    mixed := ⟨f_mixed, _, F_mixed, (F_mixed.binds (ps := ["_law_cell", "_law_k"]) fun _ _ _ _ _ _ us hl => match us, hl with | [_, _], _ => rfl), PySem.W.mg_of X G a_mixed⟩
    take := ⟨f_take, _, F_take, (F_take.binds (ps := ["_law_box_here", "_law_size"]) fun _ _ _ _ _ _ us hl => match us, hl with | [_, _], _ => rfl), PySem.W.mg_of X G a_take⟩
    lrest := ⟨f_lrest, _, F_lrest, (F_lrest.binds (ps := ["_law_box_here"]) fun _ _ _ _ _ _ us hl => match us, hl with | [_], _ => rfl), PySem.W.mg_of X G a_lrest⟩
    lties := ⟨f_lties, _, F_lties, (F_lties.binds (ps := ["_law_box_here", "_law_many", "_law_most"]) fun _ _ _ _ _ _ us hl => match us, hl with | [_, _, _], _ => rfl), PySem.W.mg_of X G a_lties⟩
    lgcd := ⟨f_lgcd, _, F_lgcd, (F_lgcd.binds (ps := ["_law_one", "_law_two"]) fun _ _ _ _ _ _ us hl => match us, hl with | [_, _], _ => rfl), PySem.W.mg_of X G a_lgcd⟩
    llcm := ⟨f_llcm, _, F_llcm, (F_llcm.binds (ps := ["_law_one", "_law_two"]) fun _ _ _ _ _ _ us hl => match us, hl with | [_, _], _ => rfl), PySem.W.mg_of X G a_llcm⟩
    wayMade := ⟨f_wayMade, _, F_wayMade, (F_wayMade.binds (ps := ["_law_ties_here", "_law_here", "_law_goal", "_law_way"]) fun _ _ _ _ _ _ us hl => match us, hl with | [_, _, _, _], _ => rfl), PySem.W.mg_of X G a_wayMade⟩
    lfits := ⟨f_lfits, _, F_lfits, (F_lfits.binds (ps := ["_law_many", "_law_ties_here", "_law_case"]) fun _ _ _ _ _ _ us hl => match us, hl with | [_, _, _], _ => rfl), PySem.W.mg_of X G a_lfits⟩
    shows := ⟨f_shows, _, F_shows, (F_shows.binds (ps := ["_law_many", "_law_ties_here", "_law_pair", "_law_by", "_law_paper"]) fun _ _ _ _ _ _ us hl => match us, hl with | [_, _, _, _, _], _ => rfl), PySem.W.mg_of X G a_shows⟩
    says := ⟨f_says, _, F_says, (F_says.binds (ps := ["_law_found", "_law_due"]) fun _ _ _ _ _ _ us hl => match us, hl with | [_, _], _ => rfl), PySem.W.mg_of X G a_says⟩
    agree := ⟨f_agree, _, F_agree, B_agree, PySem.W.mg_of X G a_agree⟩
    bondPaper := ⟨f_bondPaper, _, F_bondPaper, B_bondPaper, PySem.W.mg_of X G a_bondPaper⟩
    isBondPaper := ⟨f_isBondPaper, _, F_isBondPaper, B_isBondPaper, PySem.W.mg_of X G a_isBondPaper⟩
    isRest := ⟨f_isRest, _, ds, F_isRest, hv, hb, PySem.W.mg_of X G a_isRest⟩
    zInst := PySem.W.mg_none_of X G zInst
    zInt := PySem.W.mg_none_of X G zInt
    zBool := PySem.W.mg_none_of X G zBool
    zList := PySem.W.mg_none_of X G zList
    zRange := PySem.W.mg_none_of X G zRange
    zLen := PySem.W.mg_none_of X G zLen
    zAll := PySem.W.mg_none_of X G zAll
    zEnum := PySem.W.mg_none_of X G zEnum }
  exact ⟨_, fun s v => .of_eq (fd := PySem.W.fnOf "law" "law" (defArgs sLaw) (defBody sLaw) (defScope sLaw) .none kV_law dc_law pm_law an_law cd_law ct_law) rfl, fun base _ _ => ok_law T F_law⟩
end K12
open PySem PySem.W PyProof.Rows
set_option maxRecDepth 100000 in
set_option maxHeartbeats 0 in
theorem PySem.Challenge.cw_samewell_k12_whole_way_or_case_holds : PySem.Challenge.rw_samewell_k12_whole_way_or_case.Holds := by
  w_on; o_law; k_head; (case hw => w_witness2)
  k_fill
  refine L2.walk_of (l := PySem.Challenge.rw_samewell_k12_whole_way_or_case) (n := 63) (k := 6) (x := "_law_script") (CX := fun _ => L2.CX0) (sp := fun w => K12.spLaw _) rfl (by decide) rfl ⟨rfl, by decide, by decide⟩ (fun w h Y => PySem.W.kIn_of Y) ?F (fun _ _ a ns hl _ hS => ⟨a, ns, rfl, hS, hl, fun _ => rfl⟩) (fun _ _ _ _ _ h => h)
  case F =>
    intro w mg fa h KX G hmg
    refine' K12.all_mk KX G hmg ?aC ?a_isWhole ?l_isWhole ?c_isWhole ?k_isWhole ?a_divides ?l_divides ?c_divides ?k_divides ?a_common ?l_common ?c_common ?k_common ?a_joined ?l_joined ?c_joined ?k_joined ?a_joinedAll ?l_joinedAll ?c_joinedAll ?k_joinedAll ?a_powers ?l_powers ?c_powers ?k_powers ?a_isPoint ?l_isPoint ?c_isPoint ?k_isPoint ?a_closure ?l_closure ?c_closure ?k_closure ?a_leads ?l_leads ?c_leads ?k_leads ?a_waysFrom ?l_waysFrom ?c_waysFrom ?k_waysFrom ?a_apart ?l_apart ?c_apart ?k_apart ?a_wayRest ?l_wayRest ?c_wayRest ?k_wayRest ?a_isWays ?l_isWays ?c_isWays ?k_isWays ?a_box ?l_box ?c_box ?k_box ?a_mixed ?l_mixed ?c_mixed ?k_mixed ?a_take ?l_take ?c_take ?k_take ?a_lrest ?l_lrest ?c_lrest ?k_lrest ?a_lties ?l_lties ?c_lties ?k_lties ?a_lgcd ?l_lgcd ?c_lgcd ?k_lgcd ?a_llcm ?l_llcm ?c_llcm ?k_llcm ?a_wayMade ?l_wayMade ?c_wayMade ?k_wayMade ?a_lfits ?l_lfits ?c_lfits ?k_lfits ?a_shows ?l_shows ?c_shows ?k_shows ?a_says ?l_says ?c_says ?k_says ?a_agree ?l_agree ?c_agree ?k_agree ?a_bondPaper ?l_bondPaper ?c_bondPaper ?k_bondPaper ?a_isBondPaper ?l_isBondPaper ?c_isBondPaper ?k_isBondPaper ?a_isRest ?l_isRest ?c_isRest ?k_isRest ?d_isRest ?a_I ?i_I ?l_I ?c_I ?k_I ?a_wMany ?i_wMany ?l_wMany ?c_wMany ?k_wMany ?a_wTies ?i_wTies ?l_wTies ?c_wTies ?k_wTies ?a_wFits ?i_wFits ?l_wFits ?c_wFits ?k_wFits ?a_wBond ?i_wBond ?l_wBond ?c_wBond ?k_wBond ?a_law ?l_law ?c_law ?k_law ?pg ?hd ?po ?sa ?mk ?kc ?nPo ?nKn ?nGr ?zInst ?zInt ?zBool ?zList ?zRange ?zLen ?zAll ?zEnum
    (case aC => k_is)
    (case a_isWhole => k_is)
    (case l_isWhole => k_is)
    (case c_isWhole => k_is)
    (case k_isWhole => k_is)
    (case a_divides => k_is)
    (case l_divides => k_is)
    (case c_divides => k_is)
    (case k_divides => k_is)
    (case a_common => k_is)
    (case l_common => k_is)
    (case c_common => k_is)
    (case k_common => k_is)
    (case a_joined => k_is)
    (case l_joined => k_is)
    (case c_joined => k_is)
    (case k_joined => k_is)
    (case a_joinedAll => k_is)
    (case l_joinedAll => k_is)
    (case c_joinedAll => k_is)
    (case k_joinedAll => k_is)
    (case a_powers => k_is)
    (case l_powers => k_is)
    (case c_powers => k_is)
    (case k_powers => k_is)
    (case a_isPoint => k_is)
    (case l_isPoint => k_is)
    (case c_isPoint => k_is)
    (case k_isPoint => k_is)
    (case a_closure => k_is)
    (case l_closure => k_is)
    (case c_closure => k_is)
    (case k_closure => k_is)
    (case a_leads => k_is)
    (case l_leads => k_is)
    (case c_leads => k_is)
    (case k_leads => k_is)
    (case a_waysFrom => k_is)
    (case l_waysFrom => k_is)
    (case c_waysFrom => k_is)
    (case k_waysFrom => k_is)
    (case a_apart => k_is)
    (case l_apart => k_is)
    (case c_apart => k_is)
    (case k_apart => k_is)
    (case a_wayRest => k_is)
    (case l_wayRest => k_is)
    (case c_wayRest => k_is)
    (case k_wayRest => k_is)
    (case a_isWays => k_is)
    (case l_isWays => k_is)
    (case c_isWays => k_is)
    (case k_isWays => k_is)
    (case a_box => k_is)
    (case l_box => k_is)
    (case c_box => k_is)
    (case k_box => k_is)
    (case a_mixed => k_is)
    (case l_mixed => k_is)
    (case c_mixed => k_is)
    (case k_mixed => k_is)
    (case a_take => k_is)
    (case l_take => k_is)
    (case c_take => k_is)
    (case k_take => k_is)
    (case a_lrest => k_is)
    (case l_lrest => k_is)
    (case c_lrest => k_is)
    (case k_lrest => k_is)
    (case a_lties => k_is)
    (case l_lties => k_is)
    (case c_lties => k_is)
    (case k_lties => k_is)
    (case a_lgcd => k_is)
    (case l_lgcd => k_is)
    (case c_lgcd => k_is)
    (case k_lgcd => k_is)
    (case a_llcm => k_is)
    (case l_llcm => k_is)
    (case c_llcm => k_is)
    (case k_llcm => k_is)
    (case a_wayMade => k_is)
    (case l_wayMade => k_is)
    (case c_wayMade => k_is)
    (case k_wayMade => k_is)
    (case a_lfits => k_is)
    (case l_lfits => k_is)
    (case c_lfits => k_is)
    (case k_lfits => k_is)
    (case a_shows => k_is)
    (case l_shows => k_is)
    (case c_shows => k_is)
    (case k_shows => k_is)
    (case a_says => k_is)
    (case l_says => k_is)
    (case c_says => k_is)
    (case k_says => k_is)
    (case a_agree => k_is)
    (case l_agree => k_is)
    (case c_agree => k_is)
    (case k_agree => k_is)
    (case a_bondPaper => k_is)
    (case l_bondPaper => k_is)
    (case c_bondPaper => k_is)
    (case k_bondPaper => k_is)
    (case a_isBondPaper => k_is)
    (case l_isBondPaper => k_is)
    (case c_isBondPaper => k_is)
    (case k_isBondPaper => k_is)
    (case a_isRest => k_is)
    (case l_isRest => k_is)
    (case c_isRest => k_is)
    (case k_isRest => k_is)
    (case d_isRest => k_is)
    (case a_I => k_is)
    (case i_I => k_is)
    (case l_I => k_is)
    (case c_I => k_is)
    (case k_I => k_is)
    (case a_wMany => k_is)
    (case i_wMany => k_is)
    (case l_wMany => k_is)
    (case c_wMany => k_is)
    (case k_wMany => k_is)
    (case a_wTies => k_is)
    (case i_wTies => k_is)
    (case l_wTies => k_is)
    (case c_wTies => k_is)
    (case k_wTies => k_is)
    (case a_wFits => k_is)
    (case i_wFits => k_is)
    (case l_wFits => k_is)
    (case c_wFits => k_is)
    (case k_wFits => k_is)
    (case a_wBond => k_is)
    (case i_wBond => k_is)
    (case l_wBond => k_is)
    (case c_wBond => k_is)
    (case k_wBond => k_is)
    (case a_law => k_is)
    (case l_law => k_is)
    (case c_law => k_is)
    (case k_law => k_is)
    (case pg => k_is)
    (case hd => k_is)
    (case po => k_is)
    (case sa => k_is)
    (case mk => k_is)
    (case kc => k_is)
    (case nPo => k_is)
    (case nKn => k_is)
    (case nGr => k_is)
    (case zInst => k_is)
    (case zInt => k_is)
    (case zBool => k_is)
    (case zList => k_is)
    (case zRange => k_is)
    (case zLen => k_is)
    (case zAll => k_is)
    (case zEnum => k_is)
#print axioms PySem.Challenge.cw_samewell_k12_whole_way_or_case_holds

