import PyProof.Rows.All
import Wide.All
import OpenK.AllK
import Wide.FinOn
import HandS.ForMost
import HandS.Star
import HandS.IsInst
import HandS.Style
import HandS.TupAny
import HandS.Lambda
import HandS.Wide
import HandS.Walk
import KE.GoesEnum
import KE.GoesMore
import KE.KRevSl
import KE.SortData
import KE.SortKeyHeap
import HandS.SortKw
import KE.KLam
import HandS.GenList
import PyProof.GenQ
import KE.KDictIter
import HandS.Words
import HandS.Defaults
import HandS.SortRule
import HandS.DictTup
import HandS.IterVal
import KE.KEqDeep
import KE.KStateDown
import KE.KNestM
import HandS.Head0
import HandS.Head1
import HandS.Head2
import HandS.HeadEnd
import HandS.HeadHook1
import HandS.HeadHook2
import HandS.EndTab
import HandS.HeadWalk
import PySem.Challenge.RW_wildsteps_k08_whole_counts_of_factors_an
/-! text K8Det -/
/-! Determinants of integer matrices by first-column expansion; Chio's identity; no library. -/
namespace K8

def sumN : Nat → (Nat → Int) → Int
  | 0, _ => 0
  | n + 1, f => sumN n f + f n

theorem sumN_congr {f g : Nat → Int} : ∀ {n : Nat}, (∀ i, i < n → f i = g i) → sumN n f = sumN n g
  | 0, _ => rfl
  | n + 1, h => by
    show sumN n f + f n = sumN n g + g n
    rw [sumN_congr (fun i hi => h i (Nat.lt_succ_of_lt hi)), h n (Nat.lt_succ_self n)]

theorem sumN_lin {f g h : Nat → Int} (a b : Int) : ∀ {n : Nat}, (∀ i, i < n → f i = a * g i + b * h i) → sumN n f = a * sumN n g + b * sumN n h
  | 0, _ => by simp [sumN]
  | n + 1, e => by
    show sumN n f + f n = a * (sumN n g + g n) + b * (sumN n h + h n)
    rw [sumN_lin a b (fun i hi => e i (Nat.lt_succ_of_lt hi)), e n (Nat.lt_succ_self n)]
    grind

theorem sumN_zero {f : Nat → Int} : ∀ {n : Nat}, (∀ i, i < n → f i = 0) → sumN n f = 0
  | 0, _ => rfl
  | n + 1, e => by
    show sumN n f + f n = 0
    rw [sumN_zero (fun i hi => e i (Nat.lt_succ_of_lt hi)), e n (Nat.lt_succ_self n)]
    rfl

/-- only the term at k -/
theorem sumN_one {f : Nat → Int} {k : Nat} : ∀ {n : Nat}, k < n → (∀ i, i < n → i ≠ k → f i = 0) → sumN n f = f k
  | 0, h, _ => absurd h (Nat.not_lt_zero _)
  | n + 1, h, e => by
    show sumN n f + f n = f k
    by_cases hk : k = n
    · subst hk
      rw [sumN_zero fun i hi => e i (Nat.lt_succ_of_lt hi) (Nat.ne_of_lt hi)]
      omega
    · rw [sumN_one (by omega) fun i hi => e i (Nat.lt_succ_of_lt hi), e n (Nat.lt_succ_self n) fun z => hk z.symm]
      omega

/-- two sums whose neighbouring terms k, k + 1 are exchanged, with the other sign -/
theorem sumN_swap {f g : Nat → Int} {k : Nat} : ∀ {n : Nat}, k + 1 < n → (∀ i, i < n → i ≠ k → i ≠ k + 1 → f i = - g i) → f k = - g (k + 1) → f (k + 1) = - g k → sumN n f = - sumN n g
  | 0, h, _, _, _ => absurd h (Nat.not_lt_zero _)
  | n + 1, h, e, e1, e2 => by
    by_cases hk : k + 1 = n
    · subst hk
      show sumN k f + f k + f (k + 1) = - (sumN k g + g k + g (k + 1))
      have : sumN k f = - sumN k g := by
        have := sumN_lin (f := f) (g := g) (h := g) (n := k) (-1) 0 fun i hi => by rw [e i (by omega) (by omega) (by omega)]; omega
        omega
      omega
    · show sumN n f + f n = - (sumN n g + g n)
      rw [sumN_swap (by omega) (fun i hi => e i (Nat.lt_succ_of_lt hi)) e1 e2, e n (Nat.lt_succ_self n) (by omega) fun z => hk z.symm]
      omega

def sgn (i : Nat) : Int := if i % 2 = 0 then 1 else -1
theorem sgn_succ (i : Nat) : sgn (i + 1) = - sgn i := by
  unfold sgn
  by_cases h : i % 2 = 0
  · rw [if_pos h, if_neg (by omega)]
  · rw [if_neg h, if_pos (by omega)]; rfl

def skip (i k : Nat) : Nat := if k < i then k else k + 1
theorem skip_lt {i k n : Nat} (h : k < n) : skip i k < n + 1 := by unfold skip; split <;> omega
theorem skip_ne (i k : Nat) : skip i k ≠ i := by unfold skip; split <;> omega
theorem skip_zero (k : Nat) : skip 0 k = k + 1 := by unfold skip; rw [if_neg (Nat.not_lt_zero _)]

abbrev Mat := Nat → Nat → Int

def minor (A : Mat) (i : Nat) : Mat := fun r c => A (skip i r) (c + 1)

def det : Nat → Mat → Int
  | 0, _ => 1
  | n + 1, A => sumN (n + 1) fun i => sgn i * A i 0 * det n (minor A i)

theorem det_succ (n : Nat) (A : Mat) : det (n + 1) A = sumN (n + 1) fun i => sgn i * A i 0 * det n (minor A i) := rfl

theorem det_congr : ∀ {n : Nat} {A B : Mat}, (∀ r c, r < n → c < n → A r c = B r c) → det n A = det n B
  | 0, _, _, _ => rfl
  | n + 1, A, B, h => by
    rw [det_succ, det_succ]
    refine sumN_congr fun i hi => ?_
    rw [h i 0 hi (Nat.succ_pos n), det_congr (A := minor A i) (B := minor B i) fun r c hr hc => h _ _ (skip_lt hr) (Nat.succ_lt_succ hc)]

/-- linear in each row -/
theorem det_row {a b : Int} : ∀ {n k : Nat} {A B C : Mat}, k < n → (∀ r c, r < n → c < n → r ≠ k → A r c = B r c) → (∀ r c, r < n → c < n → r ≠ k → A r c = C r c) → (∀ c, c < n → A k c = a * B k c + b * C k c) → det n A = a * det n B + b * det n C
  | 0, _, _, _, _, h, _, _, _ => absurd h (Nat.not_lt_zero _)
  | n + 1, k, A, B, C, hk, hB, hC, he => by
    rw [det_succ, det_succ, det_succ]
    refine sumN_lin a b fun i hi => ?_
    by_cases hik : i = k
    · subst hik
      have eB : det n (minor A i) = det n (minor B i) := det_congr fun r c hr hc => hB _ _ (skip_lt hr) (Nat.succ_lt_succ hc) (skip_ne _ _)
      have eC : det n (minor A i) = det n (minor C i) := det_congr fun r c hr hc => hC _ _ (skip_lt hr) (Nat.succ_lt_succ hc) (skip_ne _ _)
      rw [he 0 (Nat.succ_pos n), ← eB, ← eC]
      grind
    · have e0 := hB i 0 hi (Nat.succ_pos n) hik
      have e1 := hC i 0 hi (Nat.succ_pos n) hik
      rw [← e0, ← e1]
      obtain ⟨k', hk', hs⟩ : ∃ k', k' < n ∧ skip i k' = k := by
        by_cases hlt : k < i
        · exact ⟨k, by omega, by unfold skip; rw [if_pos hlt]⟩
        · exact ⟨k - 1, by omega, by unfold skip; rw [if_neg (by omega)]; omega⟩
      have inj : ∀ r, skip i r = k → r = k' := fun r hr => by
        unfold skip at hr hs
        split at hr <;> split at hs <;> omega
      have := det_row (a := a) (b := b) (A := minor A i) (B := minor B i) (C := minor C i) hk' (fun r c hr hc hne => hB _ _ (skip_lt hr) (Nat.succ_lt_succ hc) fun z => hne (inj r z)) (fun r c hr hc hne => hC _ _ (skip_lt hr) (Nat.succ_lt_succ hc) fun z => hne (inj r z))
        (fun c hc => by show A (skip i k') (c + 1) = a * B (skip i k') (c + 1) + b * C (skip i k') (c + 1); rw [hs]; exact he _ (Nat.succ_lt_succ hc))
      rw [this]
      grind

def sw (k r : Nat) : Nat := if r = k then k + 1 else if r = k + 1 then k else r

/-- neighbouring rows exchanged -/
theorem det_swap1 : ∀ {n k : Nat} {A B : Mat}, k + 1 < n → (∀ r c, r < n → c < n → B r c = A (sw k r) c) → det n B = - det n A
  | 0, _, _, _, h, _ => absurd h (Nat.not_lt_zero _)
  | n + 1, k, A, B, hk, hB => by
    rw [det_succ, det_succ]
    have q1 : det n (minor B k) = det n (minor A (k + 1)) := det_congr fun r c hr hc => by
      show B (skip k r) (c + 1) = A (skip (k + 1) r) (c + 1)
      rw [hB _ _ (skip_lt hr) (Nat.succ_lt_succ hc)]
      have : sw k (skip k r) = skip (k + 1) r := by unfold sw skip; (repeat' split) <;> omega
      rw [this]
    have q2 : det n (minor B (k + 1)) = det n (minor A k) := det_congr fun r c hr hc => by
      show B (skip (k + 1) r) (c + 1) = A (skip k r) (c + 1)
      rw [hB _ _ (skip_lt hr) (Nat.succ_lt_succ hc)]
      have : sw k (skip (k + 1) r) = skip k r := by unfold sw skip; (repeat' split) <;> omega
      rw [this]
    refine sumN_swap (k := k) hk (fun i hi h1 h2 => ?_) ?_ ?_
    · have e0 : B i 0 = A i 0 := by
        rw [hB i 0 hi (Nat.succ_pos n)]
        unfold sw; rw [if_neg h1, if_neg h2]
      have em : det n (minor B i) = - det n (minor A i) := by
        by_cases hlt : i < k
        · refine det_swap1 (k := k - 1) (by omega) fun r c hr hc => ?_
          show B (skip i r) (c + 1) = A (skip i (sw (k - 1) r)) (c + 1)
          rw [hB _ _ (skip_lt hr) (Nat.succ_lt_succ hc)]
          have : sw k (skip i r) = skip i (sw (k - 1) r) := by unfold sw skip; (repeat' split) <;> omega
          rw [this]
        · refine det_swap1 (k := k) (by omega) fun r c hr hc => ?_
          show B (skip i r) (c + 1) = A (skip i (sw k r)) (c + 1)
          rw [hB _ _ (skip_lt hr) (Nat.succ_lt_succ hc)]
          have : sw k (skip i r) = skip i (sw k r) := by unfold sw skip; (repeat' split) <;> omega
          rw [this]
      rw [e0, em]
      grind
    · have e0 : B k 0 = A (k + 1) 0 := by
        rw [hB k 0 (by omega) (Nat.succ_pos n)]
        unfold sw; rw [if_pos rfl]
      rw [e0, q1, sgn_succ]
      grind
    · have e0 : B (k + 1) 0 = A k 0 := by
        rw [hB (k + 1) 0 hk (Nat.succ_pos n)]
        unfold sw; rw [if_neg (by omega), if_pos rfl]
      rw [e0, q2, sgn_succ]
      grind

/-- two equal rows -/
theorem det_same {n : Nat} {k : Nat} : ∀ (d : Nat) {A : Mat}, k + d + 1 < n → (∀ c, c < n → A k c = A (k + d + 1) c) → det n A = 0
  | 0, A, h, e => by
    have : det n A = - det n A := by
      refine det_swap1 (k := k) h fun r c _ hc => ?_
      unfold sw
      split
      · subst r; exact e c hc
      · split
        · subst r; exact (e c hc).symm
        · rfl
    omega
  | d + 1, A, h, e => by
    have h0 : det n (fun r c => A (sw (k + d + 1) r) c) = 0 := det_same (k := k) d (by omega) fun c hc => by
      show A (sw (k + d + 1) k) c = A (sw (k + d + 1) (k + d + 1)) c
      have e1 : sw (k + d + 1) k = k := by unfold sw; rw [if_neg (by omega), if_neg (by omega)]
      have e2 : sw (k + d + 1) (k + d + 1) = k + d + 1 + 1 := by unfold sw; rw [if_pos rfl]
      rw [e1, e2]
      exact e c hc
    have h1 : det n (fun r c => A (sw (k + d + 1) r) c) = - det n A := det_swap1 (k := k + d + 1) (by omega) fun r c _ _ => rfl
    omega

theorem det_two {n k l : Nat} {A : Mat} (hk : k < n) (hl : l < n) (hne : k ≠ l) (e : ∀ c, c < n → A k c = A l c) : det n A = 0 := by
  by_cases h : k < l
  · have : l = k + (l - k - 1) + 1 := by omega
    exact det_same (k := k) (l - k - 1) (by omega) fun c hc => by rw [← this]; exact e c hc
  · have : k = l + (k - l - 1) + 1 := by omega
    exact det_same (k := l) (k - l - 1) (by omega) fun c hc => by rw [← this]; exact (e c hc).symm

/-- row k becomes a times itself plus b times row l -/
theorem det_addrow {n k l : Nat} {A B : Mat} {a b : Int} (hk : k < n) (hl : l < n) (hne : k ≠ l) (h1 : ∀ r c, r < n → c < n → r ≠ k → B r c = A r c) (h2 : ∀ c, c < n → B k c = a * A k c + b * A l c) : det n B = a * det n A := by
  have z : det n (fun r c => if r = k then A l c else A r c) = 0 := by
    refine det_two hk hl hne fun c _ => ?_
    show (if k = k then A l c else A k c) = (if l = k then A l c else A l c)
    rw [if_pos rfl, if_neg fun z => hne z.symm]
  have := det_row (a := a) (b := b) (A := B) (B := A) (C := fun r c => if r = k then A l c else A r c) hk h1 (fun r c hr hc hrk => by rw [if_neg hrk]; exact h1 r c hr hc hrk) (fun c hc => by rw [if_pos rfl]; exact h2 c hc)
  rw [this, z]
  omega

theorem det_col0 {n : Nat} {A : Mat} (h : ∀ r, r < n + 1 → A r 0 = 0) : det (n + 1) A = 0 := by
  rw [det_succ]
  refine sumN_zero fun i hi => ?_
  rw [h i hi]
  simp

/-- rows 1 .. t freed of the first column -/
def part (A : Mat) (t : Nat) : Mat := fun r c => if 0 < r ∧ r ≤ t then A r c * A 0 0 - A r 0 * A 0 c else A r c

theorem det_part {n : Nat} {A : Mat} : ∀ t, t ≤ n → det (n + 1) (part A t) = (A 0 0) ^ t * det (n + 1) A
  | 0, _ => by
    rw [Int.pow_zero, Int.one_mul]
    refine det_congr fun r c _ _ => ?_
    unfold part
    rw [if_neg (by omega)]
  | t + 1, h => by
    have e : det (n + 1) (part A (t + 1)) = A 0 0 * det (n + 1) (part A t) := by
      refine det_addrow (k := t + 1) (l := 0) (b := - A (t + 1) 0) (by omega) (by omega) (by omega) (fun r c _ _ hr => ?_) fun c _ => ?_
      · unfold part
        by_cases hc : 0 < r ∧ r ≤ t
        · rw [if_pos hc, if_pos ⟨hc.1, by omega⟩]
        · rw [if_neg hc, if_neg (by omega)]
      · unfold part
        rw [if_pos (by omega), if_neg (by omega), if_neg (by omega)]
        grind
    rw [e, det_part t (by omega), Int.pow_succ]
    grind

/-- Chio's condensation -/
def chio (A : Mat) : Mat := fun r c => A (r + 1) (c + 1) * A 0 0 - A (r + 1) 0 * A 0 (c + 1)

theorem det_chio (n : Nat) (A : Mat) : (A 0 0) ^ n * det (n + 1) A = A 0 0 * det n (chio A) := by
  rw [← det_part n (Nat.le_refl n), det_succ]
  rw [sumN_one (k := 0) (Nat.succ_pos n)]
  · have e1 : part A n 0 0 = A 0 0 := by unfold part; rw [if_neg (by omega)]
    have e2 : det n (minor (part A n) 0) = det n (chio A) := det_congr fun r c hr hc => by
      show part A n (skip 0 r) (c + 1) = chio A r c
      rw [skip_zero]
      unfold part chio
      rw [if_pos (by omega)]
    rw [e1, e2]
    show (1 : Int) * A 0 0 * det n (chio A) = _
    rw [Int.one_mul]
  · intro i hi h0
    have : part A n i 0 = 0 := by
      unfold part
      rw [if_pos (by omega)]
      grind
    rw [this]
    simp

/-- rows 0 and h exchanged -/
def sw2 (k l r : Nat) : Nat := if r = k then l else if r = l then k else r
theorem det_swap {n k l : Nat} {A B : Mat} (hk : k < n) (hl : l < n) (hne : k ≠ l) (hB : ∀ r c, r < n → c < n → B r c = A (sw2 k l r) c) : det n B = - det n A := by
  have e1 : det n (fun r c => if r = k then A k c + A l c else A r c) = 1 * det n A := det_addrow (b := 1) hk hl hne (fun r c _ _ hr => by rw [if_neg hr]) fun c _ => by rw [if_pos rfl]; omega
  have e2 : det n (fun r c => if r = k then A k c + A l c else if r = l then - A k c else A r c) = 1 * det n (fun r c => if r = k then A k c + A l c else A r c) :=
    det_addrow (k := l) (l := k) (b := -1) hl hk hne.symm (fun r c _ _ hr => by by_cases q : r = k <;> simp [q, hr, hne]) fun c _ => by
      simp [hne.symm]; omega
  have e3 : det n (fun r c => if r = k then A l c else if r = l then - A k c else A r c) = 1 * det n (fun r c => if r = k then A k c + A l c else if r = l then - A k c else A r c) :=
    det_addrow (k := k) (l := l) (b := 1) hk hl hne (fun r c _ _ hr => by rw [if_neg hr, if_neg hr]) fun c _ => by
      rw [if_pos rfl, if_pos rfl, if_neg hne.symm, if_pos rfl]; omega
  have e4 : det n B = -1 * det n (fun r c => if r = k then A l c else if r = l then - A k c else A r c) :=
    det_addrow (k := l) (l := k) (b := 0) hl hk hne.symm (fun r c hr hc hrl => by
      rw [hB r c hr hc]
      unfold sw2
      by_cases q : r = k
      · rw [if_pos q, if_pos q]
      · rw [if_neg q, if_neg q, if_neg hrl, if_neg hrl]) fun c hc => by
      rw [hB l c hl hc]
      unfold sw2
      rw [if_neg hne.symm, if_pos rfl, if_neg hne.symm, if_pos rfl, if_pos rfl]; omega
  rw [e4, e3, e2, e1]
  omega

/-- a bound -/
theorem sumN_abs {f : Nat → Int} {B : Nat} : ∀ {n : Nat}, (∀ i, i < n → (f i).natAbs ≤ B) → (sumN n f).natAbs ≤ n * B
  | 0, _ => by simp [sumN]
  | n + 1, h => by
    show (sumN n f + f n).natAbs ≤ (n + 1) * B
    have h1 := sumN_abs fun i hi => h i (Nat.lt_succ_of_lt hi)
    have h2 := h n (Nat.lt_succ_self n)
    rw [Nat.succ_mul]
    exact Nat.le_trans (Int.natAbs_add_le _ _) (Nat.add_le_add h1 h2)
theorem sgn_abs (i : Nat) : (sgn i).natAbs = 1 := by unfold sgn; split <;> rfl
theorem det_abs {B : Nat} : ∀ {n : Nat} {A : Mat}, (∀ r c, r < n → c < n → (A r c).natAbs ≤ B) → (det n A).natAbs ≤ (n * B) ^ n
  | 0, _, _ => by simp [det]
  | n + 1, A, h => by
    have h1 : ∀ i, i < n + 1 → (sgn i * A i 0 * det n (minor A i)).natAbs ≤ B * (n * B) ^ n := fun i hi => by
      rw [Int.natAbs_mul, Int.natAbs_mul, sgn_abs, Nat.one_mul]
      exact Nat.mul_le_mul (h i 0 hi (Nat.succ_pos n)) (det_abs fun r c hr hc => h _ _ (skip_lt hr) (Nat.succ_lt_succ hc))
    refine Nat.le_trans (sumN_abs h1) ?_
    rw [← Nat.mul_assoc, Nat.pow_succ, Nat.mul_comm]
    refine Nat.mul_le_mul (Nat.pow_le_pow_left (Nat.mul_le_mul_right B (Nat.le_succ n)) n) (Nat.le_refl _)
end K8

/-! text K8Bar -/
/-! Bareiss' elimination: each division is exact, the result is the determinant. -/
namespace K8

theorem det_scale {a : Int} {n : Nat} {A B : Mat} (h : ∀ r c, r < n → c < n → B r c = a * A r c) : det n B = a ^ n * det n A := by
  have key : ∀ t, t ≤ n → det n (fun r c => if r < t then a * A r c else A r c) = a ^ t * det n A := by
    intro t
    induction t with
    | zero => intro _; rw [Int.pow_zero, Int.one_mul]; exact det_congr fun r c _ _ => by rw [if_neg (Nat.not_lt_zero _)]
    | succ t ih =>
      intro ht
      have e : det n (fun r c => if r < t + 1 then a * A r c else A r c) = a * det n (fun r c => if r < t then a * A r c else A r c) + 0 * det n (fun r c => if r < t then a * A r c else A r c) :=
        det_row (k := t) (by omega) (fun r c _ _ hr => by
          by_cases h1 : r < t
          · rw [if_pos h1, if_pos (by omega)]
          · rw [if_neg h1, if_neg (by omega)]) (fun r c _ _ hr => by
          by_cases h1 : r < t
          · rw [if_pos h1, if_pos (by omega)]
          · rw [if_neg h1, if_neg (by omega)]) (fun c _ => by rw [if_pos (by omega), if_neg (Nat.lt_irrefl _)]; omega)
      rw [e, ih (by omega), Int.pow_succ]
      grind
  rw [← key n (Nat.le_refl n)]
  exact det_congr fun r c hr hc => by rw [if_pos hr]; exact h r c hr hc

structure BInv (A : Mat) (N k : Nat) (M : Mat) (d s : Int) : Prop where
  hk : k ≤ N
  d0 : d ≠ 0
  minors : ∀ (r : Nat) (ρ κ : Nat → Nat), ∃ ρ' κ' : Nat → Nat, det (r + 1) (fun i j => M (ρ i) (κ j)) = d ^ r * det (r + 1 + k) (fun i j => A (ρ' i) (κ' j))
  val : det N A * d ^ (N - k) = s * d * det (N - k) M

theorem BInv.start (A : Mat) (N : Nat) : BInv A N 0 A 1 1 :=
  ⟨Nat.zero_le _, by decide, fun r ρ κ => ⟨ρ, κ, by rw [Int.one_pow, Int.one_mul]⟩, by rw [Int.one_pow, Nat.sub_zero]; try omega⟩

def up (ρ : Nat → Nat) : Nat → Nat
  | 0 => 0
  | i + 1 => ρ i + 1

theorem det_1 (A : Mat) : det 1 A = A 0 0 := by simp [det, sumN, sgn]
theorem det_2 (A : Mat) : det 2 A = A 1 1 * A 0 0 - A 1 0 * A 0 1 := by
  simp [det, sumN, sgn, minor, skip]
  grind

section
variable {A : Mat} {N k : Nat} {M : Mat} {d s : Int}

theorem BInv.dvd (I : BInv A N k M d s) (i j : Nat) : d ∣ chio M i j := by
  obtain ⟨ρ', κ', e⟩ := I.minors 1 (up fun _ => i) (up fun _ => j)
  rw [det_2, Int.pow_succ, Int.pow_zero, Int.one_mul] at e
  exact ⟨_, e⟩

theorem BInv.exact_ (I : BInv A N k M d s) (i j : Nat) : d * (chio M i j).fdiv d = chio M i j := by
  obtain ⟨x, e⟩ := I.dvd i j
  rw [e, Int.mul_fdiv_cancel_left _ I.d0]

def bnext (M : Mat) (d : Int) : Mat := fun i j => (chio M i j).fdiv d

theorem BInv.step (I : BInv A N k M d s) (hk : k < N) (h0 : M 0 0 ≠ 0) : BInv A N (k + 1) (bnext M d) (M 0 0) s := by
  refine ⟨hk, h0, fun r ρ κ => ?_, ?_⟩
  · obtain ⟨ρ', κ', e⟩ := I.minors (r + 1) (up ρ) (up κ)
    have h1 : r + 1 + 1 + k = r + 1 + (k + 1) := by omega
    rw [h1] at e
    refine ⟨ρ', κ', ?_⟩
    have e1 : det (r + 1) (fun i j => chio M (ρ i) (κ j)) = d ^ (r + 1) * det (r + 1) (fun i j => bnext M d (ρ i) (κ j)) := det_scale fun i j _ _ => (I.exact_ _ _).symm
    have e2 := det_chio (r + 1) (fun i j => M (up ρ i) (up κ j))
    have e3 : det (r + 1) (chio fun i j => M (up ρ i) (up κ j)) = det (r + 1) (fun i j => chio M (ρ i) (κ j)) := det_congr fun _ _ _ _ => rfl
    have e4 : (M 0 0) ^ (r + 1) * det (r + 1 + 1) (fun i j => M (up ρ i) (up κ j)) = M 0 0 * det (r + 1) (chio fun i j => M (up ρ i) (up κ j)) := e2
    rw [e3, e1, e] at e4
    have hd : d ^ (r + 1) ≠ 0 := Int.pow_ne_zero I.d0
    have e5 : (M 0 0 * d ^ (r + 1)) * det (r + 1) (fun i j => bnext M d (ρ i) (κ j)) = (M 0 0 * d ^ (r + 1)) * ((M 0 0) ^ r * det (r + 1 + (k + 1)) (fun i j => A (ρ' i) (κ' j))) := by
      rw [Int.pow_succ (M 0 0)] at e4
      grind
    exact Int.eq_of_mul_eq_mul_left (Int.mul_ne_zero h0 hd) e5
  · obtain ⟨m, hm⟩ : ∃ m, N - k = m + 1 := ⟨N - k - 1, by omega⟩
    have hm' : N - (k + 1) = m := by omega
    rw [hm']
    have v := I.val
    rw [hm] at v
    have e1 : det m (chio M) = d ^ m * det m (bnext M d) := det_scale fun i j _ _ => (I.exact_ _ _).symm
    have e2 := det_chio m M
    rw [e1] at e2
    have hd : d ^ (m + 1) ≠ 0 := Int.pow_ne_zero I.d0
    have e5 : d ^ (m + 1) * (det N A * (M 0 0) ^ m) = d ^ (m + 1) * (s * M 0 0 * det m (bnext M d)) := by
      have : det N A * d ^ (m + 1) * (M 0 0) ^ m = s * d * ((M 0 0) ^ m * det (m + 1) M) := by
        rw [v]; grind
      rw [e2] at this
      rw [Int.pow_succ] at this ⊢
      grind
    exact Int.eq_of_mul_eq_mul_left hd e5

theorem BInv.swap (I : BInv A N k M d s) {h : Nat} (hh : h < N - k) (hne : h ≠ 0) : BInv A N k (fun i j => M (sw2 0 h i) j) d (-s) := by
  refine ⟨I.hk, I.d0, fun r ρ κ => I.minors r (fun i => sw2 0 h (ρ i)) κ, ?_⟩
  have e : det (N - k) (fun i j => M (sw2 0 h i) j) = - det (N - k) M := det_swap (k := 0) (l := h) (by omega) hh (fun z => hne z.symm) fun _ _ _ _ => rfl
  rw [e, I.val]
  grind

theorem BInv.zero (I : BInv A N k M d s) (hk : k < N) (h : ∀ i, i < N - k → M i 0 = 0) : det N A = 0 := by
  obtain ⟨m, hm⟩ : ∃ m, N - k = m + 1 := ⟨N - k - 1, by omega⟩
  have v := I.val
  rw [hm] at v h
  rw [det_col0 h, Int.mul_zero] at v
  rcases Int.mul_eq_zero.mp v with z | z
  · exact z
  · exact absurd z (Int.pow_ne_zero I.d0)

theorem BInv.end_ (I : BInv A N N M d s) : det N A = s * d := by
  have v := I.val
  rw [Nat.sub_self] at v
  simpa [det] using v

theorem BInv.bound (I : BInv A N k M d s) {B : Nat} (hB : ∀ i j, (A i j).natAbs ≤ B) (i j : Nat) : (M i j).natAbs ≤ ((k + 1) * B) ^ (k + 1) := by
  obtain ⟨ρ', κ', e⟩ := I.minors 0 (fun _ => i) (fun _ => j)
  rw [det_1, Int.pow_zero, Int.one_mul] at e
  have e : M i j = det (0 + 1 + k) (fun i j => A (ρ' i) (κ' j)) := e
  have h : 0 + 1 + k = k + 1 := by omega
  rw [h] at e
  rw [e]
  exact det_abs fun _ _ _ _ => hB _ _
end
end K8

/-! text K8Ops -/
/-! Ring programs over any carrier: resultant rows, Chio steps, Laplace; their transport along a relation; over Int they are det. -/
namespace K8

structure Ops (α : Type) where
  add : α → α → α
  sub : α → α → α
  mul : α → α → α
  zero : α
  one : α
  seq : {β : Type} → α → (α → β) → β

structure Ops.Law {α : Type} (o : Ops α) : Prop where
  seq : ∀ {β : Type} (x : α) (k : α → β), o.seq x k = k x

def intOps : Ops Int := ⟨fun a b => a + b, fun a b => a - b, fun a b => a * b, 0, 1, fun x k => k x⟩
theorem intLaw : intOps.Law := ⟨fun _ _ => rfl⟩

inductive All2 {α β : Type} (R : α → β → Prop) : List α → List β → Prop
  | nil : All2 R [] []
  | cons {a b as bs} : R a b → All2 R as bs → All2 R (a :: as) (b :: bs)

section
variable {α β : Type} {R : α → β → Prop}
theorem All2.length {as : List α} {bs : List β} (h : All2 R as bs) : as.length = bs.length := by
  induction h with
  | nil => rfl
  | cons _ _ ih => simp [ih]
theorem All2.append {as cs : List α} {bs ds : List β} (h : All2 R as bs) (k : All2 R cs ds) : All2 R (as ++ cs) (bs ++ ds) := by
  induction h with
  | nil => exact k
  | cons a _ ih => exact .cons a ih
theorem All2.reverse {as : List α} {bs : List β} (h : All2 R as bs) : All2 R as.reverse bs.reverse := by
  induction h with
  | nil => exact .nil
  | cons a _ ih => rw [List.reverse_cons, List.reverse_cons]; exact ih.append (.cons a .nil)
theorem All2.replicate {a : α} {b : β} (h : R a b) : ∀ n, All2 R (List.replicate n a) (List.replicate n b)
  | 0 => .nil
  | n + 1 => .cons h (All2.replicate h n)
theorem All2.tail {as : List α} {bs : List β} (h : All2 R as bs) : All2 R as.tail bs.tail := by
  cases h with
  | nil => exact .nil
  | cons _ h => exact h
theorem All2.drop {as : List α} {bs : List β} (h : All2 R as bs) : ∀ n, All2 R (as.drop n) (bs.drop n) := by
  intro n
  induction n generalizing as bs with
  | zero => exact h
  | succ n ih => cases h with
    | nil => exact .nil
    | cons _ h => exact ih h
theorem All2.map {γ δ : Type} {S : γ → δ → Prop} {f : α → γ} {g : β → δ} {as : List α} {bs : List β} (h : All2 R as bs) (hf : ∀ a b, R a b → S (f a) (g b)) : All2 S (as.map f) (bs.map g) := by
  induction h with
  | nil => exact .nil
  | cons a _ ih => exact .cons (hf _ _ a) ih
theorem All2.same {γ : Type} {f : γ → α} {g : γ → β} : ∀ {l : List γ}, (∀ x, x ∈ l → R (f x) (g x)) → All2 R (l.map f) (l.map g)
  | [], _ => .nil
  | _ :: _, h => .cons (h _ (List.mem_cons_self ..)) (All2.same fun x hx => h x (List.mem_cons_of_mem _ hx))
theorem All2.dropLast {as : List α} {bs : List β} (h : All2 R as bs) : All2 R as.dropLast bs.dropLast := by
  induction h with
  | nil => exact .nil
  | cons a h ih => cases h with
    | nil => exact .nil
    | cons b h => exact .cons a ih
end

section
variable {α : Type} (o : Ops α)
/-- e - a m along two rows -/
def subRow {β : Type} (a : α) : List α → List α → (List α → β) → β
  | e :: es, h :: hs, k => o.seq (o.sub e (o.mul a h)) fun x => subRow a es hs fun xs => k (x :: xs)
  | _, _, k => k []
def subD (a : α) : List α → List α → List α
  | e :: es, h :: hs => o.sub e (o.mul a h) :: subD a es hs
  | _, _ => []
def chioRows {β : Type} (h : List α) : List (List α) → (List (List α) → β) → β
  | (a :: r) :: rs, k => subRow o a r h fun x => chioRows h rs fun xs => k (x :: xs)
  | [] :: rs, k => chioRows h rs fun xs => k ([] :: xs)
  | [], k => k []
def chioD (h : List α) : List (List α) → List (List α)
  | (a :: r) :: rs => subD o a r h :: chioD h rs
  | [] :: rs => [] :: chioD h rs
  | [] => []
def chioN {β : Type} : Nat → List (List α) → (List (List α) → β) → β
  | n+1, (_ :: h) :: rs, k => chioRows o h rs fun M => chioN n M k
  | _, M, k => k M
def chioM : Nat → List (List α) → List (List α)
  | n+1, (_ :: h) :: rs => chioM n (chioD o h rs)
  | _, M => M
/-- Laplace by the first column: pre: the rows gone by, without their heads -/
def lap (rec : List (List α) → α) : List (List α) → List (List α) → Bool → α → α
  | pre, (a :: r) :: rs, b, acc => o.seq (o.mul a (rec (pre ++ rs.map List.tail))) fun x => o.seq (if b = true then o.add acc x else o.sub acc x) fun acc => lap rec (pre ++ [r]) rs (!b) acc
  | _, _, _, acc => acc
def lapD (rec : List (List α) → α) : List (List α) → List (List α) → Bool → α → α
  | pre, (a :: r) :: rs, b, acc => lapD rec (pre ++ [r]) rs (!b) (if b = true then o.add acc (o.mul a (rec (pre ++ rs.map List.tail))) else o.sub acc (o.mul a (rec (pre ++ rs.map List.tail))))
  | _, _, _, acc => acc
def ldet : Nat → List (List α) → α
  | 0, _ => o.one
  | n+1, M => lap o (ldet n) [] M true o.zero
def ldetD : Nat → List (List α) → α
  | 0, _ => o.one
  | n+1, M => lapD o (ldetD n) [] M true o.zero

def padRow (c : List α) (w a : Nat) : List α := List.replicate a o.zero ++ (c.reverse ++ List.replicate (w - a - c.length) o.zero)
def rowsOf (c : List α) (w : Nat) (k : Nat) : List (List α) := (List.range k).map fun a => padRow o c w a
def natMul (x : α) : Nat → α
  | 0 => o.zero
  | n+1 => o.add (natMul x n) x
def derivFrom (i : Nat) : List α → List α
  | [] => []
  | x :: xs => natMul o x i :: derivFrom (i + 1) xs
def derivL (c : List α) : List α := derivFrom o 1 (c.drop 1)
def syl (g g' : List α) : List (List α) := rowsOf o g (g.length - 1 + (g'.length - 1)) (g'.length - 1) ++ rowsOf o g' (g.length - 1 + (g'.length - 1)) (g.length - 1)
def signed (n : Nat) (x : α) : α := if n * (n - 1) / 2 % 2 = 0 then x else o.sub o.zero x
def gdisc (g : List α) : α := signed o (g.length - 1) (chioN o (g.length - 1 - 1) (syl o g (derivL o g)) fun M => ldet o (g.length - 1) M)
def gdiscD (g : List α) : α := signed o (g.length - 1) (ldetD o (g.length - 1) (chioM o (g.length - 1 - 1) (syl o g (derivL o g))))

def addL : List α → List α → List α
  | [], ys => ys
  | x :: xs, [] => x :: xs
  | x :: xs, y :: ys => o.add x y :: addL xs ys
def gmul : List α → List α → List α
  | [], _ => []
  | a :: f, h => addL o (h.map (o.mul a)) (o.zero :: gmul f h)
def lastD : List α → α → α
  | [], c => c
  | x :: xs, _ => lastD xs x
def rstep (f : List α) (c : α) (r : List α) : List α := subD o (lastD r c) (c :: r) f
/-- the rest by the monic polynomial f ++ [1] -/
def grem (f : List α) : List α → List α
  | [] => List.replicate f.length o.zero
  | c :: g => rstep o f c (grem f g)
def geval (a : α) : List α → α
  | [] => o.zero
  | c :: g => o.add c (o.mul a (geval a g))

variable {o}
theorem subRow_eq (L : o.Law) {β : Type} (a : α) : ∀ (r h : List α) (k : List α → β), subRow o a r h k = k (subD o a r h)
  | e :: es, h :: hs, k => by
    show o.seq _ _ = _
    rw [L.seq, subRow_eq L]; rfl
  | [], _, _ => by cases ‹List α› <;> rfl
  | _ :: _, [], _ => rfl
theorem chioRows_eq (L : o.Law) {β : Type} (h : List α) : ∀ (rs : List (List α)) (k : List (List α) → β), chioRows o h rs k = k (chioD o h rs)
  | (a :: r) :: rs, k => by
    show subRow o a r h _ = _
    rw [subRow_eq L, chioRows_eq L]; rfl
  | [] :: rs, k => by
    show chioRows o h rs _ = _
    rw [chioRows_eq L]; rfl
  | [], _ => rfl
theorem chioN_eq (L : o.Law) {β : Type} : ∀ (n : Nat) (M : List (List α)) (k : List (List α) → β), chioN o n M k = k (chioM o n M)
  | n+1, (_ :: h) :: rs, k => by
    show chioRows o h rs _ = _
    rw [chioRows_eq L, chioN_eq L]; rfl
  | 0, _, _ => rfl
  | _+1, [], _ => rfl
  | _+1, [] :: _, _ => rfl
theorem lap_eq (L : o.Law) {rec rec' : List (List α) → α} (hr : ∀ M, rec M = rec' M) : ∀ (M pre : List (List α)) (b : Bool) (acc : α), lap o rec pre M b acc = lapD o rec' pre M b acc
  | (a :: r) :: rs, pre, b, acc => by
    show o.seq _ _ = _
    rw [L.seq, L.seq, lap_eq L hr rs, hr]; rfl
  | [], _, _, _ => rfl
  | [] :: _, _, _, _ => rfl
theorem ldet_eq (L : o.Law) : ∀ (n : Nat) (M : List (List α)), ldet o n M = ldetD o n M
  | 0, _ => rfl
  | n+1, M => lap_eq L (ldet_eq L n) M [] true o.zero
theorem gdisc_eq (L : o.Law) (g : List α) : gdisc o g = gdiscD o g := by
  unfold gdisc gdiscD
  rw [chioN_eq L, ldet_eq L]
end

/-! ### transport -/
structure Hom {α β : Type} (o : Ops α) (o' : Ops β) (R : α → β → Prop) : Prop where
  add : ∀ {a b c d}, R a b → R c d → R (o.add a c) (o'.add b d)
  sub : ∀ {a b c d}, R a b → R c d → R (o.sub a c) (o'.sub b d)
  mul : ∀ {a b c d}, R a b → R c d → R (o.mul a c) (o'.mul b d)
  zero : R o.zero o'.zero
  one : R o.one o'.one
section
variable {α β : Type} {o : Ops α} {o' : Ops β} {R : α → β → Prop} (H : Hom o o' R)
include H
theorem Hom.subD {a b} (hab : R a b) : ∀ {r : List α} {r' : List β} {h : List α} {h' : List β}, All2 R r r' → All2 R h h' → All2 R (subD o a r h) (subD o' b r' h')
  | _, _, _, _, .nil, _ => .nil
  | _, _, _, _, .cons _ _, .nil => .nil
  | _, _, _, _, .cons x xs, .cons y ys => .cons (H.sub x (H.mul hab y)) (Hom.subD hab xs ys)
theorem Hom.chioD {h : List α} {h' : List β} (hh : All2 R h h') {M : List (List α)} {M' : List (List β)} (hM : All2 (All2 R) M M') : All2 (All2 R) (chioD o h M) (chioD o' h' M') := by
  induction hM with
  | nil => exact .nil
  | cons a _ ih => cases a with
    | nil => exact .cons .nil ih
    | cons x r => exact .cons (H.subD x r hh) ih
theorem Hom.chioM : ∀ (n : Nat) {M : List (List α)} {M' : List (List β)}, All2 (All2 R) M M' → All2 (All2 R) (chioM o n M) (chioM o' n M')
  | 0, _, _, h => h
  | _+1, _, _, .nil => .nil
  | _+1, _, _, .cons .nil h => .cons .nil h
  | n+1, _, _, .cons (.cons _ h) hs => Hom.chioM n (H.chioD h hs)
theorem Hom.lapD {rec : List (List α) → α} {rec' : List (List β) → β} (hr : ∀ M M', All2 (All2 R) M M' → R (rec M) (rec' M')) {M : List (List α)} {M' : List (List β)} (hM : All2 (All2 R) M M') :
    ∀ {pre : List (List α)} {pre' : List (List β)} {b : Bool} {acc : α} {acc' : β}, All2 (All2 R) pre pre' → R acc acc' → R (lapD o rec pre M b acc) (lapD o' rec' pre' M' b acc') := by
  induction hM with
  | nil => intro _ _ _ _ _ _ ha; exact ha
  | cons a hs ih =>
    cases a with
    | nil => intro _ _ _ _ _ _ ha; exact ha
    | cons x r =>
      intro pre pre' b acc acc' hp ha
      refine ih (hp.append (.cons r .nil)) ?_
      have hx := H.mul x (hr _ _ (hp.append (hs.map (f := List.tail) (g := List.tail) (S := All2 R) fun _ _ h => h.tail)))
      cases b
      · exact H.sub ha hx
      · exact H.add ha hx
theorem Hom.ldetD : ∀ (n : Nat) {M : List (List α)} {M' : List (List β)}, All2 (All2 R) M M' → R (ldetD o n M) (ldetD o' n M')
  | 0, _, _, _ => H.one
  | n+1, _, _, h => H.lapD (fun _ _ => Hom.ldetD n) h .nil H.zero
theorem Hom.natMul {a b} (h : R a b) : ∀ n, R (natMul o a n) (natMul o' b n)
  | 0 => H.zero
  | n+1 => H.add (Hom.natMul h n) h
theorem Hom.derivFrom {as : List α} {bs : List β} (h : All2 R as bs) : ∀ i, All2 R (derivFrom o i as) (derivFrom o' i bs) := by
  induction h with
  | nil => intro _; exact .nil
  | cons a _ ih => intro i; exact .cons (H.natMul a i) (ih _)
theorem Hom.padRow {c : List α} {c' : List β} (h : All2 R c c') (w a : Nat) : All2 R (padRow o c w a) (padRow o' c' w a) := by
  unfold K8.padRow
  rw [h.length]
  exact (All2.replicate H.zero _).append (h.reverse.append (All2.replicate H.zero _))
theorem Hom.rowsOf {c : List α} {c' : List β} (h : All2 R c c') (w k : Nat) : All2 (All2 R) (rowsOf o c w k) (rowsOf o' c' w k) := All2.same fun a _ => H.padRow h w a
theorem Hom.syl {g g' : List α} {k k' : List β} (h : All2 R g k) (h' : All2 R g' k') : All2 (All2 R) (syl o g g') (syl o' k k') := by
  unfold K8.syl
  rw [h.length, h'.length]
  exact (H.rowsOf h _ _).append (H.rowsOf h' _ _)
theorem Hom.signed {a b} (h : R a b) (n : Nat) : R (signed o n a) (signed o' n b) := by
  unfold K8.signed
  split
  · exact h
  · exact H.sub H.zero h
theorem Hom.gdiscD {g : List α} {g' : List β} (h : All2 R g g') : R (gdiscD o g) (gdiscD o' g') := by
  unfold K8.gdiscD K8.derivL
  rw [h.length]
  exact H.signed (H.ldetD _ (H.chioM _ (H.syl h (H.derivFrom (h.drop 1) 1)))) _
theorem Hom.addL : ∀ {x : List α} {x' : List β} {y : List α} {y' : List β}, All2 R x x' → All2 R y y' → All2 R (addL o x y) (addL o' x' y')
  | _, _, _, _, .nil, h => h
  | _, _, _, _, .cons a h, .nil => .cons a h
  | _, _, _, _, .cons a h, .cons b k => .cons (H.add a b) (Hom.addL h k)
theorem Hom.gmul {f : List α} {f' : List β} {h : List α} {h' : List β} (hf : All2 R f f') (hh : All2 R h h') : All2 R (gmul o f h) (gmul o' f' h') := by
  induction hf with
  | nil => exact .nil
  | cons a _ ih => exact H.addL (hh.map fun _ _ => H.mul a) (.cons H.zero ih)
omit H in
theorem All2.lastD {r : List α} {r' : List β} (h : All2 R r r') : ∀ {c c'}, R c c' → R (lastD r c) (lastD r' c') := by
  induction h with
  | nil => intro _ _ h; exact h
  | cons a _ ih => intro _ _ _; exact ih a
theorem Hom.grem {f : List α} {f' : List β} (hf : All2 R f f') {g : List α} {g' : List β} (h : All2 R g g') : All2 R (grem o f g) (grem o' f' g') := by
  induction h with
  | nil => show All2 R (List.replicate _ _) (List.replicate _ _); rw [hf.length]; exact All2.replicate H.zero _
  | cons a _ ih => exact H.subD (ih.lastD a) (.cons a ih) hf
theorem Hom.geval {a b} (hab : R a b) {g : List α} {g' : List β} (h : All2 R g g') : R (geval o a g) (geval o' b g') := by
  induction h with
  | nil => exact H.zero
  | cons x _ ih => exact H.add x (H.mul hab ih)
end
end K8

/-! text K8Tst -/
/-! Planes: bits, patterns of digits; tests. -/
namespace K8
def seqN {β : Type} (x : Nat) (k : Nat → β) : β := match x with | 0 => k 0 | .succ n => k (.succ n)
theorem seqN_eq {β : Type} (x : Nat) (k : Nat → β) : seqN x k = k x := by cases x <;> rfl
theorem tb_lor (x y b : Nat) : (Nat.lor x y).testBit b = (x.testBit b || y.testBit b) := Nat.testBit_or x y b
theorem tb_land (x y b : Nat) : (Nat.land x y).testBit b = (x.testBit b && y.testBit b) := Nat.testBit_and x y b
theorem tb_xor (x y b : Nat) : (Nat.xor x y).testBit b = (x.testBit b ^^ y.testBit b) := Nat.testBit_xor x y b

def ones (w : Nat) : Nat := 2 ^ w - 1
theorem ones_bit {w b : Nat} (h : b < w) : (ones w).testBit b = true := by
  unfold ones; rw [Nat.testBit_two_pow_sub_one]; exact decide_eq_true h
def copies (w x : Nat) : Nat → Nat
  | 0 => 0
  | k+1 => Nat.lor (copies w x k) (Nat.shiftLeft x (k*w))
def patt (m t v : Nat) : Nat → Nat
  | 0 => 0
  | T+1 => if t < T then copies (m^T) (patt m t v T) m else Nat.shiftLeft (ones (m^T)) (v * m^T)
theorem tb_shl (x i b : Nat) : (Nat.shiftLeft x i).testBit b = (decide (b ≥ i) && x.testBit (b - i)) := Nat.testBit_shiftLeft x
theorem copies_bit {w x : Nat} (hx : ∀ j, w ≤ j → x.testBit j = false) : ∀ {k b : Nat}, (copies w x k).testBit b = (decide (b < k * w) && x.testBit (b % w))
  | 0, b => by
    show (0 : Nat).testBit b = _
    rw [Nat.zero_testBit]
    simp
  | k+1, b => by
    show (Nat.lor _ _).testBit b = _
    rw [tb_lor, tb_shl, copies_bit hx]
    have e : (k + 1) * w = k * w + w := Nat.succ_mul k w
    rw [e]
    by_cases h1 : b < k * w
    · rw [decide_eq_true h1, decide_eq_true (show b < k * w + w by omega), decide_eq_false (show ¬ b ≥ k * w by omega)]
      simp
    · by_cases h2 : b < k * w + w
      · rw [decide_eq_false h1, decide_eq_true h2, decide_eq_true (show b ≥ k * w by omega)]
        have : b % w = b - k * w := by
          have hb : b = (b - k * w) + w * k := by rw [Nat.mul_comm w k]; omega
          have h3 : b % w = (b - k * w) % w := by
            conv => lhs; rw [hb]
            exact Nat.add_mul_mod_self_left _ _ _
          rw [h3, Nat.mod_eq_of_lt (by omega)]
        rw [this]
        simp
      · rw [decide_eq_false h1, decide_eq_false h2, hx _ (show w ≤ b - k * w by omega)]
        simp
theorem patt_high {m t v : Nat} (hv : v < m) : ∀ {T j : Nat}, m ^ T ≤ j → (patt m t v T).testBit j = false
  | 0, j, _ => by show (0 : Nat).testBit j = false; exact Nat.zero_testBit j
  | T+1, j, h => by
    have e : m ^ (T + 1) = m * m ^ T := by rw [Nat.pow_succ, Nat.mul_comm]
    rw [e] at h
    show (if t < T then copies (m^T) (patt m t v T) m else Nat.shiftLeft (ones (m^T)) (v * m^T)).testBit j = false
    split
    · rw [copies_bit fun j hj => patt_high hv hj, decide_eq_false (by omega), Bool.false_and]
    · rw [tb_shl]
      have h1 : (v + 1) * m ^ T ≤ m * m ^ T := Nat.mul_le_mul_right _ hv
      rw [Nat.succ_mul] at h1
      unfold ones
      rw [Nat.testBit_two_pow_sub_one, decide_eq_false (show ¬ j - v * m ^ T < m ^ T by omega), Bool.and_false]
theorem patt_bit {m t v : Nat} (hv : v < m) : ∀ {T b : Nat}, b < m ^ T → t < T → (patt m t v T).testBit b = (b / m ^ t % m == v)
  | 0, _, _, h => absurd h (Nat.not_lt_zero _)
  | T+1, b, hb, ht => by
    have e : m ^ (T + 1) = m * m ^ T := by rw [Nat.pow_succ, Nat.mul_comm]
    rw [e] at hb
    have hm : 0 < m := by omega
    have hp : 0 < m ^ T := Nat.pow_pos hm
    show (if t < T then copies (m^T) (patt m t v T) m else Nat.shiftLeft (ones (m^T)) (v * m^T)).testBit b = _
    split
    · rename_i h
      rw [copies_bit fun j hj => patt_high hv hj, decide_eq_true hb, Bool.true_and, patt_bit hv (Nat.mod_lt _ hp) h]
      congr 1
      have e2 : m ^ T = m ^ t * (m * m ^ (T - t - 1)) := by
        rw [← Nat.mul_assoc, ← Nat.pow_succ, ← Nat.pow_add]
        congr 1
        omega
      rw [e2, Nat.mod_mul_right_div_self, Nat.mod_mul_right_mod]
    · have : t = T := by omega
      subst this
      rw [tb_shl]
      have h1 : b / m ^ t < m := Nat.div_lt_of_lt_mul (by rw [Nat.mul_comm]; exact hb)
      rw [Nat.mod_eq_of_lt h1]
      have h2 := Nat.div_add_mod b (m ^ t)
      have h3 := Nat.mod_lt b hp
      unfold ones
      rw [Nat.testBit_two_pow_sub_one]
      by_cases h4 : b / m ^ t = v
      · rw [beq_iff_eq.mpr h4]
        rw [h4, Nat.mul_comm] at h2
        generalize b % m ^ t = r at h2 h3
        rw [decide_eq_true (by omega), decide_eq_true (by omega)]
        rfl
      · rw [beq_eq_false_iff_ne.mpr h4]
        by_cases h5 : b ≥ v * m ^ t
        · have h6 : ¬ b - v * m ^ t < m ^ t := fun q => h4 (by
            have : b = (b - v * m ^ t) + m ^ t * v := by rw [Nat.mul_comm (m ^ t) v]; omega
            rw [this, Nat.add_mul_div_left _ _ hp, Nat.div_eq_of_lt q, Nat.zero_add])
          rw [decide_eq_false h6, Bool.and_false]
        · rw [decide_eq_false h5, Bool.false_and]

/-- digits put together -/
def enc (m : Nat) : List Nat → Nat
  | [] => 0
  | c :: cs => c + m * enc m cs
theorem enc_lt {m : Nat} : ∀ {cs : List Nat}, (∀ c, c ∈ cs → c < m) → enc m cs < m ^ cs.length
  | [], _ => by simp [enc]
  | c :: cs, h => by
    have h1 := enc_lt fun d hd => h d (List.mem_cons_of_mem _ hd)
    have h2 := h c (List.mem_cons_self ..)
    show c + m * enc m cs < m ^ (cs.length + 1)
    rw [Nat.pow_succ, Nat.mul_comm (m ^ cs.length) m]
    have : m * (enc m cs + 1) ≤ m * m ^ cs.length := Nat.mul_le_mul_left m h1
    rw [Nat.mul_succ] at this
    omega
theorem enc_digit {m : Nat} : ∀ {cs : List Nat} {t : Nat} (ht : t < cs.length), (∀ c, c ∈ cs → c < m) → enc m cs / m ^ t % m = cs[t]
  | c :: cs, 0, _, h => by
    have h2 := h c (List.mem_cons_self ..)
    show (c + m * enc m cs) / m ^ 0 % m = c
    rw [Nat.pow_zero, Nat.div_one, Nat.add_mul_mod_self_left, Nat.mod_eq_of_lt h2]
  | c :: cs, t+1, ht, h => by
    have h2 := h c (List.mem_cons_self ..)
    show (c + m * enc m cs) / m ^ (t + 1) % m = cs[t]'(by simpa using ht)
    rw [Nat.pow_succ, Nat.mul_comm (m ^ t) m, ← Nat.div_div_eq_div_mul, Nat.add_mul_div_left _ _ (by omega), Nat.div_eq_of_lt h2, Nat.zero_add]
    exact enc_digit (by simpa using ht) fun d hd => h d (List.mem_cons_of_mem _ hd)

/-! ### tests -/
structure Tst (α π : Type) where
  isZ : α → π
  plus : α → π
  and_ : π → π → π
  or_ : π → π → π
  not_ : π → π
  tt : π
structure THom {α β π κ : Type} (T : Tst α π) (T' : Tst β κ) (R : α → β → Prop) (S : π → κ → Prop) : Prop where
  isZ : ∀ {x v}, R x v → S (T.isZ x) (T'.isZ v)
  plus : ∀ {x v}, R x v → S (T.plus x) (T'.plus v)
  and_ : ∀ {x y c d}, S x c → S y d → S (T.and_ x y) (T'.and_ c d)
  or_ : ∀ {x y c d}, S x c → S y d → S (T.or_ x y) (T'.or_ c d)
  not_ : ∀ {x c}, S x c → S (T.not_ x) (T'.not_ c)
  tt : S T.tt T'.tt
/-- the discriminants that tell an even number -/
def isPlus (p : Nat) (v : Int) : Bool := match p with
  | 2 => v % 8 == 1
  | 3 => v % 3 == 1
  | 5 => v % 5 == 1 || v % 5 == 4
  | _ => v % 7 == 1 || v % 7 == 2 || v % 7 == 4
def tst0 (p : Nat) : Tst Int Bool := ⟨fun v => v % (p : Int) == 0, isPlus p, fun a b => a && b, fun a b => a || b, fun a => !a, true⟩

section
variable {α π : Type} (o : Ops α) (T : Tst α π)
def seqAll {β : Type} : List α → (List α → β) → β
  | [], k => k []
  | x :: xs, k => o.seq x fun y => seqAll xs fun ys => k (y :: ys)
def allZ : List α → π
  | [] => T.tt
  | x :: xs => T.and_ (T.isZ x) (allZ xs)
def anyP : List π → π
  | [] => T.not_ T.tt
  | x :: xs => T.or_ x (anyP xs)
def minus (x : α) : π := T.and_ (T.not_ (T.isZ x)) (T.not_ (T.plus x))
/-- the same sign; the other sign; both nothing -/
def relA (d : Nat) (a b : α) : π :=
  if d % 2 = 1 then T.or_ (T.and_ (T.plus a) (T.plus b)) (T.or_ (T.and_ (minus T a) (minus T b)) (T.and_ (T.isZ a) (T.isZ b)))
  else T.or_ (T.and_ (T.plus a) (minus T b)) (T.or_ (T.and_ (minus T a) (T.plus b)) (T.and_ (T.isZ a) (T.isZ b)))
def chkA (cs : List α) (f h : List α) : π :=
  seqAll o (gmul o (h ++ [o.one]) (f ++ [o.one])) fun G => o.seq (gdisc o G) fun a => o.seq (gdisc o (h ++ [o.one])) fun b =>
    seqAll o (grem o f (h ++ [o.one])) fun r =>
      T.or_ (if 2 ≤ f.length then anyP T (cs.map fun c => T.isZ (geval o c (f ++ [o.one]))) else T.not_ T.tt) (T.or_ (T.and_ (allZ T r) (T.isZ a)) (T.and_ (T.not_ (allZ T r)) (relA T f.length a b)))
def chkAD (cs : List α) (f h : List α) : π :=
  T.or_ (if 2 ≤ f.length then anyP T (cs.map fun c => T.isZ (geval o c (f ++ [o.one]))) else T.not_ T.tt)
    (T.or_ (T.and_ (allZ T (grem o f (h ++ [o.one]))) (T.isZ (gdiscD o (gmul o (h ++ [o.one]) (f ++ [o.one])))))
      (T.and_ (T.not_ (allZ T (grem o f (h ++ [o.one])))) (relA T f.length (gdiscD o (gmul o (h ++ [o.one]) (f ++ [o.one]))) (gdiscD o (h ++ [o.one])))))
/-- all lists of d of the constants -/
def combos (cs : List α) : Nat → List (List α)
  | 0 => [[]]
  | d + 1 => cs.flatMap fun c => (combos cs d).map (c :: ·)
def lowers (cs : List α) (n : Nat) : List (List α) := (List.range (n / 2)).flatMap fun d => combos cs (d + 1)
def mu1 (n : Nat) (a : α) : π := if n % 2 = 1 then T.plus a else minus T a
def chkB (cs : List α) (h : List α) : π :=
  o.seq (gdisc o (h ++ [o.one])) fun a => T.or_ (anyP T ((lowers cs h.length).map fun f => seqAll o (grem o f (h ++ [o.one])) fun r => allZ T r)) (mu1 T h.length a)
def chkBD (cs : List α) (h : List α) : π :=
  T.or_ (anyP T ((lowers cs h.length).map fun f => allZ T (grem o f (h ++ [o.one])))) (mu1 T h.length (gdiscD o (h ++ [o.one])))
/-- both discriminants tell the same -/
def chkC (h g : List α) : π := o.seq (gdisc o (h ++ [o.one])) fun a => o.seq (gdisc o (g ++ [o.one])) fun b => relA T 1 a b
def chkCD (h g : List α) : π := relA T 1 (gdiscD o (h ++ [o.one])) (gdiscD o (g ++ [o.one]))
variable {o T}
theorem seqAll_eq (L : o.Law) {β : Type} : ∀ (l : List α) (k : List α → β), seqAll o l k = k l
  | [], _ => rfl
  | x :: xs, k => by show o.seq _ _ = _; rw [L.seq, seqAll_eq L]
theorem chkA_eq (L : o.Law) (cs f h : List α) : chkA o T cs f h = chkAD o T cs f h := by
  unfold chkA chkAD
  rw [seqAll_eq L, L.seq, L.seq, seqAll_eq L, gdisc_eq L, gdisc_eq L]
theorem chkB_eq (L : o.Law) (cs h : List α) : chkB o T cs h = chkBD o T cs h := by
  unfold chkB chkBD
  rw [L.seq, gdisc_eq L]
  have : (fun f => seqAll o (grem o f (h ++ [o.one])) fun r => allZ T r) = fun f => allZ T (grem o f (h ++ [o.one])) := funext fun f => seqAll_eq L _ _
  rw [this]
theorem chkC_eq (L : o.Law) (h g : List α) : chkC o T h g = chkCD o T h g := by
  unfold chkC chkCD
  rw [L.seq, L.seq, gdisc_eq L, gdisc_eq L]
end
section
variable {α β π κ : Type} {o : Ops α} {o' : Ops β} {T : Tst α π} {T' : Tst β κ} {R : α → β → Prop} {S : π → κ → Prop} (H : Hom o o' R) (J : THom T T' R S)
include J
theorem THom.allZ {xs : List α} {ys : List β} (h : All2 R xs ys) : S (allZ T xs) (allZ T' ys) := by
  induction h with
  | nil => exact J.tt
  | cons a _ ih => exact J.and_ (J.isZ a) ih
theorem THom.anyP {xs : List π} {ys : List κ} (h : All2 S xs ys) : S (anyP T xs) (anyP T' ys) := by
  induction h with
  | nil => exact J.not_ J.tt
  | cons a _ ih => exact J.or_ a ih
theorem THom.minus {x v} (h : R x v) : S (minus T x) (minus T' v) := J.and_ (J.not_ (J.isZ h)) (J.not_ (J.plus h))
theorem THom.relA {a b v w} (d : Nat) (h : R a v) (k : R b w) : S (relA T d a b) (relA T' d v w) := by
  unfold K8.relA
  split
  · exact J.or_ (J.and_ (J.plus h) (J.plus k)) (J.or_ (J.and_ (J.minus h) (J.minus k)) (J.and_ (J.isZ h) (J.isZ k)))
  · exact J.or_ (J.and_ (J.plus h) (J.minus k)) (J.or_ (J.and_ (J.minus h) (J.plus k)) (J.and_ (J.isZ h) (J.isZ k)))
include H
theorem THom.chkAD {cs f h : List α} {cs' f' h' : List β} (hc : All2 R cs cs') (hf : All2 R f f') (hh : All2 R h h') : S (chkAD o T cs f h) (chkAD o' T' cs' f' h') := by
  have hF := hf.append (.cons H.one .nil)
  have hHh := hh.append (.cons H.one .nil)
  have hr := J.allZ (H.grem hf hHh)
  have ha := H.gdiscD (H.gmul hHh hF)
  unfold K8.chkAD
  rw [hf.length]
  refine J.or_ ?_ (J.or_ (J.and_ hr (J.isZ ha)) (J.and_ (J.not_ hr) (J.relA _ ha (H.gdiscD hHh))))
  split
  · exact J.anyP (hc.map fun a b h => J.isZ (H.geval h hF))
  · exact J.not_ J.tt
omit H J in
theorem All2.flatMap {γ δ : Type} {U : γ → δ → Prop} {f : α → List γ} {g : β → List δ} {as : List α} {bs : List β} (h : All2 R as bs) (hf : ∀ a b, R a b → All2 U (f a) (g b)) : All2 U (as.flatMap f) (bs.flatMap g) := by
  induction h with
  | nil => exact .nil
  | cons a _ ih => exact (hf _ _ a).append ih
omit H J in
theorem All2.combos {cs : List α} {cs' : List β} (h : All2 R cs cs') : ∀ d, All2 (All2 R) (combos cs d) (combos cs' d)
  | 0 => .cons .nil .nil
  | d+1 => h.flatMap fun _ _ hab => (All2.combos h d).map fun _ _ hx => .cons hab hx
omit H J in
theorem All2.lowers {cs : List α} {cs' : List β} (h : All2 R cs cs') (n : Nat) : All2 (All2 R) (lowers cs n) (lowers cs' n) := by
  have e : All2 (fun a b : Nat => a = b) (List.range (n / 2)) (List.range (n / 2)) := by
    have := All2.same (R := fun a b : Nat => a = b) (f := id) (g := id) (l := List.range (n / 2)) fun _ _ => rfl
    simpa using this
  exact e.flatMap fun a b hab => by subst hab; exact All2.combos h _
theorem THom.chkBD {cs h : List α} {cs' h' : List β} (hc : All2 R cs cs') (hh : All2 R h h') : S (chkBD o T cs h) (chkBD o' T' cs' h') := by
  have hHh := hh.append (.cons H.one .nil)
  have ha := H.gdiscD hHh
  unfold K8.chkBD
  rw [hh.length]
  refine J.or_ (J.anyP ((All2.lowers hc _).map fun _ _ hf => J.allZ (H.grem hf hHh))) ?_
  unfold K8.mu1
  split
  · exact J.plus ha
  · exact J.minus ha
theorem THom.chkCD {h g : List α} {h' g' : List β} (hh : All2 R h h') (hg : All2 R g g') : S (chkCD o T h g) (chkCD o' T' h' g') :=
  J.relA _ (H.gdiscD (hh.append (.cons H.one .nil))) (H.gdiscD (hg.append (.cons H.one .nil)))
end
end K8

/-! text K8Lane -/
set_option linter.unusedSimpArgs false
set_option maxRecDepth 100000
namespace K8

structure H3 where
  a0 : Nat
  a1 : Nat
  a2 : Nat

def H3.add : H3 → H3 → H3
  | ⟨x0, x1, x2⟩, ⟨y0, y1, y2⟩ => ⟨(Nat.lor (Nat.lor (Nat.land x0 y0) (Nat.land x1 y2)) (Nat.land x2 y1)), (Nat.lor (Nat.lor (Nat.land x0 y1) (Nat.land x1 y0)) (Nat.land x2 y2)), (Nat.lor (Nat.lor (Nat.land x0 y2) (Nat.land x1 y1)) (Nat.land x2 y0))⟩
def H3.sub : H3 → H3 → H3
  | ⟨x0, x1, x2⟩, ⟨y0, y1, y2⟩ => ⟨(Nat.lor (Nat.lor (Nat.land x0 y0) (Nat.land x1 y1)) (Nat.land x2 y2)), (Nat.lor (Nat.lor (Nat.land x0 y2) (Nat.land x1 y0)) (Nat.land x2 y1)), (Nat.lor (Nat.lor (Nat.land x0 y1) (Nat.land x1 y2)) (Nat.land x2 y0))⟩
def H3.mul : H3 → H3 → H3
  | ⟨x0, x1, x2⟩, ⟨y0, y1, y2⟩ => ⟨(Nat.lor (Nat.lor (Nat.lor (Nat.lor (Nat.land x0 y0) (Nat.land x0 y1)) (Nat.land x0 y2)) (Nat.land x1 y0)) (Nat.land x2 y0)), (Nat.lor (Nat.land x1 y1) (Nat.land x2 y2)), (Nat.lor (Nat.land x1 y2) (Nat.land x2 y1))⟩
def H3.seq {β : Type} : H3 → (H3 → β) → β
  | ⟨x0, x1, x2⟩, k => seqN x0 fun y0 => seqN x1 fun y1 => seqN x2 fun y2 => k ⟨y0, y1, y2⟩
def H3.ops (on : Nat) : Ops H3 := ⟨H3.add, H3.sub, H3.mul, ⟨on, 0, 0⟩, ⟨0, on, 0⟩, H3.seq⟩
theorem H3.law (on : Nat) : (H3.ops on).Law := ⟨fun x k => by
  obtain ⟨x0, x1, x2⟩ := x
  show H3.seq ⟨x0, x1, x2⟩ k = k ⟨x0, x1, x2⟩
  unfold H3.seq
  simp only [seqN_eq]⟩
def H3.Rep (b : Nat) (x : H3) (v : Int) : Prop := ∃ r : Nat, r < 3 ∧ v % 3 = (r : Int) ∧ x.a0.testBit b = (r == 0) ∧ x.a1.testBit b = (r == 1) ∧ x.a2.testBit b = (r == 2)
theorem H3.tab_add : ∀ r, r < 3 → ∀ s, s < 3 → (((r == 0 && s == 0) || (r == 1 && s == 2) || (r == 2 && s == 1)) = ((r + s) % 3 == 0)) ∧ (((r == 0 && s == 1) || (r == 1 && s == 0) || (r == 2 && s == 2)) = ((r + s) % 3 == 1)) ∧ (((r == 0 && s == 2) || (r == 1 && s == 1) || (r == 2 && s == 0)) = ((r + s) % 3 == 2)) := by decide +kernel
theorem H3.rep_add {b : Nat} {x y : H3} {v w : Int} (hx : H3.Rep b x v) (hy : H3.Rep b y w) : H3.Rep b (H3.add x y) (v + w) := by
  obtain ⟨x0, x1, x2⟩ := x
  obtain ⟨y0, y1, y2⟩ := y
  obtain ⟨r, hr, er, h0, h1, h2⟩ := hx
  obtain ⟨s, hs, es, k0, k1, k2⟩ := hy
  obtain ⟨t0, t1, t2⟩ := H3.tab_add r hr s hs
  refine ⟨(r + s) % 3, Nat.mod_lt _ (by decide), by omega, ?_, ?_, ?_⟩
  · show (Nat.testBit (Nat.lor (Nat.lor (Nat.land x0 y0) (Nat.land x1 y2)) (Nat.land x2 y1)) b) = _
    rw [← t0]; dsimp only at h0 h1 h2 k0 k1 k2; simp only [tb_lor, tb_land, h0, h1, h2, k0, k1, k2]
  · show (Nat.testBit (Nat.lor (Nat.lor (Nat.land x0 y1) (Nat.land x1 y0)) (Nat.land x2 y2)) b) = _
    rw [← t1]; dsimp only at h0 h1 h2 k0 k1 k2; simp only [tb_lor, tb_land, h0, h1, h2, k0, k1, k2]
  · show (Nat.testBit (Nat.lor (Nat.lor (Nat.land x0 y2) (Nat.land x1 y1)) (Nat.land x2 y0)) b) = _
    rw [← t2]; dsimp only at h0 h1 h2 k0 k1 k2; simp only [tb_lor, tb_land, h0, h1, h2, k0, k1, k2]
theorem H3.tab_sub : ∀ r, r < 3 → ∀ s, s < 3 → (((r == 0 && s == 0) || (r == 1 && s == 1) || (r == 2 && s == 2)) = ((r + (3 - s)) % 3 == 0)) ∧ (((r == 0 && s == 2) || (r == 1 && s == 0) || (r == 2 && s == 1)) = ((r + (3 - s)) % 3 == 1)) ∧ (((r == 0 && s == 1) || (r == 1 && s == 2) || (r == 2 && s == 0)) = ((r + (3 - s)) % 3 == 2)) := by decide +kernel
theorem H3.rep_sub {b : Nat} {x y : H3} {v w : Int} (hx : H3.Rep b x v) (hy : H3.Rep b y w) : H3.Rep b (H3.sub x y) (v - w) := by
  obtain ⟨x0, x1, x2⟩ := x
  obtain ⟨y0, y1, y2⟩ := y
  obtain ⟨r, hr, er, h0, h1, h2⟩ := hx
  obtain ⟨s, hs, es, k0, k1, k2⟩ := hy
  obtain ⟨t0, t1, t2⟩ := H3.tab_sub r hr s hs
  refine ⟨(r + (3 - s)) % 3, Nat.mod_lt _ (by decide), by omega, ?_, ?_, ?_⟩
  · show (Nat.testBit (Nat.lor (Nat.lor (Nat.land x0 y0) (Nat.land x1 y1)) (Nat.land x2 y2)) b) = _
    rw [← t0]; dsimp only at h0 h1 h2 k0 k1 k2; simp only [tb_lor, tb_land, h0, h1, h2, k0, k1, k2]
  · show (Nat.testBit (Nat.lor (Nat.lor (Nat.land x0 y2) (Nat.land x1 y0)) (Nat.land x2 y1)) b) = _
    rw [← t1]; dsimp only at h0 h1 h2 k0 k1 k2; simp only [tb_lor, tb_land, h0, h1, h2, k0, k1, k2]
  · show (Nat.testBit (Nat.lor (Nat.lor (Nat.land x0 y1) (Nat.land x1 y2)) (Nat.land x2 y0)) b) = _
    rw [← t2]; dsimp only at h0 h1 h2 k0 k1 k2; simp only [tb_lor, tb_land, h0, h1, h2, k0, k1, k2]
theorem H3.tab_mul : ∀ r, r < 3 → ∀ s, s < 3 → (((r == 0 && s == 0) || (r == 0 && s == 1) || (r == 0 && s == 2) || (r == 1 && s == 0) || (r == 2 && s == 0)) = ((r * s) % 3 == 0)) ∧ (((r == 1 && s == 1) || (r == 2 && s == 2)) = ((r * s) % 3 == 1)) ∧ (((r == 1 && s == 2) || (r == 2 && s == 1)) = ((r * s) % 3 == 2)) := by decide +kernel
theorem H3.rep_mul {b : Nat} {x y : H3} {v w : Int} (hx : H3.Rep b x v) (hy : H3.Rep b y w) : H3.Rep b (H3.mul x y) (v * w) := by
  obtain ⟨x0, x1, x2⟩ := x
  obtain ⟨y0, y1, y2⟩ := y
  obtain ⟨r, hr, er, h0, h1, h2⟩ := hx
  obtain ⟨s, hs, es, k0, k1, k2⟩ := hy
  obtain ⟨t0, t1, t2⟩ := H3.tab_mul r hr s hs
  refine ⟨(r * s) % 3, Nat.mod_lt _ (by decide), by
    rw [Int.mul_emod, er, es]
    exact_mod_cast rfl, ?_, ?_, ?_⟩
  · show (Nat.testBit (Nat.lor (Nat.lor (Nat.lor (Nat.lor (Nat.land x0 y0) (Nat.land x0 y1)) (Nat.land x0 y2)) (Nat.land x1 y0)) (Nat.land x2 y0)) b) = _
    rw [← t0]; dsimp only at h0 h1 h2 k0 k1 k2; simp only [tb_lor, tb_land, h0, h1, h2, k0, k1, k2]
  · show (Nat.testBit (Nat.lor (Nat.land x1 y1) (Nat.land x2 y2)) b) = _
    rw [← t1]; dsimp only at h0 h1 h2 k0 k1 k2; simp only [tb_lor, tb_land, h0, h1, h2, k0, k1, k2]
  · show (Nat.testBit (Nat.lor (Nat.land x1 y2) (Nat.land x2 y1)) b) = _
    rw [← t2]; dsimp only at h0 h1 h2 k0 k1 k2; simp only [tb_lor, tb_land, h0, h1, h2, k0, k1, k2]
theorem H3.hom {b on : Nat} (h : on.testBit b = true) : Hom (H3.ops on) intOps (H3.Rep b) where
  add := H3.rep_add
  sub := H3.rep_sub
  mul := H3.rep_mul
  zero := ⟨0, by decide, by rfl, h, Nat.zero_testBit b, Nat.zero_testBit b⟩
  one := ⟨1, by decide, by rfl, Nat.zero_testBit b, h, Nat.zero_testBit b⟩
def H3.tst (on : Nat) : Tst H3 Nat := ⟨fun x => x.a0, fun x => x.a1, Nat.land, Nat.lor, Nat.xor on, on⟩
theorem H3.thom {b on : Nat} (h : on.testBit b = true) : THom (H3.tst on) (tst0 3) (H3.Rep b) (fun x c => x.testBit b = c) where
  isZ := fun {x v} ⟨r, hr, er, h0, h1, h2⟩ => by
    show x.a0.testBit b = (v % 3 == 0)
    rw [h0, er]
    by_cases z : r = 0
    · subst z; rfl
    · rw [beq_eq_false_iff_ne.mpr z]; exact (beq_eq_false_iff_ne.mpr (by omega)).symm
  plus := fun {x v} hx => by
    obtain ⟨x0, x1, x2⟩ := x
    obtain ⟨r, hr, er, h0, h1, h2⟩ := hx
    dsimp only at h0 h1 h2
    show (Nat.testBit (x1) b) = isPlus 3 v
    have e : isPlus 3 v = isPlus 3 (r : Int) := by
      show (v % 3 == 1) = ((r : Int) % 3 == 1)
      rw [er, Int.emod_eq_of_lt (by omega) (by omega)]
    have q : ∀ r : Nat, r < 3 → (r == 1) = isPlus 3 (r : Int) := by decide +kernel
    rw [e, ← q r hr]
    simp only [tb_lor, h0, h1, h2]
  and_ := fun {x y c d} h1 h2 => by rw [← h1, ← h2]; exact tb_land _ _ _
  or_ := fun {x y c d} h1 h2 => by rw [← h1, ← h2]; exact tb_lor _ _ _
  not_ := fun {x c} h1 => by rw [← h1]; show (Nat.xor on x).testBit b = _; rw [tb_xor, h, Bool.true_xor]; rfl
  tt := h
def H3.dig (T t : Nat) : H3 := ⟨patt 3 t 0 T, patt 3 t 1 T, patt 3 t 2 T⟩
theorem H3.dig_rep {T t b : Nat} (hb : b < 3 ^ T) (ht : t < T) : H3.Rep b (H3.dig T t) ((b / 3 ^ t % 3 : Nat) : Int) :=
  ⟨b / 3 ^ t % 3, Nat.mod_lt _ (by decide), by omega, patt_bit (by decide) hb ht, patt_bit (by decide) hb ht, patt_bit (by decide) hb ht⟩

structure H5 where
  a0 : Nat
  a1 : Nat
  a2 : Nat
  a3 : Nat
  a4 : Nat

def H5.add : H5 → H5 → H5
  | ⟨x0, x1, x2, x3, x4⟩, ⟨y0, y1, y2, y3, y4⟩ => ⟨(Nat.lor (Nat.lor (Nat.lor (Nat.lor (Nat.land x0 y0) (Nat.land x1 y4)) (Nat.land x2 y3)) (Nat.land x3 y2)) (Nat.land x4 y1)), (Nat.lor (Nat.lor (Nat.lor (Nat.lor (Nat.land x0 y1) (Nat.land x1 y0)) (Nat.land x2 y4)) (Nat.land x3 y3)) (Nat.land x4 y2)), (Nat.lor (Nat.lor (Nat.lor (Nat.lor (Nat.land x0 y2) (Nat.land x1 y1)) (Nat.land x2 y0)) (Nat.land x3 y4)) (Nat.land x4 y3)), (Nat.lor (Nat.lor (Nat.lor (Nat.lor (Nat.land x0 y3) (Nat.land x1 y2)) (Nat.land x2 y1)) (Nat.land x3 y0)) (Nat.land x4 y4)), (Nat.lor (Nat.lor (Nat.lor (Nat.lor (Nat.land x0 y4) (Nat.land x1 y3)) (Nat.land x2 y2)) (Nat.land x3 y1)) (Nat.land x4 y0))⟩
def H5.sub : H5 → H5 → H5
  | ⟨x0, x1, x2, x3, x4⟩, ⟨y0, y1, y2, y3, y4⟩ => ⟨(Nat.lor (Nat.lor (Nat.lor (Nat.lor (Nat.land x0 y0) (Nat.land x1 y1)) (Nat.land x2 y2)) (Nat.land x3 y3)) (Nat.land x4 y4)), (Nat.lor (Nat.lor (Nat.lor (Nat.lor (Nat.land x0 y4) (Nat.land x1 y0)) (Nat.land x2 y1)) (Nat.land x3 y2)) (Nat.land x4 y3)), (Nat.lor (Nat.lor (Nat.lor (Nat.lor (Nat.land x0 y3) (Nat.land x1 y4)) (Nat.land x2 y0)) (Nat.land x3 y1)) (Nat.land x4 y2)), (Nat.lor (Nat.lor (Nat.lor (Nat.lor (Nat.land x0 y2) (Nat.land x1 y3)) (Nat.land x2 y4)) (Nat.land x3 y0)) (Nat.land x4 y1)), (Nat.lor (Nat.lor (Nat.lor (Nat.lor (Nat.land x0 y1) (Nat.land x1 y2)) (Nat.land x2 y3)) (Nat.land x3 y4)) (Nat.land x4 y0))⟩
def H5.mul : H5 → H5 → H5
  | ⟨x0, x1, x2, x3, x4⟩, ⟨y0, y1, y2, y3, y4⟩ => ⟨(Nat.lor (Nat.lor (Nat.lor (Nat.lor (Nat.lor (Nat.lor (Nat.lor (Nat.lor (Nat.land x0 y0) (Nat.land x0 y1)) (Nat.land x0 y2)) (Nat.land x0 y3)) (Nat.land x0 y4)) (Nat.land x1 y0)) (Nat.land x2 y0)) (Nat.land x3 y0)) (Nat.land x4 y0)), (Nat.lor (Nat.lor (Nat.lor (Nat.land x1 y1) (Nat.land x2 y3)) (Nat.land x3 y2)) (Nat.land x4 y4)), (Nat.lor (Nat.lor (Nat.lor (Nat.land x1 y2) (Nat.land x2 y1)) (Nat.land x3 y4)) (Nat.land x4 y3)), (Nat.lor (Nat.lor (Nat.lor (Nat.land x1 y3) (Nat.land x2 y4)) (Nat.land x3 y1)) (Nat.land x4 y2)), (Nat.lor (Nat.lor (Nat.lor (Nat.land x1 y4) (Nat.land x2 y2)) (Nat.land x3 y3)) (Nat.land x4 y1))⟩
def H5.seq {β : Type} : H5 → (H5 → β) → β
  | ⟨x0, x1, x2, x3, x4⟩, k => seqN x0 fun y0 => seqN x1 fun y1 => seqN x2 fun y2 => seqN x3 fun y3 => seqN x4 fun y4 => k ⟨y0, y1, y2, y3, y4⟩
def H5.ops (on : Nat) : Ops H5 := ⟨H5.add, H5.sub, H5.mul, ⟨on, 0, 0, 0, 0⟩, ⟨0, on, 0, 0, 0⟩, H5.seq⟩
theorem H5.law (on : Nat) : (H5.ops on).Law := ⟨fun x k => by
  obtain ⟨x0, x1, x2, x3, x4⟩ := x
  show H5.seq ⟨x0, x1, x2, x3, x4⟩ k = k ⟨x0, x1, x2, x3, x4⟩
  unfold H5.seq
  simp only [seqN_eq]⟩
def H5.Rep (b : Nat) (x : H5) (v : Int) : Prop := ∃ r : Nat, r < 5 ∧ v % 5 = (r : Int) ∧ x.a0.testBit b = (r == 0) ∧ x.a1.testBit b = (r == 1) ∧ x.a2.testBit b = (r == 2) ∧ x.a3.testBit b = (r == 3) ∧ x.a4.testBit b = (r == 4)
theorem H5.tab_add : ∀ r, r < 5 → ∀ s, s < 5 → (((r == 0 && s == 0) || (r == 1 && s == 4) || (r == 2 && s == 3) || (r == 3 && s == 2) || (r == 4 && s == 1)) = ((r + s) % 5 == 0)) ∧ (((r == 0 && s == 1) || (r == 1 && s == 0) || (r == 2 && s == 4) || (r == 3 && s == 3) || (r == 4 && s == 2)) = ((r + s) % 5 == 1)) ∧ (((r == 0 && s == 2) || (r == 1 && s == 1) || (r == 2 && s == 0) || (r == 3 && s == 4) || (r == 4 && s == 3)) = ((r + s) % 5 == 2)) ∧ (((r == 0 && s == 3) || (r == 1 && s == 2) || (r == 2 && s == 1) || (r == 3 && s == 0) || (r == 4 && s == 4)) = ((r + s) % 5 == 3)) ∧ (((r == 0 && s == 4) || (r == 1 && s == 3) || (r == 2 && s == 2) || (r == 3 && s == 1) || (r == 4 && s == 0)) = ((r + s) % 5 == 4)) := by decide +kernel
theorem H5.rep_add {b : Nat} {x y : H5} {v w : Int} (hx : H5.Rep b x v) (hy : H5.Rep b y w) : H5.Rep b (H5.add x y) (v + w) := by
  obtain ⟨x0, x1, x2, x3, x4⟩ := x
  obtain ⟨y0, y1, y2, y3, y4⟩ := y
  obtain ⟨r, hr, er, h0, h1, h2, h3, h4⟩ := hx
  obtain ⟨s, hs, es, k0, k1, k2, k3, k4⟩ := hy
  obtain ⟨t0, t1, t2, t3, t4⟩ := H5.tab_add r hr s hs
  refine ⟨(r + s) % 5, Nat.mod_lt _ (by decide), by omega, ?_, ?_, ?_, ?_, ?_⟩
  · show (Nat.testBit (Nat.lor (Nat.lor (Nat.lor (Nat.lor (Nat.land x0 y0) (Nat.land x1 y4)) (Nat.land x2 y3)) (Nat.land x3 y2)) (Nat.land x4 y1)) b) = _
    rw [← t0]; dsimp only at h0 h1 h2 h3 h4 k0 k1 k2 k3 k4; simp only [tb_lor, tb_land, h0, h1, h2, h3, h4, k0, k1, k2, k3, k4]
  · show (Nat.testBit (Nat.lor (Nat.lor (Nat.lor (Nat.lor (Nat.land x0 y1) (Nat.land x1 y0)) (Nat.land x2 y4)) (Nat.land x3 y3)) (Nat.land x4 y2)) b) = _
    rw [← t1]; dsimp only at h0 h1 h2 h3 h4 k0 k1 k2 k3 k4; simp only [tb_lor, tb_land, h0, h1, h2, h3, h4, k0, k1, k2, k3, k4]
  · show (Nat.testBit (Nat.lor (Nat.lor (Nat.lor (Nat.lor (Nat.land x0 y2) (Nat.land x1 y1)) (Nat.land x2 y0)) (Nat.land x3 y4)) (Nat.land x4 y3)) b) = _
    rw [← t2]; dsimp only at h0 h1 h2 h3 h4 k0 k1 k2 k3 k4; simp only [tb_lor, tb_land, h0, h1, h2, h3, h4, k0, k1, k2, k3, k4]
  · show (Nat.testBit (Nat.lor (Nat.lor (Nat.lor (Nat.lor (Nat.land x0 y3) (Nat.land x1 y2)) (Nat.land x2 y1)) (Nat.land x3 y0)) (Nat.land x4 y4)) b) = _
    rw [← t3]; dsimp only at h0 h1 h2 h3 h4 k0 k1 k2 k3 k4; simp only [tb_lor, tb_land, h0, h1, h2, h3, h4, k0, k1, k2, k3, k4]
  · show (Nat.testBit (Nat.lor (Nat.lor (Nat.lor (Nat.lor (Nat.land x0 y4) (Nat.land x1 y3)) (Nat.land x2 y2)) (Nat.land x3 y1)) (Nat.land x4 y0)) b) = _
    rw [← t4]; dsimp only at h0 h1 h2 h3 h4 k0 k1 k2 k3 k4; simp only [tb_lor, tb_land, h0, h1, h2, h3, h4, k0, k1, k2, k3, k4]
theorem H5.tab_sub : ∀ r, r < 5 → ∀ s, s < 5 → (((r == 0 && s == 0) || (r == 1 && s == 1) || (r == 2 && s == 2) || (r == 3 && s == 3) || (r == 4 && s == 4)) = ((r + (5 - s)) % 5 == 0)) ∧ (((r == 0 && s == 4) || (r == 1 && s == 0) || (r == 2 && s == 1) || (r == 3 && s == 2) || (r == 4 && s == 3)) = ((r + (5 - s)) % 5 == 1)) ∧ (((r == 0 && s == 3) || (r == 1 && s == 4) || (r == 2 && s == 0) || (r == 3 && s == 1) || (r == 4 && s == 2)) = ((r + (5 - s)) % 5 == 2)) ∧ (((r == 0 && s == 2) || (r == 1 && s == 3) || (r == 2 && s == 4) || (r == 3 && s == 0) || (r == 4 && s == 1)) = ((r + (5 - s)) % 5 == 3)) ∧ (((r == 0 && s == 1) || (r == 1 && s == 2) || (r == 2 && s == 3) || (r == 3 && s == 4) || (r == 4 && s == 0)) = ((r + (5 - s)) % 5 == 4)) := by decide +kernel
theorem H5.rep_sub {b : Nat} {x y : H5} {v w : Int} (hx : H5.Rep b x v) (hy : H5.Rep b y w) : H5.Rep b (H5.sub x y) (v - w) := by
  obtain ⟨x0, x1, x2, x3, x4⟩ := x
  obtain ⟨y0, y1, y2, y3, y4⟩ := y
  obtain ⟨r, hr, er, h0, h1, h2, h3, h4⟩ := hx
  obtain ⟨s, hs, es, k0, k1, k2, k3, k4⟩ := hy
  obtain ⟨t0, t1, t2, t3, t4⟩ := H5.tab_sub r hr s hs
  refine ⟨(r + (5 - s)) % 5, Nat.mod_lt _ (by decide), by omega, ?_, ?_, ?_, ?_, ?_⟩
  · show (Nat.testBit (Nat.lor (Nat.lor (Nat.lor (Nat.lor (Nat.land x0 y0) (Nat.land x1 y1)) (Nat.land x2 y2)) (Nat.land x3 y3)) (Nat.land x4 y4)) b) = _
    rw [← t0]; dsimp only at h0 h1 h2 h3 h4 k0 k1 k2 k3 k4; simp only [tb_lor, tb_land, h0, h1, h2, h3, h4, k0, k1, k2, k3, k4]
  · show (Nat.testBit (Nat.lor (Nat.lor (Nat.lor (Nat.lor (Nat.land x0 y4) (Nat.land x1 y0)) (Nat.land x2 y1)) (Nat.land x3 y2)) (Nat.land x4 y3)) b) = _
    rw [← t1]; dsimp only at h0 h1 h2 h3 h4 k0 k1 k2 k3 k4; simp only [tb_lor, tb_land, h0, h1, h2, h3, h4, k0, k1, k2, k3, k4]
  · show (Nat.testBit (Nat.lor (Nat.lor (Nat.lor (Nat.lor (Nat.land x0 y3) (Nat.land x1 y4)) (Nat.land x2 y0)) (Nat.land x3 y1)) (Nat.land x4 y2)) b) = _
    rw [← t2]; dsimp only at h0 h1 h2 h3 h4 k0 k1 k2 k3 k4; simp only [tb_lor, tb_land, h0, h1, h2, h3, h4, k0, k1, k2, k3, k4]
  · show (Nat.testBit (Nat.lor (Nat.lor (Nat.lor (Nat.lor (Nat.land x0 y2) (Nat.land x1 y3)) (Nat.land x2 y4)) (Nat.land x3 y0)) (Nat.land x4 y1)) b) = _
    rw [← t3]; dsimp only at h0 h1 h2 h3 h4 k0 k1 k2 k3 k4; simp only [tb_lor, tb_land, h0, h1, h2, h3, h4, k0, k1, k2, k3, k4]
  · show (Nat.testBit (Nat.lor (Nat.lor (Nat.lor (Nat.lor (Nat.land x0 y1) (Nat.land x1 y2)) (Nat.land x2 y3)) (Nat.land x3 y4)) (Nat.land x4 y0)) b) = _
    rw [← t4]; dsimp only at h0 h1 h2 h3 h4 k0 k1 k2 k3 k4; simp only [tb_lor, tb_land, h0, h1, h2, h3, h4, k0, k1, k2, k3, k4]
theorem H5.tab_mul : ∀ r, r < 5 → ∀ s, s < 5 → (((r == 0 && s == 0) || (r == 0 && s == 1) || (r == 0 && s == 2) || (r == 0 && s == 3) || (r == 0 && s == 4) || (r == 1 && s == 0) || (r == 2 && s == 0) || (r == 3 && s == 0) || (r == 4 && s == 0)) = ((r * s) % 5 == 0)) ∧ (((r == 1 && s == 1) || (r == 2 && s == 3) || (r == 3 && s == 2) || (r == 4 && s == 4)) = ((r * s) % 5 == 1)) ∧ (((r == 1 && s == 2) || (r == 2 && s == 1) || (r == 3 && s == 4) || (r == 4 && s == 3)) = ((r * s) % 5 == 2)) ∧ (((r == 1 && s == 3) || (r == 2 && s == 4) || (r == 3 && s == 1) || (r == 4 && s == 2)) = ((r * s) % 5 == 3)) ∧ (((r == 1 && s == 4) || (r == 2 && s == 2) || (r == 3 && s == 3) || (r == 4 && s == 1)) = ((r * s) % 5 == 4)) := by decide +kernel
theorem H5.rep_mul {b : Nat} {x y : H5} {v w : Int} (hx : H5.Rep b x v) (hy : H5.Rep b y w) : H5.Rep b (H5.mul x y) (v * w) := by
  obtain ⟨x0, x1, x2, x3, x4⟩ := x
  obtain ⟨y0, y1, y2, y3, y4⟩ := y
  obtain ⟨r, hr, er, h0, h1, h2, h3, h4⟩ := hx
  obtain ⟨s, hs, es, k0, k1, k2, k3, k4⟩ := hy
  obtain ⟨t0, t1, t2, t3, t4⟩ := H5.tab_mul r hr s hs
  refine ⟨(r * s) % 5, Nat.mod_lt _ (by decide), by
    rw [Int.mul_emod, er, es]
    exact_mod_cast rfl, ?_, ?_, ?_, ?_, ?_⟩
  · show (Nat.testBit (Nat.lor (Nat.lor (Nat.lor (Nat.lor (Nat.lor (Nat.lor (Nat.lor (Nat.lor (Nat.land x0 y0) (Nat.land x0 y1)) (Nat.land x0 y2)) (Nat.land x0 y3)) (Nat.land x0 y4)) (Nat.land x1 y0)) (Nat.land x2 y0)) (Nat.land x3 y0)) (Nat.land x4 y0)) b) = _
    rw [← t0]; dsimp only at h0 h1 h2 h3 h4 k0 k1 k2 k3 k4; simp only [tb_lor, tb_land, h0, h1, h2, h3, h4, k0, k1, k2, k3, k4]
  · show (Nat.testBit (Nat.lor (Nat.lor (Nat.lor (Nat.land x1 y1) (Nat.land x2 y3)) (Nat.land x3 y2)) (Nat.land x4 y4)) b) = _
    rw [← t1]; dsimp only at h0 h1 h2 h3 h4 k0 k1 k2 k3 k4; simp only [tb_lor, tb_land, h0, h1, h2, h3, h4, k0, k1, k2, k3, k4]
  · show (Nat.testBit (Nat.lor (Nat.lor (Nat.lor (Nat.land x1 y2) (Nat.land x2 y1)) (Nat.land x3 y4)) (Nat.land x4 y3)) b) = _
    rw [← t2]; dsimp only at h0 h1 h2 h3 h4 k0 k1 k2 k3 k4; simp only [tb_lor, tb_land, h0, h1, h2, h3, h4, k0, k1, k2, k3, k4]
  · show (Nat.testBit (Nat.lor (Nat.lor (Nat.lor (Nat.land x1 y3) (Nat.land x2 y4)) (Nat.land x3 y1)) (Nat.land x4 y2)) b) = _
    rw [← t3]; dsimp only at h0 h1 h2 h3 h4 k0 k1 k2 k3 k4; simp only [tb_lor, tb_land, h0, h1, h2, h3, h4, k0, k1, k2, k3, k4]
  · show (Nat.testBit (Nat.lor (Nat.lor (Nat.lor (Nat.land x1 y4) (Nat.land x2 y2)) (Nat.land x3 y3)) (Nat.land x4 y1)) b) = _
    rw [← t4]; dsimp only at h0 h1 h2 h3 h4 k0 k1 k2 k3 k4; simp only [tb_lor, tb_land, h0, h1, h2, h3, h4, k0, k1, k2, k3, k4]
theorem H5.hom {b on : Nat} (h : on.testBit b = true) : Hom (H5.ops on) intOps (H5.Rep b) where
  add := H5.rep_add
  sub := H5.rep_sub
  mul := H5.rep_mul
  zero := ⟨0, by decide, by rfl, h, Nat.zero_testBit b, Nat.zero_testBit b, Nat.zero_testBit b, Nat.zero_testBit b⟩
  one := ⟨1, by decide, by rfl, Nat.zero_testBit b, h, Nat.zero_testBit b, Nat.zero_testBit b, Nat.zero_testBit b⟩
def H5.tst (on : Nat) : Tst H5 Nat := ⟨fun x => x.a0, fun x => Nat.lor (x.a1) x.a4, Nat.land, Nat.lor, Nat.xor on, on⟩
theorem H5.thom {b on : Nat} (h : on.testBit b = true) : THom (H5.tst on) (tst0 5) (H5.Rep b) (fun x c => x.testBit b = c) where
  isZ := fun {x v} ⟨r, hr, er, h0, h1, h2, h3, h4⟩ => by
    show x.a0.testBit b = (v % 5 == 0)
    rw [h0, er]
    by_cases z : r = 0
    · subst z; rfl
    · rw [beq_eq_false_iff_ne.mpr z]; exact (beq_eq_false_iff_ne.mpr (by omega)).symm
  plus := fun {x v} hx => by
    obtain ⟨x0, x1, x2, x3, x4⟩ := x
    obtain ⟨r, hr, er, h0, h1, h2, h3, h4⟩ := hx
    dsimp only at h0 h1 h2 h3 h4
    show (Nat.testBit (Nat.lor (x1) x4) b) = isPlus 5 v
    have e : isPlus 5 v = isPlus 5 (r : Int) := by
      show (v % 5 == 1 || v % 5 == 4) = ((r : Int) % 5 == 1 || (r : Int) % 5 == 4)
      rw [er, Int.emod_eq_of_lt (by omega) (by omega)]
    have q : ∀ r : Nat, r < 5 → (r == 1 || r == 4) = isPlus 5 (r : Int) := by decide +kernel
    rw [e, ← q r hr]
    simp only [tb_lor, h0, h1, h2, h3, h4]
  and_ := fun {x y c d} h1 h2 => by rw [← h1, ← h2]; exact tb_land _ _ _
  or_ := fun {x y c d} h1 h2 => by rw [← h1, ← h2]; exact tb_lor _ _ _
  not_ := fun {x c} h1 => by rw [← h1]; show (Nat.xor on x).testBit b = _; rw [tb_xor, h, Bool.true_xor]; rfl
  tt := h
def H5.dig (T t : Nat) : H5 := ⟨patt 5 t 0 T, patt 5 t 1 T, patt 5 t 2 T, patt 5 t 3 T, patt 5 t 4 T⟩
theorem H5.dig_rep {T t b : Nat} (hb : b < 5 ^ T) (ht : t < T) : H5.Rep b (H5.dig T t) ((b / 5 ^ t % 5 : Nat) : Int) :=
  ⟨b / 5 ^ t % 5, Nat.mod_lt _ (by decide), by omega, patt_bit (by decide) hb ht, patt_bit (by decide) hb ht, patt_bit (by decide) hb ht, patt_bit (by decide) hb ht, patt_bit (by decide) hb ht⟩

structure H7 where
  a0 : Nat
  a1 : Nat
  a2 : Nat
  a3 : Nat
  a4 : Nat
  a5 : Nat
  a6 : Nat

def H7.add : H7 → H7 → H7
  | ⟨x0, x1, x2, x3, x4, x5, x6⟩, ⟨y0, y1, y2, y3, y4, y5, y6⟩ => ⟨(Nat.lor (Nat.lor (Nat.lor (Nat.lor (Nat.lor (Nat.lor (Nat.land x0 y0) (Nat.land x1 y6)) (Nat.land x2 y5)) (Nat.land x3 y4)) (Nat.land x4 y3)) (Nat.land x5 y2)) (Nat.land x6 y1)), (Nat.lor (Nat.lor (Nat.lor (Nat.lor (Nat.lor (Nat.lor (Nat.land x0 y1) (Nat.land x1 y0)) (Nat.land x2 y6)) (Nat.land x3 y5)) (Nat.land x4 y4)) (Nat.land x5 y3)) (Nat.land x6 y2)), (Nat.lor (Nat.lor (Nat.lor (Nat.lor (Nat.lor (Nat.lor (Nat.land x0 y2) (Nat.land x1 y1)) (Nat.land x2 y0)) (Nat.land x3 y6)) (Nat.land x4 y5)) (Nat.land x5 y4)) (Nat.land x6 y3)), (Nat.lor (Nat.lor (Nat.lor (Nat.lor (Nat.lor (Nat.lor (Nat.land x0 y3) (Nat.land x1 y2)) (Nat.land x2 y1)) (Nat.land x3 y0)) (Nat.land x4 y6)) (Nat.land x5 y5)) (Nat.land x6 y4)), (Nat.lor (Nat.lor (Nat.lor (Nat.lor (Nat.lor (Nat.lor (Nat.land x0 y4) (Nat.land x1 y3)) (Nat.land x2 y2)) (Nat.land x3 y1)) (Nat.land x4 y0)) (Nat.land x5 y6)) (Nat.land x6 y5)), (Nat.lor (Nat.lor (Nat.lor (Nat.lor (Nat.lor (Nat.lor (Nat.land x0 y5) (Nat.land x1 y4)) (Nat.land x2 y3)) (Nat.land x3 y2)) (Nat.land x4 y1)) (Nat.land x5 y0)) (Nat.land x6 y6)), (Nat.lor (Nat.lor (Nat.lor (Nat.lor (Nat.lor (Nat.lor (Nat.land x0 y6) (Nat.land x1 y5)) (Nat.land x2 y4)) (Nat.land x3 y3)) (Nat.land x4 y2)) (Nat.land x5 y1)) (Nat.land x6 y0))⟩
def H7.sub : H7 → H7 → H7
  | ⟨x0, x1, x2, x3, x4, x5, x6⟩, ⟨y0, y1, y2, y3, y4, y5, y6⟩ => ⟨(Nat.lor (Nat.lor (Nat.lor (Nat.lor (Nat.lor (Nat.lor (Nat.land x0 y0) (Nat.land x1 y1)) (Nat.land x2 y2)) (Nat.land x3 y3)) (Nat.land x4 y4)) (Nat.land x5 y5)) (Nat.land x6 y6)), (Nat.lor (Nat.lor (Nat.lor (Nat.lor (Nat.lor (Nat.lor (Nat.land x0 y6) (Nat.land x1 y0)) (Nat.land x2 y1)) (Nat.land x3 y2)) (Nat.land x4 y3)) (Nat.land x5 y4)) (Nat.land x6 y5)), (Nat.lor (Nat.lor (Nat.lor (Nat.lor (Nat.lor (Nat.lor (Nat.land x0 y5) (Nat.land x1 y6)) (Nat.land x2 y0)) (Nat.land x3 y1)) (Nat.land x4 y2)) (Nat.land x5 y3)) (Nat.land x6 y4)), (Nat.lor (Nat.lor (Nat.lor (Nat.lor (Nat.lor (Nat.lor (Nat.land x0 y4) (Nat.land x1 y5)) (Nat.land x2 y6)) (Nat.land x3 y0)) (Nat.land x4 y1)) (Nat.land x5 y2)) (Nat.land x6 y3)), (Nat.lor (Nat.lor (Nat.lor (Nat.lor (Nat.lor (Nat.lor (Nat.land x0 y3) (Nat.land x1 y4)) (Nat.land x2 y5)) (Nat.land x3 y6)) (Nat.land x4 y0)) (Nat.land x5 y1)) (Nat.land x6 y2)), (Nat.lor (Nat.lor (Nat.lor (Nat.lor (Nat.lor (Nat.lor (Nat.land x0 y2) (Nat.land x1 y3)) (Nat.land x2 y4)) (Nat.land x3 y5)) (Nat.land x4 y6)) (Nat.land x5 y0)) (Nat.land x6 y1)), (Nat.lor (Nat.lor (Nat.lor (Nat.lor (Nat.lor (Nat.lor (Nat.land x0 y1) (Nat.land x1 y2)) (Nat.land x2 y3)) (Nat.land x3 y4)) (Nat.land x4 y5)) (Nat.land x5 y6)) (Nat.land x6 y0))⟩
def H7.mul : H7 → H7 → H7
  | ⟨x0, x1, x2, x3, x4, x5, x6⟩, ⟨y0, y1, y2, y3, y4, y5, y6⟩ => ⟨(Nat.lor (Nat.lor (Nat.lor (Nat.lor (Nat.lor (Nat.lor (Nat.lor (Nat.lor (Nat.lor (Nat.lor (Nat.lor (Nat.lor (Nat.land x0 y0) (Nat.land x0 y1)) (Nat.land x0 y2)) (Nat.land x0 y3)) (Nat.land x0 y4)) (Nat.land x0 y5)) (Nat.land x0 y6)) (Nat.land x1 y0)) (Nat.land x2 y0)) (Nat.land x3 y0)) (Nat.land x4 y0)) (Nat.land x5 y0)) (Nat.land x6 y0)), (Nat.lor (Nat.lor (Nat.lor (Nat.lor (Nat.lor (Nat.land x1 y1) (Nat.land x2 y4)) (Nat.land x3 y5)) (Nat.land x4 y2)) (Nat.land x5 y3)) (Nat.land x6 y6)), (Nat.lor (Nat.lor (Nat.lor (Nat.lor (Nat.lor (Nat.land x1 y2) (Nat.land x2 y1)) (Nat.land x3 y3)) (Nat.land x4 y4)) (Nat.land x5 y6)) (Nat.land x6 y5)), (Nat.lor (Nat.lor (Nat.lor (Nat.lor (Nat.lor (Nat.land x1 y3) (Nat.land x2 y5)) (Nat.land x3 y1)) (Nat.land x4 y6)) (Nat.land x5 y2)) (Nat.land x6 y4)), (Nat.lor (Nat.lor (Nat.lor (Nat.lor (Nat.lor (Nat.land x1 y4) (Nat.land x2 y2)) (Nat.land x3 y6)) (Nat.land x4 y1)) (Nat.land x5 y5)) (Nat.land x6 y3)), (Nat.lor (Nat.lor (Nat.lor (Nat.lor (Nat.lor (Nat.land x1 y5) (Nat.land x2 y6)) (Nat.land x3 y4)) (Nat.land x4 y3)) (Nat.land x5 y1)) (Nat.land x6 y2)), (Nat.lor (Nat.lor (Nat.lor (Nat.lor (Nat.lor (Nat.land x1 y6) (Nat.land x2 y3)) (Nat.land x3 y2)) (Nat.land x4 y5)) (Nat.land x5 y4)) (Nat.land x6 y1))⟩
def H7.seq {β : Type} : H7 → (H7 → β) → β
  | ⟨x0, x1, x2, x3, x4, x5, x6⟩, k => seqN x0 fun y0 => seqN x1 fun y1 => seqN x2 fun y2 => seqN x3 fun y3 => seqN x4 fun y4 => seqN x5 fun y5 => seqN x6 fun y6 => k ⟨y0, y1, y2, y3, y4, y5, y6⟩
def H7.ops (on : Nat) : Ops H7 := ⟨H7.add, H7.sub, H7.mul, ⟨on, 0, 0, 0, 0, 0, 0⟩, ⟨0, on, 0, 0, 0, 0, 0⟩, H7.seq⟩
theorem H7.law (on : Nat) : (H7.ops on).Law := ⟨fun x k => by
  obtain ⟨x0, x1, x2, x3, x4, x5, x6⟩ := x
  show H7.seq ⟨x0, x1, x2, x3, x4, x5, x6⟩ k = k ⟨x0, x1, x2, x3, x4, x5, x6⟩
  unfold H7.seq
  simp only [seqN_eq]⟩
def H7.Rep (b : Nat) (x : H7) (v : Int) : Prop := ∃ r : Nat, r < 7 ∧ v % 7 = (r : Int) ∧ x.a0.testBit b = (r == 0) ∧ x.a1.testBit b = (r == 1) ∧ x.a2.testBit b = (r == 2) ∧ x.a3.testBit b = (r == 3) ∧ x.a4.testBit b = (r == 4) ∧ x.a5.testBit b = (r == 5) ∧ x.a6.testBit b = (r == 6)
theorem H7.tab_add : ∀ r, r < 7 → ∀ s, s < 7 → (((r == 0 && s == 0) || (r == 1 && s == 6) || (r == 2 && s == 5) || (r == 3 && s == 4) || (r == 4 && s == 3) || (r == 5 && s == 2) || (r == 6 && s == 1)) = ((r + s) % 7 == 0)) ∧ (((r == 0 && s == 1) || (r == 1 && s == 0) || (r == 2 && s == 6) || (r == 3 && s == 5) || (r == 4 && s == 4) || (r == 5 && s == 3) || (r == 6 && s == 2)) = ((r + s) % 7 == 1)) ∧ (((r == 0 && s == 2) || (r == 1 && s == 1) || (r == 2 && s == 0) || (r == 3 && s == 6) || (r == 4 && s == 5) || (r == 5 && s == 4) || (r == 6 && s == 3)) = ((r + s) % 7 == 2)) ∧ (((r == 0 && s == 3) || (r == 1 && s == 2) || (r == 2 && s == 1) || (r == 3 && s == 0) || (r == 4 && s == 6) || (r == 5 && s == 5) || (r == 6 && s == 4)) = ((r + s) % 7 == 3)) ∧ (((r == 0 && s == 4) || (r == 1 && s == 3) || (r == 2 && s == 2) || (r == 3 && s == 1) || (r == 4 && s == 0) || (r == 5 && s == 6) || (r == 6 && s == 5)) = ((r + s) % 7 == 4)) ∧ (((r == 0 && s == 5) || (r == 1 && s == 4) || (r == 2 && s == 3) || (r == 3 && s == 2) || (r == 4 && s == 1) || (r == 5 && s == 0) || (r == 6 && s == 6)) = ((r + s) % 7 == 5)) ∧ (((r == 0 && s == 6) || (r == 1 && s == 5) || (r == 2 && s == 4) || (r == 3 && s == 3) || (r == 4 && s == 2) || (r == 5 && s == 1) || (r == 6 && s == 0)) = ((r + s) % 7 == 6)) := by decide +kernel
theorem H7.rep_add {b : Nat} {x y : H7} {v w : Int} (hx : H7.Rep b x v) (hy : H7.Rep b y w) : H7.Rep b (H7.add x y) (v + w) := by
  obtain ⟨x0, x1, x2, x3, x4, x5, x6⟩ := x
  obtain ⟨y0, y1, y2, y3, y4, y5, y6⟩ := y
  obtain ⟨r, hr, er, h0, h1, h2, h3, h4, h5, h6⟩ := hx
  obtain ⟨s, hs, es, k0, k1, k2, k3, k4, k5, k6⟩ := hy
  obtain ⟨t0, t1, t2, t3, t4, t5, t6⟩ := H7.tab_add r hr s hs
  refine ⟨(r + s) % 7, Nat.mod_lt _ (by decide), by omega, ?_, ?_, ?_, ?_, ?_, ?_, ?_⟩
  · show (Nat.testBit (Nat.lor (Nat.lor (Nat.lor (Nat.lor (Nat.lor (Nat.lor (Nat.land x0 y0) (Nat.land x1 y6)) (Nat.land x2 y5)) (Nat.land x3 y4)) (Nat.land x4 y3)) (Nat.land x5 y2)) (Nat.land x6 y1)) b) = _
    rw [← t0]; dsimp only at h0 h1 h2 h3 h4 h5 h6 k0 k1 k2 k3 k4 k5 k6; simp only [tb_lor, tb_land, h0, h1, h2, h3, h4, h5, h6, k0, k1, k2, k3, k4, k5, k6]
  · show (Nat.testBit (Nat.lor (Nat.lor (Nat.lor (Nat.lor (Nat.lor (Nat.lor (Nat.land x0 y1) (Nat.land x1 y0)) (Nat.land x2 y6)) (Nat.land x3 y5)) (Nat.land x4 y4)) (Nat.land x5 y3)) (Nat.land x6 y2)) b) = _
    rw [← t1]; dsimp only at h0 h1 h2 h3 h4 h5 h6 k0 k1 k2 k3 k4 k5 k6; simp only [tb_lor, tb_land, h0, h1, h2, h3, h4, h5, h6, k0, k1, k2, k3, k4, k5, k6]
  · show (Nat.testBit (Nat.lor (Nat.lor (Nat.lor (Nat.lor (Nat.lor (Nat.lor (Nat.land x0 y2) (Nat.land x1 y1)) (Nat.land x2 y0)) (Nat.land x3 y6)) (Nat.land x4 y5)) (Nat.land x5 y4)) (Nat.land x6 y3)) b) = _
    rw [← t2]; dsimp only at h0 h1 h2 h3 h4 h5 h6 k0 k1 k2 k3 k4 k5 k6; simp only [tb_lor, tb_land, h0, h1, h2, h3, h4, h5, h6, k0, k1, k2, k3, k4, k5, k6]
  · show (Nat.testBit (Nat.lor (Nat.lor (Nat.lor (Nat.lor (Nat.lor (Nat.lor (Nat.land x0 y3) (Nat.land x1 y2)) (Nat.land x2 y1)) (Nat.land x3 y0)) (Nat.land x4 y6)) (Nat.land x5 y5)) (Nat.land x6 y4)) b) = _
    rw [← t3]; dsimp only at h0 h1 h2 h3 h4 h5 h6 k0 k1 k2 k3 k4 k5 k6; simp only [tb_lor, tb_land, h0, h1, h2, h3, h4, h5, h6, k0, k1, k2, k3, k4, k5, k6]
  · show (Nat.testBit (Nat.lor (Nat.lor (Nat.lor (Nat.lor (Nat.lor (Nat.lor (Nat.land x0 y4) (Nat.land x1 y3)) (Nat.land x2 y2)) (Nat.land x3 y1)) (Nat.land x4 y0)) (Nat.land x5 y6)) (Nat.land x6 y5)) b) = _
    rw [← t4]; dsimp only at h0 h1 h2 h3 h4 h5 h6 k0 k1 k2 k3 k4 k5 k6; simp only [tb_lor, tb_land, h0, h1, h2, h3, h4, h5, h6, k0, k1, k2, k3, k4, k5, k6]
  · show (Nat.testBit (Nat.lor (Nat.lor (Nat.lor (Nat.lor (Nat.lor (Nat.lor (Nat.land x0 y5) (Nat.land x1 y4)) (Nat.land x2 y3)) (Nat.land x3 y2)) (Nat.land x4 y1)) (Nat.land x5 y0)) (Nat.land x6 y6)) b) = _
    rw [← t5]; dsimp only at h0 h1 h2 h3 h4 h5 h6 k0 k1 k2 k3 k4 k5 k6; simp only [tb_lor, tb_land, h0, h1, h2, h3, h4, h5, h6, k0, k1, k2, k3, k4, k5, k6]
  · show (Nat.testBit (Nat.lor (Nat.lor (Nat.lor (Nat.lor (Nat.lor (Nat.lor (Nat.land x0 y6) (Nat.land x1 y5)) (Nat.land x2 y4)) (Nat.land x3 y3)) (Nat.land x4 y2)) (Nat.land x5 y1)) (Nat.land x6 y0)) b) = _
    rw [← t6]; dsimp only at h0 h1 h2 h3 h4 h5 h6 k0 k1 k2 k3 k4 k5 k6; simp only [tb_lor, tb_land, h0, h1, h2, h3, h4, h5, h6, k0, k1, k2, k3, k4, k5, k6]
theorem H7.tab_sub : ∀ r, r < 7 → ∀ s, s < 7 → (((r == 0 && s == 0) || (r == 1 && s == 1) || (r == 2 && s == 2) || (r == 3 && s == 3) || (r == 4 && s == 4) || (r == 5 && s == 5) || (r == 6 && s == 6)) = ((r + (7 - s)) % 7 == 0)) ∧ (((r == 0 && s == 6) || (r == 1 && s == 0) || (r == 2 && s == 1) || (r == 3 && s == 2) || (r == 4 && s == 3) || (r == 5 && s == 4) || (r == 6 && s == 5)) = ((r + (7 - s)) % 7 == 1)) ∧ (((r == 0 && s == 5) || (r == 1 && s == 6) || (r == 2 && s == 0) || (r == 3 && s == 1) || (r == 4 && s == 2) || (r == 5 && s == 3) || (r == 6 && s == 4)) = ((r + (7 - s)) % 7 == 2)) ∧ (((r == 0 && s == 4) || (r == 1 && s == 5) || (r == 2 && s == 6) || (r == 3 && s == 0) || (r == 4 && s == 1) || (r == 5 && s == 2) || (r == 6 && s == 3)) = ((r + (7 - s)) % 7 == 3)) ∧ (((r == 0 && s == 3) || (r == 1 && s == 4) || (r == 2 && s == 5) || (r == 3 && s == 6) || (r == 4 && s == 0) || (r == 5 && s == 1) || (r == 6 && s == 2)) = ((r + (7 - s)) % 7 == 4)) ∧ (((r == 0 && s == 2) || (r == 1 && s == 3) || (r == 2 && s == 4) || (r == 3 && s == 5) || (r == 4 && s == 6) || (r == 5 && s == 0) || (r == 6 && s == 1)) = ((r + (7 - s)) % 7 == 5)) ∧ (((r == 0 && s == 1) || (r == 1 && s == 2) || (r == 2 && s == 3) || (r == 3 && s == 4) || (r == 4 && s == 5) || (r == 5 && s == 6) || (r == 6 && s == 0)) = ((r + (7 - s)) % 7 == 6)) := by decide +kernel
theorem H7.rep_sub {b : Nat} {x y : H7} {v w : Int} (hx : H7.Rep b x v) (hy : H7.Rep b y w) : H7.Rep b (H7.sub x y) (v - w) := by
  obtain ⟨x0, x1, x2, x3, x4, x5, x6⟩ := x
  obtain ⟨y0, y1, y2, y3, y4, y5, y6⟩ := y
  obtain ⟨r, hr, er, h0, h1, h2, h3, h4, h5, h6⟩ := hx
  obtain ⟨s, hs, es, k0, k1, k2, k3, k4, k5, k6⟩ := hy
  obtain ⟨t0, t1, t2, t3, t4, t5, t6⟩ := H7.tab_sub r hr s hs
  refine ⟨(r + (7 - s)) % 7, Nat.mod_lt _ (by decide), by omega, ?_, ?_, ?_, ?_, ?_, ?_, ?_⟩
  · show (Nat.testBit (Nat.lor (Nat.lor (Nat.lor (Nat.lor (Nat.lor (Nat.lor (Nat.land x0 y0) (Nat.land x1 y1)) (Nat.land x2 y2)) (Nat.land x3 y3)) (Nat.land x4 y4)) (Nat.land x5 y5)) (Nat.land x6 y6)) b) = _
    rw [← t0]; dsimp only at h0 h1 h2 h3 h4 h5 h6 k0 k1 k2 k3 k4 k5 k6; simp only [tb_lor, tb_land, h0, h1, h2, h3, h4, h5, h6, k0, k1, k2, k3, k4, k5, k6]
  · show (Nat.testBit (Nat.lor (Nat.lor (Nat.lor (Nat.lor (Nat.lor (Nat.lor (Nat.land x0 y6) (Nat.land x1 y0)) (Nat.land x2 y1)) (Nat.land x3 y2)) (Nat.land x4 y3)) (Nat.land x5 y4)) (Nat.land x6 y5)) b) = _
    rw [← t1]; dsimp only at h0 h1 h2 h3 h4 h5 h6 k0 k1 k2 k3 k4 k5 k6; simp only [tb_lor, tb_land, h0, h1, h2, h3, h4, h5, h6, k0, k1, k2, k3, k4, k5, k6]
  · show (Nat.testBit (Nat.lor (Nat.lor (Nat.lor (Nat.lor (Nat.lor (Nat.lor (Nat.land x0 y5) (Nat.land x1 y6)) (Nat.land x2 y0)) (Nat.land x3 y1)) (Nat.land x4 y2)) (Nat.land x5 y3)) (Nat.land x6 y4)) b) = _
    rw [← t2]; dsimp only at h0 h1 h2 h3 h4 h5 h6 k0 k1 k2 k3 k4 k5 k6; simp only [tb_lor, tb_land, h0, h1, h2, h3, h4, h5, h6, k0, k1, k2, k3, k4, k5, k6]
  · show (Nat.testBit (Nat.lor (Nat.lor (Nat.lor (Nat.lor (Nat.lor (Nat.lor (Nat.land x0 y4) (Nat.land x1 y5)) (Nat.land x2 y6)) (Nat.land x3 y0)) (Nat.land x4 y1)) (Nat.land x5 y2)) (Nat.land x6 y3)) b) = _
    rw [← t3]; dsimp only at h0 h1 h2 h3 h4 h5 h6 k0 k1 k2 k3 k4 k5 k6; simp only [tb_lor, tb_land, h0, h1, h2, h3, h4, h5, h6, k0, k1, k2, k3, k4, k5, k6]
  · show (Nat.testBit (Nat.lor (Nat.lor (Nat.lor (Nat.lor (Nat.lor (Nat.lor (Nat.land x0 y3) (Nat.land x1 y4)) (Nat.land x2 y5)) (Nat.land x3 y6)) (Nat.land x4 y0)) (Nat.land x5 y1)) (Nat.land x6 y2)) b) = _
    rw [← t4]; dsimp only at h0 h1 h2 h3 h4 h5 h6 k0 k1 k2 k3 k4 k5 k6; simp only [tb_lor, tb_land, h0, h1, h2, h3, h4, h5, h6, k0, k1, k2, k3, k4, k5, k6]
  · show (Nat.testBit (Nat.lor (Nat.lor (Nat.lor (Nat.lor (Nat.lor (Nat.lor (Nat.land x0 y2) (Nat.land x1 y3)) (Nat.land x2 y4)) (Nat.land x3 y5)) (Nat.land x4 y6)) (Nat.land x5 y0)) (Nat.land x6 y1)) b) = _
    rw [← t5]; dsimp only at h0 h1 h2 h3 h4 h5 h6 k0 k1 k2 k3 k4 k5 k6; simp only [tb_lor, tb_land, h0, h1, h2, h3, h4, h5, h6, k0, k1, k2, k3, k4, k5, k6]
  · show (Nat.testBit (Nat.lor (Nat.lor (Nat.lor (Nat.lor (Nat.lor (Nat.lor (Nat.land x0 y1) (Nat.land x1 y2)) (Nat.land x2 y3)) (Nat.land x3 y4)) (Nat.land x4 y5)) (Nat.land x5 y6)) (Nat.land x6 y0)) b) = _
    rw [← t6]; dsimp only at h0 h1 h2 h3 h4 h5 h6 k0 k1 k2 k3 k4 k5 k6; simp only [tb_lor, tb_land, h0, h1, h2, h3, h4, h5, h6, k0, k1, k2, k3, k4, k5, k6]
theorem H7.tab_mul : ∀ r, r < 7 → ∀ s, s < 7 → (((r == 0 && s == 0) || (r == 0 && s == 1) || (r == 0 && s == 2) || (r == 0 && s == 3) || (r == 0 && s == 4) || (r == 0 && s == 5) || (r == 0 && s == 6) || (r == 1 && s == 0) || (r == 2 && s == 0) || (r == 3 && s == 0) || (r == 4 && s == 0) || (r == 5 && s == 0) || (r == 6 && s == 0)) = ((r * s) % 7 == 0)) ∧ (((r == 1 && s == 1) || (r == 2 && s == 4) || (r == 3 && s == 5) || (r == 4 && s == 2) || (r == 5 && s == 3) || (r == 6 && s == 6)) = ((r * s) % 7 == 1)) ∧ (((r == 1 && s == 2) || (r == 2 && s == 1) || (r == 3 && s == 3) || (r == 4 && s == 4) || (r == 5 && s == 6) || (r == 6 && s == 5)) = ((r * s) % 7 == 2)) ∧ (((r == 1 && s == 3) || (r == 2 && s == 5) || (r == 3 && s == 1) || (r == 4 && s == 6) || (r == 5 && s == 2) || (r == 6 && s == 4)) = ((r * s) % 7 == 3)) ∧ (((r == 1 && s == 4) || (r == 2 && s == 2) || (r == 3 && s == 6) || (r == 4 && s == 1) || (r == 5 && s == 5) || (r == 6 && s == 3)) = ((r * s) % 7 == 4)) ∧ (((r == 1 && s == 5) || (r == 2 && s == 6) || (r == 3 && s == 4) || (r == 4 && s == 3) || (r == 5 && s == 1) || (r == 6 && s == 2)) = ((r * s) % 7 == 5)) ∧ (((r == 1 && s == 6) || (r == 2 && s == 3) || (r == 3 && s == 2) || (r == 4 && s == 5) || (r == 5 && s == 4) || (r == 6 && s == 1)) = ((r * s) % 7 == 6)) := by decide +kernel
theorem H7.rep_mul {b : Nat} {x y : H7} {v w : Int} (hx : H7.Rep b x v) (hy : H7.Rep b y w) : H7.Rep b (H7.mul x y) (v * w) := by
  obtain ⟨x0, x1, x2, x3, x4, x5, x6⟩ := x
  obtain ⟨y0, y1, y2, y3, y4, y5, y6⟩ := y
  obtain ⟨r, hr, er, h0, h1, h2, h3, h4, h5, h6⟩ := hx
  obtain ⟨s, hs, es, k0, k1, k2, k3, k4, k5, k6⟩ := hy
  obtain ⟨t0, t1, t2, t3, t4, t5, t6⟩ := H7.tab_mul r hr s hs
  refine ⟨(r * s) % 7, Nat.mod_lt _ (by decide), by
    rw [Int.mul_emod, er, es]
    exact_mod_cast rfl, ?_, ?_, ?_, ?_, ?_, ?_, ?_⟩
  · show (Nat.testBit (Nat.lor (Nat.lor (Nat.lor (Nat.lor (Nat.lor (Nat.lor (Nat.lor (Nat.lor (Nat.lor (Nat.lor (Nat.lor (Nat.lor (Nat.land x0 y0) (Nat.land x0 y1)) (Nat.land x0 y2)) (Nat.land x0 y3)) (Nat.land x0 y4)) (Nat.land x0 y5)) (Nat.land x0 y6)) (Nat.land x1 y0)) (Nat.land x2 y0)) (Nat.land x3 y0)) (Nat.land x4 y0)) (Nat.land x5 y0)) (Nat.land x6 y0)) b) = _
    rw [← t0]; dsimp only at h0 h1 h2 h3 h4 h5 h6 k0 k1 k2 k3 k4 k5 k6; simp only [tb_lor, tb_land, h0, h1, h2, h3, h4, h5, h6, k0, k1, k2, k3, k4, k5, k6]
  · show (Nat.testBit (Nat.lor (Nat.lor (Nat.lor (Nat.lor (Nat.lor (Nat.land x1 y1) (Nat.land x2 y4)) (Nat.land x3 y5)) (Nat.land x4 y2)) (Nat.land x5 y3)) (Nat.land x6 y6)) b) = _
    rw [← t1]; dsimp only at h0 h1 h2 h3 h4 h5 h6 k0 k1 k2 k3 k4 k5 k6; simp only [tb_lor, tb_land, h0, h1, h2, h3, h4, h5, h6, k0, k1, k2, k3, k4, k5, k6]
  · show (Nat.testBit (Nat.lor (Nat.lor (Nat.lor (Nat.lor (Nat.lor (Nat.land x1 y2) (Nat.land x2 y1)) (Nat.land x3 y3)) (Nat.land x4 y4)) (Nat.land x5 y6)) (Nat.land x6 y5)) b) = _
    rw [← t2]; dsimp only at h0 h1 h2 h3 h4 h5 h6 k0 k1 k2 k3 k4 k5 k6; simp only [tb_lor, tb_land, h0, h1, h2, h3, h4, h5, h6, k0, k1, k2, k3, k4, k5, k6]
  · show (Nat.testBit (Nat.lor (Nat.lor (Nat.lor (Nat.lor (Nat.lor (Nat.land x1 y3) (Nat.land x2 y5)) (Nat.land x3 y1)) (Nat.land x4 y6)) (Nat.land x5 y2)) (Nat.land x6 y4)) b) = _
    rw [← t3]; dsimp only at h0 h1 h2 h3 h4 h5 h6 k0 k1 k2 k3 k4 k5 k6; simp only [tb_lor, tb_land, h0, h1, h2, h3, h4, h5, h6, k0, k1, k2, k3, k4, k5, k6]
  · show (Nat.testBit (Nat.lor (Nat.lor (Nat.lor (Nat.lor (Nat.lor (Nat.land x1 y4) (Nat.land x2 y2)) (Nat.land x3 y6)) (Nat.land x4 y1)) (Nat.land x5 y5)) (Nat.land x6 y3)) b) = _
    rw [← t4]; dsimp only at h0 h1 h2 h3 h4 h5 h6 k0 k1 k2 k3 k4 k5 k6; simp only [tb_lor, tb_land, h0, h1, h2, h3, h4, h5, h6, k0, k1, k2, k3, k4, k5, k6]
  · show (Nat.testBit (Nat.lor (Nat.lor (Nat.lor (Nat.lor (Nat.lor (Nat.land x1 y5) (Nat.land x2 y6)) (Nat.land x3 y4)) (Nat.land x4 y3)) (Nat.land x5 y1)) (Nat.land x6 y2)) b) = _
    rw [← t5]; dsimp only at h0 h1 h2 h3 h4 h5 h6 k0 k1 k2 k3 k4 k5 k6; simp only [tb_lor, tb_land, h0, h1, h2, h3, h4, h5, h6, k0, k1, k2, k3, k4, k5, k6]
  · show (Nat.testBit (Nat.lor (Nat.lor (Nat.lor (Nat.lor (Nat.lor (Nat.land x1 y6) (Nat.land x2 y3)) (Nat.land x3 y2)) (Nat.land x4 y5)) (Nat.land x5 y4)) (Nat.land x6 y1)) b) = _
    rw [← t6]; dsimp only at h0 h1 h2 h3 h4 h5 h6 k0 k1 k2 k3 k4 k5 k6; simp only [tb_lor, tb_land, h0, h1, h2, h3, h4, h5, h6, k0, k1, k2, k3, k4, k5, k6]
theorem H7.hom {b on : Nat} (h : on.testBit b = true) : Hom (H7.ops on) intOps (H7.Rep b) where
  add := H7.rep_add
  sub := H7.rep_sub
  mul := H7.rep_mul
  zero := ⟨0, by decide, by rfl, h, Nat.zero_testBit b, Nat.zero_testBit b, Nat.zero_testBit b, Nat.zero_testBit b, Nat.zero_testBit b, Nat.zero_testBit b⟩
  one := ⟨1, by decide, by rfl, Nat.zero_testBit b, h, Nat.zero_testBit b, Nat.zero_testBit b, Nat.zero_testBit b, Nat.zero_testBit b, Nat.zero_testBit b⟩
def H7.tst (on : Nat) : Tst H7 Nat := ⟨fun x => x.a0, fun x => Nat.lor (Nat.lor (x.a1) x.a2) x.a4, Nat.land, Nat.lor, Nat.xor on, on⟩
theorem H7.thom {b on : Nat} (h : on.testBit b = true) : THom (H7.tst on) (tst0 7) (H7.Rep b) (fun x c => x.testBit b = c) where
  isZ := fun {x v} ⟨r, hr, er, h0, h1, h2, h3, h4, h5, h6⟩ => by
    show x.a0.testBit b = (v % 7 == 0)
    rw [h0, er]
    by_cases z : r = 0
    · subst z; rfl
    · rw [beq_eq_false_iff_ne.mpr z]; exact (beq_eq_false_iff_ne.mpr (by omega)).symm
  plus := fun {x v} hx => by
    obtain ⟨x0, x1, x2, x3, x4, x5, x6⟩ := x
    obtain ⟨r, hr, er, h0, h1, h2, h3, h4, h5, h6⟩ := hx
    dsimp only at h0 h1 h2 h3 h4 h5 h6
    show (Nat.testBit (Nat.lor (Nat.lor (x1) x2) x4) b) = isPlus 7 v
    have e : isPlus 7 v = isPlus 7 (r : Int) := by
      show (v % 7 == 1 || v % 7 == 2 || v % 7 == 4) = ((r : Int) % 7 == 1 || (r : Int) % 7 == 2 || (r : Int) % 7 == 4)
      rw [er, Int.emod_eq_of_lt (by omega) (by omega)]
    have q : ∀ r : Nat, r < 7 → (r == 1 || r == 2 || r == 4) = isPlus 7 (r : Int) := by decide +kernel
    rw [e, ← q r hr]
    simp only [tb_lor, h0, h1, h2, h3, h4, h5, h6]
  and_ := fun {x y c d} h1 h2 => by rw [← h1, ← h2]; exact tb_land _ _ _
  or_ := fun {x y c d} h1 h2 => by rw [← h1, ← h2]; exact tb_lor _ _ _
  not_ := fun {x c} h1 => by rw [← h1]; show (Nat.xor on x).testBit b = _; rw [tb_xor, h, Bool.true_xor]; rfl
  tt := h
def H7.dig (T t : Nat) : H7 := ⟨patt 7 t 0 T, patt 7 t 1 T, patt 7 t 2 T, patt 7 t 3 T, patt 7 t 4 T, patt 7 t 5 T, patt 7 t 6 T⟩
theorem H7.dig_rep {T t b : Nat} (hb : b < 7 ^ T) (ht : t < T) : H7.Rep b (H7.dig T t) ((b / 7 ^ t % 7 : Nat) : Int) :=
  ⟨b / 7 ^ t % 7, Nat.mod_lt _ (by decide), by omega, patt_bit (by decide) hb ht, patt_bit (by decide) hb ht, patt_bit (by decide) hb ht, patt_bit (by decide) hb ht, patt_bit (by decide) hb ht, patt_bit (by decide) hb ht, patt_bit (by decide) hb ht⟩


structure B8 where
  a0 : Nat
  a1 : Nat
  a2 : Nat
def B8.add : B8 → B8 → B8
  | ⟨x0,x1,x2⟩, ⟨y0,y1,y2⟩ => ⟨Nat.xor x0 y0, Nat.xor (Nat.xor x1 y1) (Nat.land x0 y0), Nat.xor (Nat.xor x2 y2) (Nat.lor (Nat.land x1 y1) (Nat.land (Nat.xor x1 y1) (Nat.land x0 y0)))⟩
def B8.sub (on : Nat) : B8 → B8 → B8
  | ⟨x0,x1,x2⟩, ⟨y0,y1,y2⟩ => ⟨Nat.xor x0 y0, Nat.xor (Nat.xor x1 (Nat.xor on y1)) (Nat.lor x0 (Nat.xor on y0)), Nat.xor (Nat.xor x2 (Nat.xor on y2)) (Nat.lor (Nat.land x1 (Nat.xor on y1)) (Nat.land (Nat.xor x1 (Nat.xor on y1)) (Nat.lor x0 (Nat.xor on y0))))⟩
def B8.mul : B8 → B8 → B8
  | ⟨x0,x1,x2⟩, ⟨y0,y1,y2⟩ => ⟨Nat.land x0 y0, Nat.xor (Nat.land x0 y1) (Nat.land x1 y0), Nat.xor (Nat.xor (Nat.land x0 y2) (Nat.land x2 y0)) (Nat.xor (Nat.land x1 y1) (Nat.land (Nat.land x0 y1) (Nat.land x1 y0)))⟩
def B8.seq {β : Type} : B8 → (B8 → β) → β
  | ⟨x0, x1, x2⟩, k => seqN x0 fun y0 => seqN x1 fun y1 => seqN x2 fun y2 => k ⟨y0,y1,y2⟩
def B8.ops (on : Nat) : Ops B8 := ⟨B8.add, B8.sub on, B8.mul, ⟨0,0,0⟩, ⟨on,0,0⟩, B8.seq⟩
theorem B8.law (on : Nat) : (B8.ops on).Law := ⟨fun x k => by
  obtain ⟨x0, x1, x2⟩ := x
  show B8.seq ⟨x0, x1, x2⟩ k = k ⟨x0, x1, x2⟩
  unfold B8.seq
  simp only [seqN_eq]⟩
def B8.Rep (b : Nat) (x : B8) (v : Int) : Prop := ∃ r : Nat, r < 8 ∧ v % 8 = (r : Int) ∧ x.a0.testBit b = (r % 2 == 1) ∧ x.a1.testBit b = (r / 2 % 2 == 1) ∧ x.a2.testBit b = (r / 4 % 2 == 1)
theorem B8.tab_add : ∀ r, r < 8 → ∀ s, s < 8 → ((((r % 2 == 1) ^^ (s % 2 == 1)) = ((r + s) % 8 % 2 == 1)) ∧ (((r / 2 % 2 == 1) ^^ (s / 2 % 2 == 1)) ^^ ((r % 2 == 1) && (s % 2 == 1))) = ((r + s) % 8 / 2 % 2 == 1) ∧
    ((((r / 4 % 2 == 1) ^^ (s / 4 % 2 == 1)) ^^ (((r / 2 % 2 == 1) && (s / 2 % 2 == 1)) || (((r / 2 % 2 == 1) ^^ (s / 2 % 2 == 1)) && ((r % 2 == 1) && (s % 2 == 1)))))) = ((r + s) % 8 / 4 % 2 == 1)) := by decide +kernel
theorem B8.tab_sub : ∀ r, r < 8 → ∀ s, s < 8 → ((((r % 2 == 1) ^^ (s % 2 == 1)) = ((r + (8 - s)) % 8 % 2 == 1)) ∧ (((r / 2 % 2 == 1) ^^ (true ^^ (s / 2 % 2 == 1))) ^^ ((r % 2 == 1) || (true ^^ (s % 2 == 1)))) = ((r + (8 - s)) % 8 / 2 % 2 == 1) ∧
    ((((r / 4 % 2 == 1) ^^ (true ^^ (s / 4 % 2 == 1))) ^^ (((r / 2 % 2 == 1) && (true ^^ (s / 2 % 2 == 1))) || (((r / 2 % 2 == 1) ^^ (true ^^ (s / 2 % 2 == 1))) && ((r % 2 == 1) || (true ^^ (s % 2 == 1))))))) = ((r + (8 - s)) % 8 / 4 % 2 == 1)) := by decide +kernel
theorem B8.tab_mul : ∀ r, r < 8 → ∀ s, s < 8 → ((((r % 2 == 1) && (s % 2 == 1)) = ((r * s) % 8 % 2 == 1)) ∧ ((((r % 2 == 1) && (s / 2 % 2 == 1)) ^^ ((r / 2 % 2 == 1) && (s % 2 == 1)))) = ((r * s) % 8 / 2 % 2 == 1) ∧
    (((((r % 2 == 1) && (s / 4 % 2 == 1)) ^^ ((r / 4 % 2 == 1) && (s % 2 == 1))) ^^ (((r / 2 % 2 == 1) && (s / 2 % 2 == 1)) ^^ (((r % 2 == 1) && (s / 2 % 2 == 1)) && ((r / 2 % 2 == 1) && (s % 2 == 1)))))) = ((r * s) % 8 / 4 % 2 == 1)) := by decide +kernel
theorem B8.rep_add {b : Nat} {x y : B8} {v w : Int} (hx : B8.Rep b x v) (hy : B8.Rep b y w) : B8.Rep b (B8.add x y) (v + w) := by
  obtain ⟨x0, x1, x2⟩ := x
  obtain ⟨y0, y1, y2⟩ := y
  obtain ⟨r, hr, er, h0, h1, h2⟩ := hx
  obtain ⟨s, hs, es, k0, k1, k2⟩ := hy
  obtain ⟨t0, t1, t2⟩ := B8.tab_add r hr s hs
  dsimp only at h0 h1 h2 k0 k1 k2
  refine ⟨(r + s) % 8, Nat.mod_lt _ (by decide), by omega, ?_, ?_, ?_⟩
  · rw [← t0]; simp only [B8.add, tb_lor, tb_land, tb_xor, h0, h1, h2, k0, k1, k2]
  · rw [← t1]; simp only [B8.add, tb_lor, tb_land, tb_xor, h0, h1, h2, k0, k1, k2]
  · rw [← t2]; simp only [B8.add, tb_lor, tb_land, tb_xor, h0, h1, h2, k0, k1, k2]
theorem B8.rep_sub {b on : Nat} (h : on.testBit b = true) {x y : B8} {v w : Int} (hx : B8.Rep b x v) (hy : B8.Rep b y w) : B8.Rep b (B8.sub on x y) (v - w) := by
  obtain ⟨x0, x1, x2⟩ := x
  obtain ⟨y0, y1, y2⟩ := y
  obtain ⟨r, hr, er, h0, h1, h2⟩ := hx
  obtain ⟨s, hs, es, k0, k1, k2⟩ := hy
  obtain ⟨t0, t1, t2⟩ := B8.tab_sub r hr s hs
  dsimp only at h0 h1 h2 k0 k1 k2
  refine ⟨(r + (8 - s)) % 8, Nat.mod_lt _ (by decide), by omega, ?_, ?_, ?_⟩
  · rw [← t0]; simp only [B8.sub, tb_lor, tb_land, tb_xor, h0, h1, h2, k0, k1, k2, h]
  · rw [← t1]; simp only [B8.sub, tb_lor, tb_land, tb_xor, h0, h1, h2, k0, k1, k2, h]
  · rw [← t2]; simp only [B8.sub, tb_lor, tb_land, tb_xor, h0, h1, h2, k0, k1, k2, h]
theorem B8.rep_mul {b : Nat} {x y : B8} {v w : Int} (hx : B8.Rep b x v) (hy : B8.Rep b y w) : B8.Rep b (B8.mul x y) (v * w) := by
  obtain ⟨x0, x1, x2⟩ := x
  obtain ⟨y0, y1, y2⟩ := y
  obtain ⟨r, hr, er, h0, h1, h2⟩ := hx
  obtain ⟨s, hs, es, k0, k1, k2⟩ := hy
  obtain ⟨t0, t1, t2⟩ := B8.tab_mul r hr s hs
  dsimp only at h0 h1 h2 k0 k1 k2
  refine ⟨(r * s) % 8, Nat.mod_lt _ (by decide), by rw [Int.mul_emod, er, es]; exact_mod_cast rfl, ?_, ?_, ?_⟩
  · rw [← t0]; simp only [B8.mul, tb_lor, tb_land, tb_xor, h0, h1, h2, k0, k1, k2]
  · rw [← t1]; simp only [B8.mul, tb_lor, tb_land, tb_xor, h0, h1, h2, k0, k1, k2]
  · rw [← t2]; simp only [B8.mul, tb_lor, tb_land, tb_xor, h0, h1, h2, k0, k1, k2]
theorem B8.hom {b on : Nat} (h : on.testBit b = true) : Hom (B8.ops on) intOps (B8.Rep b) where
  add := B8.rep_add
  sub := B8.rep_sub h
  mul := B8.rep_mul
  zero := ⟨0, by decide, by rfl, Nat.zero_testBit b, Nat.zero_testBit b, Nat.zero_testBit b⟩
  one := ⟨1, by decide, by rfl, h, Nat.zero_testBit b, Nat.zero_testBit b⟩
def B8.tst (on : Nat) : Tst B8 Nat := ⟨fun x => Nat.xor on x.a0, fun x => Nat.land x.a0 (Nat.xor on (Nat.lor x.a1 x.a2)), Nat.land, Nat.lor, Nat.xor on, on⟩
theorem B8.thom {b on : Nat} (h : on.testBit b = true) : THom (B8.tst on) (tst0 2) (B8.Rep b) (fun x c => x.testBit b = c) where
  isZ := fun {x v} ⟨r, hr, er, h0, h1, h2⟩ => by
    show (Nat.xor on x.a0).testBit b = (v % 2 == 0)
    have e : v % 2 = ((r % 2 : Nat) : Int) := by omega
    rw [tb_xor, h, h0, e, Bool.true_xor]
    rcases (show r % 2 = 0 ∨ r % 2 = 1 by omega) with z | z <;> rw [z] <;> rfl
  plus := fun {x v} ⟨r, hr, er, h0, h1, h2⟩ => by
    show (Nat.land x.a0 (Nat.xor on (Nat.lor x.a1 x.a2))).testBit b = (v % 8 == 1)
    rw [tb_land, tb_xor, tb_lor, h, h0, h1, h2, er]
    have q : ∀ r : Nat, r < 8 → ((r % 2 == 1) && (true ^^ ((r / 2 % 2 == 1) || (r / 4 % 2 == 1)))) = ((r : Int) == 1) := by decide +kernel
    exact q r hr
  and_ := fun {x y c d} h1 h2 => by rw [← h1, ← h2]; exact tb_land _ _ _
  or_ := fun {x y c d} h1 h2 => by rw [← h1, ← h2]; exact tb_lor _ _ _
  not_ := fun {x c} h1 => by rw [← h1]; show (Nat.xor on x).testBit b = _; rw [tb_xor, h, Bool.true_xor]; rfl
  tt := h
/-- a digit to base 8 -/
def B8.dig (T t : Nat) : B8 := ⟨Nat.lor (Nat.lor (patt 8 t 1 T) (patt 8 t 3 T)) (Nat.lor (patt 8 t 5 T) (patt 8 t 7 T)), Nat.lor (Nat.lor (patt 8 t 2 T) (patt 8 t 3 T)) (Nat.lor (patt 8 t 6 T) (patt 8 t 7 T)), Nat.lor (Nat.lor (patt 8 t 4 T) (patt 8 t 5 T)) (Nat.lor (patt 8 t 6 T) (patt 8 t 7 T))⟩
theorem B8.dig_rep {T t b : Nat} (hb : b < 8 ^ T) (ht : t < T) : B8.Rep b (B8.dig T t) ((b / 8 ^ t % 8 : Nat) : Int) := by
  have P : ∀ v, v < 8 → (patt 8 t v T).testBit b = (b / 8 ^ t % 8 == v) := fun v hv => patt_bit hv hb ht
  have q : ∀ r : Nat, r < 8 → (((r == 1) || (r == 3)) || ((r == 5) || (r == 7))) = (r % 2 == 1) ∧ (((r == 2) || (r == 3)) || ((r == 6) || (r == 7))) = (r / 2 % 2 == 1) ∧ (((r == 4) || (r == 5)) || ((r == 6) || (r == 7))) = (r / 4 % 2 == 1) := by decide +kernel
  obtain ⟨q0, q1, q2⟩ := q (b / 8 ^ t % 8) (Nat.mod_lt _ (by decide))
  refine ⟨b / 8 ^ t % 8, Nat.mod_lt _ (by decide), by omega, ?_, ?_, ?_⟩
  · rw [← q0]; simp only [B8.dig, tb_lor, P 1 (by decide), P 3 (by decide), P 5 (by decide), P 7 (by decide)]
  · rw [← q1]; simp only [B8.dig, tb_lor, P 2 (by decide), P 3 (by decide), P 6 (by decide), P 7 (by decide)]
  · rw [← q2]; simp only [B8.dig, tb_lor, P 4 (by decide), P 5 (by decide), P 6 (by decide), P 7 (by decide)]
/-- its rest modulo 2 -/
def B8.low (x : B8) : B8 := ⟨x.a0, 0, 0⟩
theorem B8.low_rep {b : Nat} {x : B8} {v : Int} (h : B8.Rep b x v) : B8.Rep b x.low (v % 2) := by
  obtain ⟨r, hr, er, h0, h1, h2⟩ := h
  refine ⟨r % 2, by omega, by omega, ?_, ?_, ?_⟩
  · show x.a0.testBit b = _
    rw [h0, Nat.mod_mod]
  · show (0 : Nat).testBit b = _
    rw [Nat.zero_testBit]
    rcases (show r % 2 = 0 ∨ r % 2 = 1 by omega) with z | z <;> rw [z] <;> rfl
  · show (0 : Nat).testBit b = _
    rw [Nat.zero_testBit]
    rcases (show r % 2 = 0 ∨ r % 2 = 1 by omega) with z | z <;> rw [z] <;> rfl
/-- a digit to base 2 -/
def B8.dig2 (T t : Nat) : B8 := ⟨patt 2 t 1 T, 0, 0⟩
theorem B8.dig2_rep {T t b : Nat} (hb : b < 2 ^ T) (ht : t < T) : B8.Rep b (B8.dig2 T t) ((b / 2 ^ t % 2 : Nat) : Int) := by
  refine ⟨b / 2 ^ t % 2, by omega, by omega, ?_, ?_, ?_⟩
  · show (patt 2 t 1 T).testBit b = _
    rw [patt_bit (by decide) hb ht, Nat.mod_mod]
  · show (0 : Nat).testBit b = _
    rw [Nat.zero_testBit]
    rcases (show b / 2 ^ t % 2 = 0 ∨ b / 2 ^ t % 2 = 1 by omega) with z | z <;> rw [z] <;> rfl
  · show (0 : Nat).testBit b = _
    rw [Nat.zero_testBit]
    rcases (show b / 2 ^ t % 2 = 0 ∨ b / 2 ^ t % 2 = 1 by omega) with z | z <;> rw [z] <;> rfl

end K8

/-! text K8Chk -/
/-! The finite checks, by the kernel, and what they say of whole numbers. -/
set_option maxRecDepth 1000000
namespace K8
structure Sys (p : Nat) where
  α : Type
  ops : Nat → Ops α
  tst : Nat → Tst α Nat
  dig : Nat → Nat → α
  Rep : Nat → α → Int → Prop
  hp : 0 < p
  law : ∀ on, (ops on).Law
  hom : ∀ {b on : Nat}, on.testBit b = true → Hom (ops on) intOps (Rep b)
  thom : ∀ {b on : Nat}, on.testBit b = true → THom (tst on) (tst0 p) (Rep b) (fun x c => x.testBit b = c)
  dig_rep : ∀ {T t b : Nat}, b < p ^ T → t < T → Rep b (dig T t) ((b / p ^ t % p : Nat) : Int)
def sys3 : Sys 3 := ⟨H3, H3.ops, H3.tst, H3.dig, H3.Rep, by decide, H3.law, H3.hom, H3.thom, H3.dig_rep⟩
def sys5 : Sys 5 := ⟨H5, H5.ops, H5.tst, H5.dig, H5.Rep, by decide, H5.law, H5.hom, H5.thom, H5.dig_rep⟩
def sys7 : Sys 7 := ⟨H7, H7.ops, H7.tst, H7.dig, H7.Rep, by decide, H7.law, H7.hom, H7.thom, H7.dig_rep⟩
def sys2 : Sys 2 := ⟨B8, B8.ops, B8.tst, B8.dig2, B8.Rep, by decide, B8.law, B8.hom, B8.thom, B8.dig2_rep⟩

def consts {α : Type} (o : Ops α) (p : Nat) : List α := (List.range p).map (natMul o o.one)
section
variable {p : Nat} (S : Sys p)
def Sys.digs (T : Nat) (i n : Nat) : List S.α := (List.range n).map fun t => S.dig T (i + t)
def Sys.cA (d k : Nat) : Bool := seqAll (S.ops (ones (p ^ (d + k)))) (consts (S.ops (ones (p ^ (d + k)))) p) fun cs => seqAll (S.ops (ones (p ^ (d + k)))) (S.digs (d + k) 0 d) fun f => seqAll (S.ops (ones (p ^ (d + k)))) (S.digs (d + k) d k) fun h =>
  Nat.beq (chkA (S.ops (ones (p ^ (d + k)))) (S.tst (ones (p ^ (d + k)))) cs f h) (ones (p ^ (d + k)))
def Sys.cB (n : Nat) : Bool := seqAll (S.ops (ones (p ^ n))) (consts (S.ops (ones (p ^ n))) p) fun cs => seqAll (S.ops (ones (p ^ n))) (S.digs n 0 n) fun h =>
  Nat.beq (chkB (S.ops (ones (p ^ n))) (S.tst (ones (p ^ n))) cs h) (ones (p ^ n))
variable {S}
theorem map_digits {cs : List Nat} {i n T b : Nat} (h : ∀ t (ht : t < n), ∃ hi : i + t < cs.length, b / p ^ (i + t) % p = cs[i + t]) {ds : List Nat} (hd : ds.length = n) (he : ∀ t (ht : t < n), ds[t]'(by omega) = cs[i + t]'((h t ht).1)) :
    ds.map (fun c : Nat => (c : Int)) = (List.range n).map fun t => ((b / p ^ (i + t) % p : Nat) : Int) := by
  apply List.ext_getElem
  · simp [hd]
  · intro t h1 h2
    have ht : t < n := by simpa [hd] using h1
    obtain ⟨hi, e⟩ := h t ht
    rw [List.getElem_map, List.getElem_map, List.getElem_range, e, he t ht]
theorem Sys.digs_rep {T b i n : Nat} (hb : b < p ^ T) (hn : i + n ≤ T) : All2 (S.Rep b) (S.digs T i n) ((List.range n).map fun t => ((b / p ^ (i + t) % p : Nat) : Int)) :=
  All2.same fun t ht => S.dig_rep hb (by have := List.mem_range.mp ht; omega)
theorem Sys.consts_rep {b on : Nat} (h : on.testBit b = true) : All2 (S.Rep b) (consts (S.ops on) p) (consts intOps p) := All2.same fun t _ => (S.hom h).natMul (S.hom h).one t

theorem Sys.A_ok {d k : Nat} (h : S.cA d k = true) {fs hs : List Nat} (hf : fs.length = d) (hh : hs.length = k) (bf : ∀ c, c ∈ fs → c < p) (bh : ∀ c, c ∈ hs → c < p) :
    chkAD intOps (tst0 p) (consts intOps p) (fs.map fun c : Nat => (c : Int)) (hs.map fun c : Nat => (c : Int)) = true := by
  unfold Sys.cA at h
  rw [seqAll_eq (S.law _), seqAll_eq (S.law _), seqAll_eq (S.law _), chkA_eq (S.law _)] at h
  have hlen : (fs ++ hs).length = d + k := by simp [hf, hh]
  have ball : ∀ c, c ∈ fs ++ hs → c < p := fun c hc => (List.mem_append.mp hc).elim (bf c) (bh c)
  have hb : enc p (fs ++ hs) < p ^ (d + k) := by rw [← hlen]; exact enc_lt ball
  have hon := ones_bit hb
  have e1 : fs.map (fun c : Nat => (c : Int)) = (List.range d).map fun t => ((enc p (fs ++ hs) / p ^ (0 + t) % p : Nat) : Int) :=
    map_digits (cs := fs ++ hs) (T := d + k) (fun t ht => ⟨by omega, enc_digit (by omega) ball⟩) hf (fun t ht => by simp only [Nat.zero_add]; rw [List.getElem_append_left])
  have e2 : hs.map (fun c : Nat => (c : Int)) = (List.range k).map fun t => ((enc p (fs ++ hs) / p ^ (d + t) % p : Nat) : Int) :=
    map_digits (cs := fs ++ hs) (T := d + k) (fun t ht => ⟨by omega, enc_digit (by omega) ball⟩) hh (fun t ht => by
      rw [List.getElem_append_right (by omega)]
      congr 1
      omega)
  have r := (S.thom hon).chkAD (S.hom hon) (S.consts_rep hon) (S.digs_rep (i := 0) (n := d) hb (by omega)) (S.digs_rep (i := d) (n := k) hb (by omega))
  rw [Nat.eq_of_beq_eq_true h, ← e1, ← e2, hon] at r
  exact r.symm
theorem Sys.B_ok {n : Nat} (h : S.cB n = true) {hs : List Nat} (hh : hs.length = n) (bh : ∀ c, c ∈ hs → c < p) :
    chkBD intOps (tst0 p) (consts intOps p) (hs.map fun c : Nat => (c : Int)) = true := by
  unfold Sys.cB at h
  rw [seqAll_eq (S.law _), seqAll_eq (S.law _), chkB_eq (S.law _)] at h
  have hb : enc p hs < p ^ n := by rw [← hh]; exact enc_lt bh
  have hon := ones_bit hb
  have e2 : hs.map (fun c : Nat => (c : Int)) = (List.range n).map fun t => ((enc p hs / p ^ (0 + t) % p : Nat) : Int) :=
    map_digits (cs := hs) (T := n) (fun t ht => ⟨by omega, enc_digit (by omega) bh⟩) hh (fun t ht => by simp only [Nat.zero_add])
  have r := (S.thom hon).chkBD (S.hom hon) (S.consts_rep hon) (S.digs_rep (i := 0) (n := n) hb (by omega))
  rw [Nat.eq_of_beq_eq_true h, ← e2, hon] at r
  exact r.symm
end
def cC (n : Nat) : Bool := seqAll (B8.ops (ones (8 ^ n))) ((List.range n).map (B8.dig n)) fun h => Nat.beq (chkC (B8.ops (ones (8 ^ n))) (B8.tst (ones (8 ^ n))) h (h.map B8.low)) (ones (8 ^ n))
theorem C_ok {n : Nat} (h : cC n = true) {hs : List Nat} (hh : hs.length = n) (bh : ∀ c, c ∈ hs → c < 8) :
    chkCD intOps (tst0 2) (hs.map fun c : Nat => (c : Int)) (hs.map fun c : Nat => (c : Int) % 2) = true := by
  unfold cC at h
  rw [seqAll_eq (B8.law _), chkC_eq (B8.law _)] at h
  have hb : enc 8 hs < 8 ^ n := by rw [← hh]; exact enc_lt bh
  have hon := ones_bit hb
  have e2 : hs.map (fun c : Nat => (c : Int)) = (List.range n).map fun t => ((enc 8 hs / 8 ^ (0 + t) % 8 : Nat) : Int) :=
    map_digits (cs := hs) (T := n) (fun t ht => ⟨by omega, enc_digit (by omega) bh⟩) hh (fun t ht => by simp only [Nat.zero_add])
  have d1 : All2 (B8.Rep (enc 8 hs)) ((List.range n).map (B8.dig n)) (hs.map fun c : Nat => (c : Int)) := by
    rw [e2]
    exact All2.same fun t ht => by rw [Nat.zero_add]; exact B8.dig_rep hb (List.mem_range.mp ht)
  have d2 : All2 (B8.Rep (enc 8 hs)) (((List.range n).map (B8.dig n)).map B8.low) (hs.map fun c : Nat => (c : Int) % 2) := by
    have := d1.map (f := B8.low) (g := fun v => v % 2) (S := B8.Rep (enc 8 hs)) fun _ _ h => B8.low_rep h
    rwa [List.map_map (l := hs)] at this
  have r := (B8.thom hon).chkCD (B8.hom hon) d1 d2
  rw [Nat.eq_of_beq_eq_true h, hon] at r
  exact r.symm
end K8

/-! text K8Run -/
set_option maxRecDepth 1000000
set_option maxHeartbeats 0
set_option Elab.async false
namespace K8
theorem runC : (List.range 7).all cC = true := by decide +kernel
theorem runA2 : (((List.range 6).all fun k => sys2.cA 1 k) && ((List.range 5).all fun k => sys2.cA 2 k) && ((List.range 4).all fun k => sys2.cA 3 k)) = true := by decide +kernel
theorem runB2 : (List.range 6).all (fun n => sys2.cB (n + 1)) = true := by decide +kernel
theorem runA3 : (((List.range 6).all fun k => sys3.cA 1 k) && ((List.range 5).all fun k => sys3.cA 2 k) && ((List.range 4).all fun k => sys3.cA 3 k)) = true := by decide +kernel
theorem runB3 : (List.range 6).all (fun n => sys3.cB (n + 1)) = true := by decide +kernel
theorem runA5 : (((List.range 6).all fun k => sys5.cA 1 k) && ((List.range 5).all fun k => sys5.cA 2 k) && ((List.range 4).all fun k => sys5.cA 3 k)) = true := by decide +kernel
theorem runB5 : (List.range 6).all (fun n => sys5.cB (n + 1)) = true := by decide +kernel
theorem runA7 : (((List.range 4).all fun k => sys7.cA 1 k) && ((List.range 3).all fun k => sys7.cA 2 k)) = true := by decide +kernel
theorem runB7 : (List.range 4).all (fun n => sys7.cB (n + 1)) = true := by decide +kernel
end K8

/-! text K8Syl -/
/-! Over the whole numbers the ring programs are det. -/
namespace K8
def matOf (M : List (List Int)) : Mat := fun i j => (M.getD i []).getD j 0

theorem sumN_front (f : Nat → Int) : ∀ n, sumN (n + 1) f = f 0 + sumN n (fun j => f (j + 1))
  | 0 => by simp [sumN]
  | n + 1 => by
    show sumN (n + 1) f + f (n + 1) = f 0 + (sumN n (fun j => f (j + 1)) + f (n + 1))
    rw [sumN_front f n]
    omega

theorem lapD_sum {rec : List (List Int) → Int} : ∀ (rest pre : List (List Int)) (acc : Int), (∀ r, r ∈ rest → r ≠ []) →
    lapD intOps rec pre rest (decide (pre.length % 2 = 0)) acc = acc + sumN rest.length fun j => sgn (pre.length + j) * (rest.getD j []).getD 0 0 * rec (pre ++ (rest.take j).map List.tail ++ (rest.drop (j + 1)).map List.tail)
  | [], _, _, _ => by simp [lapD, sumN]
  | [] :: _, _, _, h => absurd rfl (h [] (List.mem_cons_self ..))
  | (a :: r) :: rs, pre, acc, h => by
    show lapD intOps rec (pre ++ [r]) rs (!decide (pre.length % 2 = 0)) (if decide (pre.length % 2 = 0) = true then acc + a * rec (pre ++ rs.map List.tail) else acc - a * rec (pre ++ rs.map List.tail)) = _
    have e : (!decide (pre.length % 2 = 0)) = decide ((pre ++ [r]).length % 2 = 0) := by
      rw [List.length_append, List.length_singleton]
      by_cases q : pre.length % 2 = 0
      · rw [decide_eq_true q, decide_eq_false (by omega)]; rfl
      · rw [decide_eq_false q, decide_eq_true (by omega)]; rfl
    rw [e, lapD_sum rs (pre ++ [r]) _ fun x hx => h x (List.mem_cons_of_mem _ hx)]
    rw [List.length_cons, sumN_front]
    have e0 : (if decide (pre.length % 2 = 0) = true then acc + a * rec (pre ++ rs.map List.tail) else acc - a * rec (pre ++ rs.map List.tail)) = acc + sgn pre.length * a * rec (pre ++ rs.map List.tail) := by
      unfold sgn
      by_cases q : pre.length % 2 = 0
      · rw [if_pos (decide_eq_true q), if_pos q]; grind
      · rw [if_neg (by simpa using q), if_neg q]; grind
    rw [e0]
    have e1 : (fun j => sgn (pre.length + (j + 1)) * (((a :: r) :: rs).getD (j + 1) []).getD 0 0 * rec (pre ++ (((a :: r) :: rs).take (j + 1)).map List.tail ++ (((a :: r) :: rs).drop (j + 1 + 1)).map List.tail)) =
        fun j => sgn ((pre ++ [r]).length + j) * (rs.getD j []).getD 0 0 * rec (pre ++ [r] ++ (rs.take j).map List.tail ++ (rs.drop (j + 1)).map List.tail) := by
      funext j
      rw [List.length_append, List.length_singleton, List.getD_cons_succ, List.take_succ_cons, List.drop_succ_cons, List.map_cons]
      have e2 : pre.length + (j + 1) = pre.length + 1 + j := by omega
      rw [e2]
      simp
    rw [e1]
    simp
    omega

theorem matOf_tail {M : List (List Int)} (i c : Nat) : ((M.map List.tail).getD i []).getD c 0 = (M.getD i []).getD (c + 1) 0 := by
  rw [List.getD_eq_getElem?_getD (l := M.map List.tail), List.getElem?_map, List.getD_eq_getElem?_getD (l := M)]
  cases h : M[i]? with
  | none => simp
  | some r => cases r <;> simp

theorem ldetD_det : ∀ (n : Nat) (M : List (List Int)), M.length = n → (∀ r, r ∈ M → r.length = n) → ldetD intOps n M = det n (matOf M)
  | 0, _, _, _ => rfl
  | n + 1, M, hl, hr => by
    show lapD intOps (ldetD intOps n) [] M true 0 = _
    have ne : ∀ r, r ∈ M → r ≠ [] := fun r h z => by have := hr r h; rw [z] at this; cases this
    have := lapD_sum (rec := ldetD intOps n) M [] 0 ne
    rw [show decide (([] : List (List Int)).length % 2 = 0) = true from rfl] at this
    rw [this, hl, det_succ, Int.zero_add]
    refine sumN_congr fun i hi => ?_
    rw [List.length_nil, Nat.zero_add]
    have e : ldetD intOps n ([] ++ (M.take i).map List.tail ++ (M.drop (i + 1)).map List.tail) = det n (minor (matOf M) i) := by
      rw [ldetD_det n]
      · refine det_congr fun r c _ _ => ?_
        show (([] ++ (M.take i).map List.tail ++ (M.drop (i + 1)).map List.tail).getD r []).getD c 0 = (M.getD (skip i r) []).getD (c + 1) 0
        rw [List.nil_append, ← List.map_append, matOf_tail]
        congr 1
        rw [List.getD_eq_getElem?_getD, List.getD_eq_getElem?_getD]
        congr 1
        unfold skip
        split
        · rename_i h
          rw [List.getElem?_append_left (by rw [List.length_take]; omega), List.getElem?_take_of_lt h]
        · rename_i h
          rw [List.getElem?_append_right (by rw [List.length_take]; omega), List.getElem?_drop, List.length_take]
          congr 1
          omega
      · simp; omega
      · intro r h
        rw [List.nil_append, ← List.map_append] at h
        obtain ⟨x, hx, rfl⟩ := List.mem_map.mp h
        have hxM : x ∈ M := (List.mem_append.mp hx).elim (fun q => List.mem_of_mem_take q) fun q => List.mem_of_mem_drop q
        rw [List.length_tail, hr x hxM]; rfl
    rw [e]
    rfl

theorem subD_length {a : Int} : ∀ {r h : List Int}, r.length = h.length → (subD intOps a r h).length = h.length
  | [], [], _ => rfl
  | _ :: _, _ :: _, e => congrArg Nat.succ (subD_length (Nat.succ.inj e))
theorem subD_getD {a : Int} : ∀ {r h : List Int} {c : Nat}, r.length = h.length → (subD intOps a r h).getD c 0 = r.getD c 0 - a * h.getD c 0
  | [], [], c, _ => by simp [subD]
  | x :: r, y :: h, 0, _ => rfl
  | x :: r, y :: h, c + 1, e => by
    show (subD intOps a r h).getD c 0 = r.getD c 0 - a * h.getD c 0
    exact subD_getD (Nat.succ.inj e)
theorem subD_zero : ∀ {r h : List Int}, r.length = h.length → subD intOps 0 r h = r
  | [], [], _ => rfl
  | x :: r, y :: h, e => by
    show (x - 0 * y) :: subD intOps 0 r h = x :: r
    rw [subD_zero (Nat.succ.inj e)]
    congr 1
    omega

theorem chioD_getD {h : List Int} : ∀ {rs : List (List Int)} (i : Nat), (∀ r, r ∈ rs → r.length = h.length + 1) → (chioD intOps h rs).getD i [] = match rs[i]? with
    | some (a :: r) => subD intOps a r h
    | _ => []
  | [], i, _ => by simp [chioD]
  | [] :: rs, i, e => by have := e [] (List.mem_cons_self ..); cases this
  | (a :: r) :: rs, 0, _ => rfl
  | (a :: r) :: rs, i + 1, e => chioD_getD i fun x hx => e x (List.mem_cons_of_mem _ hx)
theorem chioD_len {h : List Int} : ∀ {rs : List (List Int)}, (chioD intOps h rs).length = rs.length
  | [] => rfl
  | [] :: rs => congrArg Nat.succ (chioD_len (rs := rs))
  | (_ :: _) :: rs => congrArg Nat.succ (chioD_len (rs := rs))
theorem chioD_row {h : List Int} : ∀ {rs : List (List Int)}, (∀ r, r ∈ rs → r.length = h.length + 1) → ∀ r, r ∈ chioD intOps h rs → r.length = h.length
  | [], _, _, h => by cases h
  | [] :: rs, e, _, _ => by have := e [] (List.mem_cons_self ..); cases this
  | (a :: r) :: rs, e, x, hx => by
    rcases List.mem_cons.mp hx with z | z
    · rw [z]
      have := e (a :: r) (List.mem_cons_self ..)
      exact subD_length (by simpa using this)
    · exact chioD_row (fun x hx => e x (List.mem_cons_of_mem _ hx)) x z
theorem chioD_det {h : List Int} {rs : List (List Int)} {n : Nat} (hn : h.length = n) (hl : rs.length = n) (hr : ∀ r, r ∈ rs → r.length = n + 1) : det (n + 1) (matOf ((1 :: h) :: rs)) = det n (matOf (chioD intOps h rs)) := by
  have c := det_chio n (matOf ((1 :: h) :: rs))
  have e : matOf ((1 :: h) :: rs) 0 0 = 1 := rfl
  rw [e, Int.one_pow, Int.one_mul, Int.one_mul] at c
  rw [c]
  refine det_congr fun i j hi _ => ?_
  show matOf ((1 :: h) :: rs) (i + 1) (j + 1) * matOf ((1 :: h) :: rs) 0 0 - matOf ((1 :: h) :: rs) (i + 1) 0 * matOf ((1 :: h) :: rs) 0 (j + 1) = ((chioD intOps h rs).getD i []).getD j 0
  rw [e, chioD_getD i (by rw [hn]; exact hr), Int.mul_one]
  have hi2 : i < rs.length := by omega
  rw [List.getElem?_eq_getElem hi2]
  have hx := hr _ (List.getElem_mem hi2)
  have e1 : ∀ c, matOf ((1 :: h) :: rs) (i + 1) c = rs[i].getD c 0 := fun c => by
    show (((1 :: h) :: rs).getD (i + 1) []).getD c 0 = _
    rw [List.getD_cons_succ, List.getD_eq_getElem?_getD (l := rs), List.getElem?_eq_getElem hi2]
    rfl
  rw [e1, e1]
  cases hq : rs[i] with
  | nil => rw [hq] at hx; cases hx
  | cons a r =>
    rw [hq] at hx
    show r.getD j 0 - a * h.getD j 0 = _
    rw [subD_getD (by simp at hx; omega)]

theorem padRow_len {c : List Int} {w a : Nat} (h : a + c.length ≤ w) : (padRow intOps c w a).length = w := by
  unfold padRow; simp; omega
theorem rowsOf_succ {c cr : List Int} {w k : Nat} (hc : c.reverse = 1 :: cr) : rowsOf intOps c (w + 1) (k + 1) = (1 :: (cr ++ List.replicate (w + 1 - c.length) 0)) :: (List.range k).map fun a => 0 :: padRow intOps c w a := by
  unfold rowsOf
  rw [List.range_succ_eq_map, List.map_cons, List.map_map]
  congr 1
  · unfold padRow
    rw [hc]; rfl
  · refine List.map_congr_left fun a _ => ?_
    show padRow intOps c (w + 1) (a + 1) = 0 :: padRow intOps c w a
    unfold padRow
    rw [List.replicate_succ, List.cons_append, show w + 1 - (a + 1) - c.length = w - a - c.length by omega]
    rfl
theorem chioD_append {h : List Int} : ∀ {xs ys : List (List Int)}, chioD intOps h (xs ++ ys) = chioD intOps h xs ++ chioD intOps h ys
  | [], _ => rfl
  | [] :: xs, ys => congrArg (List.cons []) (chioD_append (xs := xs) (ys := ys))
  | (a :: r) :: xs, ys => congrArg (List.cons (subD intOps a r h)) (chioD_append (xs := xs) (ys := ys))
theorem chioD_upper {h c : List Int} {w : Nat} (hw : h.length = w) : ∀ {l : List Nat}, (∀ a, a ∈ l → a + c.length ≤ w) → chioD intOps h (l.map fun a => 0 :: padRow intOps c w a) = l.map fun a => padRow intOps c w a
  | [], _ => rfl
  | a :: l, hl => by
    show subD intOps 0 (padRow intOps c w a) h :: chioD intOps h (l.map fun a => 0 :: padRow intOps c w a) = _
    rw [subD_zero (by rw [padRow_len (hl a (List.mem_cons_self ..)), hw]), chioD_upper hw fun x hx => hl x (List.mem_cons_of_mem _ hx)]
    rfl

theorem chioM_rows {c cr : List Int} (hc : c.reverse = 1 :: cr) : ∀ (k w : Nat) (lower : List (List Int)), k + c.length ≤ w + 1 → lower.length + k = w → (∀ r, r ∈ lower → r.length = w) →
    det w (matOf (rowsOf intOps c w k ++ lower)) = det (w - k) (matOf (chioM intOps k (rowsOf intOps c w k ++ lower))) ∧ (chioM intOps k (rowsOf intOps c w k ++ lower)).length = w - k ∧ ∀ r, r ∈ chioM intOps k (rowsOf intOps c w k ++ lower) → r.length = w - k
  | 0, w, lower, h1, h2, h3 => ⟨rfl, by show ([] ++ lower).length = w - 0; simp; omega, fun r hr => h3 r hr⟩
  | k + 1, 0, lower, h1, h2, h3 => by omega
  | k + 1, w + 1, lower, h1, h2, h3 => by
    have cl : cr.length + 1 = c.length := by have := congrArg List.length hc; simpa using this.symm
    have hw : (cr ++ List.replicate (w + 1 - c.length) (0 : Int)).length = w := by simp; omega
    have hup : ∀ a, a ∈ List.range k → a + c.length ≤ w := fun a ha => by have := List.mem_range.mp ha; omega
    have hrows : ∀ r, r ∈ ((List.range k).map fun a => 0 :: padRow intOps c w a) ++ lower → r.length = w + 1 := fun r hr => by
      rcases List.mem_append.mp hr with z | z
      · obtain ⟨a, ha, rfl⟩ := List.mem_map.mp z
        rw [List.length_cons, padRow_len (hup a ha)]
      · exact h3 r z
    have e1 : det (w + 1) (matOf (rowsOf intOps c (w + 1) (k + 1) ++ lower)) = det w (matOf (chioD intOps (cr ++ List.replicate (w + 1 - c.length) 0) (((List.range k).map fun a => 0 :: padRow intOps c w a) ++ lower))) := by
      rw [rowsOf_succ hc, List.cons_append]
      refine chioD_det hw ?_ hrows
      simp; omega
    have e2 : chioD intOps (cr ++ List.replicate (w + 1 - c.length) 0) (((List.range k).map fun a => 0 :: padRow intOps c w a) ++ lower) = rowsOf intOps c w k ++ chioD intOps (cr ++ List.replicate (w + 1 - c.length) 0) lower := by
      rw [chioD_append, chioD_upper hw hup]; rfl
    have e3 : chioM intOps (k + 1) (rowsOf intOps c (w + 1) (k + 1) ++ lower) = chioM intOps k (rowsOf intOps c w k ++ chioD intOps (cr ++ List.replicate (w + 1 - c.length) 0) lower) := by
      rw [rowsOf_succ hc, List.cons_append]
      show chioM intOps k (chioD intOps _ _) = _
      rw [e2]
    have ih := chioM_rows hc k w (chioD intOps (cr ++ List.replicate (w + 1 - c.length) 0) lower) (by omega) (by rw [chioD_len]; omega) (fun r hr => by
      have := chioD_row (h := cr ++ List.replicate (w + 1 - c.length) 0) (rs := lower) (fun x hx => by rw [hw]; exact h3 x hx) r hr
      rw [hw] at this; exact this)
    rw [e1, e2, e3, show w + 1 - (k + 1) = w - k by omega]
    exact ih

theorem derivFrom_len : ∀ (xs : List Int) (i : Nat), (derivFrom intOps i xs).length = xs.length
  | [], _ => rfl
  | _ :: xs, i => congrArg Nat.succ (derivFrom_len xs (i + 1))
/-- the discriminant of a monic polynomial as the program's determinant tells it -/
theorem gdiscD_det {g cr : List Int} (hg : g.reverse = 1 :: cr) (h2 : 2 ≤ g.length) :
    gdiscD intOps g = signed intOps (g.length - 1) (det (g.length - 1 + (g.length - 1 - 1)) (matOf (syl intOps g (derivL intOps g)))) := by
  have dl : (derivL intOps g).length = g.length - 1 := by unfold derivL; rw [derivFrom_len, List.length_drop]
  unfold gdiscD
  congr 1
  have hlow : ∀ r, r ∈ rowsOf intOps (derivL intOps g) (g.length - 1 + (g.length - 1 - 1)) (g.length - 1) → r.length = g.length - 1 + (g.length - 1 - 1) := fun r hr => by
    unfold rowsOf at hr
    obtain ⟨a, ha, rfl⟩ := List.mem_map.mp hr
    have := List.mem_range.mp ha
    exact padRow_len (by rw [dl]; omega)
  have e : syl intOps g (derivL intOps g) = rowsOf intOps g (g.length - 1 + (g.length - 1 - 1)) (g.length - 1 - 1) ++ rowsOf intOps (derivL intOps g) (g.length - 1 + (g.length - 1 - 1)) (g.length - 1) := by unfold syl; rw [dl]
  obtain ⟨h1, h3, h4⟩ := chioM_rows hg (g.length - 1 - 1) (g.length - 1 + (g.length - 1 - 1)) (rowsOf intOps (derivL intOps g) (g.length - 1 + (g.length - 1 - 1)) (g.length - 1)) (by omega) (by unfold rowsOf; simp) hlow
  rw [show g.length - 1 + (g.length - 1 - 1) - (g.length - 1 - 1) = g.length - 1 by omega] at h1 h3 h4
  rw [e, h1, ldetD_det _ _ h3 h4]
end K8

/-! text K8Poly -/
/-! Rests by a monic polynomial: linear; the program's long division. -/
namespace K8
def stepF (d : Nat) (f : Nat → Int) (c : Int) (r : Nat → Int) : Nat → Int := fun i => (if i = 0 then c else r (i - 1)) - r (d - 1) * f i
def remF (d : Nat) (f : Nat → Int) : List Int → Nat → Int
  | [] => fun _ => 0
  | c :: g => stepF d f c (remF d f g)
section
variable {d : Nat} {f : Nat → Int}
theorem stepF_add (c c' : Int) (r r' : Nat → Int) : stepF d f (c + c') (fun i => r i + r' i) = fun i => stepF d f c r i + stepF d f c' r' i := by
  funext i
  unfold stepF
  split <;> grind
theorem stepF_mul (a c : Int) (r : Nat → Int) : stepF d f (a * c) (fun i => a * r i) = fun i => a * stepF d f c r i := by
  funext i
  unfold stepF
  split <;> grind
theorem stepF_zero : stepF d f 0 (fun _ => 0) = fun _ => 0 := by
  funext i
  unfold stepF
  split <;> grind
theorem remF_add : ∀ (x y : List Int), remF d f (addL intOps x y) = fun i => remF d f x i + remF d f y i
  | [], y => by funext i; show _ = 0 + _; rw [Int.zero_add]; rfl
  | x :: xs, [] => by funext i; show _ = _ + 0; rw [Int.add_zero]; rfl
  | x :: xs, y :: ys => by
    show stepF d f (x + y) (remF d f (addL intOps xs ys)) = _
    rw [remF_add xs ys, stepF_add]; rfl
theorem remF_mul (a : Int) : ∀ (x : List Int), remF d f (x.map (intOps.mul a)) = fun i => a * remF d f x i
  | [] => by funext i; show (0 : Int) = a * 0; rw [Int.mul_zero]
  | x :: xs => by
    show stepF d f (a * x) (remF d f (xs.map (intOps.mul a))) = _
    rw [remF_mul a xs, stepF_mul]; rfl
theorem remF_gmul_nil : ∀ x : List Int, remF d f (gmul intOps x []) = fun _ => 0
  | [] => rfl
  | a :: x => by
    show remF d f (addL intOps [] (0 :: gmul intOps x [])) = _
    show stepF d f 0 (remF d f (gmul intOps x [])) = _
    rw [remF_gmul_nil x, stepF_zero]
theorem remF_gmul (b : Int) (y : List Int) : ∀ x : List Int, remF d f (gmul intOps x (b :: y)) = fun i => b * remF d f x i + stepF d f 0 (remF d f (gmul intOps x y)) i
  | [] => by
    funext i
    show (0 : Int) = b * 0 + stepF d f 0 (fun _ => 0) i
    rw [stepF_zero]; simp
  | a :: x => by
    have e1 : remF d f (gmul intOps (a :: x) (b :: y)) = fun i => a * remF d f (b :: y) i + stepF d f 0 (remF d f (gmul intOps x (b :: y))) i := by
      show remF d f (addL intOps ((b :: y).map (intOps.mul a)) (0 :: gmul intOps x (b :: y))) = _
      rw [remF_add, remF_mul]; rfl
    have e2 : remF d f (gmul intOps (a :: x) y) = fun i => a * remF d f y i + stepF d f 0 (remF d f (gmul intOps x y)) i := by
      show remF d f (addL intOps (y.map (intOps.mul a)) (0 :: gmul intOps x y)) = _
      rw [remF_add, remF_mul]; rfl
    rw [e1, e2, remF_gmul b y x]
    funext i
    show a * stepF d f b (remF d f y) i + stepF d f 0 (fun i => b * remF d f x i + stepF d f 0 (remF d f (gmul intOps x y)) i) i = b * stepF d f a (remF d f x) i + stepF d f 0 (fun i => a * remF d f y i + stepF d f 0 (remF d f (gmul intOps x y)) i) i
    unfold stepF
    split <;> grind

/-- the monic polynomial with the lower numbers f divides g modulo p -/
def Zp (p : Int) (d : Nat) (f : Nat → Int) (g : List Int) : Prop := ∀ i, i < d → remF d f g i % p = 0
theorem mod_add0 {a b p : Int} (h : a % p = 0) (k : b % p = 0) : (a + b) % p = 0 := by rw [Int.add_emod, h, k]; simp
theorem mod_mul0 {a b p : Int} (h : b % p = 0) : (a * b) % p = 0 := by rw [Int.mul_emod, h]; simp
theorem Zp_step {p : Int} {c : Int} {r : Nat → Int} (hc : c % p = 0) (h : ∀ i, i < d → r i % p = 0) : ∀ i, i < d → stepF d f c r i % p = 0 := fun i hi => by
  unfold stepF
  have h1 : r (d - 1) % p = 0 := h _ (by omega)
  have h2 : (r (d - 1) * f i) % p = 0 := by rw [Int.mul_comm]; exact mod_mul0 h1
  have h3 : (if i = 0 then c else r (i - 1)) % p = 0 := by
    split
    · exact hc
    · exact h _ (by omega)
  rw [Int.sub_emod, h2, h3]; simp
theorem Zp_mul_left {p : Int} (x : List Int) : ∀ {y : List Int}, Zp p d f x → Zp p d f (gmul intOps x y)
  | [], _ => fun i _ => by rw [remF_gmul_nil]; simp
  | b :: y, h => fun i hi => by
    rw [remF_gmul]
    exact mod_add0 (mod_mul0 (h i hi)) (Zp_step (by simp) (Zp_mul_left x (y := y) h) i hi)
theorem Zp_mul_right {p : Int} {y : List Int} (h : Zp p d f y) : ∀ (x : List Int), Zp p d f (gmul intOps x y)
  | [] => fun i _ => by show (0 : Int) % p = 0; simp
  | a :: x => fun i hi => by
    show remF d f (addL intOps (y.map (intOps.mul a)) (0 :: gmul intOps x y)) i % p = 0
    rw [remF_add, remF_mul]
    exact mod_add0 (mod_mul0 (h i hi)) (Zp_step (by simp) (Zp_mul_right h x) i hi)
theorem remF_congr {p : Int} {x y : List Int} (h : All2 (fun a b : Int => a % p = b % p) x y) : ∀ i, remF d f x i % p = remF d f y i % p := by
  induction h with
  | nil => intro _; rfl
  | cons a _ ih =>
    intro i
    show stepF d f _ _ i % p = stepF d f _ _ i % p
    unfold stepF
    rw [Int.sub_emod, Int.mul_emod, ih (d - 1), ← Int.mul_emod]
    split
    · rw [a, ← Int.sub_emod]
    · rw [ih, ← Int.sub_emod]
theorem Zp_congr {p : Int} {x y : List Int} (h : All2 (fun a b : Int => a % p = b % p) x y) (z : Zp p d f x) : Zp p d f y := fun i hi => by rw [← remF_congr h i]; exact z i hi
theorem remF_small : ∀ (g : List Int), g.length ≤ d → ∀ i, i < d → remF d f g i = g.getD i 0
  | [], _, _, _ => by simp [remF]
  | c :: g, h, i, hi => by
    have h' : g.length + 1 ≤ d := h
    show stepF d f c (remF d f g) i = _
    unfold stepF
    rw [remF_small g (by omega) (d - 1) (by omega)]
    have e : g.getD (d - 1) 0 = 0 := by rw [List.getD_eq_getElem?_getD, List.getElem?_eq_none (by omega)]; rfl
    rw [e, Int.zero_mul, Int.sub_zero]
    cases i with
    | zero => rfl
    | succ i => rw [if_neg (by omega), remF_small g (by omega) _ (by omega)]; rfl
end
theorem remF_self : ∀ (f : List Int), ∀ i, i < f.length → remF f.length (fun j => f.getD j 0) (f ++ [1]) i = 0
  | [], i, h => absurd h (Nat.not_lt_zero _)
  | c :: f, i, h => by
    show stepF (f.length + 1) _ c (remF (f.length + 1) _ (f ++ [1])) i = 0
    unfold stepF
    have hs := remF_small (d := f.length + 1) (f := fun j => (c :: f).getD j 0) (f ++ [1]) (by simp)
    rw [hs (f.length + 1 - 1) (by omega)]
    have e : (f ++ [(1 : Int)]).getD (f.length + 1 - 1) 0 = 1 := by
      rw [List.getD_eq_getElem?_getD, List.getElem?_append_right (by omega)]
      simp
    rw [e]
    cases i with
    | zero => show c - 1 * c = 0; omega
    | succ i =>
      have hi : i < f.length := by simpa using h
      rw [if_neg (by omega), hs (i + 1 - 1) (by omega)]
      show (f ++ [(1 : Int)]).getD i 0 - 1 * f.getD i 0 = 0
      rw [List.getD_eq_getElem?_getD, List.getElem?_append_left hi, ← List.getD_eq_getElem?_getD]
      omega
theorem Zp_self {p : Int} (f : List Int) : Zp p f.length (fun j => f.getD j 0) (f ++ [1]) := fun i hi => by rw [remF_self f i hi]; simp

/-! ### the list form -/
theorem lastD_getD : ∀ (r : List Int) (c : Int), r ≠ [] → lastD r c = r.getD (r.length - 1) 0
  | [], _, h => absurd rfl h
  | [x], c, _ => rfl
  | x :: y :: r, c, _ => by
    show lastD (y :: r) x = _
    rw [lastD_getD (y :: r) x (by simp)]
    rfl
theorem subD_getD' {a : Int} : ∀ {r h : List Int} {i : Nat}, i < r.length → i < h.length → (subD intOps a r h).getD i 0 = r.getD i 0 - a * h.getD i 0
  | [], _, _, q, _ => absurd q (Nat.not_lt_zero _)
  | _ :: _, [], _, _, q => absurd q (Nat.not_lt_zero _)
  | x :: r, y :: h, 0, _, _ => rfl
  | x :: r, y :: h, i + 1, q1, q2 => subD_getD' (r := r) (h := h) (i := i) (by simpa using q1) (by simpa using q2)
theorem subD_len' {a : Int} : ∀ {r h : List Int}, h.length ≤ r.length → (subD intOps a r h).length = h.length
  | [], [], _ => rfl
  | _ :: _, [], _ => rfl
  | [], _ :: _, q => absurd q (by simp)
  | _ :: r, _ :: h, q => congrArg Nat.succ (subD_len' (r := r) (h := h) (by simpa using q))
theorem grem_len {f : List Int} : ∀ g : List Int, (grem intOps f g).length = f.length
  | [] => by show (List.replicate _ _).length = _; simp
  | c :: g => by show (subD intOps _ (c :: grem intOps f g) f).length = _; exact subD_len' (by simp [grem_len g])
theorem grem_remF {f : List Int} (hf : f ≠ []) : ∀ (g : List Int) (i : Nat), i < f.length → (grem intOps f g).getD i 0 = remF f.length (fun j => f.getD j 0) g i
  | [], i, h => by
    show (List.replicate f.length (0 : Int)).getD i 0 = 0
    simp [List.getD_eq_getElem?_getD, List.getElem?_replicate]
    split <;> rfl
  | c :: g, i, h => by
    show (subD intOps (lastD (grem intOps f g) c) (c :: grem intOps f g) f).getD i 0 = stepF _ _ c _ i
    have hl := grem_len (f := f) g
    rw [subD_getD' (by simp; omega) h, lastD_getD _ _ (fun z => by rw [z] at hl; exact hf (List.length_eq_zero_iff.mp hl.symm)), hl, grem_remF hf g _ (by omega)]
    unfold stepF
    congr 1
    cases i with
    | zero => rfl
    | succ i => rw [if_neg (by omega)]; exact grem_remF hf g i (by omega)
theorem allZ_iff {p : Nat} : ∀ r : List Int, allZ (tst0 p) r = true ↔ ∀ i, i < r.length → r.getD i 0 % (p : Int) = 0
  | [] => by simp [allZ, tst0]
  | x :: r => by
    show ((x % (p : Int) == 0) && allZ (tst0 p) r) = true ↔ _
    rw [Bool.and_eq_true, allZ_iff r]
    constructor
    · intro ⟨h1, h2⟩ i hi
      cases i with
      | zero => exact beq_iff_eq.mp h1
      | succ i => exact h2 i (by simpa using hi)
    · intro h
      exact ⟨beq_iff_eq.mpr (h 0 (by simp)), fun i hi => h (i + 1) (by simpa using hi)⟩
theorem allZ_Zp {p : Nat} {f g : List Int} (hf : f ≠ []) : allZ (tst0 p) (grem intOps f g) = true ↔ Zp p f.length (fun j => f.getD j 0) g := by
  rw [allZ_iff, grem_len]
  constructor
  · intro h i hi; rw [← grem_remF hf g i hi]; exact h i hi
  · intro h i hi; rw [grem_remF hf g i hi]; exact h i hi
end K8

/-! text K8Mir -/
/-! Mirrors of the program's polynomial functions; the long division. -/
namespace K8
def trim : List Int → List Int
  | [] => []
  | x :: xs => match trim xs with
    | [] => if x = 0 then [] else [x]
    | y :: ys => x :: y :: ys
def rests (p : Int) (g : List Int) : List Int := trim (g.map (· % p))
def subAt : List Int → Nat → Int → List Int → List Int
  | left, _, _, [] => left
  | left, k, a, m :: ms => subAt (left.set k (left.getD k 0 - a * m)) (k + 1) a ms
def divLoop (F : List Int) (s : Nat) : Nat → List Int → List Int → List Int × List Int
  | 0, q, left => (q, left)
  | k + 1, q, left => divLoop F s k (q.set k (left.getD (k + s) 0)) (subAt left k (left.getD (k + s) 0) F)
def divided (left F : List Int) : List Int × List Int :=
  let r := divLoop F (F.length - 1) (left.length - (F.length - 1)) (List.replicate (left.length - (F.length - 1)) 0) left
  (trim r.1, trim r.2)
def mons (p : Nat) : Nat → List (List Int)
  | 0 => [[]]
  | d + 1 => (mons p d).flatMap fun b => (List.range p).map fun r : Nat => b ++ [(r : Int)]
def monics (p d : Nat) : List (List Int) := (mons p d).map fun b => b ++ [1]
def dsteps (p : Int) (F : List Int) : Nat → List Int → Int × List Int
  | 0, left => (0, left)
  | n + 1, left => if F.length ≤ left.length ∧ rests p (divided left F).2 = [] then
      ((dsteps p F n (rests p (divided left F).1)).1 + 1, (dsteps p F n (rests p (divided left F).1)).2)
    else (0, left)
abbrev FSt := List Int × List (List Int × Int)
def fstep (p : Int) (d : Nat) (st : FSt) (F : List Int) : FSt :=
  let r := if 2 * d ≤ st.1.length - 1 then dsteps p F st.1.length st.1 else (0, st.1)
  (r.2, if 0 < r.1 then st.2 ++ [(F, r.1)] else st.2)
def floop (p : Nat) : Nat → Nat → FSt → FSt
  | 0, _, st => st
  | n + 1, d, st => if 2 * d ≤ st.1.length - 1 then floop p n (d + 1) ((monics p d).foldl (fstep p d) st) else st
/-- the factors ahead of the sorting, of the polynomial left (monic, reduced) -/
def facsOf (p : Nat) (left : List Int) : List (List Int × Int) :=
  let st := floop p 4 1 (left, [])
  st.2 ++ (if 1 < st.1.length then [(st.1, 1)] else [])

theorem trim_nil_iff : ∀ {xs : List Int}, trim xs = [] ↔ ∀ x, x ∈ xs → x = 0
  | [] => by simp [trim]
  | x :: xs => by
    unfold trim
    have ih := trim_nil_iff (xs := xs)
    cases h : trim xs with
    | nil =>
      have h2 := ih.mp h
      by_cases hx : x = 0
      · simp [hx]; exact h2
      · simp [hx]
    | cons y ys =>
      constructor
      · intro q; cases q
      · intro q
        have := ih.mpr fun z hz => q z (List.mem_cons_of_mem _ hz)
        rw [h] at this; cases this
theorem trim_last : ∀ {xs : List Int} {a : Int}, a ≠ 0 → trim (xs ++ [a]) = xs ++ [a]
  | [], a, h => by simp [trim, h]
  | x :: xs, a, h => by
    show (match trim (xs ++ [a]) with | [] => _ | y :: ys => x :: y :: ys) = _
    rw [trim_last h]
    cases xs <;> rfl
theorem trim_zero : ∀ {xs : List Int}, trim (xs ++ [0]) = trim xs
  | [] => by simp [trim]
  | x :: xs => by
    show (match trim (xs ++ [0]) with | [] => _ | y :: ys => x :: y :: ys) = _
    rw [trim_zero]; rfl
theorem trim_sub : ∀ {xs : List Int} {x : Int}, x ∈ trim xs → x ∈ xs
  | [], _, h => by simp [trim] at h
  | y :: xs, x, h => by
    unfold trim at h
    cases e : trim xs with
    | nil =>
      rw [e] at h
      by_cases hy : y = 0
      · simp [hy] at h
      · simp [hy] at h; rw [h]; exact List.mem_cons_self ..
    | cons z zs =>
      rw [e] at h
      rcases List.mem_cons.mp h with q | q
      · rw [q]; exact List.mem_cons_self ..
      · exact List.mem_cons_of_mem _ (trim_sub (by rw [e]; exact q))
theorem trim_keeps : ∀ {xs : List Int} {x : Int}, x ∈ xs → x ≠ 0 → x ∈ trim xs
  | y :: xs, x, h, h0 => by
    unfold trim
    cases e : trim xs with
    | nil =>
      have h2 := trim_nil_iff.mp e
      rcases List.mem_cons.mp h with q | q
      · subst q; simp [h0]
      · exact absurd (h2 x q) h0
    | cons z zs =>
      rcases List.mem_cons.mp h with q | q
      · rw [q]; exact List.mem_cons_self ..
      · have := trim_keeps q h0; rw [e] at this; exact List.mem_cons_of_mem _ this
theorem rests_trim_nil {p : Int} {l : List Int} : rests p (trim l) = [] ↔ ∀ x, x ∈ l → x % p = 0 := by
  unfold rests
  rw [trim_nil_iff]
  constructor
  · intro h x hx
    by_cases h0 : x = 0
    · rw [h0]; simp
    · exact h _ (List.mem_map.mpr ⟨x, trim_keeps hx h0, rfl⟩)
  · intro h y hy
    obtain ⟨x, hx, rfl⟩ := List.mem_map.mp hy
    exact h x (trim_sub hx)

/-! ### coefficients -/
theorem getD_set {l : List Int} {k i : Nat} {a : Int} (hk : k < l.length) : (l.set k a).getD i 0 = if i = k then a else l.getD i 0 := by
  rw [List.getD_eq_getElem?_getD, List.getElem?_set]
  by_cases h : i = k
  · subst h; simp [hk]
  · rw [if_neg (fun z => h z.symm), if_neg h, ← List.getD_eq_getElem?_getD]
theorem subAt_len : ∀ {F l : List Int} {k : Nat} {a : Int}, (subAt l k a F).length = l.length
  | [], _, _, _ => rfl
  | m :: F, l, k, a => by show (subAt (l.set k _) (k + 1) a F).length = _; rw [subAt_len]; simp
theorem subAt_getD : ∀ {F l : List Int} {k : Nat} {a : Int}, k + F.length ≤ l.length → ∀ i, (subAt l k a F).getD i 0 = l.getD i 0 - if k ≤ i then a * F.getD (i - k) 0 else 0
  | [], l, k, a, _, i => by show l.getD i 0 = _; simp
  | m :: F, l, k, a, h, i => by
    have h' : k + (F.length + 1) ≤ l.length := h
    show (subAt (l.set k (l.getD k 0 - a * m)) (k + 1) a F).getD i 0 = _
    rw [subAt_getD (by rw [List.length_set]; omega) i, getD_set (by omega)]
    by_cases h1 : i = k
    · subst h1
      rw [if_pos rfl, if_neg (by omega), if_pos (Nat.le_refl _), Nat.sub_self]
      show _ = _ - a * m
      omega
    · rw [if_neg h1]
      by_cases h2 : k ≤ i
      · rw [if_pos (by omega), if_pos h2]
        have e : i - k = (i - (k + 1)) + 1 := by omega
        rw [e]; rfl
      · rw [if_neg (by omega), if_neg h2]
def prodC (q F : List Int) (i : Nat) : Int := sumN q.length fun j => if j ≤ i then q.getD j 0 * F.getD (i - j) 0 else 0
theorem addL_getD : ∀ (x y : List Int) (i : Nat), (addL intOps x y).getD i 0 = x.getD i 0 + y.getD i 0
  | [], y, i => by show y.getD i 0 = _; simp
  | x :: xs, [], i => by show (x :: xs).getD i 0 = _; simp
  | x :: xs, y :: ys, 0 => rfl
  | x :: xs, y :: ys, i + 1 => addL_getD xs ys i
theorem addL_len : ∀ (x y : List Int), (addL intOps x y).length = max x.length y.length
  | [], y => by simp [addL]
  | x :: xs, [] => by simp [addL]
  | x :: xs, y :: ys => by show (addL intOps xs ys).length + 1 = _; rw [addL_len xs ys]; simp
theorem sumN_front' (f : Nat → Int) : ∀ n, sumN (n + 1) f = f 0 + sumN n (fun j => f (j + 1))
  | 0 => by simp [sumN]
  | n + 1 => by
    show sumN (n + 1) f + f (n + 1) = f 0 + (sumN n (fun j => f (j + 1)) + f (n + 1))
    rw [sumN_front' f n]
    omega
theorem gmul_getD (F : List Int) : ∀ (q : List Int) (i : Nat), (gmul intOps q F).getD i 0 = prodC q F i
  | [], i => by simp [gmul, prodC, sumN]
  | a :: q, i => by
    show (addL intOps (F.map (intOps.mul a)) (0 :: gmul intOps q F)).getD i 0 = sumN (q.length + 1) _
    rw [addL_getD, sumN_front']
    have e1 : (F.map (intOps.mul a)).getD i 0 = a * F.getD i 0 := by
      rw [List.getD_eq_getElem?_getD, List.getElem?_map, List.getD_eq_getElem?_getD]
      cases F[i]? with
      | none => simp
      | some x => rfl
    rw [e1]
    rw [if_pos (Nat.zero_le i)]
    show a * F.getD i 0 + _ = a * F.getD (i - 0) 0 + _
    congr 1
    cases i with
    | zero =>
      show (0 : Int) = _
      exact (sumN_zero fun j _ => by rw [if_neg (by omega)]).symm
    | succ i =>
      show (gmul intOps q F).getD i 0 = _
      rw [gmul_getD F q i]
      refine sumN_congr fun j _ => ?_
      show (if j ≤ i then q.getD j 0 * F.getD (i - j) 0 else 0) = if j + 1 ≤ i + 1 then q.getD j 0 * F.getD (i + 1 - (j + 1)) 0 else 0
      by_cases h : j ≤ i
      · rw [if_pos h, if_pos (by omega), show i + 1 - (j + 1) = i - j by omega]
      · rw [if_neg h, if_neg (by omega)]
theorem gmul_len (F : List Int) : ∀ (q : List Int), q ≠ [] → F ≠ [] → (gmul intOps q F).length = q.length + F.length - 1
  | [], h, _ => absurd rfl h
  | [a], _, hF => by
    show (addL intOps (F.map (intOps.mul a)) [0]).length = _
    rw [addL_len]
    have : F.length ≠ 0 := fun z => hF (List.length_eq_zero_iff.mp z)
    simp <;> omega
  | a :: b :: q, _, hF => by
    show (addL intOps (F.map (intOps.mul a)) (0 :: gmul intOps (b :: q) F)).length = _
    rw [addL_len, List.length_cons, gmul_len F (b :: q) (by simp) hF]
    have : F.length ≠ 0 := fun z => hF (List.length_eq_zero_iff.mp z)
    simp; omega
theorem sumN_plus {f g : Nat → Int} {k : Nat} {v : Int} : ∀ {n : Nat}, k < n → (∀ j, j < n → j ≠ k → f j = g j) → f k = g k + v → sumN n f = sumN n g + v
  | 0, h, _, _ => absurd h (Nat.not_lt_zero _)
  | n + 1, h, e, ek => by
    show sumN n f + f n = sumN n g + g n + v
    by_cases hk : k = n
    · subst hk
      rw [sumN_congr (f := f) (g := g) fun j hj => e j (by omega) (by omega), ek]
      omega
    · rw [sumN_plus (n := n) (by omega) (fun j hj => e j (by omega)) ek, e n (by omega) (fun z => hk z.symm)]
      omega
theorem prodC_set {q F : List Int} {k i : Nat} {a : Int} (hk : k < q.length) (h0 : q.getD k 0 = 0) : prodC (q.set k a) F i = prodC q F i + if k ≤ i then a * F.getD (i - k) 0 else 0 := by
  unfold prodC
  rw [List.length_set]
  refine sumN_plus hk (fun j _ hj => ?_) ?_
  · rw [getD_set hk, if_neg hj]
  · rw [getD_set hk, if_pos rfl, h0]
    split <;> simp

theorem divLoop_spec {F : List Int} {s m : Nat} (hF : F.length = s + 1) (h1 : F.getD s 0 = 1) : ∀ (k : Nat) (q left : List Int), k ≤ m → q.length = m → left.length = m + s → (∀ j, j < k → q.getD j 0 = 0) → (∀ i, k + s ≤ i → left.getD i 0 = 0) →
    (divLoop F s k q left).1.length = m ∧ (divLoop F s k q left).2.length = m + s ∧ (∀ i, left.getD i 0 + prodC q F i = (divLoop F s k q left).2.getD i 0 + prodC (divLoop F s k q left).1 F i) ∧
      (∀ i, s ≤ i → (divLoop F s k q left).2.getD i 0 = 0) ∧ (∀ j, k ≤ j → (divLoop F s k q left).1.getD j 0 = q.getD j 0) ∧ (1 ≤ k → (divLoop F s k q left).1.getD (k - 1) 0 = left.getD (k - 1 + s) 0)
  | 0, q, left, _, hq, hl, _, hz => ⟨hq, hl, fun _ => rfl, fun i hi => hz i (by omega), fun _ _ => rfl, fun h => absurd h (by omega)⟩
  | k + 1, q, left, hk, hq, hl, h0, hz => by
    have sub := subAt_getD (F := F) (l := left) (k := k) (a := left.getD (k + s) 0) (by omega)
    have ih := divLoop_spec (m := m) hF h1 k (q.set k (left.getD (k + s) 0)) (subAt left k (left.getD (k + s) 0) F) (by omega) (by rw [List.length_set]; exact hq) (by rw [subAt_len]; exact hl)
      (fun j hj => by rw [getD_set (l := q) (k := k) (by omega), if_neg (by omega)]; exact h0 j (by omega)) (fun i hi => by
        rw [sub i, if_pos (by omega)]
        by_cases e : i = k + s
        · subst e
          rw [show k + s - k = s by omega, h1]; omega
        · rw [hz i (by omega)]
          have : F.getD (i - k) 0 = 0 := by rw [List.getD_eq_getElem?_getD, List.getElem?_eq_none (by omega)]; rfl
          rw [this]; simp)
    obtain ⟨i1, i2, i3, i4, i5, i6⟩ := ih
    refine ⟨i1, i2, fun i => ?_, i4, fun j hj => ?_, fun _ => ?_⟩
    · have e := i3 i
      rw [sub i, prodC_set (by omega) (h0 k (by omega))] at e
      show _ = (divLoop F s k _ _).2.getD i 0 + prodC (divLoop F s k _ _).1 F i
      omega
    · show (divLoop F s k _ _).1.getD j 0 = _
      rw [i5 j (by omega), getD_set (by omega), if_neg (by omega)]
    · show (divLoop F s k _ _).1.getD k 0 = left.getD (k + s) 0
      rw [i5 k (Nat.le_refl _), getD_set (by omega), if_pos rfl]

theorem list_last {l : List Int} {n : Nat} (h : l.length = n + 1) (e : l.getD n 0 = 1) : ∃ h0 : List Int, l = h0 ++ [1] ∧ h0.length = n := by
  have hne : l ≠ [] := fun z => by rw [z] at h; cases h
  refine ⟨l.dropLast, ?_, by rw [List.length_dropLast]; omega⟩
  have h2 := List.dropLast_concat_getLast hne
  have : l.getLast hne = 1 := by
    rw [List.getLast_eq_getElem]
    rw [List.getD_eq_getElem?_getD, List.getElem?_eq_getElem (by omega)] at e
    simpa [h] using e
  rw [this] at h2
  exact h2.symm
theorem remF_zeros {d : Nat} {f : Nat → Int} : ∀ {x : List Int}, (∀ y, y ∈ x → y = 0) → remF d f x = fun _ => 0
  | [], _ => rfl
  | c :: x, h => by
    show stepF d f c (remF d f x) = _
    rw [h c (List.mem_cons_self ..), remF_zeros fun y hy => h y (List.mem_cons_of_mem _ hy), stepF_zero]
theorem remF_tail {d : Nat} {f : Nat → Int} {z : List Int} (hz : ∀ y, y ∈ z → y = 0) : ∀ x : List Int, remF d f (x ++ z) = remF d f x
  | [] => remF_zeros hz
  | c :: x => by show stepF d f c (remF d f (x ++ z)) = stepF d f c (remF d f x); rw [remF_tail hz x]
theorem mem_getD {l : List Int} {x : Int} (h : x ∈ l) : ∃ i, i < l.length ∧ l.getD i 0 = x := by
  obtain ⟨i, hi, e⟩ := List.mem_iff_getElem.mp h
  exact ⟨i, hi, by rw [List.getD_eq_getElem?_getD, List.getElem?_eq_getElem hi]; exact e⟩
theorem getD_ext {l m : List Int} (hl : l.length = m.length) (h : ∀ i, l.getD i 0 = m.getD i 0) : l = m := by
  apply List.ext_getElem hl
  intro i h1 h2
  have := h i
  rw [List.getD_eq_getElem?_getD, List.getElem?_eq_getElem h1, List.getD_eq_getElem?_getD, List.getElem?_eq_getElem h2] at this
  exact this

/-- the program's division of a monic polynomial by a monic one that is not longer -/
theorem divided_spec {left0 f : List Int} (hlen : f.length ≤ left0.length) : ∃ (q l : List Int), (divided (left0 ++ [1]) (f ++ [1])).1 = q ++ [1] ∧ (divided (left0 ++ [1]) (f ++ [1])).2 = trim l ∧
    q.length + f.length = left0.length ∧ l.length = left0.length + 1 ∧ left0 ++ [1] = addL intOps (gmul intOps (q ++ [1]) (f ++ [1])) l ∧ (∀ i, f.length ≤ i → l.getD i 0 = 0) := by
  have hF : (f ++ [(1 : Int)]).length = f.length + 1 := by simp
  have h1 : (f ++ [(1 : Int)]).getD f.length 0 = 1 := by rw [List.getD_eq_getElem?_getD, List.getElem?_append_right (Nat.le_refl _)]; simp
  have hL : (left0 ++ [(1 : Int)]).length = (left0.length + 1 - f.length) + f.length := by simp; omega
  obtain ⟨i1, i2, i3, i4, i5, i6⟩ := divLoop_spec (m := left0.length + 1 - f.length) hF h1 (left0.length + 1 - f.length) (List.replicate (left0.length + 1 - f.length) 0) (left0 ++ [1]) (Nat.le_refl _) (by simp) hL
    (fun j hj => by simp [List.getD_eq_getElem?_getD, List.getElem?_replicate]; split <;> rfl) (fun i hi => by rw [List.getD_eq_getElem?_getD, List.getElem?_eq_none (by omega)]; rfl)
  have e1 : (divided (left0 ++ [1]) (f ++ [1])) = (trim (divLoop (f ++ [1]) f.length (left0.length + 1 - f.length) (List.replicate (left0.length + 1 - f.length) 0) (left0 ++ [1])).1, trim (divLoop (f ++ [1]) f.length (left0.length + 1 - f.length) (List.replicate (left0.length + 1 - f.length) 0) (left0 ++ [1])).2) := by
    unfold divided
    simp
  generalize divLoop (f ++ [1]) f.length (left0.length + 1 - f.length) (List.replicate (left0.length + 1 - f.length) 0) (left0 ++ [1]) = r at *
  have top := i6 (by omega)
  rw [show left0.length + 1 - f.length - 1 + f.length = left0.length by omega] at top
  rw [show (left0 ++ [(1 : Int)]).getD left0.length 0 = 1 by rw [List.getD_eq_getElem?_getD, List.getElem?_append_right (Nat.le_refl _)]; simp] at top
  obtain ⟨q, hq, hql⟩ := list_last (n := left0.length + 1 - f.length - 1) (by omega) top
  refine ⟨q, r.2, ?_, ?_, by omega, by omega, ?_, i4⟩
  · rw [e1]
    show trim r.1 = _
    rw [hq, trim_last (by decide)]
  · rw [e1]
  · apply getD_ext
    · rw [addL_len, gmul_len _ _ (by simp) (by simp)]
      simp; omega
    · intro i
      rw [addL_getD, gmul_getD, ← hq]
      have e := i3 i
      have z : prodC (List.replicate (left0.length + 1 - f.length) 0) (f ++ [1]) i = 0 := by
        unfold prodC
        refine sumN_zero fun j _ => ?_
        have : (List.replicate (left0.length + 1 - f.length) (0 : Int)).getD j 0 = 0 := by
          simp [List.getD_eq_getElem?_getD, List.getElem?_replicate]; split <;> rfl
        rw [this]; simp
      rw [z] at e
      omega
/-- the program's test is divisibility -/
theorem divided_test {p : Int} {left0 f : List Int} (hlen : f.length ≤ left0.length) : rests p (divided (left0 ++ [1]) (f ++ [1])).2 = [] ↔ Zp p f.length (fun j => f.getD j 0) (left0 ++ [1]) := by
  obtain ⟨q, l, _, e2, _, hl, e3, hz⟩ := divided_spec hlen
  rw [e2, rests_trim_nil]
  have hs : Zp p f.length (fun j => f.getD j 0) (gmul intOps (q ++ [1]) (f ++ [1])) := Zp_mul_right (Zp_self f) _
  have er : ∀ i, i < f.length → remF f.length (fun j => f.getD j 0) l i = l.getD i 0 := fun i hi => by
    have e : l = l.take f.length ++ l.drop f.length := (List.take_append_drop ..).symm
    have hzz : ∀ y, y ∈ l.drop f.length → y = 0 := fun y hy => by
      obtain ⟨j, hj, ej⟩ := mem_getD hy
      rw [← ej, List.getD_eq_getElem?_getD, List.getElem?_drop, ← List.getD_eq_getElem?_getD]
      exact hz _ (by omega)
    conv => lhs; rw [e]
    rw [remF_tail hzz, remF_small _ (by rw [List.length_take]; omega) i hi]
    rw [List.getD_eq_getElem?_getD, List.getElem?_take_of_lt hi, ← List.getD_eq_getElem?_getD]
  constructor
  · intro h i hi
    rw [e3, remF_add]
    refine mod_add0 (hs i hi) ?_
    rw [er i hi]
    by_cases h2 : i < l.length
    · rw [List.getD_eq_getElem?_getD, List.getElem?_eq_getElem h2]
      exact h _ (List.getElem_mem h2)
    · rw [List.getD_eq_getElem?_getD, List.getElem?_eq_none (by omega)]; simp
  · intro h x hx
    obtain ⟨i, hi, ei⟩ := mem_getD hx
    by_cases h2 : i < f.length
    · have := h i h2
      rw [e3, remF_add] at this
      dsimp only at this
      rw [er i h2, Int.add_emod, hs i h2] at this
      rw [← ei]
      simpa using this
    · rw [← ei, hz i (by omega)]; simp
end K8

/-! text K8Fac -/
/-! What the factor loop finds, against the discriminant. -/
namespace K8
def chi (p : Nat) (v : Int) : Int := if v % (p : Int) = 0 then 0 else if isPlus p v = true then 1 else -1
def sg (n : Nat) : Int := if n % 2 = 0 then 1 else -1
def mu (p n : Nat) (v : Int) : Int := sg n * chi p v
def Digs (p : Nat) (h : List Int) : Prop := ∃ cs : List Nat, (∀ c, c ∈ cs → c < p) ∧ h = cs.map fun c : Nat => (c : Int)
abbrev Dsc (h : List Int) : Int := gdiscD intOps (h ++ [1])
abbrev Dv (p : Nat) (f g : List Int) : Prop := Zp (p : Int) f.length (fun j => f.getD j 0) g
abbrev EqM (p : Nat) : List Int → List Int → Prop := All2 fun a b : Int => a % (p : Int) = b % (p : Int)

structure Good (p N : Nat) : Prop where
  p2 : 2 ≤ p
  A : ∀ (f h : List Int), Digs p f → Digs p h → 1 ≤ f.length → 2 * f.length ≤ N → f.length + h.length ≤ N → chkAD intOps (tst0 p) (consts intOps p) f h = true
  B : ∀ (h : List Int), Digs p h → 1 ≤ h.length → h.length ≤ N → chkBD intOps (tst0 p) (consts intOps p) h = true
  C : ∀ (g h : List Int), EqM p g h → g.length ≤ N → chi p (Dsc g) = chi p (Dsc h)
  plus : ∀ v, isPlus p v = true → v % (p : Int) ≠ 0

section
variable {p N : Nat} (G : Good p N)
include G
theorem Good.chi_plus {v : Int} (h : isPlus p v = true) : chi p v = 1 := by unfold chi; rw [if_neg (G.plus v h), if_pos h]
omit G in
theorem chi_minus {v : Int} (h : minus (tst0 p) v = true) : chi p v = -1 := by
  have h' : ((!(v % (p : Int) == 0)) && !(isPlus p v)) = true := h
  simp only [Bool.and_eq_true, Bool.not_eq_true', beq_eq_false_iff_ne] at h'
  unfold chi
  rw [if_neg h'.1, if_neg (by rw [h'.2]; decide)]
omit G in
theorem chi_zero {v : Int} (h : ((tst0 p).isZ v) = true) : chi p v = 0 := by
  have h' : (v % (p : Int) == 0) = true := h
  unfold chi
  rw [if_pos (beq_iff_eq.mp h')]
theorem Good.rel {d : Nat} {a b : Int} (h : relA (tst0 p) d a b = true) : chi p a = - sg d * chi p b := by
  have hp : ∀ v, (tst0 p).plus v = true → chi p v = 1 := fun v q => G.chi_plus q
  unfold relA at h
  have ho : ∀ x y : Bool, (tst0 p).or_ x y = true → x = true ∨ y = true := fun x y q => Bool.or_eq_true_iff.mp q
  have ha : ∀ x y : Bool, (tst0 p).and_ x y = true → x = true ∧ y = true := fun x y q => Bool.and_eq_true_iff.mp q
  split at h
  · rename_i hd
    have e : sg d = -1 := by unfold sg; rw [if_neg (by omega)]
    rw [e]
    rcases ho _ _ h with h | h
    · obtain ⟨h1, h2⟩ := ha _ _ h; rw [hp _ h1, hp _ h2]; rfl
    · rcases ho _ _ h with h | h
      · obtain ⟨h1, h2⟩ := ha _ _ h; rw [chi_minus h1, chi_minus h2]; rfl
      · obtain ⟨h1, h2⟩ := ha _ _ h; rw [chi_zero h1, chi_zero h2]; rfl
  · rename_i hd
    have e : sg d = 1 := by unfold sg; rw [if_pos (by omega)]
    rw [e]
    rcases ho _ _ h with h | h
    · obtain ⟨h1, h2⟩ := ha _ _ h; rw [hp _ h1, chi_minus h2]; rfl
    · rcases ho _ _ h with h | h
      · obtain ⟨h1, h2⟩ := ha _ _ h; rw [chi_minus h1, hp _ h2]; rfl
      · obtain ⟨h1, h2⟩ := ha _ _ h; rw [chi_zero h1, chi_zero h2]; rfl
omit G in
theorem anyP_true {l : List Bool} (h : anyP (tst0 p) l = true) : ∃ x, x ∈ l ∧ x = true := by
  induction l with
  | nil => cases h
  | cons x l ih =>
    rcases Bool.or_eq_true_iff.mp (show (x || anyP (tst0 p) l) = true from h) with q | q
    · exact ⟨x, List.mem_cons_self .., q⟩
    · obtain ⟨y, hy, e⟩ := ih q; exact ⟨y, List.mem_cons_of_mem _ hy, e⟩
omit G in
theorem natMul_one : ∀ c : Nat, natMul intOps (1 : Int) c = (c : Int)
  | 0 => rfl
  | c + 1 => by show natMul intOps 1 c + 1 = _; rw [natMul_one c]; omega
omit G in
theorem mem_consts {x : Int} (h : x ∈ consts intOps p) : ∃ c : Nat, c < p ∧ x = (c : Int) := by
  obtain ⟨c, hc, rfl⟩ := List.mem_map.mp h
  exact ⟨c, List.mem_range.mp hc, natMul_one c⟩
omit G in
theorem digs_combos : ∀ {d : Nat} {f : List Int}, f ∈ combos (consts intOps p) d → Digs p f ∧ f.length = d
  | 0, f, h => by
    rw [List.mem_singleton.mp (show f ∈ [[]] from h)]
    exact ⟨⟨[], fun _ h => (by cases h), rfl⟩, rfl⟩
  | d + 1, f, h => by
    obtain ⟨c, hc, h2⟩ := List.mem_flatMap.mp (show f ∈ (consts intOps p).flatMap _ from h)
    obtain ⟨g, hg, rfl⟩ := List.mem_map.mp h2
    obtain ⟨⟨cs, h3, e⟩, hl⟩ := digs_combos hg
    obtain ⟨c', hc', rfl⟩ := mem_consts hc
    exact ⟨⟨c' :: cs, fun x hx => (List.mem_cons.mp hx).elim (fun q => q ▸ hc') (h3 x), by rw [e]; rfl⟩, by simp [hl]⟩
omit G in
/-- a root is a linear divisor -/
theorem eval_rem {c e : Int} (he : (c + e) % (p : Int) = 0) : ∀ g : List Int, remF 1 (fun j => [e].getD j 0) g 0 % (p : Int) = geval intOps c g % (p : Int)
  | [] => rfl
  | x :: g => by
    show (x - remF 1 _ g 0 * e) % (p : Int) = (x + c * geval intOps c g) % (p : Int)
    have ih := eval_rem he g
    have h1 : (p : Int) ∣ remF 1 (fun j => [e].getD j 0) g 0 - geval intOps c g := Int.dvd_of_emod_eq_zero (Int.emod_eq_emod_iff_emod_sub_eq_zero.mp ih)
    have h2 : (p : Int) ∣ c + e := Int.dvd_of_emod_eq_zero he
    refine Int.emod_eq_emod_iff_emod_sub_eq_zero.mpr (Int.emod_eq_zero_of_dvd ?_)
    obtain ⟨a, ha⟩ := h1
    obtain ⟨b, hb⟩ := h2
    refine ⟨-(a * e) - geval intOps c g * b, ?_⟩
    have e1 : remF 1 (fun j => [e].getD j 0) g 0 = (p : Int) * a + geval intOps c g := by omega
    rw [e1]
    have e2 : (p : Int) * (-(a * e) - geval intOps c g * b) = -((p : Int) * a * e) - geval intOps c g * ((p : Int) * b) := by grind
    rw [e2, ← hb]
    grind
omit G in
theorem Digs.monic_ne {f : List Int} : f ++ [(1 : Int)] ≠ [] := by simp
/-- the rule for a factor f of f h -/
theorem Good.step {f h g : List Int} (hf : Digs p f) (hh : Digs p h) (h1 : 1 ≤ f.length) (h2 : 2 * f.length ≤ N) (h3 : f.length + h.length ≤ N) (hg : g.length = f.length + h.length) (e : EqM p (g ++ [1]) (gmul intOps (h ++ [1]) (f ++ [1])))
    (lin : 2 ≤ f.length → ∀ a : Nat, a < p → ¬ Dv p [(a : Int)] (g ++ [1])) :
    (Dv p f (h ++ [1]) → mu p g.length (Dsc g) = 0) ∧ (¬ Dv p f (h ++ [1]) → mu p g.length (Dsc g) = - mu p h.length (Dsc h)) := by
  have fne : f ≠ [] := fun z => by rw [z] at h1; simp at h1
  -- the product's own list
  obtain ⟨q, hq, hql⟩ : ∃ q, gmul intOps (h ++ [1]) (f ++ [1]) = q ++ [1] ∧ q.length = g.length := by
    have l1 := gmul_len (f ++ [1]) (h ++ [1]) Digs.monic_ne Digs.monic_ne
    refine list_last (by rw [l1]; simp; omega) ?_
    rw [gmul_getD]
    unfold prodC
    rw [sumN_one (k := h.length) (by simp)]
    · rw [if_pos (by omega)]
      have e1 : (h ++ [(1 : Int)]).getD h.length 0 = 1 := by rw [List.getD_eq_getElem?_getD, List.getElem?_append_right (Nat.le_refl _)]; simp
      have e2 : (f ++ [(1 : Int)]).getD (g.length - h.length) 0 = 1 := by rw [show g.length - h.length = f.length by omega, List.getD_eq_getElem?_getD, List.getElem?_append_right (Nat.le_refl _)]; simp
      rw [e1, e2]; rfl
    · intro i hi hne
      have hi' : i < h.length + 1 := by simpa using hi
      split
      · have : (f ++ [(1 : Int)]).getD (g.length - i) 0 = 0 := by rw [List.getD_eq_getElem?_getD, List.getElem?_eq_none (by simp; omega)]; rfl
        rw [this]; simp
      · rfl
  rw [hq] at e
  have e' : EqM p g q := by
    have := e.dropLast
    simpa using this
  have eC := G.C g q e' (by omega)
  have eD : Dsc q = gdiscD intOps (gmul intOps (h ++ [1]) (f ++ [1])) := by rw [hq]
  rw [eD] at eC
  have chk := G.A f h hf hh h1 h2 h3
  have chk' : ((if 2 ≤ f.length then anyP (tst0 p) ((consts intOps p).map fun c => (tst0 p).isZ (geval intOps c (f ++ [1]))) else false) ||
      ((allZ (tst0 p) (grem intOps f (h ++ [1])) && (tst0 p).isZ (gdiscD intOps (gmul intOps (h ++ [1]) (f ++ [1])))) || ((!(allZ (tst0 p) (grem intOps f (h ++ [1])))) && relA (tst0 p) f.length (gdiscD intOps (gmul intOps (h ++ [1]) (f ++ [1]))) (gdiscD intOps (h ++ [1]))))) = true := chk
  have nolin : (if 2 ≤ f.length then anyP (tst0 p) ((consts intOps p).map fun c => (tst0 p).isZ (geval intOps c (f ++ [1]))) else false) = false := by
    split
    · rename_i hd
      cases hany : anyP (tst0 p) ((consts intOps p).map fun c => (tst0 p).isZ (geval intOps c (f ++ [1]))) with
      | false => rfl
      | true =>
        obtain ⟨x, hx, ex⟩ := anyP_true hany
        obtain ⟨c, hc, rfl⟩ := List.mem_map.mp hx
        obtain ⟨c', hc', rfl⟩ := mem_consts hc
        have ez : geval intOps (c' : Int) (f ++ [1]) % (p : Int) = 0 := beq_iff_eq.mp ex
        have p2 := G.p2
        have hsum : ((c' : Int) + (((p - c') % p : Nat) : Int)) % (p : Int) = 0 := by
          by_cases z : c' = 0
          · subst z
            have : ((p - 0) % p : Nat) = 0 := by rw [Nat.sub_zero, Nat.mod_self]
            rw [this]; rfl
          · have : ((p - c') % p : Nat) = p - c' := Nat.mod_eq_of_lt (by omega)
            rw [this]
            have : ((c' : Int) + ((p - c' : Nat) : Int)) = (p : Int) := by omega
            rw [this, Int.emod_self]
        refine absurd ?_ (lin hd ((p - c') % p) (Nat.mod_lt _ (by omega)))
        have hF : Dv p [(((p - c') % p : Nat) : Int)] (f ++ [1]) := fun i hi => by
          have : i = 0 := by simpa using hi
          subst this
          exact (eval_rem hsum (f ++ [1])).trans ez
        have hP : Dv p [(((p - c') % p : Nat) : Int)] (q ++ [1]) := by rw [← hq]; exact Zp_mul_right hF _
        refine Zp_congr ?_ hP
        clear hP
        have sym : ∀ {x y : List Int}, EqM p x y → EqM p y x := fun h => by
          induction h with
          | nil => exact .nil
          | cons a _ ih => exact .cons a.symm ih
        exact sym e
    · rfl
  rw [nolin, Bool.false_or] at chk'
  have dz := allZ_Zp (p := p) (g := h ++ [1]) fne
  have key : mu p g.length (Dsc g) = sg g.length * chi p (gdiscD intOps (gmul intOps (h ++ [1]) (f ++ [1]))) := by unfold mu; rw [eC]
  constructor
  · intro hd
    rw [dz.mpr hd] at chk'
    simp only [Bool.true_and, Bool.not_true, Bool.false_and, Bool.or_false] at chk'
    rw [key, chi_zero chk']; omega
  · intro hd
    have hz : allZ (tst0 p) (grem intOps f (h ++ [1])) = false := by
      cases q : allZ (tst0 p) (grem intOps f (h ++ [1])) with
      | false => rfl
      | true => exact absurd (dz.mp q) hd
    rw [hz] at chk'
    simp only [Bool.false_and, Bool.not_false, Bool.true_and, Bool.false_or] at chk'
    rw [key, G.rel chk', hg]
    unfold mu sg
    rcases Nat.mod_two_eq_zero_or_one f.length with a | a <;> rcases Nat.mod_two_eq_zero_or_one h.length with b | b
    · have c : (f.length + h.length) % 2 = 0 := by omega
      simp [a, b, c]
    · have c : (f.length + h.length) % 2 = 1 := by omega
      simp [a, b, c]
    · have c : (f.length + h.length) % 2 = 1 := by omega
      simp [a, b, c]
    · have c : (f.length + h.length) % 2 = 0 := by omega
      simp [a, b, c]
/-- what has no divisor of at most half its degree tells minus -/
theorem Good.irr {h : List Int} (hh : Digs p h) (h1 : 1 ≤ h.length) (h2 : h.length ≤ N) (nd : ∀ f : List Int, Digs p f → 1 ≤ f.length → 2 * f.length ≤ h.length → ¬ Dv p f (h ++ [1])) : mu p h.length (Dsc h) = -1 := by
  have chk : (anyP (tst0 p) ((lowers (consts intOps p) h.length).map fun f => allZ (tst0 p) (grem intOps f (h ++ [1]))) || mu1 (tst0 p) h.length (gdiscD intOps (h ++ [1]))) = true := G.B h hh h1 h2
  have no : anyP (tst0 p) ((lowers (consts intOps p) h.length).map fun f => allZ (tst0 p) (grem intOps f (h ++ [1]))) = false := by
    cases q : anyP (tst0 p) ((lowers (consts intOps p) h.length).map fun f => allZ (tst0 p) (grem intOps f (h ++ [1]))) with
    | false => rfl
    | true =>
      obtain ⟨x, hx, ex⟩ := anyP_true q
      obtain ⟨f, hf, rfl⟩ := List.mem_map.mp hx
      unfold lowers at hf
      obtain ⟨d, hd, hf⟩ := List.mem_flatMap.mp hf
      obtain ⟨df, lf⟩ := digs_combos hf
      have hd := List.mem_range.mp hd
      exact absurd ((allZ_Zp (fun z => by rw [z] at lf; simp at lf)).mp ex) (nd f df (by omega) (by omega))
  rw [no, Bool.false_or] at chk
  unfold mu
  unfold mu1 at chk
  unfold sg
  split at chk
  · rename_i ho
    rw [if_neg (by omega)]
    have := G.chi_plus (v := gdiscD intOps (h ++ [1])) chk
    show -1 * chi p (gdiscD intOps (h ++ [1])) = -1
    rw [this]; rfl
  · rename_i ho
    rw [if_pos (by omega)]
    have := chi_minus (p := p) (v := gdiscD intOps (h ++ [1])) chk
    show 1 * chi p (gdiscD intOps (h ++ [1])) = -1
    rw [this]; rfl
end
end K8

/-! text K8Loop -/
/-! The factor loop. -/
namespace K8
def w : Nat → Int
  | 0 => 1
  | 1 => -1
  | _ => 0
theorem congrHom (m : Int) : Hom intOps intOps (fun a b : Int => a % m = b % m) where
  add := fun {a b c d} h k => by show (a + c) % m = (b + d) % m; rw [Int.add_emod, h, k, ← Int.add_emod]
  sub := fun {a b c d} h k => by show (a - c) % m = (b - d) % m; rw [Int.sub_emod, h, k, ← Int.sub_emod]
  mul := fun {a b c d} h k => by show (a * c) % m = (b * d) % m; rw [Int.mul_emod, h, k, ← Int.mul_emod]
  zero := rfl
  one := rfl
theorem EqM.refl {p : Nat} : ∀ x : List Int, EqM p x x
  | [] => .nil
  | _ :: x => .cons rfl (EqM.refl x)
theorem EqM.symm' {p : Nat} {x y : List Int} (h : EqM p x y) : EqM p y x := by
  induction h with
  | nil => exact .nil
  | cons a _ ih => exact .cons a.symm ih
theorem EqM.trans' {p : Nat} {x y z : List Int} (h : EqM p x y) (k : EqM p y z) : EqM p x z := by
  induction h generalizing z with
  | nil => exact k
  | cons a _ ih => cases k with
    | cons b k => exact .cons (a.trans b) (ih k)
theorem EqM.addz {p : Nat} : ∀ {x l : List Int}, l.length = x.length → (∀ y, y ∈ l → y % (p : Int) = 0) → EqM p (addL intOps x l) x
  | [], [], _, _ => .nil
  | x :: xs, y :: l, e, h => .cons (by
      show (x + y) % (p : Int) = x % (p : Int)
      rw [Int.add_emod, h y (List.mem_cons_self ..)]; simp) (EqM.addz (Nat.succ.inj e) fun z hz => h z (List.mem_cons_of_mem _ hz))
theorem EqM.mods {p : Nat} : ∀ x : List Int, EqM p x (x.map (· % (p : Int)))
  | [] => .nil
  | x :: xs => .cons (Int.emod_emod_of_dvd x (Int.dvd_refl _)).symm (EqM.mods xs)
theorem Digs.mods {p : Nat} (hp : 2 ≤ p) (x : List Int) : Digs p (x.map (· % (p : Int))) := by
  refine ⟨x.map fun c => (c % (p : Int)).toNat, fun c hc => ?_, ?_⟩
  · obtain ⟨y, _, rfl⟩ := List.mem_map.mp hc
    have h1 := Int.emod_nonneg y (show (p : Int) ≠ 0 by omega)
    have h2 := Int.emod_lt_of_pos y (show 0 < (p : Int) by omega)
    omega
  · rw [List.map_map]
    refine List.map_congr_left fun y _ => ?_
    have h1 := Int.emod_nonneg y (show (p : Int) ≠ 0 by omega)
    show y % (p : Int) = ((y % (p : Int)).toNat : Int)
    omega
theorem rests_monic {p : Nat} (hp : 2 ≤ p) (q : List Int) : rests p (q ++ [1]) = q.map (· % (p : Int)) ++ [1] := by
  unfold rests
  have : (1 : Int) % (p : Int) = 1 := Int.emod_eq_of_lt (by decide) (by omega)
  rw [List.map_append, List.map_singleton, this, trim_last (by decide)]

theorem mem_mons {p : Nat} : ∀ {d : Nat} {b : List Int}, b ∈ mons p d ↔ Digs p b ∧ b.length = d
  | 0, b => by
    constructor
    · intro h
      rw [List.mem_singleton.mp (show b ∈ [[]] from h)]
      exact ⟨⟨[], fun _ h => (by cases h), rfl⟩, rfl⟩
    · rintro ⟨_, h⟩
      rw [List.length_eq_zero_iff.mp h]
      exact List.mem_singleton.mpr rfl
  | d + 1, b => by
    constructor
    · intro h
      obtain ⟨c, hc, h2⟩ := List.mem_flatMap.mp (show b ∈ (mons p d).flatMap _ from h)
      obtain ⟨r, hr, rfl⟩ := List.mem_map.mp h2
      obtain ⟨⟨cs, h3, e⟩, hl⟩ := mem_mons.mp hc
      exact ⟨⟨cs ++ [r], fun x hx => (List.mem_append.mp hx).elim (h3 x) fun q => by rw [List.mem_singleton.mp q]; exact List.mem_range.mp hr, by rw [e]; simp⟩, by simp [hl]⟩
    · rintro ⟨⟨cs, h3, e⟩, hl⟩
      have hcl : cs.length = d + 1 := by rw [e] at hl; simpa using hl
      have hne : cs ≠ [] := fun z => by rw [z] at hcl; cases hcl
      have h4 := List.dropLast_concat_getLast hne
      refine List.mem_flatMap.mpr ⟨cs.dropLast.map fun c : Nat => (c : Int), mem_mons.mpr ⟨⟨cs.dropLast, fun x hx => h3 x (List.dropLast_subset _ hx), rfl⟩, by simp [hcl]⟩, List.mem_map.mpr ⟨cs.getLast hne, List.mem_range.mpr (h3 _ (List.getLast_mem hne)), ?_⟩⟩
      rw [e]
      conv => rhs; rw [← h4]
      simp
theorem mem_monics {p d : Nat} {F : List Int} : F ∈ monics p d ↔ ∃ f, F = f ++ [1] ∧ Digs p f ∧ f.length = d := by
  unfold monics
  rw [List.mem_map]
  constructor
  · rintro ⟨b, hb, rfl⟩; obtain ⟨h1, h2⟩ := mem_mons.mp hb; exact ⟨b, rfl, h1, h2⟩
  · rintro ⟨f, rfl, h1, h2⟩; exact ⟨f, mem_mons.mpr ⟨h1, h2⟩, rfl⟩

section
variable {p N : Nat} (G : Good p N)
include G
abbrev Nolin (p : Nat) (f l : List Int) : Prop := 2 ≤ f.length → ∀ a : Nat, a < p → ¬ Dv p [(a : Int)] (l ++ [1])
theorem Good.dsteps {f : List Int} (hf : Digs p f) (h1 : 1 ≤ f.length) (h2 : 2 * f.length ≤ N) : ∀ (n : Nat) (l : List Int), Digs p l → l.length ≤ N → l.length < n → Nolin p f l →
    ∃ (m : Nat) (l' : List Int), dsteps p (f ++ [1]) n (l ++ [1]) = ((m : Int), l' ++ [1]) ∧ Digs p l' ∧ m * f.length + l'.length = l.length ∧ mu p l.length (Dsc l) = w m * mu p l'.length (Dsc l') ∧
      (f.length ≤ l'.length → ¬ Dv p f (l' ++ [1])) ∧ (∀ e : List Int, Dv p e (l' ++ [1]) → Dv p e (l ++ [1])) ∧ (f.length ≤ l.length → Dv p f (l ++ [1]) → 1 ≤ m) ∧ (¬ (f.length ≤ l.length ∧ Dv p f (l ++ [1])) → m = 0 ∧ l' = l)
  | 0, _, _, _, h, _ => absurd h (Nat.not_lt_zero _)
  | n + 1, l, hl, hN, hn, lin => by
    have test : ((f ++ [(1 : Int)]).length ≤ (l ++ [(1 : Int)]).length ∧ rests p (divided (l ++ [1]) (f ++ [1])).2 = []) ↔ (f.length ≤ l.length ∧ Dv p f (l ++ [1])) := by
      constructor
      · intro ⟨a, b⟩
        have a' : f.length ≤ l.length := by simpa using a
        exact ⟨a', (divided_test a').mp b⟩
      · intro ⟨a, b⟩
        exact ⟨by simpa using a, (divided_test a).mpr b⟩
    by_cases c : f.length ≤ l.length ∧ Dv p f (l ++ [1])
    · obtain ⟨q, lr, e1, e2, hq, hlr, e3, hz⟩ := divided_spec c.1
      have hr := rests_monic G.p2 q
      have hd1 : Digs p (q.map (· % (p : Int))) := Digs.mods G.p2 q
      have hl1 : (q.map (· % (p : Int))).length + f.length = l.length := by rw [List.length_map]; exact hq
      have hlz : ∀ y, y ∈ lr → y % (p : Int) = 0 := by
        have := (test.mpr c).2
        rw [e2] at this
        exact rests_trim_nil.mp this
      have eq1 : EqM p (l ++ [1]) (gmul intOps (q.map (· % (p : Int)) ++ [1]) (f ++ [1])) := by
        rw [e3]
        refine (EqM.addz (by rw [gmul_len _ _ Digs.monic_ne Digs.monic_ne]; simp; omega) hlz).trans' ?_
        exact (congrHom (p : Int)).gmul ((EqM.mods q).append (.cons rfl .nil)) (EqM.refl _)
      have st := G.step hf hd1 h1 h2 (by omega) (by omega) eq1 lin
      have up : ∀ e : List Int, Dv p e (q.map (· % (p : Int)) ++ [1]) → Dv p e (l ++ [1]) := fun e he => Zp_congr eq1.symm' (Zp_mul_left _ he)
      obtain ⟨m, l', r1, r2, r3, r4, r5, r6, r7, r8⟩ := Good.dsteps hf h1 h2 n (q.map (· % (p : Int))) hd1 (by omega) (by omega) fun hd a ha hv => lin hd a ha (up _ hv)
      refine ⟨m + 1, l', ?_, r2, by rw [Nat.succ_mul]; omega, ?_, r5, fun e he => up e (r6 e he), fun _ _ => by omega, fun z => absurd c z⟩
      · show (if (f ++ [(1 : Int)]).length ≤ (l ++ [(1 : Int)]).length ∧ rests p (divided (l ++ [1]) (f ++ [1])).2 = [] then _ else _) = _
        rw [if_pos (test.mpr c), e1, hr, r1]
        rfl
      · by_cases hv : Dv p f (q.map (· % (p : Int)) ++ [1])
        · have hle : f.length ≤ (q.map (· % (p : Int))).length := by
            by_cases hlt : f.length ≤ (q.map (· % (p : Int))).length
            · exact hlt
            · exfalso
              have := hv (q.map (· % (p : Int))).length (by omega)
              rw [remF_small _ (by simp at hlt ⊢; omega) _ (by omega), List.getD_eq_getElem?_getD, List.getElem?_append_right (Nat.le_refl _)] at this
              have p2 := G.p2
              have e1 : (1 : Int) % (p : Int) = 1 := Int.emod_eq_of_lt (by decide) (by omega)
              rw [Nat.sub_self] at this
              have this : (1 : Int) % (p : Int) = 0 := this
              omega
          have hm := r7 hle hv
          rw [st.1 hv]
          obtain ⟨m', rfl⟩ : ∃ m', m = m' + 1 := ⟨m - 1, by omega⟩
          show (0 : Int) = 0 * _
          omega
        · obtain ⟨rfl, rfl⟩ := r8 fun z => hv z.2
          rw [st.2 hv]
          show _ = (-1 : Int) * _
          omega
    · refine ⟨0, l, ?_, hl, by omega, ?_, fun a b => c ⟨a, b⟩, fun _ h => h, fun a b => absurd ⟨a, b⟩ c, fun _ => ⟨rfl, rfl⟩⟩
      · show (if (f ++ [(1 : Int)]).length ≤ (l ++ [(1 : Int)]).length ∧ rests p (divided (l ++ [1]) (f ++ [1])).2 = [] then _ else _) = _
        rw [if_neg (fun z => c (test.mp z))]
        rfl
      · show _ = 1 * _
        omega
omit G
def degs : List (List Int × Int) → Int
  | [] => 0
  | x :: r => x.2 * ((x.1.length : Int) - 1) + degs r
def prodw : List (List Int × Int) → Int
  | [] => 1
  | x :: r => w x.2.toNat * prodw r
theorem degs_app : ∀ a b, degs (a ++ b) = degs a + degs b
  | [], b => by simp [degs]
  | x :: a, b => by show _ + degs (a ++ b) = _ + degs a + _; rw [degs_app a b]; omega
theorem prodw_app : ∀ a b, prodw (a ++ b) = prodw a * prodw b
  | [], b => by simp [prodw]
  | x :: a, b => by show _ * prodw (a ++ b) = _ * prodw a * _; rw [prodw_app a b, Int.mul_assoc]
structure PInv (p N : Nat) (g : List Int) (d : Nat) (tested : List (List Int)) (st : FSt) : Prop where
  core : ∃ l, st.1 = l ++ [1] ∧ Digs p l ∧ l.length ≤ N ∧ degs st.2 + (l.length : Int) = (g.length : Int) ∧ mu p g.length (Dsc g) = prodw st.2 * mu p l.length (Dsc l) ∧
    (∀ e, Digs p e → 1 ≤ e.length → e.length < d → 2 * e.length ≤ l.length → ¬ Dv p e (l ++ [1])) ∧ (∀ f, f ++ [1] ∈ tested → 2 * d ≤ l.length → ¬ Dv p f (l ++ [1]))
  pos : ∀ x, x ∈ st.2 → 1 ≤ x.2 ∧ ∃ f, x.1 = f ++ [1] ∧ 1 ≤ f.length
include G
theorem Good.fstep {g f : List Int} {d : Nat} {tested : List (List Int)} {st : FSt} (I : PInv p N g d tested st) (hf : Digs p f) (hd : f.length = d) (h1 : 1 ≤ d) : PInv p N g d (tested ++ [f ++ [1]]) (fstep p d st (f ++ [1])) := by
  obtain ⟨⟨l, e, dl, hN, hdeg, hmu, nd, nt⟩, pos⟩ := I
  obtain ⟨s1, s2⟩ := st
  subst e
  have cond : (2 * d ≤ (l ++ [(1 : Int)]).length - 1) ↔ 2 * d ≤ l.length := by simp
  by_cases c : 2 * d ≤ l.length
  · obtain ⟨m, l', r1, r2, r3, r4, r5, r6, r7, r8⟩ := G.dsteps hf (by omega) (by omega) (l ++ [(1 : Int)]).length l dl hN (by simp) fun h2 a ha hv => nd [(a : Int)] ⟨[a], fun x hx => by rw [List.mem_singleton.mp hx]; exact ha, rfl⟩ (by simp) (by simp; omega) (by simp; omega) hv
    have ef : K8.fstep p d (l ++ [1], s2) (f ++ [1]) = (l' ++ [1], if (0 : Int) < (m : Int) then s2 ++ [(f ++ [1], (m : Int))] else s2) := by
      unfold K8.fstep
      show ((if 2 * d ≤ (l ++ [(1 : Int)]).length - 1 then K8.dsteps p (f ++ [1]) (l ++ [(1 : Int)]).length (l ++ [1]) else (0, l ++ [1])).2, _) = _
      rw [if_pos (cond.mpr c), r1]
    rw [ef]
    have hl' : l'.length ≤ l.length := by omega
    refine ⟨⟨l', rfl, r2, by omega, ?_, ?_, fun e he a b c' hv => nd e he a b (by omega) (r6 e hv), fun f' hf' h2 hv => ?_⟩, ?_⟩
    · show degs (if _ then _ else _) + _ = _
      have e3 : (m : Int) * (f.length : Int) + (l'.length : Int) = (l.length : Int) := by
        rw [← r3]; simp
      have hdeg : degs s2 + (l.length : Int) = (g.length : Int) := hdeg
      by_cases hm : (0 : Int) < (m : Int)
      · rw [if_pos hm, degs_app]
        show degs s2 + ((m : Int) * (((f ++ [(1 : Int)]).length : Int) - 1) + 0) + _ = _
        have : (((f ++ [(1 : Int)]).length : Int) - 1) = (f.length : Int) := by simp
        rw [this]; omega
      · rw [if_neg hm]
        have : m = 0 := by omega
        subst this
        simp at e3
        omega
    · show _ = prodw (if _ then _ else _) * _
      have hmu : mu p g.length (Dsc g) = prodw s2 * mu p l.length (Dsc l) := hmu
      rw [hmu, r4]
      by_cases hm : (0 : Int) < (m : Int)
      · rw [if_pos hm, prodw_app]
        show _ = prodw s2 * (w (m : Int).toNat * 1) * _
        rw [Int.toNat_natCast, Int.mul_one, Int.mul_assoc]
      · rw [if_neg hm]
        have : m = 0 := by omega
        subst this
        show _ * (1 * _) = _
        rw [Int.one_mul]
    · rcases List.mem_append.mp hf' with z | z
      · exact nt f' z (by omega) (r6 f' hv)
      · have : f' = f := by
          have := List.mem_singleton.mp z
          exact List.append_cancel_right this
        subst this
        exact r5 (by omega) hv
    · intro x hx
      have hx : x ∈ (if (0 : Int) < (m : Int) then s2 ++ [(f ++ [1], (m : Int))] else s2) := hx
      by_cases hm : (0 : Int) < (m : Int)
      · rw [if_pos hm] at hx
        rcases List.mem_append.mp hx with z | z
        · exact pos x z
        · rw [List.mem_singleton.mp z]; exact ⟨by omega, f, rfl, by omega⟩
      · rw [if_neg hm] at hx
        exact pos x hx
  · have ef : K8.fstep p d (l ++ [1], s2) (f ++ [1]) = (l ++ [1], s2) := by
      unfold K8.fstep
      show ((if 2 * d ≤ (l ++ [(1 : Int)]).length - 1 then _ else (0, l ++ [1])).2, if 0 < (if 2 * d ≤ (l ++ [(1 : Int)]).length - 1 then K8.dsteps p (f ++ [1]) (l ++ [(1 : Int)]).length (l ++ [1]) else (0, l ++ [1])).1 then _ else s2) = _
      rw [if_neg (fun z => c (cond.mp z)), if_neg (by simp)]
    rw [ef]
    exact ⟨⟨l, rfl, dl, hN, hdeg, hmu, nd, fun f' _ h2 => absurd h2 c⟩, pos⟩
theorem Good.pass {g : List Int} {d : Nat} (h1 : 1 ≤ d) : ∀ (L tested : List (List Int)) {st : FSt}, PInv p N g d tested st → (∀ F, F ∈ L → ∃ f, F = f ++ [1] ∧ Digs p f ∧ f.length = d) → PInv p N g d (tested ++ L) (L.foldl (K8.fstep p d) st)
  | [], tested, st, I, _ => by rw [List.append_nil]; exact I
  | F :: L, tested, st, I, h => by
    obtain ⟨f, rfl, hf, hd⟩ := h F (List.mem_cons_self ..)
    have := Good.pass h1 L (tested ++ [f ++ [1]]) (G.fstep I hf hd h1) fun F hF => h F (List.mem_cons_of_mem _ hF)
    rw [List.append_assoc] at this
    exact this
theorem Good.floop {g : List Int} (hN6 : N ≤ 6) : ∀ (n d : Nat) {st : FSt}, 1 ≤ d → 5 ≤ n + d → PInv p N g d [] st → ∃ d', PInv p N g d' [] (floop p n d st) ∧ ∀ l, (floop p n d st).1 = l ++ [1] → l.length < 2 * d'
  | 0, d, st, h1, h2, I => by
    refine ⟨d, I, fun l hl => ?_⟩
    obtain ⟨l', e, _, hN, _⟩ := I.core
    have : l = l' := by
      have e' : l ++ [1] = l' ++ [1] := by rw [← hl, ← e]; rfl
      exact List.append_cancel_right e'
    subst this
    omega
  | n + 1, d, st, h1, h2, I => by
    obtain ⟨l', e, dl, hN, hdeg, hmu, nd, nt⟩ := I.core
    show ∃ d', PInv p N g d' [] (if 2 * d ≤ st.1.length - 1 then K8.floop p n (d + 1) ((monics p d).foldl (K8.fstep p d) st) else st) ∧ ∀ l, (if 2 * d ≤ st.1.length - 1 then K8.floop p n (d + 1) ((monics p d).foldl (K8.fstep p d) st) else st).1 = l ++ [1] → l.length < 2 * d'
    by_cases c : 2 * d ≤ st.1.length - 1
    · rw [if_pos c]
      have P := G.pass h1 (monics p d) [] I fun F hF => mem_monics.mp hF
      rw [List.nil_append] at P
      obtain ⟨⟨l2, e2, dl2, hN2, hdeg2, hmu2, nd2, nt2⟩, pos2⟩ := P
      refine Good.floop hN6 n (d + 1) (by omega) (by omega) ⟨⟨l2, e2, dl2, hN2, hdeg2, hmu2, fun e he a b c2 => ?_, fun f hf => (by cases hf)⟩, pos2⟩
      by_cases hlt : e.length < d
      · exact nd2 e he a hlt c2
      · exact nt2 e (mem_monics.mpr ⟨e, rfl, he, by omega⟩) (by omega)
    · rw [if_neg c]
      refine ⟨d, I, fun l hl => ?_⟩
      have : l = l' := List.append_cancel_right (hl.symm.trans e)
      subst this
      rw [e] at c
      simp at c
      omega
/-- what the factors tell of the discriminant -/
theorem Good.facs {g : List Int} (hN6 : N ≤ 6) (one : chi p 1 = 1) (hg : Digs p g) (hN : g.length ≤ N) :
    (∀ x, x ∈ facsOf p (g ++ [1]) → 1 ≤ x.2 ∧ ∃ f, x.1 = f ++ [1] ∧ 1 ≤ f.length) ∧ degs (facsOf p (g ++ [1])) = (g.length : Int) ∧ mu p g.length (Dsc g) = prodw (facsOf p (g ++ [1])) := by
  have I0 : PInv p N g 1 [] (g ++ [1], []) := ⟨⟨g, rfl, hg, hN, by show (0 : Int) + _ = _; omega, by show _ = (1 : Int) * _; omega, fun e _ a b => by omega, fun f hf => (by cases hf)⟩, fun x hx => (by cases hx)⟩
  obtain ⟨d', ⟨⟨l, e, dl, hlN, hdeg, hmu, nd, nt⟩, pos⟩, hend⟩ := G.floop hN6 4 1 (by omega) (by omega) I0
  have hlt := hend l e
  have ef : facsOf p (g ++ [1]) = (K8.floop p 4 1 (g ++ [1], [])).2 ++ (if 1 < (K8.floop p 4 1 (g ++ [1], [])).1.length then [((K8.floop p 4 1 (g ++ [1], [])).1, 1)] else []) := rfl
  rw [ef, e]
  by_cases hl : 1 ≤ l.length
  · have hc : 1 < (l ++ [(1 : Int)]).length := by simp; omega
    rw [if_pos hc]
    have irr := G.irr dl hl hlN fun f hf a b => nd f hf a (by omega) b
    refine ⟨fun x hx => ?_, ?_, ?_⟩
    · rcases List.mem_append.mp hx with z | z
      · exact pos x z
      · rw [List.mem_singleton.mp z]; exact ⟨Int.le_refl 1, l, rfl, hl⟩
    · rw [degs_app]
      show _ + (1 * (((l ++ [(1 : Int)]).length : Int) - 1) + 0) = _
      have : (((l ++ [(1 : Int)]).length : Int) - 1) = (l.length : Int) := by simp
      rw [this]; omega
    · rw [prodw_app, hmu, irr]; rfl
  · have l0 : l = [] := List.length_eq_zero_iff.mp (by omega)
    subst l0
    rw [if_neg (by simp), List.append_nil]
    refine ⟨pos, by simpa using hdeg, ?_⟩
    rw [hmu]
    have : mu p ([] : List Int).length (Dsc []) = 1 := by
      unfold mu
      have : Dsc [] = 1 := by decide
      rw [this, one]; rfl
    rw [this, Int.mul_one]
end
end K8

/-! text K8Good -/
/-! The four primes; the count law. -/
namespace K8
theorem gdiscD_congr {m : Int} {x y : List Int} (h : All2 (fun a b : Int => a % m = b % m) x y) : gdiscD intOps x % m = gdiscD intOps y % m := (congrHom m).gdiscD h
theorem Dsc_congr {m : Int} {g h : List Int} (e : All2 (fun a b : Int => a % m = b % m) g h) : Dsc g % m = Dsc h % m := gdiscD_congr (e.append (.cons rfl .nil))
theorem C_of {p : Nat} (hc : ∀ v : Int, chi p v = chi p (v % (p : Int))) {g h : List Int} (e : EqM p g h) : chi p (Dsc g) = chi p (Dsc h) := by
  rw [hc (Dsc g), hc (Dsc h), Dsc_congr e]
theorem all_range {n i : Nat} {f : Nat → Bool} (h : (List.range n).all f = true) (hi : i < n) : f i = true := List.all_eq_true.mp h i (List.mem_range.mpr hi)
theorem Sys.toA {p N : Nat} (S : Sys p) (h : ∀ d k, 1 ≤ d → 2 * d ≤ N → d + k ≤ N → S.cA d k = true) (f g : List Int) (hf : Digs p f) (hg : Digs p g) (h1 : 1 ≤ f.length) (h2 : 2 * f.length ≤ N) (h3 : f.length + g.length ≤ N) :
    chkAD intOps (tst0 p) (consts intOps p) f g = true := by
  obtain ⟨fs, bf, rfl⟩ := hf
  obtain ⟨gs, bg, rfl⟩ := hg
  rw [List.length_map] at h1 h2
  rw [List.length_map, List.length_map] at h3
  exact S.A_ok (h _ _ h1 h2 h3) rfl rfl bf bg
theorem Sys.toB {p N : Nat} (S : Sys p) (h : ∀ n, 1 ≤ n → n ≤ N → S.cB n = true) (g : List Int) (hg : Digs p g) (h1 : 1 ≤ g.length) (h2 : g.length ≤ N) : chkBD intOps (tst0 p) (consts intOps p) g = true := by
  obtain ⟨gs, bg, rfl⟩ := hg
  rw [List.length_map] at h1 h2
  exact S.B_ok (h _ h1 h2) rfl bg
theorem split3 {a b c : Bool} (h : (a && b && c) = true) : a = true ∧ b = true ∧ c = true := by
  cases a <;> cases b <;> cases c <;> simp_all
theorem three {f : Nat → Nat → Bool} (h : ((List.range 6).all (f 1) && (List.range 5).all (f 2) && (List.range 4).all (f 3)) = true) : ∀ d k, 1 ≤ d → 2 * d ≤ 6 → d + k ≤ 6 → f d k = true := by
  obtain ⟨a, b, c⟩ := split3 h
  intro d k h1 h2 h3
  have : d = 1 ∨ d = 2 ∨ d = 3 := by omega
  rcases this with rfl | rfl | rfl
  · exact all_range a (by omega)
  · exact all_range b (by omega)
  · exact all_range c (by omega)
theorem two {f : Nat → Nat → Bool} (h : ((List.range 4).all (f 1) && (List.range 3).all (f 2)) = true) : ∀ d k, 1 ≤ d → 2 * d ≤ 4 → d + k ≤ 4 → f d k = true := by
  obtain ⟨a, b⟩ := Bool.and_eq_true_iff.mp h
  intro d k h1 h2 h3
  have : d = 1 ∨ d = 2 := by omega
  rcases this with rfl | rfl
  · exact all_range a (by omega)
  · exact all_range b (by omega)
theorem some_n {N : Nat} {f : Nat → Bool} (h : (List.range N).all (fun n => f (n + 1)) = true) : ∀ n, 1 ≤ n → n ≤ N → f n = true := by
  intro n h1 h2
  obtain ⟨m, rfl⟩ : ∃ m, n = m + 1 := ⟨n - 1, by omega⟩
  exact all_range (n := N) (i := m) (f := fun n => f (n + 1)) h (by omega)
theorem A3 : ∀ d k, 1 ≤ d → 2 * d ≤ 6 → d + k ≤ 6 → sys3.cA d k = true := three (f := fun d k => sys3.cA d k) runA3
theorem A5 : ∀ d k, 1 ≤ d → 2 * d ≤ 6 → d + k ≤ 6 → sys5.cA d k = true := three (f := fun d k => sys5.cA d k) runA5
theorem A2 : ∀ d k, 1 ≤ d → 2 * d ≤ 6 → d + k ≤ 6 → sys2.cA d k = true := three (f := fun d k => sys2.cA d k) runA2
theorem A7 : ∀ d k, 1 ≤ d → 2 * d ≤ 4 → d + k ≤ 4 → sys7.cA d k = true := two (f := fun d k => sys7.cA d k) runA7
theorem B3 : ∀ n, 1 ≤ n → n ≤ 6 → sys3.cB n = true := some_n (f := fun n => sys3.cB n) runB3
theorem B5 : ∀ n, 1 ≤ n → n ≤ 6 → sys5.cB n = true := some_n (f := fun n => sys5.cB n) runB5
theorem B2 : ∀ n, 1 ≤ n → n ≤ 6 → sys2.cB n = true := some_n (f := fun n => sys2.cB n) runB2
theorem B7 : ∀ n, 1 ≤ n → n ≤ 4 → sys7.cB n = true := some_n (f := fun n => sys7.cB n) runB7
theorem good3 : Good 3 6 where
  p2 := by decide
  A := sys3.toA A3
  B := sys3.toB B3
  C := fun g h e _ => C_of (fun v => by
    show (if v % 3 = 0 then (0 : Int) else if (v % 3 == 1) = true then 1 else -1) = (if v % 3 % 3 = 0 then (0 : Int) else if (v % 3 % 3 == 1) = true then 1 else -1)
    have e : v % 3 % 3 = v % 3 := by omega
    rw [e]) e
  plus := fun v h => by
    have : v % 3 = 1 := by simpa [isPlus] using h
    show v % 3 ≠ 0
    omega
theorem good5 : Good 5 6 where
  p2 := by decide
  A := sys5.toA A5
  B := sys5.toB B5
  C := fun g h e _ => C_of (fun v => by
    show (if v % 5 = 0 then (0 : Int) else if (v % 5 == 1 || v % 5 == 4) = true then 1 else -1) = (if v % 5 % 5 = 0 then (0 : Int) else if (v % 5 % 5 == 1 || v % 5 % 5 == 4) = true then 1 else -1)
    have e : v % 5 % 5 = v % 5 := by omega
    rw [e]) e
  plus := fun v h => by
    have : v % 5 = 1 ∨ v % 5 = 4 := by simpa [isPlus] using h
    show v % 5 ≠ 0
    omega
theorem good7 : Good 7 4 where
  p2 := by decide
  A := sys7.toA A7
  B := sys7.toB B7
  C := fun g h e _ => C_of (fun v => by
    show (if v % 7 = 0 then (0 : Int) else if (v % 7 == 1 || v % 7 == 2 || v % 7 == 4) = true then 1 else -1) = (if v % 7 % 7 = 0 then (0 : Int) else if (v % 7 % 7 == 1 || v % 7 % 7 == 2 || v % 7 % 7 == 4) = true then 1 else -1)
    have e : v % 7 % 7 = v % 7 := by omega
    rw [e]) e
  plus := fun v h => by
    have : (v % 7 = 1 ∨ v % 7 = 2) ∨ v % 7 = 4 := by simpa [isPlus] using h
    show v % 7 ≠ 0
    omega
/-! ### the prime 2, modulo 8 -/
theorem chi2_8 (v : Int) : chi 2 v = chi 2 (v % 8) := by
  unfold chi isPlus
  show (if v % 2 = 0 then (0 : Int) else if (v % 8 == 1) = true then 1 else -1) = if v % 8 % 2 = 0 then (0 : Int) else if (v % 8 % 8 == 1) = true then 1 else -1
  have e : v % 8 % 2 = v % 2 := by omega
  have e2 : v % 8 % 8 = v % 8 := by omega
  rw [e, e2]
theorem plus2 (v : Int) (h : isPlus 2 v = true) : v % ((2 : Nat) : Int) ≠ 0 := by
  have h : v % 8 = 1 := by simpa [isPlus] using h
  show v % 2 ≠ 0
  omega
theorem rel2 {a b : Int} (h : relA (tst0 2) 1 a b = true) : chi 2 a = chi 2 b := by
  have hp : ∀ v, (tst0 2).plus v = true → chi 2 v = 1 := fun v q => by unfold chi; rw [if_neg (plus2 v q), if_pos (show isPlus 2 v = true from q)]
  have ho : ∀ x y : Bool, (tst0 2).or_ x y = true → x = true ∨ y = true := fun x y q => Bool.or_eq_true_iff.mp q
  have ha : ∀ x y : Bool, (tst0 2).and_ x y = true → x = true ∧ y = true := fun x y q => Bool.and_eq_true_iff.mp q
  unfold relA at h
  rw [if_pos (by decide)] at h
  rcases ho _ _ h with h | h
  · obtain ⟨h1, h2⟩ := ha _ _ h; rw [hp _ h1, hp _ h2]
  · rcases ho _ _ h with h | h
    · obtain ⟨h1, h2⟩ := ha _ _ h; rw [chi_minus h1, chi_minus h2]
    · obtain ⟨h1, h2⟩ := ha _ _ h; rw [chi_zero h1, chi_zero h2]
theorem mods_congr (m : Int) : ∀ x : List Int, All2 (fun a b : Int => a % m = b % m) x (x.map (· % m))
  | [] => .nil
  | x :: xs => .cons (Int.emod_emod_of_dvd x (Int.dvd_refl _)).symm (mods_congr m xs)
theorem chi2_low (g : List Int) (h : g.length ≤ 6) : chi 2 (Dsc g) = chi 2 (Dsc (g.map (· % 2))) := by
  obtain ⟨cs, hc, e⟩ : Digs 8 (g.map (· % 8)) := Digs.mods (by decide) g
  have hl : cs.length = g.length := by have := congrArg List.length e; simpa using this.symm
  have c := C_ok (n := cs.length) (all_range runC (by omega)) rfl hc
  have c' : relA (tst0 2) 1 (Dsc (cs.map fun c : Nat => (c : Int))) (Dsc (cs.map fun c : Nat => (c : Int) % 2)) = true := c
  have r := rel2 c'
  have e1 : Dsc g % 8 = Dsc (g.map (· % 8)) % 8 := Dsc_congr (mods_congr 8 g)
  have e2 : (cs.map fun c : Nat => (c : Int) % 2) = g.map (· % 2) := by
    have : (cs.map fun c : Nat => (c : Int) % 2) = (cs.map fun c : Nat => (c : Int)).map (· % 2) := by rw [List.map_map]; rfl
    rw [this, ← e, List.map_map]
    refine List.map_congr_left fun x _ => ?_
    show x % 8 % 2 = x % 2
    omega
  rw [e2, ← e] at r
  rw [chi2_8, e1, ← chi2_8, r]
theorem good2 : Good 2 6 where
  p2 := by decide
  A := sys2.toA A2
  B := sys2.toB B2
  C := fun g h e hl => by
    rw [chi2_low g hl, chi2_low h (by have := e.length; omega)]
    congr 2
    induction e with
    | nil => rfl
    | cons a _ ih =>
      have ih := ih (by simp at hl; omega)
      rw [List.map_cons, List.map_cons, ih]
      congr 1
  plus := plus2

/-! ### the count law -/
def top (p : Nat) : Nat := if p = 7 then 4 else 6
theorem good_of {p : Nat} (hp : p = 2 ∨ p = 3 ∨ p = 5 ∨ p = 7) : Good p (top p) := by
  rcases hp with rfl | rfl | rfl | rfl
  · exact good2
  · exact good3
  · exact good5
  · exact good7
theorem w_nonneg_cases (m : Nat) (h : 1 ≤ m) : w m = if m = 1 then -1 else 0 := by
  match m, h with
  | 1, _ => rfl
  | m + 2, _ => rfl
theorem prodw_cases : ∀ (L : List (List Int × Int)), (∀ x, x ∈ L → 1 ≤ x.2) → (prodw L = 0 ∧ (∃ x, x ∈ L ∧ 1 < x.2)) ∨ (prodw L = sg L.length ∧ ∀ x, x ∈ L → x.2 = 1)
  | [], _ => .inr ⟨rfl, fun _ h => (by cases h)⟩
  | x :: L, h => by
    have h1 := h x (List.mem_cons_self ..)
    have e : w x.2.toNat = if x.2.toNat = 1 then -1 else 0 := w_nonneg_cases _ (by omega)
    rcases prodw_cases L fun y hy => h y (List.mem_cons_of_mem _ hy) with ⟨a, y, hy, hy1⟩ | ⟨a, b⟩
    · left
      refine ⟨?_, y, List.mem_cons_of_mem _ hy, hy1⟩
      show w _ * prodw L = 0
      rw [a, Int.mul_zero]
    · by_cases hx : x.2 = 1
      · right
        refine ⟨?_, fun y hy => (List.mem_cons.mp hy).elim (fun q => q ▸ hx) (b y)⟩
        show w x.2.toNat * prodw L = sg (L.length + 1)
        rw [a, hx]
        show -1 * sg L.length = _
        unfold sg
        rcases Nat.mod_two_eq_zero_or_one L.length with q | q
        · rw [if_pos q, if_neg (by omega)]; rfl
        · rw [if_neg (by omega), if_pos (by omega)]; rfl
      · left
        refine ⟨?_, x, List.mem_cons_self .., by omega⟩
        show w _ * prodw L = 0
        rw [e, if_neg (by omega), Int.zero_mul]
theorem sg_eq {a b : Nat} : sg a = sg b ↔ a % 2 = b % 2 := by
  unfold sg
  rcases Nat.mod_two_eq_zero_or_one a with h | h <;> rcases Nat.mod_two_eq_zero_or_one b with k | k <;> simp [h, k]
theorem count_law {p : Nat} (hp : p = 2 ∨ p = 3 ∨ p = 5 ∨ p = 7) {g : List Int} (hg : g.length ≤ top p) :
    (∀ x, x ∈ facsOf p (g.map (· % (p : Int)) ++ [1]) → 1 ≤ x.2 ∧ ∃ f, x.1 = f ++ [1] ∧ 1 ≤ f.length) ∧ degs (facsOf p (g.map (· % (p : Int)) ++ [1])) = (g.length : Int) ∧
    (Dsc g % (p : Int) = 0 ↔ ∃ x, x ∈ facsOf p (g.map (· % (p : Int)) ++ [1]) ∧ 1 < x.2) ∧
    (Dsc g % (p : Int) ≠ 0 → ((((g.length : Int) - ((facsOf p (g.map (· % (p : Int)) ++ [1])).length : Int)) % 2 = 0) ↔ isPlus p (Dsc g) = true)) := by
  have G := good_of hp
  have N6 : top p ≤ 6 := by unfold top; split <;> omega
  have one : chi p 1 = 1 := by rcases hp with rfl | rfl | rfl | rfl <;> decide
  have hl : (g.map (· % (p : Int))).length = g.length := List.length_map _
  obtain ⟨h1, h2, h3⟩ := G.facs N6 one (Digs.mods G.p2 g) (by omega)
  have hC := G.C g _ (mods_congr (p : Int) g) hg
  rw [hl] at h2 h3
  have h4 : mu p g.length (Dsc g) = prodw (facsOf p (g.map (· % (p : Int)) ++ [1])) := by rw [← h3]; unfold mu; rw [hC]
  generalize facsOf p (g.map (· % (p : Int)) ++ [1]) = L at *
  refine ⟨h1, h2, ?_, ?_⟩
  · rcases prodw_cases L fun x hx => (h1 x hx).1 with ⟨a, b⟩ | ⟨a, b⟩
    · refine ⟨fun _ => b, fun _ => ?_⟩
      rw [a] at h4
      by_cases z : Dsc g % (p : Int) = 0
      · exact z
      · exfalso
        unfold mu chi sg at h4
        rw [if_neg z] at h4
        split at h4 <;> split at h4 <;> simp at h4
    · constructor
      · intro z
        exfalso
        rw [a] at h4
        unfold mu chi at h4
        rw [if_pos z, Int.mul_zero] at h4
        unfold sg at h4
        split at h4 <;> simp at h4
      · rintro ⟨x, hx, hx1⟩
        have := b x hx
        omega
  · intro hz
    rcases prodw_cases L fun x hx => (h1 x hx).1 with ⟨a, b⟩ | ⟨a, b⟩
    · exfalso
      rw [a] at h4
      unfold mu chi sg at h4
      rw [if_neg hz] at h4
      split at h4 <;> split at h4 <;> simp at h4
    · rw [a] at h4
      have e : ((g.length : Int) - (L.length : Int)) % 2 = 0 ↔ sg g.length = sg L.length := by rw [sg_eq]; omega
      rw [e, ← h4]
      unfold mu chi
      rw [if_neg hz]
      by_cases q : isPlus p (Dsc g) = true
      · rw [if_pos q]; simp [q]
      · rw [if_neg q]
        simp [q]
        unfold sg
        split <;> decide
end K8

/-! text K8Elim -/
/-! The program's elimination on lists against the matrices of K8Bar. -/
namespace K8
abbrev at2 (L : List (List Int)) (i j : Nat) : Int := (L.getD i []).getD j 0
structure RelB (N k : Nat) (L : List (List Int)) (M : Mat) : Prop where
  len : L.length = N
  row : ∀ i, i < N → (L.getD i []).length = N
  val : ∀ i j, k + i < N → k + j < N → at2 L (k + i) (k + j) = M i j
  zero : ∀ i c, k ≤ i → i < N → c < k → at2 L i c = 0
theorem RelB.start {N : Nat} {L : List (List Int)} (h : L.length = N) (hr : ∀ r, r ∈ L → r.length = N) : RelB N 0 L (matOf L) := by
  refine ⟨h, fun i hi => ?_, fun i j _ _ => ?_, fun i c _ _ hc => absurd hc (Nat.not_lt_zero _)⟩
  · rw [List.getD_eq_getElem?_getD, List.getElem?_eq_getElem (by omega)]
    exact hr _ (List.getElem_mem _)
  · rw [Nat.zero_add, Nat.zero_add]; rfl
theorem getD_setL {α : Type} {l : List α} {k i : Nat} {a z : α} (hk : k < l.length) : (l.set k a).getD i z = if i = k then a else l.getD i z := by
  rw [List.getD_eq_getElem?_getD, List.getElem?_set]
  by_cases h : i = k
  · subst h; simp [hk]
  · rw [if_neg (Ne.symm h), if_neg h, List.getD_eq_getElem?_getD]
def swapL (L : List (List Int)) (a b : Nat) : List (List Int) := (L.set a (L.getD b [])).set b (L.getD a [])
theorem swapL_getD {L : List (List Int)} {a b i : Nat} (ha : a < L.length) (hb : b < L.length) : (swapL L a b).getD i [] = L.getD (if i = b then a else if i = a then b else i) [] := by
  unfold swapL
  rw [getD_setL (by rw [List.length_set]; exact hb), getD_setL ha]
  by_cases h1 : i = b
  · rw [if_pos h1, if_pos h1]
  · rw [if_neg h1, if_neg h1]
    by_cases h2 : i = a
    · rw [if_pos h2, if_pos h2]
    · rw [if_neg h2, if_neg h2]
theorem RelB.swap {N k h : Nat} {L : List (List Int)} {M : Mat} (R : RelB N k L M) (hh : k + h < N) (h0 : h ≠ 0) : RelB N k (swapL L k (k + h)) (fun i j => M (sw2 0 h i) j) := by
  have hk : k < L.length := by rw [R.len]; omega
  have hb : k + h < L.length := by rw [R.len]; exact hh
  refine ⟨by unfold swapL; rw [List.length_set, List.length_set]; exact R.len, fun i hi => ?_, fun i j hi hj => ?_, fun i c h1 h2 h3 => ?_⟩
  · rw [swapL_getD hk hb]
    refine R.row _ ?_
    split
    · omega
    · split <;> omega
  · show ((swapL L k (k + h)).getD (k + i) []).getD (k + j) 0 = _
    rw [swapL_getD hk hb]
    unfold sw2
    by_cases q1 : i = 0
    · subst q1
      rw [if_neg (by omega : ¬ k + 0 = k + h), if_pos (by omega : k + 0 = k), if_pos rfl]
      exact R.val h j hh hj
    · by_cases q2 : i = h
      · subst q2
        rw [if_pos rfl, if_neg q1, if_pos rfl]
        exact R.val 0 j (by omega) hj
      · rw [if_neg (by omega), if_neg (by omega), if_neg q1, if_neg q2]
        exact R.val i j hi hj
  · show ((swapL L k (k + h)).getD i []).getD c 0 = _
    rw [swapL_getD hk hb]
    refine R.zero _ c ?_ ?_ h3
    · split
      · omega
      · split <;> omega
    · split
      · omega
      · split <;> omega
def elimRow (h row : List Int) (k : Nat) (d : Int) : List Int := List.zipWith (fun e m => (e * h.getD k 0 - row.getD k 0 * m).fdiv d) row h
theorem elimRow_len {h row : List Int} {k : Nat} {d : Int} (e : row.length = h.length) : (elimRow h row k d).length = h.length := by
  unfold elimRow
  rw [List.length_zipWith, e, Nat.min_self]
theorem elimRow_getD {h row : List Int} {k j : Nat} {d : Int} (e : row.length = h.length) (hj : j < h.length) : (elimRow h row k d).getD j 0 = (row.getD j 0 * h.getD k 0 - row.getD k 0 * h.getD j 0).fdiv d := by
  unfold elimRow
  rw [List.getD_eq_getElem?_getD, List.getElem?_zipWith, List.getElem?_eq_getElem (by omega), List.getElem?_eq_getElem hj]
  rw [List.getD_eq_getElem?_getD (l := row) (i := j), List.getElem?_eq_getElem (by omega), List.getD_eq_getElem?_getD (l := h) (i := j), List.getElem?_eq_getElem hj]
  rfl
def passL (L : List (List Int)) (k : Nat) (d : Int) : Nat → List (List Int)
  | 0 => L
  | t + 1 => (passL L k d t).set (k + 1 + t) (elimRow (L.getD k []) (L.getD (k + 1 + t) []) k d)
theorem passL_len {L : List (List Int)} {k : Nat} {d : Int} : ∀ t, (passL L k d t).length = L.length
  | 0 => rfl
  | t + 1 => by unfold passL; rw [List.length_set]; exact passL_len t
theorem passL_getD {L : List (List Int)} {k : Nat} {d : Int} : ∀ t i, k + t < L.length → (passL L k d t).getD i [] = if k < i ∧ i ≤ k + t then elimRow (L.getD k []) (L.getD i []) k d else L.getD i []
  | 0, i, _ => by rw [if_neg (by omega)]; rfl
  | t + 1, i, h => by
    unfold passL
    rw [getD_setL (by rw [passL_len]; omega), passL_getD t i (by omega)]
    by_cases q : i = k + 1 + t
    · rw [if_pos q, if_pos (by omega), q]
    · rw [if_neg q]
      by_cases q2 : k < i ∧ i ≤ k + t
      · rw [if_pos q2, if_pos (by omega)]
      · rw [if_neg q2, if_neg (by omega)]
theorem RelB.step {N k : Nat} {L : List (List Int)} {M : Mat} {d : Int} (R : RelB N k L M) (hk : k < N) : RelB N (k + 1) (passL L k d (N - (k + 1))) (bnext M d) := by
  have hl : k + (N - (k + 1)) < L.length := by rw [R.len]; omega
  have hrow : ∀ i, i < N → (L.getD i []).length = (L.getD k []).length := fun i hi => by rw [R.row i hi, R.row k hk]
  refine ⟨by rw [passL_len]; exact R.len, fun i hi => ?_, fun i j hi hj => ?_, fun i c h1 h2 h3 => ?_⟩
  · rw [passL_getD _ _ hl]
    split
    · rw [elimRow_len (hrow i hi)]; exact R.row k hk
    · exact R.row i hi
  · show ((passL L k d (N - (k + 1))).getD (k + 1 + i) []).getD (k + 1 + j) 0 = _
    rw [passL_getD _ _ hl, if_pos (by omega), elimRow_getD (hrow _ hi) (by rw [R.row k hk]; exact hj)]
    unfold bnext chio
    have e1 := R.val (i + 1) (j + 1) (by omega) (by omega)
    have e2 := R.val 0 0 (by omega) (by omega)
    have e3 := R.val (i + 1) 0 (by omega) (by omega)
    have e4 := R.val 0 (j + 1) (by omega) (by omega)
    simp only [at2, Nat.add_zero] at e1 e2 e3 e4
    rw [show k + 1 + i = k + (i + 1) by omega, show k + 1 + j = k + (j + 1) by omega, e1, e2, e3, e4]
  · show ((passL L k d (N - (k + 1))).getD i []).getD c 0 = 0
    rw [passL_getD _ _ hl, if_pos (by omega), elimRow_getD (hrow _ h2) (by rw [R.row k hk]; omega)]
    by_cases q : c = k
    · rw [q, Int.sub_self, Int.zero_fdiv]
    · have z1 := R.zero i c (by omega) h2 (by omega)
      have z2 := R.zero k c (Nat.le_refl _) hk (by omega)
      simp only [at2] at z1 z2
      rw [z1, z2, Int.zero_mul, Int.mul_zero, Int.sub_self, Int.zero_fdiv]
theorem RelB.bound {N k : Nat} {L : List (List Int)} {M : Mat} {X : Nat} (R : RelB N k L M) (h : ∀ i j, (M i j).natAbs ≤ X) {i j : Nat} (hi : k ≤ i) (hiN : i < N) (hj : j < N) : (at2 L i j).natAbs ≤ X := by
  by_cases q : j < k
  · rw [R.zero i j hi hiN q]; exact Nat.zero_le _
  · have e := R.val (i - k) (j - k) (by omega) (by omega)
    rw [show k + (i - k) = i by omega, show k + (j - k) = j by omega] at e
    rw [e]; exact h _ _
end K8

/-! text K8LawM -/
/-! Mirrors of the law's own helpers on polynomials; the low ones' checks. -/
namespace K8
def prodL (F : List Int) : List Int → Nat → List Int → List Int
  | found, _, [] => found
  | found, k, x :: xs => prodL F (subAt found k (-x) F) (k + 1) xs
def lprod (a b : List Int) : List Int := trim (prodL b (List.replicate (a.length + b.length + 1) 0) 0 a)
def modSub (p : Int) (a : Int) : List Int → Nat → List Int → List Int
  | l, _, [] => l
  | l, k, m :: ms => modSub p a (l.set k ((l.getD k 0 - a * m) % p)) (k + 1) ms
def ldivLoop (p : Int) (F : List Int) (s : Nat) : Nat → List Int → List Int → List Int × List Int
  | 0, found, left => (found, left)
  | n + 1, found, left =>
    if s < left.length then
      let h := left.getD (left.length - 1) 0 % p
      ldivLoop p F s n (found ++ [h]) ((modSub p h left (left.length - 1 - s) F).dropLast)
    else (found, left)
def ldivided (p : Int) (g F : List Int) : List Int × List Int :=
  let r := ldivLoop p F (F.length - 1) g.length [] g
  (trim r.1.reverse, trim r.2)
def ltimes (p : Int) (a b low : List Int) : List Int := (ldivided p (rests p (lprod a b)) low).2
def ltimesN (p : Int) (f low : List Int) : Nat → List Int → List Int
  | 0, here => here
  | n + 1, here => ltimesN p f low n (ltimes p here f low)
def raisedN (p : Nat) (low : List Int) : Nat → List Int → List Int
  | 0, f => f
  | n + 1, f => raisedN p low n (ltimesN p f low p [1])
def lraised (p : Nat) (low : List Int) (n : Nat) : List Int := raisedN p low n (ldivided p [0, 1] low).2
/-- the law's steps by one divisor: (left, many) -/
def lsteps (p : Int) (F : List Int) : Nat → List Int → Int → List Int × Int
  | 0, left, many => (left, many)
  | n + 1, left, many => if (ldivided p left F).2 = [] ∧ F.length - 1 < left.length then lsteps p F n (ldivided p left F).1 (many + 1) else (left, many)
def lfstep (p : Int) (st : FSt) (F : List Int) : FSt :=
  let r := lsteps p F st.1.length st.1 0
  (r.1, if 0 < r.2 then st.2 ++ [(F, r.2)] else st.2)
def lfloop (p : Nat) : Nat → Nat → FSt → FSt
  | 0, _, st => st
  | n + 1, d, st => if 2 * d ≤ st.1.length - 1 then lfloop p n (d + 1) ((monics p d).foldl (lfstep p) st) else st
def lfound (p : Nat) (g : List Int) : List (List Int × Int) :=
  let st := lfloop p 4 1 (g, [])
  if 1 < st.1.length then st.2 ++ [(st.1, 1)] else st.2
/-- the dict of the law: the counts by key, in the order of their first coming -/
def dput (k : List Int) (v : Int) : List (List Int × Int) → List (List Int × Int)
  | [] => [(k, v)]
  | (k', v') :: r => if k' = k then (k', v) :: r else (k', v') :: dput k v r
def dgetD (k : List Int) (d : Int) : List (List Int × Int) → Int
  | [] => d
  | (k', v') :: r => if k' = k then v' else dgetD k d r
def gath (l : List (List Int × Int)) : List (List Int × Int) := l.foldl (fun acc x => dput x.1 (dgetD x.1 0 acc + x.2) acc) []
def irrL' (l : List (List Int × Int)) : Bool := decide (l.length = 1) && decide ((l.getD 0 ([], 0)).2 = 1)
def lexL : List Int → List Int → Bool
  | [], [] => false
  | [], _ :: _ => true
  | _ :: _, [] => false
  | x :: xs, y :: ys => if x = y then lexL xs ys else decide (x < y)
def lowF (p d : Nat) : Option (List Int) := (mons p d).find? fun b => irrL' (facsOf p (b.map (· % (p : Int)) ++ [1]))
def lowRight (p d : Nat) : Bool := match lowF p d with
  | none => false
  | some b => if d = 1 then decide (b ++ [1] = [0, 1]) else
    decide (b.length = d) && irrL' (facsOf p (b.map (· % (p : Int)) ++ [1])) && decide (lraised p (b ++ [1]) d = [0, 1]) &&
    (List.range (d - 1)).all (fun i => !(decide (d % (i + 1) = 0) && decide (lraised p (b ++ [1]) (i + 1) = [0, 1]))) &&
    ((monics p d).filter fun x => lexL x (b ++ [1])).all fun x => !irrL' (gath (lfound p x))
def pairsL : List (Nat × Nat) := [(2, 1), (2, 2), (2, 3), (2, 4), (2, 5), (2, 6), (3, 2), (3, 3), (5, 1), (5, 2), (7, 2), (7, 1)]
theorem lowRight_all : pairsL.all (fun x => lowRight x.1 x.2) = true := by decide +kernel
theorem low_three : lowF 2 3 = some [1, 0, 1] ∧ lowF 3 2 = some [1, 0] ∧ lowF 5 2 = some [1, 1] := by decide +kernel
end K8

/-! text K8Ev -/
set_option Elab.async false
set_option linter.all false
set_option maxRecDepth 100000
set_option maxHeartbeats 4000000
/-! What readings evaluate to, told by data (PyData); tables of code objects may grow. -/
namespace KW
open PySem PySem.Spec PyProof.Rows L2
/-! data whose lists and tuples are all told by the abstract heap itself -/
mutual
inductive Dp (K : PySem.W.Frag) (H : Hp) : V → PyData → Prop
  | non : Dp K H .non .none
  | bl (b : Bool) : Dp K H (.bl b) (.bool b)
  | int (i : Int) : Dp K H (.int i) (.int i)
  | str (x : Str) : Dp K H (.str x) (.str x)
  | lst {a : Addr} {xs : List V} {ds : List PyData} : H a = some (.lst xs) → DpAll K H xs ds → Dp K H (.ref a) (.list ds)
  | tup {a : Addr} {xs : List V} {ds : List PyData} : H a = some (.tup xs) → DpAll K H xs ds → Dp K H (.ref a) (.tuple ds)
inductive DpAll (K : PySem.W.Frag) (H : Hp) : List V → List PyData → Prop
  | nil : DpAll K H [] []
  | cons {v : V} {vs : List V} {d : PyData} {ds : List PyData} : Dp K H v d → DpAll K H vs ds → DpAll K H (v :: vs) (d :: ds)
end
mutual
theorem Dp.kit {K : PySem.W.Frag} {H : Hp} : ∀ (d : PyData) (v : V), Dp K H v d → L2.Dp K H v d
  | .none, _, h => by cases h; exact .non
  | .bool b, _, h => by cases h; exact .bl b
  | .int i, _, h => by cases h; exact .int i
  | .str x, _, h => by cases h; exact .str x
  | .list ds, _, h => by cases h with | lst h1 h2 => exact .lst (.inl (.inl h1)) (DpAll.kit ds _ h2)
  | .tuple ds, _, h => by cases h with | tup h1 h2 => exact .tup (.inl (.inl h1)) (DpAll.kit ds _ h2)
  | .dict _, _, h => by cases h
theorem DpAll.kit {K : PySem.W.Frag} {H : Hp} : ∀ (ds : List PyData) (vs : List V), DpAll K H vs ds → L2.DpAll K H vs ds
  | [], _, h => by cases h; exact .nil
  | d :: ds, _, h => by cases h with | cons h1 h2 => exact .cons (Dp.kit d _ h1) (DpAll.kit ds _ h2)
end
section
variable {K : PySem.W.Frag} {H : Hp}
theorem DpAll.length : ∀ {vs : List V} {ds : List PyData}, DpAll K H vs ds → vs.length = ds.length
  | _, _, .nil => rfl
  | _, _, .cons _ h => congrArg Nat.succ (DpAll.length h)
theorem DpAll.append : ∀ {vs ws : List V} {ds es : List PyData}, DpAll K H vs ds → DpAll K H ws es → DpAll K H (vs ++ ws) (ds ++ es)
  | _, _, _, _, .nil, h => h
  | _, _, _, _, .cons a h, k => .cons a (DpAll.append h k)
theorem DpAll.get : ∀ {vs : List V} {ds : List PyData} {i : Nat} {d : PyData}, DpAll K H vs ds → ds[i]? = some d → ∃ v, vs[i]? = some v ∧ Dp K H v d
  | _, _, _, _, .nil, h => by simp at h
  | _, _, 0, _, .cons a _, h => ⟨_, rfl, by cases h; exact a⟩
  | _, _, i + 1, _, .cons _ t, h => DpAll.get (i := i) t (by simpa using h)
theorem DpAll.get' : ∀ {vs : List V} {ds : List PyData} {i : Nat} {v : V}, DpAll K H vs ds → vs[i]? = some v → ∃ d, ds[i]? = some d ∧ Dp K H v d
  | _, _, _, _, .nil, h => by simp at h
  | _, _, 0, _, .cons a _, h => ⟨_, rfl, by cases h; exact a⟩
  | _, _, i + 1, _, .cons _ t, h => DpAll.get' (i := i) t (by simpa using h)
theorem DpAll.take : ∀ {vs : List V} {ds : List PyData} (n : Nat), DpAll K H vs ds → DpAll K H (vs.take n) (ds.take n)
  | _, _, 0, _ => .nil
  | _, _, n + 1, .nil => .nil
  | _, _, n + 1, .cons a h => .cons a (DpAll.take n h)
theorem DpAll.drop : ∀ {vs : List V} {ds : List PyData} (n : Nat), DpAll K H vs ds → DpAll K H (vs.drop n) (ds.drop n)
  | _, _, 0, h => h
  | _, _, n + 1, .nil => .nil
  | _, _, n + 1, .cons a h => DpAll.drop n h
theorem DpAll.reverse : ∀ {vs : List V} {ds : List PyData}, DpAll K H vs ds → DpAll K H vs.reverse ds.reverse
  | _, _, .nil => .nil
  | _, _, .cons a h => by rw [List.reverse_cons, List.reverse_cons]; exact (DpAll.reverse h).append (.cons a .nil)
theorem DpAll.set {v : V} {d : PyData} (hv : Dp K H v d) : ∀ {vs : List V} {ds : List PyData} (n : Nat), DpAll K H vs ds → DpAll K H (vs.set n v) (ds.set n d)
  | _, _, _, .nil => .nil
  | _, _, 0, .cons _ h => .cons hv h
  | _, _, n + 1, .cons a h => .cons a (DpAll.set hv n h)
theorem DpAll.snoc {vs : List V} {ds : List PyData} {v : V} {d : PyData} (h : DpAll K H vs ds) (hv : Dp K H v d) : DpAll K H (vs ++ [v]) (ds ++ [d]) := h.append (.cons hv .nil)
theorem DpAll.ints : ∀ {vs : List V} {ns : List Int}, DpAll K H vs (ns.map PyData.int) → vs = ns.map V.int
  | _, [], h => by cases h; rfl
  | _, n :: ns, h => by cases h with | cons a h => cases a; rw [DpAll.ints h]; rfl
theorem DpAll.of_ints : ∀ (ns : List Int), DpAll K H (ns.map V.int) (ns.map PyData.int)
  | [] => .nil
  | n :: ns => .cons (.int n) (DpAll.of_ints ns)
theorem DpAll.bools : ∀ {vs : List V} {ns : List Bool}, DpAll K H vs (ns.map PyData.bool) → vs = ns.map V.bl
  | _, [], h => by cases h; rfl
  | _, n :: ns, h => by cases h with | cons a h => cases a; rw [DpAll.bools h]; rfl
end
end KW
namespace KW
open PySem PySem.Spec PyProof.Rows L2 StX
abbrev Tb := List (Addr × Str)
structure Ex (T : Tb) (H H' : Hp) : Prop where
  keep : ∀ a o, H a = some o → (∀ ps, o ≠ .tbl ps) → H' a = some o
  tabs : LamX.Tabs T H'
  free : ∀ {a}, H' a = none → H a = none
  tb : ∀ {a ps}, H a = some (.tbl ps) → ∃ ps', H' a = some (.tbl ps')
section
variable {T : Tb} {K : PySem.W.Frag} {H H' H1 H2 : Hp}
theorem Ex.start (t : LamX.Tabs T H) : Ex T H H := ⟨fun _ _ h _ => h, t, fun h => h, fun h => ⟨_, h⟩⟩
theorem Ex.refl (e : Ex T H H') : Ex T H' H' := .start e.tabs
theorem Ex.trans (a : Ex T H H1) (b : Ex T H1 H2) : Ex T H H2 := ⟨fun x o h n => b.1 x o (a.1 x o h n) n, b.2, fun h => a.3 (b.3 h), fun h => by
  obtain ⟨_, z⟩ := a.tb h
  exact b.tb z⟩
theorem Ex.of (t : LamX.Tabs T H) (e : ∀ a o, H a = some o → H' a = some o) : Ex T H H' := ⟨fun a o h _ => e a o h, t.ext e, fun {a} h => by
  cases q : H a with
  | none => rfl
  | some o => exact absurd ((e a o q).symm.trans h) (by simp), fun h => ⟨_, e _ _ h⟩⟩
theorem Ex.new {p : Addr} {o : HO} (e : Ex T H H1) (h : H1 p = none) : Ex T H (upd H1 p o) := e.trans (.of e.tabs fun a u e => by
  rw [upd_ne (ne_of_none e h)]
  exact e)
theorem tabs_upd {p : Addr} {o : HO} {xs : List V} (h : H p = some (.lst xs)) (t : LamX.Tabs T H) : LamX.Tabs T (upd H p o) := fun q hq => by
  obtain ⟨ps, h1, h2, h3⟩ := t q hq
  refine ⟨ps, by rw [upd_ne (ne_of h1 h (by intro z; cases z))]; exact h1, h2, fun pos cv hc => ?_⟩
  obtain ⟨c, e1, e2⟩ := h3 pos cv hc
  exact ⟨c, e1, by rw [upd_ne (ne_of e2 h (by unfold LamX.CodeO; intro z; cases z))]; exact e2⟩
/-- a list that H does not know is changed -/
theorem Ex.mut {p : Addr} {o : HO} {xs : List V} (e : Ex T H H') (h : H p = none) (h' : H' p = some (.lst xs)) : Ex T H (upd H' p o) :=
  ⟨fun a u ha n => by rw [upd_ne (ne_of_none ha h)]; exact e.1 a u ha n, tabs_upd h' e.2, fun {a} z => by
    by_cases q : a = p
    · rw [q, upd_same] at z; cases z
    · rw [upd_ne q] at z; exact e.3 z, fun {a ps} z => by
    obtain ⟨ps', q⟩ := e.tb z
    exact ⟨ps', by rw [upd_ne (ne_of_none z h)]; exact q⟩⟩
theorem Ex.lst {p : Addr} {xs : List V} (e : Ex T H H') (h : H p = some (.lst xs)) : H' p = some (.lst xs) := e.1 _ _ h (by intro _ z; cases z)
theorem Ex.tup {p : Addr} {xs : List V} (e : Ex T H H') (h : H p = some (.tup xs)) : H' p = some (.tup xs) := e.1 _ _ h (by intro _ z; cases z)
end
/-- what H knows is so in H' (tables of code objects left out) -/
def Sub (H H' : Hp) : Prop := ∀ a o, H a = some o → (∀ ps, o ≠ .tbl ps) → H' a = some o
open Classical in
/-- of H2 what H knows or what is new since H1 -/
noncomputable def rest (H H1 H2 : Hp) : Hp := fun a => if (H a).isSome = true ∨ H1 a = none then H2 a else none
open Classical in
noncomputable def hide (p : Addr) (H : Hp) : Hp := fun a => if a = p then none else H a
section
variable {T : Tb} {K : PySem.W.Frag} {H H' H1 H2 H3 H4 H5 : Hp} {p : Addr}
theorem Ex.sub (e : Ex T H H') : Sub H H' := e.keep
theorem Sub.refl (H : Hp) : Sub H H := fun _ _ h _ => h
theorem Sub.trans (a : Sub H H1) (b : Sub H1 H2) : Sub H H2 := fun x o h n => b x o (a x o h n) n
theorem rest_le : Sub (rest H H1 H2) H2 := fun a o h _ => by
  unfold rest at h
  split at h
  · exact h
  · cases h
theorem rest_fwd (s : Sub H2 H3) : Sub (rest H H1 H2) (rest H H1 H3) := fun a o h n => by
  unfold rest at h ⊢
  split at h
  · rename_i c; rw [if_pos c]; exact s a o h n
  · cases h
theorem rest_back (f : ∀ {a}, H2 a = none → H1 a = none) : Sub (rest H H2 H3) (rest H H1 H3) := fun a o h _ => by
  unfold rest at h ⊢
  split at h
  · rename_i c; rw [if_pos (c.imp id f)]; exact h
  · cases h
theorem rest_base (f : ∀ {a}, H' a = none → H a = none) : Sub (rest H H1 H2) (rest H' H1 H2) := fun a o h _ => by
  unfold rest at h ⊢
  split at h
  · rename_i c
    rw [if_pos (c.imp (fun z => by
      cases q : H' a with
      | none => rw [f q] at z; cases z
      | some u => rfl) id)]
    exact h
  · cases h
theorem sub_rest (s : Sub H H2) : Sub H (rest H H1 H2) := fun a o h n => by
  unfold rest
  rw [if_pos (.inl (by rw [h]; rfl))]
  exact s a o h n
theorem rest_pos {a : Addr} (c : (H a).isSome = true ∨ H1 a = none) : rest H H1 H2 a = H2 a := if_pos c
theorem rest_neg {a : Addr} (c : ¬ ((H a).isSome = true ∨ H1 a = none)) : rest H H1 H2 a = none := if_neg c
theorem rest_rest (f : ∀ {a}, H3 a = none → H1 a = none) : Sub (rest (rest H H1 H2) H3 H5) (rest H H1 H5) := fun a o h _ => by
  by_cases c : ((rest H H1 H2) a).isSome = true ∨ H3 a = none
  · rw [rest_pos c] at h
    have c2 : (H a).isSome = true ∨ H1 a = none := by
      rcases c with c | c
      · by_cases c2 : (H a).isSome = true ∨ H1 a = none
        · exact c2
        · rw [rest_neg c2] at c; cases c
      · exact .inr (f c)
    rw [rest_pos c2]
    exact h
  · rw [rest_neg c] at h; cases h
theorem ex_rest (e : Ex T H1 H2) : Ex T (rest H H1 H2) H2 := ⟨rest_le, e.tabs, fun {a} h => by
  unfold rest
  split
  · exact h
  · rfl, fun {a ps} h => by
  unfold rest at h
  split at h
  · exact ⟨ps, h⟩
  · cases h⟩
theorem rest_none (h : H p = none) (h1 : H1 p ≠ none) : rest H H1 H2 p = none := by
  unfold rest
  rw [if_neg]
  rintro (z | z)
  · rw [h] at z; cases z
  · exact h1 z
theorem rest_new (h1 : H1 p = none) : rest H H1 H2 p = H2 p := by
  unfold rest
  rw [if_pos (.inr h1)]
theorem rest_free (h : H2 p = none) : rest H H1 H2 p = none := by
  unfold rest
  split
  · exact h
  · rfl
theorem hide_le : Sub (hide p H) H := fun a o h _ => by
  unfold hide at h
  split at h
  · cases h
  · exact h
theorem hide_p : hide p H p = none := by unfold hide; rw [if_pos rfl]
theorem hide_ne {a : Addr} (h : a ≠ p) : hide p H a = H a := by unfold hide; rw [if_neg h]
theorem sub_hide (s : Sub H H') (h : H p = none) : Sub H (hide p H') := fun a o e n => by
  rw [hide_ne (ne_of_none e h)]
  exact s a o e n
theorem hide_mono (s : Sub H H') : Sub (hide p H) (hide p H') := fun a o e n => by
  unfold hide at e ⊢
  split at e
  · cases e
  · rename_i c; rw [if_neg c]; exact s a o e n
theorem sub_upd (s : Sub H H') (h : H p = none) {o : HO} : Sub H (upd H' p o) := fun a u e n => by
  rw [upd_ne (ne_of_none e h)]
  exact s a u e n
theorem ex_hide (e : Ex T H H') : Ex T (hide p H) H' := ⟨hide_le.trans e.sub, e.tabs, fun {a} h => by
  unfold hide
  split
  · rfl
  · exact e.free h, fun {a ps} h => by
  unfold hide at h
  split at h
  · cases h
  · exact e.tb h⟩
theorem Sub.rd {a : Addr} {u : HO} (n : ∀ ps, u ≠ .tbl ps) (e : Sub H H') (h : Rd H a u) : Rd H' a u := by
  rcases h with h | ⟨o, h⟩
  · exact Or.inl (e a _ h n)
  · exact Or.inr ⟨o, e a _ h (by intro _ z; cases z)⟩
theorem Sub.sql {a : Addr} {xs : List V} (e : Sub H H') (h : SqL K H a xs) : SqL K H' a xs := by
  rcases h with h | h
  · exact Or.inl (e.rd (by intro _ z; cases z) h)
  · exact Or.inr h
theorem Sub.sqt {a : Addr} {xs : List V} (e : Sub H H') (h : SqT K H a xs) : SqT K H' a xs := by
  rcases h with h | h
  · exact Or.inl (e.rd (by intro _ z; cases z) h)
  · exact Or.inr h
mutual
theorem Dp.sub (e : Sub H H') : ∀ (d : PyData) (v : V), Dp K H v d → Dp K H' v d
  | .none, _, h => by cases h; exact .non
  | .bool b, _, h => by cases h; exact .bl b
  | .int i, _, h => by cases h; exact .int i
  | .str x, _, h => by cases h; exact .str x
  | .list ds, _, h => by cases h with | lst h1 h2 => exact .lst (e _ _ h1 (by intro _ z; cases z)) (DpAll.sub e ds _ h2)
  | .tuple ds, _, h => by cases h with | tup h1 h2 => exact .tup (e _ _ h1 (by intro _ z; cases z)) (DpAll.sub e ds _ h2)
  | .dict _, _, h => by cases h
theorem DpAll.sub (e : Sub H H') : ∀ (ds : List PyData) (vs : List V), DpAll K H vs ds → DpAll K H' vs ds
  | [], _, h => by cases h; exact .nil
  | d :: ds, _, h => by cases h with | cons h1 h2 => exact .cons (Dp.sub e d _ h1) (DpAll.sub e ds _ h2)
end
theorem Dp.int_inv {v : V} {i : Int} (h : Dp K H v (.int i)) : v = .int i := by cases h; rfl
theorem Dp.bool_inv {v : V} {b : Bool} (h : Dp K H v (.bool b)) : v = .bl b := by cases h; rfl
theorem Dp.list_inv {v : V} {ds : List PyData} (h : Dp K H v (.list ds)) : ∃ a xs, v = .ref a ∧ SqL K H a xs ∧ DpAll K H xs ds := by cases h with | lst a b => exact ⟨_, _, rfl, .inl (.inl a), b⟩
theorem Dp.tuple_inv {v : V} {ds : List PyData} (h : Dp K H v (.tuple ds)) : ∃ a xs, v = .ref a ∧ SqT K H a xs ∧ DpAll K H xs ds := by cases h with | tup a b => exact ⟨_, _, rfl, .inl (.inl a), b⟩
theorem Dp.tuple_invS {v : V} {ds : List PyData} (h : Dp K H v (.tuple ds)) : ∃ a xs, v = .ref a ∧ H a = some (.tup xs) ∧ DpAll K H xs ds := by cases h with | tup a b => exact ⟨_, _, rfl, a, b⟩
theorem atI_dp {vs : List V} {ds : List PyData} {i : Int} {d : PyData} (h : DpAll K H vs ds) (e : atI ds i = some d) : ∃ v, atI vs i = some v ∧ Dp K H v d := by
  unfold atI at e ⊢
  rw [h.length]
  cases q : ixN ds.length i with
  | none => rw [q] at e; cases e
  | some j =>
    rw [q] at e
    obtain ⟨v, h1, h2⟩ := h.get (i := j) e
    exact ⟨v, h1, h2⟩
end

/-! ### judgements -/
section
variable (K : PySem.W.Frag) (T : Tb)
def Ev (te : TE) (σ : L2.St) (H : Hp) (v : V) : Prop := ∀ H1, Ex T H H1 → ∀ Q : VK, (∀ H2, Ex T H1 H2 → Q v H2) → te σ H1 Q
def EvD (te : TE) (σ : L2.St) (H : Hp) (d : PyData) : Prop := ∀ H1, Ex T H H1 → ∀ Q : VK, (∀ v H2, Ex T H1 H2 → Dp K (rest H H1 H2) v d → Q v H2) → te σ H1 Q
/-- a new list of these data -/
def EvN (te : TE) (σ : L2.St) (H : Hp) (ds : List PyData) : Prop := ∀ H1, Ex T H H1 → ∀ Q : VK, (∀ p xs H2, H1 p = none → Ex T H1 H2 → H2 p = some (.lst xs) → DpAll K (hide p (rest H H1 H2)) xs ds → Q (.ref p) H2) → te σ H1 Q
def EvT (tt : TT) (σ : L2.St) (H : Hp) (b : Bool) : Prop := ∀ H1, Ex T H H1 → ∀ Q : Bool → Hp → Prop, (∀ H2, Ex T H1 H2 → Q b H2) → tt σ H1 Q
def EvA (ta : TA) (σ : L2.St) (H : Hp) (ds : List PyData) : Prop := ∀ H1, Ex T H H1 → ∀ Q : List V → Hp → Prop, (∀ vs H2, Ex T H1 H2 → DpAll K (rest H H1 H2) vs ds → Q vs H2) → ta σ H1 Q
def EvO (to : TO) (σ : L2.St) (H : Hp) (o : Option Int) : Prop := ∀ H1, Ex T H H1 → ∀ Q : Option Int → Hp → Prop, (∀ H2, Ex T H1 H2 → Q o H2) → to σ H1 Q
def RV (r : R2) (x y : V) (z : V) : Prop := ∀ H1 (Q : VK), Q z H1 → r x y H1 Q
/-- a pure def's promise: from data to data -/
def spR (n : Nat) (R : List PyData → PyData → Prop) : Sp := fun vs H Q _ => vs.length = n ∧ LamX.Tabs T H ∧ ∃ (Hx : Hp) (ds : List PyData) (r : PyData), Ex T Hx H ∧ DpAll K Hx vs ds ∧ R ds r ∧ ∀ H' v, Ex T H H' → Dp K (rest Hx H H') v r → Q v H'
end
section
variable {K : PySem.W.Frag} {T : Tb} {σ : L2.St} {H H' : Hp} {ta tb te tx : TE} {t u : TT} {x y z v : V} {d d' d1 d2 : PyData} {ds es : List PyData} {i j : Int} {b c : Bool} {tr tr' : TA}
theorem Ev.mono (e : Ex T H H') (h : Ev T te σ H v) : Ev T te σ H' v := fun H1 a Q q => h H1 (e.trans a) Q q
theorem EvD.mono (e : Ex T H H') (h : EvD K T te σ H d) : EvD K T te σ H' d := fun H1 a Q q => h H1 (e.trans a) Q fun v H2 e2 k => q v H2 e2 (Dp.sub (rest_base e.free) _ _ k)
theorem EvT.mono (e : Ex T H H') (h : EvT T t σ H b) : EvT T t σ H' b := fun H1 a Q q => h H1 (e.trans a) Q q
theorem ev_var {i : Nat} (h : σ[i]? = some (some v)) : Ev T (tVar i) σ H v := fun H1 e _ q => ⟨v, h, q H1 e.refl⟩
theorem ev_c : Ev T (tC v) σ H v := fun H1 e _ q => q H1 e.refl
theorem ed_of (h : Ev T te σ H v) (k : Dp K H v d) : EvD K T te σ H d := fun H1 e Q q => h H1 e _ fun H2 e2 => q v H2 e2 (Dp.sub (sub_rest (e.trans e2).sub) d v k)
theorem ed_var {i : Nat} (h : σ[i]? = some (some v)) (k : Dp K H v d) : EvD K T (tVar i) σ H d := ed_of (ev_var h) k
theorem ed_vari {i : Nat} {n : Int} (h : σ[i]? = some (some (.int n))) : EvD K T (tVar i) σ H (.int n) := ed_of (ev_var h) (.int n)
theorem ed_int (h : Ev T te σ H (.int i)) : EvD K T te σ H (.int i) := ed_of h (.int i)
theorem ed_bool (h : Ev T te σ H (.bl b)) : EvD K T te σ H (.bool b) := ed_of h (.bl b)
theorem ei (h : EvD K T te σ H (.int i)) : Ev T te σ H (.int i) := fun H1 e Q q => h H1 e _ fun v H2 e2 k => by rw [Dp.int_inv k]; exact q H2 e2
theorem eb (h : EvD K T te σ H (.bool b)) : Ev T te σ H (.bl b) := fun H1 e Q q => h H1 e _ fun v H2 e2 k => by rw [Dp.bool_inv k]; exact q H2 e2
theorem new_dp {p : Addr} {xs : List V} {H H1 H2 : Hp} (h1 : H1 p = none) (hp : H2 p = some (.lst xs)) (hd : DpAll K (hide p (rest H H1 H2)) xs ds) : Dp K (rest H H1 H2) (.ref p) (.list ds) := .lst ((by rw [rest_new h1]; exact hp)) (DpAll.sub hide_le _ _ hd)
theorem ed_new (h : EvN K T te σ H ds) : EvD K T te σ H (.list ds) := fun H1 e Q q => h H1 e _ fun p xs H2 h1 e2 hp hd => q _ H2 e2 (new_dp h1 hp hd)
theorem ed_is (h : EvD K T te σ H d) (e : d = d') : EvD K T te σ H d' := e ▸ h
theorem ev_is (h : Ev T te σ H v) (e : v = z) : Ev T te σ H z := e ▸ h
theorem et_is (h : EvT T t σ H b) (e : b = c) : EvT T t σ H c := e ▸ h
theorem en_is (h : EvN K T te σ H ds) (e : ds = es) : EvN K T te σ H es := e ▸ h
theorem ev_op {r : R2} (ha : Ev T ta σ H x) (hb : Ev T tb σ H y) (hr : RV r x y z) : Ev T (tOp r ta tb) σ H z := fun H1 e Q q =>
  ha H1 e _ fun H2 e2 => hb H2 (e.trans e2) _ fun H3 e3 => hr H3 Q (q H3 (e2.trans e3))
theorem ev_un {r : V → Hp → VK → Prop} (ha : Ev T ta σ H x) (hr : ∀ H1 (Q : VK), Q z H1 → r x H1 Q) : Ev T (tUn r ta) σ H z := fun H1 e Q q =>
  ha H1 e _ fun H2 e2 => hr H2 Q (q H2 e2)
theorem ev_neg (ha : Ev T ta σ H (.int i)) : Ev T (tUn (rU fun i => .int (-i)) ta) σ H (.int (-i)) := ev_un ha fun _ _ q => ⟨i, rfl, q⟩
theorem rv_I0 {g : Int → Int → V} : RV (rI0 g) (.int i) (.int j) (g i j) := fun _ _ q => ⟨i, j, rfl, rfl, q⟩
theorem rv_I {C : Int → Int → Prop} {g : Int → Int → V} (hc : C i j) : RV (rI C g) (.int i) (.int j) (g i j) := fun _ _ q => ⟨i, j, rfl, rfl, hc, q⟩
theorem rv_eq (h : scal x y = true) : RV rEq x y (.bl (decide (x = y))) := fun _ _ q => ⟨h, q⟩
theorem rv_ne (h : scal x y = true) : RV rNe x y (.bl (!decide (x = y))) := fun _ _ q => ⟨h, q⟩
/-- two ints by an operator -/
theorem ei_op0 {g : Int → Int → V} (ha : Ev T ta σ H (.int i)) (hb : Ev T tb σ H (.int j)) : Ev T (tOp (rI0 g) ta tb) σ H (g i j) := ev_op ha hb rv_I0
theorem ei_add (ha : Ev T ta σ H (.int i)) (hb : Ev T tb σ H (.int j)) : Ev T (tOp rAdd ta tb) σ H (.int (i + j)) := ev_op ha hb fun _ _ q => ⟨i, j, rfl, rfl, q⟩
theorem ei_sub (ha : Ev T ta σ H (.int i)) (hb : Ev T tb σ H (.int j)) : Ev T (tOp rSub ta tb) σ H (.int (i - j)) := ev_op ha hb fun _ _ q => ⟨i, j, rfl, rfl, q⟩
theorem ei_opC {C : Int → Int → Prop} {g : Int → Int → V} (ha : Ev T ta σ H (.int i)) (hb : Ev T tb σ H (.int j)) (hc : C i j) : Ev T (tOp (rI C g) ta tb) σ H (g i j) := ev_op ha hb (rv_I hc)
theorem ei_eq (ha : Ev T ta σ H (.int i)) (hb : Ev T tb σ H (.int j)) : Ev T (tOp rEq ta tb) σ H (.bl (decide (i = j))) := ev_is (ev_op ha hb (rv_eq rfl)) (by rw [dec_int]; by_cases q : i = j <;> simp [q])
theorem ei_ne (ha : Ev T ta σ H (.int i)) (hb : Ev T tb σ H (.int j)) : Ev T (tOp rNe ta tb) σ H (.bl (!decide (i = j))) := ev_is (ev_op ha hb (rv_ne rfl)) (by rw [dec_int]; by_cases q : i = j <;> simp [q])
theorem eb_eq (ha : Ev T ta σ H (.bl b)) (hb : Ev T tb σ H (.bl c)) : Ev T (tOp rEq ta tb) σ H (.bl (b == c)) := ev_is (ev_op ha hb (rv_eq rfl)) (by rw [dec_bl])
theorem eb_ne (ha : Ev T ta σ H (.bl b)) (hb : Ev T tb σ H (.bl c)) : Ev T (tOp rNe ta tb) σ H (.bl (!(b == c))) := ev_is (ev_op ha hb (rv_ne rfl)) (by rw [dec_bl])
/-- data operands -/
theorem ed_op2 {r : R2} (ha : EvD K T ta σ H d1) (hb : EvD K T tb σ H d2) (hr : ∀ x y H1 (Q : VK), Ex T H H1 → Dp K H1 x d1 → Dp K H1 y d2 → Q z H1 → r x y H1 Q) : Ev T (tOp r ta tb) σ H z := fun H1 e Q q =>
  ha H1 e _ fun x H2 e2 k2 => hb H2 (e.trans e2) _ fun y H3 e3 k3 => hr x y H3 Q ((e.trans e2).trans e3) (Dp.sub (rest_le.trans e3.sub) _ _ k2) (Dp.sub rest_le _ _ k3) (q H3 (e2.trans e3))
theorem ed_eqD (ha : EvD K T ta σ H d1) (hb : EvD K T tb σ H d2) (s1 : SeqAt.shaped d1 = true) (s2 : SeqAt.shaped d2 = true) : Ev T (tOp (rEqD K) ta tb) σ H (.bl (PyData.eqv d1 d2)) := ed_op2 ha hb fun _ _ _ _ _ k1 k2 q => ⟨d1, d2, k1.kit, k2.kit, s1, s2, q⟩
theorem ed_neD (ha : EvD K T ta σ H d1) (hb : EvD K T tb σ H d2) (s1 : SeqAt.shaped d1 = true) (s2 : SeqAt.shaped d2 = true) : Ev T (tOp (rNeD K) ta tb) σ H (.bl (!PyData.eqv d1 d2)) := ed_op2 ha hb fun _ _ _ _ _ k1 k2 q => ⟨d1, d2, k1.kit, k2.kit, s1, s2, q⟩
theorem ed_ixL (ha : EvD K T ta σ H (.list ds)) (hb : Ev T tb σ H (.int i)) (e : atI ds i = some d) : EvD K T (tOp (rIxL K) ta tb) σ H d := fun H1 e1 Q q =>
  ha H1 e1 _ fun x H2 e2 k2 => hb H2 (e1.trans e2) _ fun H3 e3 => by
    obtain ⟨a, xs, rfl, hs, hd⟩ := Dp.list_inv (Dp.sub (rest_fwd e3.sub) _ _ k2)
    obtain ⟨v, h1, h2⟩ := atI_dp hd e
    exact ⟨a, xs, i, v, rfl, rfl, rest_le.sql hs, h1, q v H3 (e2.trans e3) h2⟩
theorem ed_ixT (ha : EvD K T ta σ H (.tuple ds)) (hb : Ev T tb σ H (.int i)) (e : atI ds i = some d) : EvD K T (tOp (rIxT K) ta tb) σ H d := fun H1 e1 Q q =>
  ha H1 e1 _ fun x H2 e2 k2 => hb H2 (e1.trans e2) _ fun H3 e3 => by
    obtain ⟨a, xs, rfl, hs, hd⟩ := Dp.tuple_inv (Dp.sub (rest_fwd e3.sub) _ _ k2)
    obtain ⟨v, h1, h2⟩ := atI_dp hd e
    exact ⟨a, xs, i, v, rfl, rfl, rest_le.sqt hs, h1, q v H3 (e2.trans e3) h2⟩
/-! tests -/
theorem et_test (h : Ev T te σ H (.bl b)) : EvT T (tTest te) σ H b := fun H1 e _ q => h H1 e _ fun H2 e2 => ⟨b, rfl, q H2 e2⟩
theorem et_B (h : Ev T te σ H (.bl b)) : EvT T (tB te) σ H b := fun H1 e _ q => h H1 e _ fun H2 e2 => ⟨b, rfl, q H2 e2⟩
theorem et_and (h1 : EvT T t σ H b) (h2 : b = true → EvT T u σ H c) : EvT T (tAnd t u) σ H (b && c) := fun H1 e Q q => h1 H1 e _ fun H2 e2 => by
  cases b with
  | true => exact iteT (h2 rfl H2 (e.trans e2) Q fun H3 e3 => q H3 (e2.trans e3))
  | false => exact iteF (q H2 e2)
theorem et_or (h1 : EvT T t σ H b) (h2 : b = false → EvT T u σ H c) : EvT T (tOr t u) σ H (b || c) := fun H1 e Q q => h1 H1 e _ fun H2 e2 => by
  cases b with
  | true => exact iteT (q H2 e2)
  | false => exact iteF (h2 rfl H2 (e.trans e2) Q fun H3 e3 => q H3 (e2.trans e3))
theorem et_not (h1 : EvT T t σ H b) : EvT T (tNot t) σ H (!b) := fun H1 e _ q => h1 H1 e _ fun H2 e2 => q H2 e2
theorem ev_andV (h1 : Ev T ta σ H (.bl b)) (h2 : b = true → Ev T tb σ H (.bl c)) : Ev T (tAndV ta tb) σ H (.bl (b && c)) := fun H1 e Q q => h1 H1 e _ fun H2 e2 => ⟨b, rfl, by
  cases b with
  | true => exact iteT (h2 rfl H2 (e.trans e2) Q fun H3 e3 => q H3 (e2.trans e3))
  | false => exact iteF (q H2 e2)⟩
theorem ev_orV (h1 : Ev T ta σ H (.bl b)) (h2 : b = false → Ev T tb σ H (.bl c)) : Ev T (tOrV ta tb) σ H (.bl (b || c)) := fun H1 e Q q => h1 H1 e _ fun H2 e2 => ⟨b, rfl, by
  cases b with
  | true => exact iteT (q H2 e2)
  | false => exact iteF (h2 rfl H2 (e.trans e2) Q fun H3 e3 => q H3 (e2.trans e3))⟩
theorem ev_notV (h1 : Ev T ta σ H (.bl b)) : Ev T (tNotV ta) σ H (.bl (!b)) := fun H1 e _ q => h1 H1 e _ fun H2 e2 => ⟨b, rfl, q H2 e2⟩
theorem ed_if (h : EvT T t σ H b) (h1 : b = true → EvD K T ta σ H d) (h2 : b = false → EvD K T tb σ H d) : EvD K T (tIf t ta tb) σ H d := fun H1 e Q q => h H1 e _ fun H2 e2 => by
  cases b with
  | true => exact iteT (h1 rfl H2 (e.trans e2) Q fun v H3 e3 k => q v H3 (e2.trans e3) (Dp.sub (rest_back e2.free) _ _ k))
  | false => exact iteF (h2 rfl H2 (e.trans e2) Q fun v H3 e3 k => q v H3 (e2.trans e3) (Dp.sub (rest_back e2.free) _ _ k))
theorem ev_chain {r r' : R2} (ha : Ev T ta σ H x) (hb : Ev T tb σ H y) (hc : Ev T tx σ H z) (h1 : RV r x y (.bl b)) (h2 : b = true → RV r' y z (.bl c)) : Ev T (tChain r r' ta tb tx) σ H (.bl (b && c)) := fun H1 e Q q =>
  ha H1 e _ fun H2 e2 => hb H2 (e.trans e2) _ fun H3 e3 => h1 H3 _ ⟨b, rfl, by
    cases b with
    | true => exact iteT (hc H3 ((e.trans e2).trans e3) _ fun H4 e4 => h2 rfl H4 Q (q H4 ((e2.trans e3).trans e4)))
    | false => exact iteF (q H3 (e2.trans e3))⟩
/-! argument lists, displays -/
theorem ea_nil : EvA K T tNil σ H [] := fun H1 e _ q => q [] H1 e.refl .nil
theorem ea_cons (h : EvD K T ta σ H d) (hr : EvA K T tr σ H ds) : EvA K T (tCons ta tr) σ H (d :: ds) := fun H1 e _ q =>
  h H1 e _ fun v H2 e2 k2 => hr H2 (e.trans e2) _ fun vs H3 e3 k3 => q _ H3 (e2.trans e3) (.cons (Dp.sub (rest_fwd e3.sub) _ _ k2) (DpAll.sub (rest_back e2.free) _ _ k3))
theorem ea_star (h : EvD K T ta σ H (.list es) ∨ EvD K T ta σ H (.tuple es)) (hr : EvA K T tr σ H ds) : EvA K T (tStar K ta tr) σ H (es ++ ds) := fun H1 e Q q => by
  have go : ∀ v H2, Ex T H1 H2 → (∃ a xs, v = V.ref a ∧ (SqT K H2 a xs ∨ SqL K H2 a xs) ∧ DpAll K (rest H H1 H2) xs es) → ∃ p xs, v = V.ref p ∧ (SqT K H2 p xs ∨ SqL K H2 p xs) ∧ tr σ H2 fun ys H3 => Q (xs ++ ys) H3 := by
    rintro v H2 e2 ⟨a, xs, rfl, hs, hd⟩
    exact ⟨a, xs, rfl, hs, hr H2 (e.trans e2) _ fun ys H3 e3 k3 => q _ H3 (e2.trans e3) ((DpAll.sub (rest_fwd e3.sub) _ _ hd).append (DpAll.sub (rest_back e2.free) _ _ k3))⟩
  rcases h with h | h
  · refine h H1 e _ fun v H2 e2 k2 => go v H2 e2 ?_
    obtain ⟨a, xs, e', hs, hd⟩ := Dp.list_inv k2
    exact ⟨a, xs, e', .inr (rest_le.sql hs), hd⟩
  · refine h H1 e _ fun v H2 e2 k2 => go v H2 e2 ?_
    obtain ⟨a, xs, e', hs, hd⟩ := Dp.tuple_inv k2
    exact ⟨a, xs, e', .inl (rest_le.sqt hs), hd⟩
theorem ea_is (h : EvA K T tr σ H ds) (e : ds = es) : EvA K T tr σ H es := e ▸ h
/-- a new object at p in the rest -/
theorem upd_rest {H H1 H2 : Hp} {p : Addr} {o : HO} (hp : H2 p = none) : Sub (rest H H1 H2) (hide p (rest H H1 (upd H2 p o))) := fun a u e n => by
  have ne : a ≠ p := ne_of_none e (rest_free hp)
  rw [hide_ne ne]
  unfold rest at e ⊢
  split at e
  · rename_i c; rw [if_pos c, upd_ne ne]; exact e
  · cases e
theorem ed_tup (h : EvA K T tr σ H ds) (hl : ds.length ≤ 100000) : EvD K T (tTup tr) σ H (.tuple ds) := fun H1 e _ q =>
  h H1 e _ fun vs H2 e2 k2 => ⟨Nat.le_trans (by rw [k2.length]; exact hl) (by decide), fun p hp => q _ _ (e2.new hp) (.tup ((by rw [rest_new (e2.free hp), upd_same])) (DpAll.sub ((upd_rest hp).trans hide_le) _ _ k2))⟩
theorem en_lst (h : EvA K T tr σ H ds) (hl : ds.length ≤ 100000) : EvN K T (tLst tr) σ H ds := fun H1 e _ q =>
  h H1 e _ fun vs H2 e2 k2 => ⟨Nat.le_trans (by rw [k2.length]; exact hl) (by decide), fun p hp => q p vs _ (e2.free hp) (e2.new hp) upd_same (DpAll.sub (upd_rest hp) _ _ k2)⟩
end
end KW

/-! text K8Ev2 -/
set_option Elab.async false
set_option linter.all false
set_option maxRecDepth 100000
set_option maxHeartbeats 4000000
/-! Calls, built-ins, slices, comprehensions, statements, loops over the judgements of K8Ev. -/
namespace KW
open PySem PySem.Spec PyProof.Rows L2 StX
abbrev rLenS (K : PySem.W.Frag) : List V → Hp → VK → Prop := fun xs H Q => ∃ p ys, xs = [.ref p] ∧ (SqL K H p ys ∨ SqT K H p ys) ∧ Q (.int ys.length) H
abbrev rListS (K : PySem.W.Frag) : List V → Hp → VK → Prop := fun xs H Q => ∃ p ys, xs = [.ref p] ∧ (SqL K H p ys ∨ SqT K H p ys) ∧ ∀ l, H l = none → Q (.ref l) (upd H l (.lst ys))
abbrev rTupS (K : PySem.W.Frag) : List V → Hp → VK → Prop := fun xs H Q => ∃ p ys, xs = [.ref p] ∧ ((SqL K H p ys ∧ ∀ l, H l = none → Q (.ref l) (upd H l (.tup ys))) ∨ (SqT K H p ys ∧ Q (.ref p) H))
abbrev rMax2 : List V → Hp → VK → Prop := fun xs H Q => ∃ i j, xs = [.int i, .int j] ∧ Q (.int (if j > i then j else i)) H
abbrev rMin2 : List V → Hp → VK → Prop := fun xs H Q => ∃ i j, xs = [.int i, .int j] ∧ Q (.int (if j < i then j else i)) H
abbrev rAbs : List V → Hp → VK → Prop := fun xs H Q => ∃ i, xs = [.int i] ∧ Q (.int (if i < 0 then -i else i)) H
abbrev rInt1 : List V → Hp → VK → Prop := fun xs H Q => (∃ i, xs = [.int i] ∧ Q (.int i) H) ∨ ∃ k, xs = [.bl k] ∧ Q (.int (if k then 1 else 0)) H
section
variable {K : PySem.W.Frag} {T : Tb} {σ : L2.St} {H H' : Hp} {ta tb te tx : TE} {t u : TT} {x y z v : V} {d d' d1 d2 : PyData} {ds es : List PyData} {i j : Int} {b c : Bool} {tr tr' : TA} {E : XK} {D : Ends} {tu tw tz : TS}
theorem sz_of {n : Nat} (h : n ≤ 100000) : n ≤ sizeLine := Nat.le_trans h (by decide)
theorem sz_lt {n : Nat} (h : n < 100000) : n < sizeLine := Nat.lt_of_lt_of_le h (by decide)
theorem ed_call {n : Nat} {R : List PyData → PyData → Prop} (h : EvA K T tr σ H ds) (hr : R ds d) (hn : ds.length = n := by rfl) : EvD K T (tCall (spR K T n R) [] E tr) σ H d := fun H1 e Q q =>
  h H1 e _ fun vs H2 e2 k2 => ⟨by rw [List.append_nil, k2.length]; exact hn, e2.tabs, rest H H1 H2, ds, d, ex_rest e2, by rw [List.append_nil]; exact k2, hr, fun H' v e3 k3 => q v H' (e2.trans e3) (Dp.sub (rest_rest e2.free) _ _ k3)⟩
/-- a call of a built-in of which only the data count -/
theorem ed_cb {r : List V → Hp → VK → Prop} (h : EvA K T tr σ H ds) (hr : ∀ vs Hx H1 (Q : VK), Ex T Hx H1 → DpAll K Hx vs ds → (∀ v H2, Ex T H1 H2 → Dp K (rest Hx H1 H2) v d → Q v H2) → r vs H1 Q) : EvD K T (tCB r tr) σ H d := fun H1 e Q q =>
  h H1 e _ fun vs H2 e2 k2 => hr vs (rest H H1 H2) H2 Q (ex_rest e2) k2 fun v H3 e3 k3 => q v H3 (e2.trans e3) (Dp.sub (rest_rest e2.free) _ _ k3)
theorem dp1 {H : Hp} {vs : List V} (h : DpAll K H vs [d]) : ∃ v, vs = [v] ∧ Dp K H v d := by cases h with | cons a h => cases h; exact ⟨_, rfl, a⟩
theorem dp2 {H : Hp} {vs : List V} (h : DpAll K H vs [d1, d2]) : ∃ v w, vs = [v, w] ∧ Dp K H v d1 ∧ Dp K H w d2 := by cases h with | cons a h => cases h with | cons b h => cases h; exact ⟨_, _, rfl, a, b⟩
/-- a list or a tuple -/
abbrev Sq (K : PySem.W.Frag) (T : Tb) (te : TE) (σ : L2.St) (H : Hp) (ds : List PyData) : Prop := EvD K T te σ H (.list ds) ∨ EvD K T te σ H (.tuple ds)
theorem sq_go (h : Sq K T te σ H ds) : ∀ H1, Ex T H H1 → ∀ Q : VK, (∀ a xs H2, Ex T H1 H2 → (SqL K (rest H H1 H2) a xs ∨ SqT K (rest H H1 H2) a xs) → DpAll K (rest H H1 H2) xs ds → Q (.ref a) H2) → te σ H1 Q := fun H1 e Q q => by
  rcases h with h | h
  · refine h H1 e _ fun v H2 e2 k2 => ?_
    obtain ⟨a, xs, rfl, hs, hd⟩ := Dp.list_inv k2
    exact q a xs H2 e2 (.inl hs) hd
  · refine h H1 e _ fun v H2 e2 k2 => ?_
    obtain ⟨a, xs, rfl, hs, hd⟩ := Dp.tuple_inv k2
    exact q a xs H2 e2 (.inr hs) hd
theorem sq_le {H H2 : Hp} {a : Addr} {xs : List V} (s : Sub H H2) (h : SqL K H a xs ∨ SqT K H a xs) : SqL K H2 a xs ∨ SqT K H2 a xs := h.imp s.sql s.sqt
theorem ei_len (h : Sq K T ta σ H ds) : Ev T (tCB (rLenS K) (tCons ta tNil)) σ H (.int (ds.length : Int)) := fun H1 e Q q =>
  sq_go h H1 e _ fun a xs H2 e2 hs hd => ⟨a, xs, rfl, sq_le rest_le hs, by rw [hd.length]; exact q H2 e2⟩
theorem en_list (h : Sq K T ta σ H ds) : EvN K T (tCB (rListS K) (tCons ta tNil)) σ H ds := fun H1 e Q q =>
  sq_go h H1 e _ fun a xs H2 e2 hs hd => ⟨a, xs, rfl, sq_le rest_le hs, fun l hl => q l xs _ (e2.free hl) (e2.new hl) upd_same (DpAll.sub (upd_rest hl) _ _ hd)⟩
theorem ed_tupL (h : EvD K T ta σ H (.list ds)) : EvD K T (tCB (rTupS K) (tCons ta tNil)) σ H (.tuple ds) := fun H1 e Q q =>
  h H1 e _ fun v H2 e2 k2 => by
    obtain ⟨a, xs, rfl, hs, hd⟩ := Dp.list_inv k2
    exact ⟨a, xs, rfl, .inl ⟨rest_le.sql hs, fun l hl => q _ _ (e2.new hl) (.tup ((by rw [rest_new (e2.free hl), upd_same])) (DpAll.sub ((upd_rest hl).trans hide_le) _ _ hd))⟩⟩
theorem ei_max (ha : Ev T ta σ H (.int i)) (hb : Ev T tb σ H (.int j)) : Ev T (tCB rMax2 (tCons ta (tCons tb tNil))) σ H (.int (if j > i then j else i)) := fun H1 e Q q =>
  ha H1 e _ fun H2 e2 => hb H2 (e.trans e2) _ fun H3 e3 => ⟨i, j, rfl, q H3 (e2.trans e3)⟩
theorem ei_min (ha : Ev T ta σ H (.int i)) (hb : Ev T tb σ H (.int j)) : Ev T (tCB rMin2 (tCons ta (tCons tb tNil))) σ H (.int (if j < i then j else i)) := fun H1 e Q q =>
  ha H1 e _ fun H2 e2 => hb H2 (e.trans e2) _ fun H3 e3 => ⟨i, j, rfl, q H3 (e2.trans e3)⟩
theorem ei_abs (ha : Ev T ta σ H (.int i)) : Ev T (tCB rAbs (tCons ta tNil)) σ H (.int (if i < 0 then -i else i)) := fun H1 e Q q => ha H1 e _ fun H2 e2 => ⟨i, rfl, q H2 e2⟩
theorem ei_int (ha : Ev T ta σ H (.int i)) : Ev T (tCB rInt1 (tCons ta tNil)) σ H (.int i) := fun H1 e Q q => ha H1 e _ fun H2 e2 => .inl ⟨i, rfl, q H2 e2⟩
theorem ei_intB (ha : Ev T ta σ H (.bl b)) : Ev T (tCB rInt1 (tCons ta tNil)) σ H (.int (if b then 1 else 0)) := fun H1 e Q q => ha H1 e _ fun H2 e2 => .inr ⟨b, rfl, q H2 e2⟩
theorem ei_sum {ns : List Int} (h : EvD K T ta σ H (.list (ns.map PyData.int))) : Ev T (tCB (rSum K) (tCons ta tNil)) σ H (.int ns.sum) := fun H1 e Q q => h H1 e _ fun v H2 e2 k2 => by
  obtain ⟨a, xs, rfl, hs, hd⟩ := Dp.list_inv k2
  rw [hd.ints] at hs
  exact ⟨a, ns, rfl, rest_le.sql hs, q H2 e2⟩
theorem eb_all {bs : List Bool} (h : EvD K T ta σ H (.list (bs.map PyData.bool))) : Ev T (tCB (rAll K) (tCons ta tNil)) σ H (.bl (bs.all id)) := fun H1 e Q q => h H1 e _ fun v H2 e2 k2 => by
  obtain ⟨a, xs, rfl, hs, hd⟩ := Dp.list_inv k2
  rw [hd.bools] at hs
  exact ⟨a, bs, rfl, rest_le.sql hs, q H2 e2⟩
/-! slices -/
theorem eo_none : EvO T tNoPart σ H none := fun H1 e _ q => q H1 e.refl
theorem eo_some (h : Ev T te σ H (.int i)) : EvO T (tPart te) σ H (some i) := fun H1 e _ q => h H1 e _ fun H2 e2 => ⟨i, rfl, q H2 e2⟩
def cutD (ds : List PyData) (lo hi : Option Int) : List PyData := (ds.drop (HT.sIx ds.length 0 lo)).take (HT.sIx ds.length ds.length hi - HT.sIx ds.length 0 lo)
theorem cut_dp {xs : List V} (h : DpAll K H xs ds) (lo hi : Option Int) : DpAll K H (cutV xs lo hi) (cutD ds lo hi) := by
  unfold cutV cutD
  rw [h.length]
  exact (h.drop _).take _
theorem en_sl {tl th : TO} {lo hi : Option Int} (h : EvD K T te σ H (.list ds)) (h1 : EvO T tl σ H lo) (h2 : EvO T th σ H hi) : EvN K T (tSl (rSlL K) te tl th) σ H (cutD ds lo hi) := fun H1 e Q q =>
  h H1 e _ fun v H2 e2 k2 => h1 H2 (e.trans e2) _ fun H3 e3 => h2 H3 ((e.trans e2).trans e3) _ fun H4 e4 => by
    have e5 := (e2.trans e3).trans e4
    obtain ⟨a, xs, rfl, hs, hd⟩ := Dp.list_inv (Dp.sub (rest_fwd (e3.trans e4).sub) _ _ k2)
    exact ⟨a, xs, rfl, rest_le.sql hs, fun p hp => q p _ _ (e5.free hp) (e5.new hp) upd_same (DpAll.sub (upd_rest hp) _ _ (cut_dp hd lo hi))⟩
theorem en_revL (h : EvD K T te σ H (.list ds)) : EvN K T (tRevL K te) σ H ds.reverse := fun H1 e Q q =>
  h H1 e _ fun v H2 e2 k2 => by
    obtain ⟨a, xs, rfl, hs, hd⟩ := Dp.list_inv k2
    exact ⟨a, xs, rfl, rest_le.sql hs, fun p hp => q p _ _ (e2.free hp) (e2.new hp) upd_same (DpAll.sub (upd_rest hp) _ _ hd.reverse)⟩
/-- [x, ..] * k -/
theorem dp_rep {H4 : Hp} {xs : List V} (k3 : DpAll K H4 xs ds) : ∀ n, DpAll K H4 (List.replicate n xs).flatten (List.replicate n ds).flatten
  | 0 => .nil
  | n + 1 => by rw [List.replicate_succ, List.replicate_succ, List.flatten_cons, List.flatten_cons]; exact k3.append (dp_rep k3 n)
theorem en_rep (ha : EvN K T ta σ H ds) (hb : Ev T tb σ H (.int i)) (hi : -100000 ≤ i ∧ i ≤ 100000) (hz : ds.length * i.toNat ≤ 100000) : EvN K T (tOp rRep ta tb) σ H (List.replicate i.toNat ds).flatten := fun H1 e Q q =>
  ha H1 e _ fun p xs H2 hp e2 h2 k2 => hb H2 (e.trans e2) _ fun H3 e3 => ⟨p, i, xs, rfl, rfl, e3.lst h2, by omega, by omega, by rw [k2.length]; exact sz_of hz, fun l hl =>
    q l _ _ ((e2.trans e3).free hl) ((e2.trans e3).new hl) upd_same (dp_rep (DpAll.sub (((hide_le (p := p)).trans (rest_fwd e3.sub)).trans (upd_rest hl)) _ _ k2) _)⟩
theorem ed_catA (ha : EvD K T ta σ H (.tuple ds)) (hb : EvD K T tb σ H (.tuple es)) (hz : ds.length + es.length ≤ 100000) : EvD K T (tOp (rCatA K) ta tb) σ H (.tuple (ds ++ es)) := fun H1 e Q q =>
  ha H1 e _ fun x H2 e2 k2 => hb H2 (e.trans e2) _ fun y H3 e3 k3 => by
    obtain ⟨a, xs, rfl, hs, hd⟩ := Dp.tuple_invS (Dp.sub (rest_fwd e3.sub) _ _ k2)
    obtain ⟨b, ys, rfl, ht, he⟩ := Dp.tuple_invS (Dp.sub (rest_back e2.free) _ _ k3)
    have e5 := e2.trans e3
    refine ⟨a, b, xs, ys, rfl, rfl, rest_le.sqt (.inl (.inl hs)), rest_le.sqt (.inl (.inl ht)), by rw [hd.length, he.length]; exact sz_of hz, fun z => ?_, fun z1 z2 => ?_, fun z1 z2 p hp => ?_⟩
    · subst z
      cases hd
      exact q _ _ e5 (.tup ht he)
    · subst z2
      cases he
      rw [List.append_nil] at q
      exact q _ _ e5 (.tup hs hd)
    · exact q _ _ (e5.new hp) (.tup ((by rw [rest_new (e5.free hp), upd_same])) (DpAll.sub ((upd_rest hp).trans hide_le) _ _ (hd.append he)))
theorem ed_ltT {ns ms : List Int} (ha : EvD K T ta σ H (.tuple (ns.map PyData.int))) (hb : EvD K T tb σ H (.tuple (ms.map PyData.int))) : Ev T (tOp (rLtT K) ta tb) σ H (.bl (HT.lexLt ns ms)) := ed_op2 ha hb fun x y H1 Q e k1 k2 q => by
  obtain ⟨a, xs, rfl, hs, hd⟩ := Dp.tuple_inv k1
  obtain ⟨b, ys, rfl, ht, he⟩ := Dp.tuple_inv k2
  rw [hd.ints] at hs
  rw [he.ints] at ht
  exact ⟨a, b, ns, ms, rfl, rfl, hs, ht, q⟩
theorem ed_in {ns : List PyData} {xs : List V} {neg : Bool} (ha : Ev T ta σ H x) (hb : EvD K T tb σ H (.tuple ns)) (hx : flatV x = true) (he : ∀ H', DpAll K H' xs ns) (hu : ∀ H' ys, DpAll K H' ys ns → ys = xs) (hf : xs.all flatV = true) : Ev T (tOp (rIn K neg) ta tb) σ H (.bl (if neg then !inV x xs else inV x xs)) := fun H1 e Q q =>
  ha H1 e _ fun H2 e2 => hb H2 (e.trans e2) _ fun y H3 e3 k3 => by
    obtain ⟨b, ys, rfl, ht, he⟩ := Dp.tuple_inv k3
    rw [hu _ _ he] at ht
    exact ⟨b, xs, rfl, .inr (rest_le.sqt ht), hx, hf, q H3 (e2.trans e3)⟩
/-! ### comprehensions -/
def EvI (K : PySem.W.Frag) (T : Tb) (wi : TI) (g : TG) (σ : L2.St) (H : Hp) (n : Nat) (S : Nat → L2.St → L2.St → Hp → Prop) : Prop := ∀ H1, Ex T H H1 → ∀ R : It → Hp → Prop,
  (∀ J H2, Ex T H1 H2 → (∀ i H3, i < n → Ex T (rest H H1 H2) H3 → J.go i H3) → (∀ H3, Ex T (rest H H1 H2) H3 → J.stop n H3) →
    (∀ i H3 x H4, i < n → Ex T (rest H H1 H2) H3 → J.yld i H3 x H4 → Ex T H3 H4 ∧ ∀ (σ0 : L2.St) (Q : L2.St → Hp → Prop), (∀ σ2 H5, Ex T H4 H5 → S i σ0 σ2 (rest (rest H H1 H2) H3 H5) → Q σ2 H5) → g x σ0 H4 Q) → R J H2) → wi σ H1 R
theorem range_snoc {n : Nat} {p : Nat → Bool} {f : Nat → PyData} : ((List.range (n + 1)).filter p).map f = ((List.range n).filter p).map f ++ (if p n = true then [f n] else []) := by
  rw [List.range_succ, List.filter_append, List.map_append]
  congr 1
  by_cases h : p n = true
  · simp [h]
  · simp [h]
theorem en_lc {wi : TI} {g : TG} {tt : TT} {vs : List Nat} {n : Nat} {S : Nat → L2.St → L2.St → Hp → Prop} (p : Nat → Bool) (f : Nat → PyData) (hi : EvI K T wi g σ H n S) (hn : n ≤ 50000)
    (hb : ∀ i σ2 Hx, i < n → Sub H Hx → S i (wipe σ vs) σ2 Hx → wipe σ2 vs = wipe σ vs ∧ EvT T tt σ2 Hx (p i) ∧ (p i = true → EvD K T te σ2 Hx (f i))) : EvN K T (tLc wi g tt te vs) σ H (((List.range n).filter p).map f) := fun H1 e Q q => by
  refine hi H1 e _ fun J H2 e2 go st yl => ?_
  intro Dl hDl
  let B := rest H H1 H2
  have BDl : B Dl = none := rest_free hDl
  let Pv : Nat → Hp → Prop := fun i H3 => Ex T H1 H3 ∧ Ex T B H3 ∧ ∃ xs, H3 Dl = some (.lst xs) ∧ DpAll K (hide Dl (rest H H1 H3)) xs (((List.range i).filter p).map f)
  refine ⟨fun i m H3 => m = n - i ∧ i ≤ n ∧ Pv i H3, ⟨n, by simp, Nat.zero_le _, e2.new hDl, (ex_rest e2).new hDl, [], upd_same, .nil⟩, ?_⟩
  rintro i m H3 ⟨rfl, hle, e13, eB3, xs, hx, kx⟩
  by_cases hlt : i < n
  · refine .inr ⟨go i H3 hlt eB3, Pv (i + 1), fun H' p' => ⟨n - (i + 1), by omega, rfl, hlt, p'⟩, fun x H4 hy => ?_⟩
    obtain ⟨e34, hg⟩ := yl i H3 x H4 hlt eB3 hy
    refine hg _ _ fun σ2 H5 e45 hS => ?_
    have e35 := e34.trans e45
    have hsub : Sub H (rest B H3 H5) := (sub_rest (e.trans e2).sub).trans (sub_rest (eB3.trans e35).sub)
    obtain ⟨b1, b2, b3⟩ := hb i σ2 (rest B H3 H5) hlt hsub hS
    have eX5 : Ex T (rest B H3 H5) H5 := ex_rest e35
    have XDl : rest B H3 H5 Dl = none := rest_none BDl (by rw [hx]; intro z; cases z)
    refine ⟨b1, b2 H5 eX5 _ fun H6 e56 => ?_⟩
    have hx6 := e56.lst (e35.lst hx)
    have e36 := e35.trans e56
    have kx6 : DpAll K (hide Dl (rest H H1 H6)) xs _ := DpAll.sub (hide_mono (rest_fwd e36.sub)) _ _ kx
    have hxl : xs.length ≤ i := by
      rw [kx.length, List.length_map]
      exact Nat.le_trans (List.length_filter_le _ _) (by rw [List.length_range]; exact Nat.le_refl _)
    by_cases hp : p i = true
    · rw [hp]
      refine iteT (b3 hp H6 (eX5.trans e56) _ fun y H7 e67 ky => ?_)
      have hx7 := e67.lst hx6
      have e17 := e13.trans (e36.trans e67)
      have H1Dl : H1 Dl = none := e2.free hDl
      refine ⟨xs, hx7, sz_lt (by omega), e17.mut H1Dl hx7, (eB3.trans (e36.trans e67)).mut BDl hx7, xs ++ [y], upd_same, ?_⟩
      have s1 : Sub (hide Dl (rest H H1 H7)) (hide Dl (rest H H1 (upd H7 Dl (.lst (xs ++ [y]))))) := fun a o h n => by
        unfold hide at h ⊢
        split at h
        · cases h
        · rename_i c
          rw [if_neg c]
          unfold rest at h ⊢
          split at h
          · rename_i c2; rw [if_pos c2, upd_ne c]; exact h
          · cases h
      have ky2 : Dp K (hide Dl (rest H H1 H7)) y (f i) := by
        refine Dp.sub (sub_hide ?_ (rest_none XDl (by rw [hx6]; intro z; cases z))) _ _ ky
        intro a o h n
        have s2 : Sub (rest (rest B H3 H5) H6 H7) (rest B H3 H7) := rest_rest (e36.free)
        have s3 : Sub (rest B H3 H7) (rest H H1 H7) := rest_rest e13.free
        exact s3 a o (s2 a o h n) n
      rw [range_snoc, if_pos hp]
      exact DpAll.sub s1 _ _ ((DpAll.sub (hide_mono (rest_fwd e67.sub)) _ _ kx6).snoc ky2)
    · have hp' : p i = false := by simpa using hp
      rw [hp']
      refine iteF ⟨e13.trans e36, eB3.trans e36, xs, hx6, ?_⟩
      rw [range_snoc, if_neg hp, List.append_nil]
      exact kx6
  · have hin : i = n := by omega
    subst hin
    exact .inl ⟨st H3 eB3, q Dl xs H3 (e2.free hDl) e13 hx kx⟩
/-- all of them -/
theorem en_lcAll {wi : TI} {g : TG} {vs : List Nat} {n : Nat} {S : Nat → L2.St → L2.St → Hp → Prop} (f : Nat → PyData) (hi : EvI K T wi g σ H n S) (hn : n ≤ 50000)
    (hb : ∀ i σ2 Hx, i < n → Sub H Hx → S i (wipe σ vs) σ2 Hx → wipe σ2 vs = wipe σ vs ∧ EvD K T te σ2 Hx (f i)) : EvN K T (tLc wi g tYes te vs) σ H ((List.range n).map f) := by
  have := en_lc (K := K) (T := T) (tt := tYes) (fun _ => true) f hi hn fun i σ2 Hx h1 h2 h3 => ⟨(hb i σ2 Hx h1 h2 h3).1, fun _ e _ q => q _ e.refl, fun _ => (hb i σ2 Hx h1 h2 h3).2⟩
  rw [show (List.range n).filter (fun _ => true) = List.range n from List.filter_eq_self.mpr fun _ _ => rfl] at this
  exact this
/-! sources -/
/-- a name: the i-th datum -/
abbrev SAt (K : PySem.W.Frag) (j : Nat) (ds : List PyData) : Nat → L2.St → L2.St → Hp → Prop := fun i σ0 σ2 Hx => ∃ v d, ds[i]? = some d ∧ Dp K Hx v d ∧ σ2 = σ0.set j (some v)
theorem it_list {j : Nat} (h : EvD K T te σ H (.list ds)) : EvI K T (iList K te) (gName j) σ H ds.length (SAt K j ds) := fun H1 e R q =>
  h H1 e _ fun v H2 e2 k2 => by
    obtain ⟨a, xs, rfl, hs, hd⟩ := Dp.list_inv k2
    refine ⟨a, rfl, ⟨xs, rest_le.sql hs⟩, q _ H2 e2 (fun i H3 hi e3 => ?_) (fun H3 e3 => ?_) fun i H3 x H4 hi e3 hy => ?_⟩
    · exact ⟨xs, xs[i]'(by rw [hd.length]; exact hi), e3.sub.sql hs, List.getElem?_eq_getElem _⟩
    · exact ⟨xs, e3.sub.sql hs, by rw [hd.length]; exact Nat.le_refl _⟩
    · obtain ⟨rfl, hy⟩ := hy
      have hx := hy xs (e3.sub.sql hs)
      obtain ⟨d, h1, h2⟩ := hd.get' hx
      exact ⟨e3.refl, fun σ0 Q q => q _ _ e3.refl ⟨x, d, h1, Dp.sub (sub_rest e3.sub) _ _ h2, rfl⟩⟩
theorem it_tup {j : Nat} (h : EvD K T te σ H (.tuple ds)) : EvI K T (iTup K te) (gName j) σ H ds.length (SAt K j ds) := fun H1 e R q =>
  h H1 e _ fun v H2 e2 k2 => by
    obtain ⟨a, xs, rfl, hs, hd⟩ := Dp.tuple_inv k2
    refine ⟨a, rfl, ⟨xs, rest_le.sqt hs⟩, q _ H2 e2 (fun i H3 hi e3 => ?_) (fun H3 e3 => ?_) fun i H3 x H4 hi e3 hy => ?_⟩
    · exact ⟨xs, xs[i]'(by rw [hd.length]; exact hi), e3.sub.sqt hs, List.getElem?_eq_getElem _⟩
    · exact ⟨xs, e3.sub.sqt hs, by rw [hd.length]; exact Nat.le_refl _⟩
    · obtain ⟨rfl, hy⟩ := hy
      have hx := hy xs (e3.sub.sqt hs)
      obtain ⟨d, h1, h2⟩ := hd.get' hx
      exact ⟨e3.refl, fun σ0 Q q => q _ _ e3.refl ⟨x, d, h1, Dp.sub (sub_rest e3.sub) _ _ h2, rfl⟩⟩
abbrev SInt (j : Nat) (lo : Int) : Nat → L2.St → L2.St → Hp → Prop := fun i σ0 σ2 _ => σ2 = σ0.set j (some (.int (lo + (i : Int))))
theorem it_r1 {j : Nat} {n : Int} (h : Ev T te σ H (.int n)) (b : -100000 ≤ n ∧ n ≤ 100000) : EvI K T (iRng1 (tCons te tNil)) (gName j) σ H n.toNat (SInt j 0) := fun H1 e R q =>
  h H1 e _ fun H2 e2 => ⟨n, rfl, by omega, by omega, q _ H2 e2 (fun i H3 hi e3 => hi) (fun H3 e3 => Nat.le_refl _) fun i H3 x H4 hi e3 hy => by
    obtain ⟨rfl, rfl⟩ := hy
    exact ⟨e3.refl, fun σ0 Q q => q _ _ e3.refl rfl⟩⟩
theorem it_r2 {j : Nat} {lo n : Int} (h0 : Ev T ta σ H (.int lo)) (h : Ev T te σ H (.int n)) (b0 : -100000 ≤ lo ∧ lo ≤ 100000) (b : -100000 ≤ n ∧ n ≤ 100000) : EvI K T (iRng2 (tCons ta (tCons te tNil))) (gName j) σ H (n - lo).toNat (SInt j lo) := fun H1 e R q =>
  h0 H1 e _ fun H2 e2 => h H2 (e.trans e2) _ fun H3 e3 => ⟨lo, n, rfl, ⟨by omega, by omega, by omega, by omega⟩, q _ H3 (e2.trans e3) (fun i H4 hi e4 => hi) (fun H4 e4 => Nat.le_refl _) fun i H4 x H5 hi e4 hy => by
    obtain ⟨rfl, rfl⟩ := hy
    exact ⟨e4.refl, fun σ0 Q q => q _ _ e4.refl rfl⟩⟩
end
end KW

/-! text K8Ev3 -/
set_option Elab.async false
set_option linter.all false
set_option maxRecDepth 100000
set_option maxHeartbeats 4000000
/-! Statements and loops; the state of a def's walk. -/
namespace KW
open PySem PySem.Spec PyProof.Rows L2 StX
/-- Hx, H0: known and whole heap at the def's start; Hb, H: now -/
structure Stt (T : Tb) (Hx H0 Hb H : Hp) : Prop where
  e0 : Ex T H0 H
  eb : Ex T Hb H
  in_ : ∀ {a}, (Hb a).isSome = true → (Hx a).isSome = true ∨ H0 a = none
/-- a step from (Hb, H) to (Hb1, H1) -/
structure Nxt (T : Tb) (Hx H0 Hb H Hb1 H1 : Hp) : Prop where
  st : Stt T Hx H0 Hb1 H1
  ex : Ex T H H1
  sub : Sub Hb Hb1
  hid : ∀ p, Hb p = none → H p ≠ none → Hb1 p = none
section
variable {K : PySem.W.Frag} {T : Tb} {σ : L2.St} {Hx H0 Hb H H' Hb1 H1 : Hp} {ta tb te tx : TE} {t u : TT} {x y z v : V} {d d' d1 d2 : PyData} {ds es : List PyData} {i j : Int} {b c : Bool} {tr tr' : TA} {E : XK} {D : Ends} {tu tw tz : TS}
theorem Stt.start (e : Ex T Hx H0) : Stt T Hx H0 Hx H0 := ⟨e.refl, e, fun h => .inl h⟩
theorem Stt.step (S : Stt T Hx H0 Hb H) (e : Ex T H H1) : Nxt T Hx H0 Hb H (rest Hb H H1) H1 := by
  refine ⟨⟨S.e0.trans e, ex_rest e, fun {a} h => ?_⟩, e, sub_rest (S.eb.trans e).sub, fun p h1 h2 => rest_none h1 h2⟩
  by_cases c : (Hb a).isSome = true ∨ H a = none
  · rcases c with c | c
    · exact S.in_ c
    · exact .inr (S.e0.free c)
  · rw [rest_neg c] at h; cases h
theorem Stt.keep (S : Stt T Hx H0 Hb H) (e : Ex T H H1) : Stt T Hx H0 Hb H1 := ⟨S.e0.trans e, S.eb.trans e, S.in_⟩
theorem Stt.hide (S : Stt T Hx H0 Hb H) {p : Addr} : Stt T Hx H0 (hide p Hb) H := ⟨S.e0, ex_hide S.eb, fun {a} h => S.in_ (by
  unfold KW.hide at h
  split at h
  · cases h
  · exact h)⟩
/-- a list of the def's own is changed -/
theorem Stt.mut (S : Stt T Hx H0 Hb H) {p : Addr} {xs : List V} {o : HO} (h0 : H0 p = none) (hb : Hb p = none) (h : H p = some (.lst xs)) : Stt T Hx H0 Hb (upd H p o) := ⟨S.e0.mut h0 h, S.eb.mut hb h, S.in_⟩
theorem Stt.rest (S : Stt T Hx H0 Hb H) : Sub Hb (rest Hx H0 H) := fun a o h n => by
  rw [rest_pos (S.in_ (by rw [h]; rfl))]
  exact S.eb.sub a o h n
theorem Nxt.trans {Hb2 H2 : Hp} (a : Nxt T Hx H0 Hb H Hb1 H1) (b : Nxt T Hx H0 Hb1 H1 Hb2 H2) : Nxt T Hx H0 Hb H Hb2 H2 := ⟨b.st, a.ex.trans b.ex, a.sub.trans b.sub, fun p h1 h2 => b.hid p (a.hid p h1 h2) fun z => h2 (a.ex.free z)⟩
theorem Nxt.same (S : Stt T Hx H0 Hb H) : Nxt T Hx H0 Hb H Hb H := ⟨S, S.e0.refl, Sub.refl _, fun _ h _ => h⟩
theorem Nxt.keep (S : Stt T Hx H0 Hb H) (e : Ex T H H1) : Nxt T Hx H0 Hb H Hb H1 := ⟨S.keep e, e, Sub.refl _, fun _ h _ => h⟩
theorem Stt.dp (S : Stt T Hx H0 Hb H) (h : Dp K Hb v d) : Dp K H v d := Dp.sub S.eb.sub _ _ h
theorem Nxt.dp (n : Nxt T Hx H0 Hb H Hb1 H1) (h : Dp K Hb v d) : Dp K Hb1 v d := Dp.sub n.sub _ _ h
theorem Nxt.dps {vs : List V} (n : Nxt T Hx H0 Hb H Hb1 H1) (h : DpAll K Hb vs ds) : DpAll K Hb1 vs ds := DpAll.sub n.sub _ _ h
theorem Nxt.no (n : Nxt T Hx H0 Hb H Hb1 H1) {p : Addr} {xs : List V} (hb : Hb p = none) (h : H p = some (.lst xs)) : Hb1 p = none := n.hid p hb (by rw [h]; intro z; cases z)
/-! what a def hands back -/
abbrev Ret (K : PySem.W.Frag) (T : Tb) (Hx H0 : Hp) (Q : VK) (r : PyData) : Prop := ∀ H' v, Ex T H0 H' → Dp K (rest Hx H0 H') v r → Q v H'
theorem s_ret (S : Stt T Hx H0 Hb H) (h : EvD K T te σ Hb d) (k : Ret K T Hx H0 D.rt d) : tRet te D σ H := h H S.eb _ fun v H1 e1 k1 => k H1 v (S.e0.trans e1) (Dp.sub (S.step e1).st.rest _ _ k1)
theorem s_retN (S : Stt T Hx H0 Hb H) (k : D.rt .non H) : tRetN D σ H := k
theorem q_asg {i : Nat} (S : Stt T Hx H0 Hb H) (h : EvD K T te σ Hb d) (k : ∀ v Hb1 H1, Nxt T Hx H0 Hb H Hb1 H1 → Dp K Hb1 v d → tz D (σ.set i (some v)) H1) : tSeq (tAsg te (gName i)) tz D σ H :=
  h H S.eb _ fun v H1 e1 k1 => k v _ H1 (S.step e1) k1
theorem s_asg {i : Nat} (S : Stt T Hx H0 Hb H) (h : EvD K T te σ Hb d) (k : ∀ v Hb1 H1, Nxt T Hx H0 Hb H Hb1 H1 → Dp K Hb1 v d → D.nx (σ.set i (some v)) H1) : tAsg te (gName i) D σ H :=
  h H S.eb _ fun v H1 e1 k1 => k v _ H1 (S.step e1) k1
theorem q_asgV {i : Nat} (S : Stt T Hx H0 Hb H) (h : Ev T te σ H v) (k : ∀ H1, Nxt T Hx H0 Hb H Hb H1 → tz D (σ.set i (some v)) H1) : tSeq (tAsg te (gName i)) tz D σ H :=
  h H S.e0.refl _ fun H1 e1 => k H1 (.keep S e1)
theorem s_asgV {i : Nat} (S : Stt T Hx H0 Hb H) (h : Ev T te σ H v) (k : ∀ H1, Nxt T Hx H0 Hb H Hb H1 → D.nx (σ.set i (some v)) H1) : tAsg te (gName i) D σ H :=
  h H S.e0.refl _ fun H1 e1 => k H1 (.keep S e1)
/-- a new list that may be changed -/
theorem new_nxt (S : Stt T Hx H0 Hb H) {p : Addr} {xs : List V} (hp : H p = none) (e1 : Ex T H H1) : Nxt T Hx H0 Hb H (hide p (rest Hb H H1)) H1 ∧ H0 p = none ∧ (hide p (rest Hb H H1)) p = none :=
  ⟨⟨(S.step e1).st.hide, e1, sub_hide (S.step e1).sub (S.eb.free hp), fun q h1 h2 => by
    unfold KW.hide
    split
    · rfl
    · exact (S.step e1).hid q h1 h2⟩, S.e0.free hp, hide_p⟩
theorem q_new {i : Nat} (S : Stt T Hx H0 Hb H) (h : EvN K T te σ Hb ds) (k : ∀ p xs Hb1 H1, Nxt T Hx H0 Hb H Hb1 H1 → H0 p = none → Hb1 p = none → H1 p = some (.lst xs) → DpAll K Hb1 xs ds → tz D (σ.set i (some (.ref p))) H1) : tSeq (tAsg te (gName i)) tz D σ H :=
  h H S.eb _ fun p xs H1 hp e1 h1 kd => let ⟨n, a, b⟩ := new_nxt (xs := xs) S hp e1; k p xs _ H1 n a b h1 kd
theorem s_if (S : Stt T Hx H0 Hb H) (h : EvT T t σ H b) (h1 : b = true → ∀ H1, Nxt T Hx H0 Hb H Hb H1 → tu D σ H1) (h2 : b = false → ∀ H1, Nxt T Hx H0 Hb H Hb H1 → tw D σ H1) : tIfS t tu tw D σ H := h H S.e0.refl _ fun H1 e1 => by
  cases b with
  | true => exact iteT (h1 rfl H1 (.keep S e1))
  | false => exact iteF (h2 rfl H1 (.keep S e1))
theorem q_if (S : Stt T Hx H0 Hb H) (h : EvT T t σ H b) (h1 : b = true → ∀ H1, Nxt T Hx H0 Hb H Hb H1 → tu { D with nx := tz D } σ H1) (h2 : b = false → ∀ H1, Nxt T Hx H0 Hb H Hb H1 → tw { D with nx := tz D } σ H1) : tSeq (tIfS t tu tw) tz D σ H := s_if (D := { D with nx := tz D }) S h h1 h2
/-- a guard that lets pass -/
theorem q_pass (S : Stt T Hx H0 Hb H) (h : EvT T t σ H false) (k : ∀ H1, Nxt T Hx H0 Hb H Hb H1 → tz D σ H1) : tSeq (tIfS t tu tNext) tz D σ H := q_if S h (fun z => nomatch z) fun _ => k
theorem s_pass (S : Stt T Hx H0 Hb H) (h : EvT T t σ H false) (k : ∀ H1, Nxt T Hx H0 Hb H Hb H1 → D.nx σ H1) : tIfS t tu tNext D σ H := s_if S h (fun z => nomatch z) fun _ => k
theorem q_drop (S : Stt T Hx H0 Hb H) (h : EvD K T te σ Hb d) (k : ∀ H1, Nxt T Hx H0 Hb H Hb H1 → tz D σ H1) : tSeq (tDrop te) tz D σ H := h H S.eb _ fun v H1 e1 _ => k H1 (.keep S e1)
theorem s_drop (S : Stt T Hx H0 Hb H) (h : EvD K T te σ Hb d) (k : ∀ H1, Nxt T Hx H0 Hb H Hb H1 → D.nx σ H1) : tDrop te D σ H := h H S.eb _ fun v H1 e1 _ => k H1 (.keep S e1)
/-- x += e, ints -/
theorem s_aug {i : Nat} {f : Int → Int → Int} {a b : Int} (S : Stt T Hx H0 Hb H) (hx : σ[i]? = some (some (.int a))) (h : Ev T te σ H (.int b)) (k : ∀ H1, Nxt T Hx H0 Hb H Hb H1 → D.nx (σ.set i (some (.int (f a b)))) H1) : tAug i te (ipI f) D σ H :=
  ⟨_, hx, h H S.e0.refl _ fun H1 e1 => ⟨a, b, rfl, rfl, k H1 (.keep S e1)⟩⟩
theorem q_aug {i : Nat} {f : Int → Int → Int} {a b : Int} (S : Stt T Hx H0 Hb H) (hx : σ[i]? = some (some (.int a))) (h : Ev T te σ H (.int b)) (k : ∀ H1, Nxt T Hx H0 Hb H Hb H1 → tz D (σ.set i (some (.int (f a b)))) H1) : tSeq (tAug i te (ipI f)) tz D σ H := s_aug (D := { D with nx := tz D }) S hx h k
/-- a, b = e1, e2 -/
theorem q_par {i j : Nat} (S : Stt T Hx H0 Hb H) (h : EvA K T tr σ Hb [d1, d2]) (k : ∀ v w Hb1 H1, Nxt T Hx H0 Hb H Hb1 H1 → Dp K Hb1 v d1 → Dp K Hb1 w d2 → tz D ((σ.set i (some v)).set j (some w)) H1) : tSeq (tPar i j tr) tz D σ H :=
  h H S.eb _ fun vs H1 e1 k1 => by
    obtain ⟨v, w, rfl, a, b⟩ := dp2 k1
    exact ⟨v, w, rfl, k v w _ H1 (S.step e1) a b⟩
theorem s_par {i j : Nat} (S : Stt T Hx H0 Hb H) (h : EvA K T tr σ Hb [d1, d2]) (k : ∀ v w Hb1 H1, Nxt T Hx H0 Hb H Hb1 H1 → Dp K Hb1 v d1 → Dp K Hb1 w d2 → D.nx ((σ.set i (some v)).set j (some w)) H1) : tPar i j tr D σ H :=
  h H S.eb _ fun vs H1 e1 k1 => by
    obtain ⟨v, w, rfl, a, b⟩ := dp2 k1
    exact ⟨v, w, rfl, k v w _ H1 (S.step e1) a b⟩
theorem dp3 {d3 : PyData} {H : Hp} {vs : List V} (h : DpAll K H vs [d1, d2, d3]) : ∃ v w x, vs = [v, w, x] ∧ Dp K H v d1 ∧ Dp K H w d2 ∧ Dp K H x d3 := by
  cases h with | cons a h => cases h with | cons b h => cases h with | cons c h => cases h; exact ⟨_, _, _, rfl, a, b, c⟩
theorem q_par3 {i j l : Nat} {d3 : PyData} (S : Stt T Hx H0 Hb H) (h : EvA K T tr σ Hb [d1, d2, d3]) (k : ∀ v w x Hb1 H1, Nxt T Hx H0 Hb H Hb1 H1 → Dp K Hb1 v d1 → Dp K Hb1 w d2 → Dp K Hb1 x d3 → tz D (((σ.set i (some v)).set j (some w)).set l (some x)) H1) : tSeq (tPar3 i j l tr) tz D σ H :=
  h H S.eb _ fun vs H1 e1 k1 => by
    obtain ⟨v, w, x, rfl, a, b, c⟩ := dp3 k1
    exact ⟨v, w, x, rfl, k v w x _ H1 (S.step e1) a b c⟩
/-- t1, .. = e: a tuple taken apart -/
theorem s_tup {n : Nat} {gs : TGs} (S : Stt T Hx H0 Hb H) (h : EvD K T te σ Hb (.tuple ds)) (hn : ds.length = n) (k : ∀ vs Hb1 H1, Nxt T Hx H0 Hb H Hb1 H1 → DpAll K Hb1 vs ds → gs vs σ H1 D.nx) : tAsg te (gTup K n gs) D σ H :=
  h H S.eb _ fun v H1 e1 k1 => by
    obtain ⟨a, xs, rfl, hs, hd⟩ := Dp.tuple_inv k1
    exact ⟨a, xs, rfl, rest_le.sqt hs, by rw [hd.length, hn], k xs _ H1 (S.step e1) hd⟩
theorem q_tup {n : Nat} {gs : TGs} (S : Stt T Hx H0 Hb H) (h : EvD K T te σ Hb (.tuple ds)) (hn : ds.length = n) (k : ∀ vs Hb1 H1, Nxt T Hx H0 Hb H Hb1 H1 → DpAll K Hb1 vs ds → gs vs σ H1 (tz D)) : tSeq (tAsg te (gTup K n gs)) tz D σ H := s_tup (D := { D with nx := tz D }) S h hn k
theorem gs2 {i j : Nat} {Q : L2.St → Hp → Prop} {v w : V} (q : Q ((σ.set i (some v)).set j (some w)) H) : gCons (gName i) (gCons (gName j) gNil) [v, w] σ H Q := ⟨v, [w], rfl, w, [], rfl, rfl, q⟩
theorem gs3 {i j l : Nat} {Q : L2.St → Hp → Prop} {v w x : V} (q : Q (((σ.set i (some v)).set j (some w)).set l (some x)) H) : gCons (gName i) (gCons (gName j) (gCons (gName l) gNil)) [v, w, x] σ H Q := ⟨v, [w, x], rfl, w, [x], rfl, x, [], rfl, rfl, q⟩
theorem gs4 {i j l m : Nat} {Q : L2.St → Hp → Prop} {v w x y : V} (q : Q ((((σ.set i (some v)).set j (some w)).set l (some x)).set m (some y)) H) : gCons (gName i) (gCons (gName j) (gCons (gName l) (gCons (gName m) gNil))) [v, w, x, y] σ H Q := ⟨v, [w, x, y], rfl, w, [x, y], rfl, x, [y], rfl, y, [], rfl, rfl, q⟩
/-! stores and appends to a list of the def's own -/
theorem ixN_nat {n j : Nat} (hj : j < n) : ixN n (j : Int) = some j := by
  unfold ixN
  rw [if_pos (by omega), if_pos (by omega)]
  simp
theorem s_setL {p : Addr} {xs : List V} {j : Nat} (S : Stt T Hx H0 Hb H) (h : EvD K T te σ Hb d) (ho : Ev T ta σ H (.ref p)) (hi : Ev T tb σ H (.int (j : Int))) (h0 : H0 p = none) (hb : Hb p = none) (hp : H p = some (.lst xs)) (hj : j < xs.length)
    (k : ∀ v Hb1 H1, Stt T Hx H0 Hb1 (upd H1 p (.lst (xs.set j v))) → Nxt T Hx H0 Hb H Hb1 H1 → Hb1 p = none → Dp K Hb1 v d → D.nx σ (upd H1 p (.lst (xs.set j v)))) : tAsg te (gSub ta tb rSetL) D σ H :=
  h H S.eb _ fun v H1 e1 k1 => ho H1 e1 _ fun H2 e2 => hi H2 (e1.trans e2) _ fun H3 e3 => by
    have e13 := e2.trans e3
    have n := (S.step e1).trans (.keep (S.step e1).st e13)
    have hp3 := (e1.trans e13).lst hp
    exact ⟨p, xs, j, j, rfl, rfl, hp3, ixN_nat hj, k v _ H3 (n.st.mut h0 (n.no hb hp) hp3) n (n.no hb hp) k1⟩
theorem q_setL {p : Addr} {xs : List V} {j : Nat} (S : Stt T Hx H0 Hb H) (h : EvD K T te σ Hb d) (ho : Ev T ta σ H (.ref p)) (hi : Ev T tb σ H (.int (j : Int))) (h0 : H0 p = none) (hb : Hb p = none) (hp : H p = some (.lst xs)) (hj : j < xs.length)
    (k : ∀ v Hb1 H1, Stt T Hx H0 Hb1 (upd H1 p (.lst (xs.set j v))) → Nxt T Hx H0 Hb H Hb1 H1 → Hb1 p = none → Dp K Hb1 v d → tz D σ (upd H1 p (.lst (xs.set j v)))) : tSeq (tAsg te (gSub ta tb rSetL)) tz D σ H := s_setL (D := { D with nx := tz D }) S h ho hi h0 hb hp hj k
theorem s_app {p : Addr} {xs : List V} (S : Stt T Hx H0 Hb H) (ho : Ev T ta σ H (.ref p)) (h : EvD K T te σ Hb d) (h0 : H0 p = none) (hb : Hb p = none) (hp : H p = some (.lst xs)) (hz : xs.length < 100000)
    (k : ∀ v Hb1 H1, Stt T Hx H0 Hb1 (upd H1 p (.lst (xs ++ [v]))) → Nxt T Hx H0 Hb H Hb1 H1 → Hb1 p = none → Dp K Hb1 v d → D.nx σ (upd H1 p (.lst (xs ++ [v])))) : tDrop (tBM K "list" rAppend ta (tCons te tNil)) D σ H :=
  ho H S.e0.refl _ fun H1 e1 => ⟨Or.inl ⟨rfl, _, .inl (.inl (e1.lst hp))⟩, h H1 (S.eb.trans e1) _ fun v H2 e2 k2 => by
    have n := (Nxt.keep S e1).trans ((S.keep e1).step e2)
    have hp2 := (e1.trans e2).lst hp
    exact ⟨p, xs, v, rfl, rfl, hp2, sz_lt hz, k v _ H2 (n.st.mut h0 (n.no hb hp) hp2) n (n.no hb hp) k2⟩⟩
theorem q_app {p : Addr} {xs : List V} (S : Stt T Hx H0 Hb H) (ho : Ev T ta σ H (.ref p)) (h : EvD K T te σ Hb d) (h0 : H0 p = none) (hb : Hb p = none) (hp : H p = some (.lst xs)) (hz : xs.length < 100000)
    (k : ∀ v Hb1 H1, Stt T Hx H0 Hb1 (upd H1 p (.lst (xs ++ [v]))) → Nxt T Hx H0 Hb H Hb1 H1 → Hb1 p = none → Dp K Hb1 v d → tz D σ (upd H1 p (.lst (xs ++ [v])))) : tSeq (tDrop (tBM K "list" rAppend ta (tCons te tNil))) tz D σ H := s_app (D := { D with nx := tz D }) S ho h h0 hb hp hz k
/-! reading a list of the def's own, by value -/
theorem ev_own {p : Addr} {xs : List V} {j : Nat} (hp : H p = some (.lst xs)) (ha : Ev T ta σ H (.ref p)) (hb : Ev T tb σ H (.int (j : Int))) (e : xs[j]? = some v) : Ev T (tOp (rIxL K) ta tb) σ H v := fun H1 e1 Q q =>
  ha H1 e1 _ fun H2 e2 => hb H2 (e1.trans e2) _ fun H3 e3 => ⟨p, xs, j, v, rfl, rfl, .inl (.inl (((e1.trans e2).trans e3).lst hp)), atI_nat e, q H3 (e2.trans e3)⟩
theorem ev_lenOwn {p : Addr} {xs : List V} (hp : H p = some (.lst xs)) (ha : Ev T ta σ H (.ref p)) : Ev T (tCB (rLenS K) (tCons ta tNil)) σ H (.int (xs.length : Int)) := fun H1 e1 Q q =>
  ha H1 e1 _ fun H2 e2 => ⟨p, xs, rfl, .inl (.inl (.inl ((e1.trans e2).lst hp))), q H2 e2⟩
/-- the list of the def's own as a datum: nothing changes it any more -/
theorem own_dp {p : Addr} {xs : List V} (S : Stt T Hx H0 Hb H) (h0 : H0 p = none) (hp : H p = some (.lst xs)) (hd : DpAll K Hb xs ds) : ∃ Hb1, Stt T Hx H0 Hb1 H ∧ Sub Hb Hb1 ∧ Dp K Hb1 (.ref p) (.list ds) := by
  refine ⟨upd Hb p (.lst xs), ⟨S.e0, ⟨fun a o h n => ?_, S.eb.tabs, fun {a} h => ?_, fun {a ps} h => ?_⟩, fun {a} h => ?_⟩, fun a o h n => ?_, ?_⟩
  · by_cases q : a = p
    · rw [q, upd_same] at h; rw [q, hp]; exact h
    · rw [upd_ne q] at h; exact S.eb.sub a o h n
  · by_cases q : a = p
    · rw [q, hp] at h; cases h
    · rw [upd_ne q]; exact S.eb.free h
  · by_cases q : a = p
    · rw [q, upd_same] at h; cases h
    · rw [upd_ne q] at h; exact S.eb.tb h
  · by_cases q : a = p
    · rw [q]; exact .inr h0
    · rw [upd_ne q] at h; exact S.in_ h
  · by_cases q : a = p
    · have := S.eb.sub a o h n
      rw [q, hp] at this
      rw [q, upd_same]; exact this
    · rw [upd_ne q]; exact h
  · refine .lst upd_same (DpAll.sub (fun a o h n => ?_) _ _ hd)
    by_cases q : a = p
    · have := S.eb.sub a o h n
      rw [q, hp] at this
      rw [q, upd_same]; exact this
    · rw [upd_ne q]; exact h
/-! ### loops -/
theorem s_while {tc : TT} (Pv : Nat → L2.St → Hp → Prop) (m0 : Nat) (h0 : Pv m0 σ H)
    (hs : ∀ m σ' H', Pv m σ' H' → ∃ b, LamX.Tabs T H' ∧ EvT T tc σ' H' b ∧ (b = true → ∀ H1, Ex T H' H1 → tw { D with nx := fun σ2 H2 => ∃ m', m' < m ∧ Pv m' σ2 H2, ct := fun σ2 H2 => ∃ m', m' < m ∧ Pv m' σ2 H2, bk := D.nx } σ' H1) ∧ (b = false → ∀ H1, Ex T H' H1 → D.nx σ' H1)) : tWhile tc tw D σ H := by
  refine ⟨Pv, ⟨m0, h0⟩, fun m σ' H' p => ?_⟩
  obtain ⟨b, e, ht, h1, h2⟩ := hs m σ' H' p
  refine ht H' (.start e) _ fun H1 e1 => ?_
  cases b with
  | true => exact iteT ⟨_, fun σ2 H2 z => z, h1 rfl H1 e1⟩
  | false => exact iteF (h2 rfl H1 e1)
theorem s_forR1 {g : Nat} {n : Int} (S : Stt T Hx H0 Hb H) (h : Ev T te σ H (.int n)) (b : -100000 ≤ n ∧ n ≤ 100000) (Pv : Nat → L2.St → Hp → Prop) (h0 : ∀ H1, Nxt T Hx H0 Hb H Hb H1 → Pv 0 σ H1)
    (hs : ∀ (i : Nat) σ' H', (i : Int) < n → Pv i σ' H' → tw { D with nx := Pv (i + 1), ct := Pv (i + 1), bk := D.nx } (σ'.set g (some (.int (i : Int)))) H') (hd : ∀ σ' H', Pv n.toNat σ' H' → D.nx σ' H') : tFor (iRng1 (tCons te tNil)) (gName g) tw D σ H :=
  h H S.e0.refl _ fun H1 e1 => ⟨n, rfl, by omega, by omega, for_it (walk_range (lo := 0) (n := n.toNat)) Pv (h0 H1 (.keep S e1)) (fun _ _ _ _ _ => trivial) (fun i x σ' H' H'' hi p hy => by
    obtain ⟨rfl, rfl⟩ := hy
    have := hs i σ' H'' (by omega) p
    rw [← Int.zero_add (i : Int)] at this
    exact this) hd⟩
theorem s_forR2 {g : Nat} {lo n : Int} (S : Stt T Hx H0 Hb H) (hl : Ev T ta σ H (.int lo)) (h : Ev T te σ H (.int n)) (b0 : -100000 ≤ lo ∧ lo ≤ 100000) (b : -100000 ≤ n ∧ n ≤ 100000) (Pv : Nat → L2.St → Hp → Prop) (h0 : ∀ H1, Nxt T Hx H0 Hb H Hb H1 → Pv 0 σ H1)
    (hs : ∀ i σ' H', i < (n - lo).toNat → Pv i σ' H' → tw { D with nx := Pv (i + 1), ct := Pv (i + 1), bk := D.nx } (σ'.set g (some (.int (lo + (i : Int))))) H') (hd : ∀ σ' H', Pv (n - lo).toNat σ' H' → D.nx σ' H') : tFor (iRng2 (tCons ta (tCons te tNil))) (gName g) tw D σ H :=
  hl H S.e0.refl _ fun H1 e1 => h H1 e1 _ fun H2 e2 => ⟨lo, n, rfl, ⟨by omega, by omega, by omega, by omega⟩, for_it (walk_range (lo := lo) (n := (n - lo).toNat)) Pv (h0 H2 (.keep S (e1.trans e2))) (fun _ _ _ _ _ => trivial) (fun i x σ' H' H'' hi p hy => by
    obtain ⟨rfl, rfl⟩ := hy
    exact hs i σ' H'' hi p) hd⟩
/-- range(a, -1, -1): downward, all turns m -/
theorem s_forDown {g : Nat} {m : Nat} (S : Stt T Hx H0 Hb H) (ha : Ev T ta σ H (.int ((m : Int) - 1))) (hb : Ev T tb σ H (.int (-1))) (hc : Ev T te σ H (.int (-1))) (hm : m ≤ 100000) (Pv : Nat → L2.St → Hp → Prop) (h0 : ∀ H1, Nxt T Hx H0 Hb H Hb H1 → Pv 0 σ H1)
    (hs : ∀ i σ' H', i < m → Pv i σ' H' → tw { D with nx := Pv (i + 1), ct := Pv (i + 1), bk := D.nx } (σ'.set g (some (.int ((m : Int) - 1 + (i : Nat) * (-1))))) H') (hd : ∀ σ' H', Pv m σ' H' → D.nx σ' H') : tFor (iRng3 (tCons ta (tCons tb (tCons te tNil)))) (gName g) tw D σ H :=
  ha H S.e0.refl _ fun H1 e1 => hb H1 e1 _ fun H2 e2 => hc H2 (e1.trans e2) _ fun H3 e3 => ⟨_, _, _, m, rfl, (by have := RgC.neg (i := (m : Int) - 1) (j := -1) (by omega) (by omega) (by omega) (by omega); rw [show ((m : Int) - 1 - -1).toNat = m by omega] at this; exact this), for_it (walk_rangeC (lo := (m : Int) - 1) (c := -1) (n := m)) Pv (h0 H3 (.keep S ((e1.trans e2).trans e3))) (fun _ _ _ _ _ => trivial) (fun i x σ' H' H'' hi p hy => by
    obtain ⟨rfl, rfl⟩ := hy
    exact hs i σ' H'' hi p) hd⟩
end
end KW

/-! text K8Own -/
set_option Elab.async false
set_option linter.all false
set_option maxRecDepth 100000
set_option maxHeartbeats 4000000
/-! Own rules: // by great or negative divisors, xs[i] op= e, t[::-1] of a tuple, enumerate(tuple). -/
namespace KW
open PySem PySem.Spec PyProof.Rows L2 StX
section
variable {X : Cx}
theorem op_fdivX : OpR X (binaryOp .FloorDiv) (rI (fun _ j => j ≠ 0 ∧ j.natAbs.log2 < 9000) fun i j => .int (i.fdiv j)) := opI fun _ _ _ _ _ _ _ hc q => floordiv_int hc.1 q (.inl (PyProof.noPylong_of_log2 hc.2))
/-- xs[i] read ahead of xs[i] op= e -/
def rGetL (K : PySem.W.Frag) : V → V → Hp → VK → Prop := fun o i H Q => ∃ p xs j v, o = .ref p ∧ i = .int ((j : Nat) : Int) ∧ SqL K H p xs ∧ xs[j]? = some v ∧ Q v H
theorem get_list : PGet X (rGetL X.K) := by
  intro pins s σ H o i ov iv Q I ro ri h
  obtain ⟨p, xs, j, v, rfl, rfl, hs, hx, q⟩ := h
  cases ro
  obtain ⟨t, rfl⟩ := ri
  obtain ⟨its, r, pl, hz⟩ := I.list hs
  obtain ⟨w, hw, rw'⟩ := r.get hx
  have hl := r.length
  have hj := (List.getElem?_eq_some_iff.mp hx).1
  have hn := line63
  exact wpAny_getItem_list pl.isList (by omega) (by omega) (by simpa using hw) ⟨v, H, I, rw', q⟩
end
end KW

/-! text K8Own2 -/
set_option Elab.async false
set_option linter.all false
set_option maxRecDepth 100000
set_option maxHeartbeats 4000000
namespace KW
open PySem PySem.Spec PyProof.Rows L2 StX
/-! ### t[::-1] of a tuple -/
section
variable {prog : Program} {w : World} {A : Around} {E : Value → Shared → Prop} {s : Shared}
theorem sliceApplied_rev {sl : Addr} {vl vu vk : Value} {n : Nat} {Q : Int × Int × Nat → Shared → Prop} (hs : s.heap.IsSliceOf sl vl vu vk) (pl : IsPart vl none) (pu : IsPart vu none) (pk : IsPart vk (some (-1)))
    (h : Q ((n : Int) - 1, -1, n) s) : wpAny (model prog w) A (Builtin.Slice.sliceApplied (.ref sl) (pure (n : Int))) Q E s := by
  obtain ⟨os, hos, hcs, hds⟩ := id hs
  unfold Builtin.Slice.sliceApplied Builtin.Slice.sliceFields
  refine wpAny_bind (wpAny_bind (wpAny_field hos hds (x := vl) rfl (wpAny_bind (wpAny_field hos hds (x := vu) rfl (wpAny_bind (wpAny_field hos hds (x := vk) rfl (wpAny_pure ?_)))))))
  refine wpAny_bind (HT.slicePart_ pk ?_)
  show wpAny _ _ (if ((-1 : Int) == 0) = true then _ else _) _ _ s
  rw [if_neg (by decide)]
  refine wpAny_bind (HT.slicePart_ pl (wpAny_bind (HT.slicePart_ pu (wpAny_bind (wpAny_pure ?_)))))
  show wpAny _ _ (pure (((n : Int) - 1, (-1 : Int), Builtin.Slice.slicePlaces ((n : Int) - 1) (-1) (-1)))) _ _ s
  have e : Builtin.Slice.slicePlaces ((n : Int) - 1) (-1) (-1) = n := by
    unfold Builtin.Slice.slicePlaces
    have h1 : ¬ ((-1 : Int) > 0) := by omega
    simp only [h1, if_false]
    split <;> first | omega | (simp; omega) | simp
  rw [e]
  exact wpAny_pure h
theorem pick_rev (xs : Array Value) : ((List.range xs.size).filterMap fun (m : Nat) => xs[((xs.size : Int) - 1 + (m : Int) * (-1)).toNat]?).toArray = xs.toList.reverse.toArray := by
  have e : (List.range xs.size).filterMap (fun (m : Nat) => xs[((xs.size : Int) - 1 + (m : Int) * (-1)).toNat]?) = ((List.range xs.size).map fun k => xs.size - 1 - k).filterMap (xs[·]?) := by
    rw [List.filterMap_map]
    have f : ∀ l : List Nat, (∀ k ∈ l, k < xs.size) → l.filterMap (fun (m : Nat) => xs[((xs.size : Int) - 1 + (m : Int) * (-1)).toNat]?) = l.filterMap ((fun x => xs[x]?) ∘ fun k => xs.size - 1 - k) := fun l hl => by
      induction l with
      | nil => rfl
      | cons k l ih =>
        have h1 := hl k (by simp)
        rw [List.filterMap_cons, List.filterMap_cons, ih fun b hb => hl b (by simp [hb])]
        have e1 : ((xs.size : Int) - 1 + (k : Int) * (-1)).toNat = xs.size - 1 - k := by omega
        simp only [e1, Function.comp]
    exact f _ fun k hk => List.mem_range.mp hk
  rw [e, PySem.W.krv_range, List.filterMap_reverse, PySem.W.krv_all]
theorem getItem_tuple_rev {t sl : Addr} {items : Array Value} {vl vu vk : Value} {Q : Value → Shared → Prop} (ht : IsTup s.heap t items) (hs : s.heap.IsSliceOf sl vl vu vk) (pl : IsPart vl none) (pu : IsPart vu none) (pk : IsPart vk (some (-1)))
    (h : Q (.ref s.heap.objs.size) { s with heap := s.heap.push { cls := .type "tuple", data := .seq items.toList.reverse.toArray } })
    (hsz : items.size ≤ sizeLine) : wpAny (model prog w) A (getItem (.ref t) (.ref sl)) Q E s := by
  have htake : sizeOk (.seq items.toList.reverse.toArray) := by
    show items.toList.reverse.toArray.size ≤ sizeLine
    rw [List.size_toArray, List.length_reverse, Array.length_toList]
    exact hsz
  obtain ⟨os, hos, hcs, hds⟩ := id hs
  have hTs : s.TypeIs (.ref sl) "slice" := ⟨os, hos, hcs⟩
  unfold getItem
  try with_reducible refine wpAny_holding ?_
  first | refine wpAny_bind (wpAny_pure ?_) | skip
  refine wpAny_bind (wpAny_sequenceKey ht.typeIs (by decide) ?_)
  refine wpAny_bind (wpAny_callSpecial?_slot (name := Str.ofString "__getitem__") ht.typeIs PyProof.Rows.slot_tuple_getitem
    (wpAny_call_entry PyProof.Rows.slot_tuple_getitem ht.typeIs entry_tuple_getitem ?_ (args_tuple_getitem _ _)))
  show wpAny _ _ (Builtin.Tuple.tupleItemsOf (.ref t) >>= _) _ _ s
  refine wpAny_bind (PyProof.Rows.tupleItemsOf_ ht ?_)
  refine wpAny_bind (wpAny_typeOf hTs ?_)
  rw [if_pos (by decide)]
  refine wpAny_bind (sliceApplied_rev hs pl pu pk ?_)
  have hno : ¬ ((((items.size : Int) - 1) == 0 && (-1 : Int) == 1 && items.size == items.size) = true) := by
    intro q
    rw [Bool.and_eq_true, Bool.and_eq_true] at q
    exact absurd q.1.2 (by decide)
  show wpAny _ _ (if (((items.size : Int) - 1) == 0 && (-1 : Int) == 1 && items.size == items.size) = true then _ else _) _ _ s
  rw [if_neg hno, pick_rev]
  first
    | exact wpAny_bind (m := Builtin.Tuple.tupleExact _) (wpAny_newObj_type (wpAny_pure ⟨_, rfl, wpAny_pure h⟩) htake)
    | exact wpAny_bind (m := Builtin.Tuple.tupleExact _) (wpAny_newObj_type (wpAny_bind (wpAny_pure (wpAny_pure ⟨_, rfl, wpAny_pure h⟩))) htake)
    | exact wpAny_bind (wpAny_bind (m := Builtin.Tuple.tupleExact _) (wpAny_newObj_type (wpAny_pure (wpAny_pure ⟨_, rfl, wpAny_pure h⟩)) htake))
    | exact wpAny_bind (wpAny_bind (m := Builtin.Tuple.tupleExact _) (wpAny_newObj_type (wpAny_pure ⟨_, rfl, wpAny_pure h⟩) htake))
end
def tRevT (K : PySem.W.Frag) (te : TE) : TE := fun σ H Q => te σ H fun x H1 => ∃ a xs, x = .ref a ∧ SqT K H1 a xs ∧ ∀ p, H1 p = none → Q (.ref p) (upd H1 p (.tup xs.reverse))
section
variable {X : Cx}
theorem pe_revT {e : Expr} {te : TE} {k : Nat} {p1 p2 p3 pos : Pos} (he : PE X e te) : PE X (.Subscript e (.Slice none none (some (.UnaryOp .USub (.Constant (.int 1) k p1) p2)) p3) pos) (tRevT X.K te) := by
  refine ⟨fun pins s σ H Q I h => ?_⟩
  refine Subscript_ (thn (he.run pins s σ H _ I h) fun v s1 ⟨x, H1, I1, r1, q1⟩ => ?_)
  obtain ⟨a, xs, ex, hx, q⟩ := q1
  subst ex
  cases r1
  have hst : PO X (some (.UnaryOp .USub (.Constant (.int 1) k p1) p2)) (tPart (tUn (rU fun i => .int (-i)) (tC (.int 1)))) := po_some (pe_un un_neg pe_int)
  refine wpAny_Slice (thn (po_none.run pins s1 σ H1 (fun o H2 => o = none ∧ H2 = H1) I1 ⟨rfl, rfl⟩) fun vl s2 ⟨l, H2, I2, pl, el, e2⟩ => ?_)
  subst el e2
  refine thn (po_none.run pins s2 σ H2 (fun o H3 => o = none ∧ H3 = H2) I2 ⟨rfl, rfl⟩) fun vu s3 ⟨u, H3, I3, pu, eu, e3⟩ => ?_
  subst eu e3
  refine thn (hst.run pins s3 σ H3 (fun o H4 => o = some (-1) ∧ H4 = H3) I3 ⟨1, rfl, -1, rfl, rfl, rfl⟩) fun vs s4 ⟨o, H4, I4, ps, eo, e4⟩ => ?_
  subst eo e4
  have I5 : Inv X pins σ H4 { s4 with heap := s4.heap.push { cls := .type "slice", data := .fields #[vl, vu, vs] } } := I4.kept (t' := s4.toks) fun b ob q => Heap.get?_push_of_some _ q
  obtain ⟨its, r, ht, hz⟩ := I5.tuple hx
  have hlen := r.length
  show wpAny (model X.prog X.w) X.A (subscriptTail e (.Slice none none (some (.UnaryOp .USub (.Constant (.int 1) k p1) p2)) p3) (.ref a) (.ref s4.heap.objs.size)) (EP X pins σ Q) X.xe { s4 with heap := s4.heap.push { cls := .type "slice", data := .fields #[vl, vu, vs] } }
  refine tail_any (ops := [.ref a, .ref s4.heap.objs.size]) ht.typeIs (PyProof.Rows.slot_tuple_getitem.lookup) ?_ (by with_unfolding_all rfl)
  refine getItem_tuple_rev ht (Heap.IsSliceOf.new _ vl vu vs) pl pu ps ?_ (by rw [List.size_toArray]; omega)
  refine ⟨.ref _, _, I5.laid (t' := s4.toks) (o := .tup xs.reverse) (fun b ob q => Heap.get?_push_of_some _ q) (Nat.le_refl _) ?_, rfl, q _ (I5.hok.fresh (Nat.le_refl _))⟩
  exact ⟨by rw [List.length_reverse]; exact hz, _, r.reverse, IsTup.new _ _⟩
end
/-! ### enumerate(tuple) -/
theorem meets_enumerate_newB1 {v : Value} {o : Obj} {H : Heap → Prop} (B : Begins v o H) :
    Meets (Builtin.«enumerate.__new__» ⟨[.type "enumerate", v], []⟩) (fun _ R s => H s.heap ∧
      R (.ok (.ret (.ref (s.heap.push o).objs.size))) { s with heap := (s.heap.push o).push { cls := .type "enumerate", data := .fields #[.none, .bool false, .ref s.heap.objs.size, rawInt 0, .none, .none] } }) :=
  .of_wp fun prog w A R s h => by
    obtain ⟨hp, g, d, tk, os⟩ := s; obtain ⟨h1, h⟩ := h
    have hsub := sub_enumerate
    have q1 : ∀ {A' : Around} {E : Value → Shared → Prop} {Q : Value → Shared → Prop}, Q (.ref hp.objs.size) ⟨hp.push o, g, d, tk, os⟩ → wpAny (model prog w) A' (pyIter v) Q E ⟨hp, g, d, tk, os⟩ :=
      fun q => B.iter prog w _ _ ⟨hp, g, d, tk, os⟩ _ h1 q
    wp_walk using q1
    refine wpAny_stack_any fun st => wpAny_pure ?_
    split
    · rename_i c _ _ _ _ _
      cases (c == Value.type "enumerate")
      · wp_walk using q1
        exact ⟨_, rfl, h⟩
      · wp_walk using q1
        exact ⟨_, rfl, h⟩
    · wp_walk using q1
      exact ⟨_, rfl, h⟩
theorem enum_begins1 {prog : Program} {w : World} {A : Around} {E : Value → Shared → Prop} {s : Shared} {v : Value} {o : Obj} {H : Heap → Prop} {Q : Value → Shared → Prop} (B : Begins v o H) (h1 : H s.heap)
    (h : ∀ h', IsEnum h' (s.heap.objs.size + 1) s.heap.objs.size 0 .none → h'.get? s.heap.objs.size = some o → h'.objs.size = s.heap.objs.size + 2 →
      (∀ b o, s.heap.get? b = some o → h'.get? b = some o) → Q (.ref (s.heap.objs.size + 1)) { s with heap := h' }) :
    wpAny (model prog w) A (call (.type "enumerate") [v]) Q E s := by
  refine callType_new F.called_enumerate (by decide) (F.typeCall_enumerate_1 _) (F.newCall_enumerate_1 _) (fun obj => F.args_object_init_2 obj _) F.entry_enumerate_new
    (meets_enumerate_newB1 B) ⟨h1, ?_⟩
  have hz : (s.heap.push o).objs.size = s.heap.objs.size + 1 := Heap.size_push ..
  show _ ∧ _
  rw [hz]
  have he : IsEnum ((s.heap.push o).push { cls := .type "enumerate", data := .fields #[.none, .bool false, .ref s.heap.objs.size, rawInt 0, .none, .none] }) (s.heap.objs.size + 1) s.heap.objs.size 0 .none := by
    have := Heap.get?_push_size (s.heap.push o) (o := { cls := .type "enumerate", data := .fields #[.none, .bool false, .ref s.heap.objs.size, rawInt 0, .none, .none] }) rfl
    rw [hz] at this; exact this
  refine ⟨⟨_, he, rfl⟩, h _ he (Heap.get?_push_of_some _ (Heap.get?_push_size _ B.free)) (by rw [Heap.size_push, hz]) fun b o x => Heap.get?_push_of_some _ (Heap.get?_push_of_some _ x)⟩
def IteT (K : PySem.W.Frag) (a : Addr) : It :=
  ⟨fun i H => ∃ (xs : List V) (x : V), SqT K H a xs ∧ xs[i]? = some x, fun i H v H' => ∃ T x, v = .ref T ∧ H T = none ∧ H' = upd H T (.tup [.int (i : Nat), x]) ∧ ∀ xs, SqT K H a xs → xs[i]? = some x, fun i H => ∃ xs : List V, SqT K H a xs ∧ xs.length = i⟩
theorem turn_enumT {P : Program} {w : World} {K : PySem.W.Frag} {elts : List Expr} {kk : Nat} {tpos : Pos} (a e it : Addr) :
    Turn P w K (.Tuple elts kk tpos) (IteT K a) [e, it] e (fun i h => (∃ old, IsEnum h e it ((i : Nat) : Int) old) ∧ h.IsTupleIter it a i ∧ e ≠ it ∧ a ≠ it ∧ a ≠ e) where
  mem := by simp
  obj := fun i h st b hb => by
    obtain ⟨⟨old, he⟩, ⟨o, ho, hc, hd⟩, _⟩ := st
    have e' : b = e ∨ b = it := by simpa using hb
    rcases e' with z | z
    · rw [z]; exact ⟨_, he, fun v q => nomatch q⟩
    · rw [z]; exact ⟨o, ho, fun v q => by rw [hd] at q; cases q⟩
  keep := fun i h h' st k => let ⟨⟨old, he⟩, hi, hne⟩ := st; ⟨⟨old, k e (by simp) _ he⟩, hi.at fun o q => k it (by simp) o q, hne⟩
  item := by
    intro X hP hw hK hc i pins s σ H E I hf st hg
    subst hP hw hK
    obtain ⟨⟨old, he⟩, hit, hne, hai, hae⟩ := st
    obtain ⟨xs, x, hq, hx⟩ := hg
    obtain ⟨its, rv, p, hz⟩ := I.tuple hq
    obtain ⟨u, hu, ru⟩ := rv.get hx
    have hel : e < s.heap.objs.size := Heap.lt_size he
    have hil : it < s.heap.objs.size := by obtain ⟨_, q, _⟩ := hit; exact Heap.lt_size q
    have hlen := rv.length
    have hxi := (List.getElem?_eq_some_iff.mp hx).1
    refine wpAny_pyNext_enum_itemC (Draws.tuple (show X.A.in1.handled = none from I.ok.hd hc) it a hai its.toArray) he ⟨hit, p⟩ (by simp; omega) hne (by simp [hne, Ne.symm hae]) fun x' h' tk hP ho hs' hT hsz hk => ?_
    have ex : x' = u := by
      have hP' : its.toArray[i]? = some x' := hP
      have : its[i]? = some x' := by simpa using hP'
      rw [hu] at this
      exact (Option.some.inj this).symm
    subst ex
    refine ⟨_, rfl, wpAny_letOwnedTupleGo_enum (s := { s with heap := h', toks := tk + 1 }) ho fun h'' he' sb => ?_⟩
    have hT2 : h''.get? s.heap.objs.size = some { cls := .type "tuple", data := .seq #[.int i tk, x'] } := (sb.2 _ (Nat.ne_of_gt hel)).trans hT
    have new : ObjOk X.prog X.w (upd H s.heap.objs.size (.tup [.int (i : Nat), x])) h'' s.heap.objs.size (.tup [.int (i : Nat), x]) :=
      ⟨by show 2 ≤ sizeLine; decide, [.int i tk, x'], .cons ⟨_, rfl⟩ (.cons ru .nil), ⟨_, hT2, rfl, _, rfl⟩⟩
    have I1 : Inv X pins σ (upd H s.heap.objs.size (.tup [.int (i : Nat), x])) { s with heap := h'', toks := tk + 1 } :=
      I.turnedNew (ch := [e, it]) (fun b ob hb q => (sb.2 b (fun z => hb (by simp [z]))).trans (hk b ob (fun z => hb (by simp [z])) (fun z => hb (by simp [z])) q)) hf (Nat.le_refl _) new
    refine ⟨.ref s.heap.objs.size, _, I1, rfl, ⟨_, x, rfl, I.hok.fresh (Nat.le_refl _), rfl, fun ys hy => ?_⟩, ⟨⟨x', ?_⟩, hs'.1.at fun o q => (sb.2 it (Ne.symm hne)).trans q, hne, hai, hae⟩, fun b hb => ?_⟩
    · obtain ⟨its2, rv2, p2, hz2⟩ := I.tuple hy
      rw [I.tuple_inj hy hq]; exact hx
    · have e1 : ((i + 1 : Nat) : Int) = (i : Int) + 1 := by omega
      rw [e1]; exact he'
    · have hb' : b < s.heap.objs.size := by
        have e' : b = e ∨ b = it := by simpa using hb
        rcases e' with z | z
        · rw [z]; exact hel
        · rw [z]; exact hil
      rw [upd_ne (Nat.ne_of_lt hb')]
      exact (hf b hb).1
  done := by
    intro X hP hw hK hc i pins s σ H E I hf st hg
    subst hP hw hK
    obtain ⟨⟨old, he⟩, hit, hne, hai, hae⟩ := st
    obtain ⟨xs, hq, hx⟩ := hg
    obtain ⟨its, rv, p, hz⟩ := I.tuple hq
    obtain ⟨f0, f1, f2, f3, f4, f5⟩ := hf it (by simp)
    have hl := rv.length
    subst hx
    exact wpAny_pyNext_enum_endD (Draws.tuple (show X.A.in1.handled = none from I.ok.hd hc) it a hai its.toArray) he ⟨by simpa [← hl] using hit, p⟩ fun h' eb => ⟨rfl, I.turned (t' := s.toks) (fun b o hb q => eb b o hb q) f0 f1 f3 f4 f5⟩
  self := fun A i s Q E st h => let ⟨⟨_, he⟩, _⟩ := st; wpAny_pyIter_enum he h
end KW

/-! text K8Own3 -/
set_option Elab.async false
set_option linter.all false
set_option maxRecDepth 100000
set_option maxHeartbeats 4000000
namespace KW
open PySem PySem.Spec PyProof.Rows L2 StX
def iEnumT (K : PySem.W.Frag) (ta : TA) : TI := fun σ H R => ta σ H fun vs H1 => ∃ a xs, vs = [.ref a] ∧ SqT K H1 a xs ∧ R (IteT K a) H1
theorem pi_enumT {X : Cx} {e : Expr} {ta : TA} {p pos tpos : Pos} {elts : List Expr} {kk : Nat} (hg : Gl X "enumerate") (hm : X.mg "enumerate" = none) (ha : PA X [e] ta) (hs : starEach [e] X.env = [(false, eval e X.env)] := by rfl) :
    PI X (.Tuple elts kk tpos) (.Call (.Name "enumerate" p) [e] [] pos) (iEnumT X.K ta) := by
  refine ⟨fun pins s σ H R I h => ?_⟩
  refine Call_ (ld_blt I hg hm boot_enumerate (PyProof.Rows.callWith_type1 (thn (ha.run pos pins s σ H _ I h) fun us s1 ⟨vs, H1, I1, r1, q1⟩ => ?_) hs rfl))
  obtain ⟨a, xs, ex, hq, q⟩ := q1
  subst ex
  cases r1 with
  | cons r rr =>
    cases rr
    cases r
    obtain ⟨its, rv, p', hz⟩ := I1.tuple hq
    refine enum_begins1 (begins_tuple a its.toArray) p' fun h' he hit hsz hk => wpAny_pyIter_enum he ?_
    have I2 : Inv X pins σ H1 { s1 with heap := h' } := I1.kept (t' := s1.toks) hk
    have la : a < s1.heap.objs.size := by obtain ⟨o, ho, _⟩ := p'; exact Heap.lt_size ho
    refine ⟨s1.heap.objs.size + 1, [s1.heap.objs.size + 1, s1.heap.objs.size], _, _, H1, rfl, I2, turn_enumT a (s1.heap.objs.size + 1) s1.heap.objs.size, ⟨⟨.none, he⟩, ⟨_, hit, rfl, rfl⟩, Nat.succ_ne_self _, Nat.ne_of_lt la, Nat.ne_of_lt (Nat.lt_succ_of_lt la)⟩, fun b hb => ?_, q⟩
    have e' : b = s1.heap.objs.size + 1 ∨ b = s1.heap.objs.size := by simpa using hb
    have hle : s1.heap.objs.size ≤ b := by
      rcases e' with z | z
      · rw [z]; exact Nat.le_add_right _ _
      · rw [z]; exact Nat.le_refl _
    exact I1.fpOk hle (I1.hok.fresh hle)
section
variable {K : PySem.W.Frag} {T : Tb} {σ : L2.St} {Hx H0 Hb H H' Hb1 H1 : Hp} {ta tb te tx : TE} {t u : TT} {x y z v : V} {d d' d1 d2 : PyData} {ds es : List PyData} {i j : Int} {b c : Bool} {tr tr' : TA} {E : XK} {D : Ends} {tu tw tz : TS}
/-! a pair of names as the target of a comprehension over enumerate(tuple) -/
abbrev SEn (K : PySem.W.Frag) (j l : Nat) (ds : List PyData) : Nat → L2.St → L2.St → Hp → Prop := fun i σ0 σ2 Hx => ∃ v d, ds[i]? = some d ∧ Dp K Hx v d ∧ σ2 = (σ0.set j (some (.int (i : Nat)))).set l (some v)
/-- of a list or a tuple of pairs -/
abbrev SPr (K : PySem.W.Frag) (j l : Nat) (ds : List PyData) : Nat → L2.St → L2.St → Hp → Prop := fun i σ0 σ2 Hx => ∃ v w d1 d2, ds[i]? = some (.tuple [d1, d2]) ∧ Dp K Hx v d1 ∧ Dp K Hx w d2 ∧ σ2 = (σ0.set j (some v)).set l (some w)
theorem gtup2 {j l : Nat} {a : Addr} {x y : V} {Q : L2.St → Hp → Prop} (h : SqT K H a [x, y]) (q : Q ((σ.set j (some x)).set l (some y)) H) : gTup K 2 (gCons (gName j) (gCons (gName l) gNil)) (.ref a) σ H Q := ⟨a, [x, y], rfl, h, rfl, gs2 q⟩
theorem it_enumT {j l : Nat} (h : EvD K T te σ H (.tuple ds)) : EvI K T (iEnumT K (tCons te tNil)) (gTup K 2 (gCons (gName j) (gCons (gName l) gNil))) σ H ds.length (SEn K j l ds) := fun H1 e R q =>
  h H1 e _ fun v H2 e2 k2 => by
    obtain ⟨a, xs, rfl, hs, hd⟩ := Dp.tuple_inv k2
    refine ⟨a, xs, rfl, rest_le.sqt hs, q _ H2 e2 (fun i H3 hi e3 => ?_) (fun H3 e3 => ?_) fun i H3 x H4 hi e3 hy => ?_⟩
    · exact ⟨xs, xs[i]'(by rw [hd.length]; exact hi), e3.sub.sqt hs, List.getElem?_eq_getElem _⟩
    · exact ⟨xs, e3.sub.sqt hs, hd.length⟩
    · obtain ⟨U, x', rfl, hU, rfl, hy⟩ := hy
      have hx := hy xs (e3.sub.sqt hs)
      obtain ⟨d, h1, h2⟩ := hd.get' hx
      have e34 := (e3.refl).new (o := .tup [.int (i : Nat), x']) hU
      refine ⟨e34, fun σ0 Q q => ?_⟩
      refine gtup2 (.inl (.inl upd_same)) (q _ _ e34.refl ⟨x', d, h1, Dp.sub (sub_rest (e3.trans e34).sub) _ _ h2, rfl⟩)
theorem dp_pair {p : V} (h : Dp K H p (.tuple [d1, d2])) : ∃ a v w, p = .ref a ∧ SqT K H a [v, w] ∧ Dp K H v d1 ∧ Dp K H w d2 := by
  obtain ⟨a, xs, rfl, hs, hd⟩ := Dp.tuple_inv h
  obtain ⟨v, w, rfl, h1, h2⟩ := dp2 hd
  exact ⟨a, v, w, rfl, hs, h1, h2⟩
theorem it_listP {j l : Nat} (h : EvD K T te σ H (.list ds)) (hp : ∀ (i : Nat) (d : PyData), ds[i]? = some d → ∃ d1 d2, d = .tuple [d1, d2]) : EvI K T (iList K te) (gTup K 2 (gCons (gName j) (gCons (gName l) gNil))) σ H ds.length (SPr K j l ds) := fun H1 e R q =>
  h H1 e _ fun v H2 e2 k2 => by
    obtain ⟨a, xs, rfl, hs, hd⟩ := Dp.list_inv k2
    refine ⟨a, rfl, ⟨xs, rest_le.sql hs⟩, q _ H2 e2 (fun i H3 hi e3 => ?_) (fun H3 e3 => ?_) fun i H3 x H4 hi e3 hy => ?_⟩
    · exact ⟨xs, xs[i]'(by rw [hd.length]; exact hi), e3.sub.sql hs, List.getElem?_eq_getElem _⟩
    · exact ⟨xs, e3.sub.sql hs, by rw [hd.length]; exact Nat.le_refl _⟩
    · obtain ⟨rfl, hy⟩ := hy
      have hx := hy xs (e3.sub.sql hs)
      obtain ⟨d, h1, h2⟩ := hd.get' hx
      obtain ⟨d1, d2, rfl⟩ := hp _ _ h1
      refine ⟨e3.refl, fun σ0 Q q => ?_⟩
      obtain ⟨a', v', w', rfl, hs', k1, k2⟩ := dp_pair (Dp.sub (sub_rest e3.sub) _ _ h2)
      exact gtup2 (rest_le.sqt hs') (q _ _ e3.refl ⟨v', w', d1, d2, h1, k1, k2, rfl⟩)
theorem it_tupP {j l : Nat} (h : EvD K T te σ H (.tuple ds)) (hp : ∀ (i : Nat) (d : PyData), ds[i]? = some d → ∃ d1 d2, d = .tuple [d1, d2]) : EvI K T (iTup K te) (gTup K 2 (gCons (gName j) (gCons (gName l) gNil))) σ H ds.length (SPr K j l ds) := fun H1 e R q =>
  h H1 e _ fun v H2 e2 k2 => by
    obtain ⟨a, xs, rfl, hs, hd⟩ := Dp.tuple_inv k2
    refine ⟨a, rfl, ⟨xs, rest_le.sqt hs⟩, q _ H2 e2 (fun i H3 hi e3 => ?_) (fun H3 e3 => ?_) fun i H3 x H4 hi e3 hy => ?_⟩
    · exact ⟨xs, xs[i]'(by rw [hd.length]; exact hi), e3.sub.sqt hs, List.getElem?_eq_getElem _⟩
    · exact ⟨xs, e3.sub.sqt hs, by rw [hd.length]; exact Nat.le_refl _⟩
    · obtain ⟨rfl, hy⟩ := hy
      have hx := hy xs (e3.sub.sqt hs)
      obtain ⟨d, h1, h2⟩ := hd.get' hx
      obtain ⟨d1, d2, rfl⟩ := hp _ _ h1
      refine ⟨e3.refl, fun σ0 Q q => ?_⟩
      obtain ⟨a', v', w', rfl, hs', k1, k2⟩ := dp_pair (Dp.sub (sub_rest e3.sub) _ _ h2)
      exact gtup2 (rest_le.sqt hs') (q _ _ e3.refl ⟨v', w', d1, d2, h1, k1, k2, rfl⟩)
/-- zip of two lists -/
abbrev SZp (K : PySem.W.Frag) (j l : Nat) (ds es : List PyData) : Nat → L2.St → L2.St → Hp → Prop := fun i σ0 σ2 Hx => ∃ v w d1 d2, ds[i]? = some d1 ∧ es[i]? = some d2 ∧ Dp K Hx v d1 ∧ Dp K Hx w d2 ∧ σ2 = (σ0.set j (some v)).set l (some w)
theorem it_zip {j l : Nat} (ha : EvD K T ta σ H (.list ds)) (hb : EvD K T tb σ H (.list es)) (hl : ds.length = es.length) : EvI K T (iZip K (tCons ta (tCons tb tNil))) (gTup K 2 (gCons (gName j) (gCons (gName l) gNil))) σ H ds.length (SZp K j l ds es) := fun H1 e R q =>
  ha H1 e _ fun v H2 e2 k2 => hb H2 (e.trans e2) _ fun w H2' e2' k2' => by
    obtain ⟨a, xs, rfl, hs, hd⟩ := Dp.list_inv (Dp.sub (rest_fwd e2'.sub) _ _ k2)
    obtain ⟨b, ys, rfl, ht, he⟩ := Dp.list_inv (Dp.sub (rest_back e2.free) _ _ k2')
    have hxl := hd.length
    have hyl := he.length
    refine ⟨a, b, xs, ys, rfl, rest_le.sql hs, rest_le.sql ht, q _ H2' (e2.trans e2') (fun i H3 hi e3 => ?_) (fun H3 e3 => ?_) fun i H3 x H4 hi e3 hy => ?_⟩
    · exact ⟨xs, ys, xs[i]'(by omega), ys[i]'(by omega), e3.sub.sql hs, e3.sub.sql ht, List.getElem?_eq_getElem _, List.getElem?_eq_getElem _⟩
    · exact ⟨xs, ys, e3.sub.sql hs, e3.sub.sql ht, .inl (by omega)⟩
    · obtain ⟨U, x', y', rfl, hU, rfl, hx', hy'⟩ := hy
      obtain ⟨d1, h1, h2⟩ := hd.get' (hx' xs (e3.sub.sql hs))
      obtain ⟨d2, h3, h4⟩ := he.get' (hy' ys (e3.sub.sql ht))
      have e34 := (e3.refl).new (o := .tup [x', y']) hU
      refine ⟨e34, fun σ0 Q q => ?_⟩
      exact gtup2 (.inl (.inl upd_same)) (q _ _ e34.refl ⟨x', y', d1, d2, h1, h3, Dp.sub (sub_rest (e3.trans e34).sub) _ _ h2, Dp.sub (sub_rest (e3.trans e34).sub) _ _ h4, rfl⟩)
theorem rest_sub {B B' A C : Hp} (s : Sub B B') (e : Ex T B C) : Sub (rest B A C) (rest B' A C) := fun a o h n => by
  by_cases c : (B a).isSome = true ∨ A a = none
  · rw [rest_pos c] at h
    have c2 : (B' a).isSome = true ∨ A a = none := by
      rcases c with c | c
      · cases q : B a with
        | none => rw [q] at c; cases c
        | some u =>
          by_cases z : ∃ ps, u = .tbl ps
          · obtain ⟨ps, rfl⟩ := z
            obtain ⟨ps', w⟩ := e.tb q
            rw [h] at w
            cases w
            exact absurd rfl (n _)
          · exact .inl (by rw [s a u q fun ps w => z ⟨ps, w⟩]; rfl)
      · exact .inr c
    rw [rest_pos c2]
    exact h
  · rw [rest_neg c] at h; cases h
theorem sat_mono {j : Nat} : ∀ i σ0 σ2 A B, Sub A B → SAt K j ds i σ0 σ2 A → SAt K j ds i σ0 σ2 B := fun _ _ _ _ _ s ⟨v, d, h1, h2, h3⟩ => ⟨v, d, h1, Dp.sub s _ _ h2, h3⟩
theorem sen_mono {j l : Nat} : ∀ i σ0 σ2 A B, Sub A B → SEn K j l ds i σ0 σ2 A → SEn K j l ds i σ0 σ2 B := fun _ _ _ _ _ s ⟨v, d, h1, h2, h3⟩ => ⟨v, d, h1, Dp.sub s _ _ h2, h3⟩
theorem spr_mono {j l : Nat} : ∀ i σ0 σ2 A B, Sub A B → SPr K j l ds i σ0 σ2 A → SPr K j l ds i σ0 σ2 B := fun _ _ _ _ _ s ⟨v, w, d1, d2, h1, h2, h3, h4⟩ => ⟨v, w, d1, d2, h1, Dp.sub s _ _ h2, Dp.sub s _ _ h3, h4⟩
theorem sint_mono {j : Nat} {lo : Int} : ∀ i σ0 σ2 A B, Sub A B → SInt j lo i σ0 σ2 A → SInt j lo i σ0 σ2 B := fun _ _ _ _ _ _ h => h
/-! ### for over any source that EvI tells: the loop's own state (base, heap) is told by Pv -/
/-- Bs: the base at the loop's start (what the source's items live in) -/
theorem s_for {wi : TI} {g : TG} {n : Nat} {Sx : Nat → L2.St → L2.St → Hp → Prop} (S : Stt T Hx H0 Hb H) (hi : EvI K T wi g σ Hb n Sx) (hm : ∀ i σ0 σ2 A B, Sub A B → Sx i σ0 σ2 A → Sx i σ0 σ2 B)
    (Pv : Hp → Nat → L2.St → Hp → Hp → Prop)
    (h0 : ∀ Bs H1, Nxt T Hx H0 Hb H Bs H1 → Pv Bs 0 σ Bs H1)
    (hP : ∀ Bs i σ' Hb' H', Pv Bs i σ' Hb' H' → Stt T Hx H0 Hb' H' ∧ Sub Bs Hb' ∧ Ex T Bs H')
    (hs : ∀ Bs i σ' Hb' H', i < n → Pv Bs i σ' Hb' H' → ∀ σ2 Hb2 H2, Nxt T Hx H0 Hb' H' Hb2 H2 → Sx i σ' σ2 Hb2 → tw { D with nx := fun σ3 H3 => ∃ Hb3, Pv Bs (i + 1) σ3 Hb3 H3, ct := fun σ3 H3 => ∃ Hb3, Pv Bs (i + 1) σ3 Hb3 H3, bk := D.nx } σ2 H2)
    (hd : ∀ Bs σ' Hb' H', Pv Bs n σ' Hb' H' → D.nx σ' H') : tFor wi g tw D σ H := by
  refine hi H S.eb _ fun J H2 e2 go st yl => ?_
  have N0 := S.step e2
  refine ⟨fun i m σ' H' => m = n - i ∧ i ≤ n ∧ ∃ Hb', Pv (rest Hb H H2) i σ' Hb' H', ⟨n, by simp, Nat.zero_le _, _, h0 _ _ N0⟩, ?_⟩
  rintro i m σ' H' ⟨rfl, hle, Hb', hp⟩
  obtain ⟨S', sb, eB⟩ := hP _ _ _ _ _ hp
  by_cases hlt : i < n
  · refine .inr ⟨go i H' hlt eB, fun σ3 H3 => ∃ Hb3, Pv (rest Hb H H2) (i + 1) σ3 Hb3 H3, fun σ3 H3 p' => ⟨n - (i + 1), by omega, rfl, hlt, p'⟩, fun x H4 hy => ?_⟩
    obtain ⟨e34, hg⟩ := yl i H' x H4 hlt eB hy
    refine hg σ' _ fun σ2 H5 e45 hS => ?_
    have e35 := e34.trans e45
    have N := S'.step e35
    refine hs _ i σ' Hb' H' hlt hp σ2 _ H5 N (hm i σ' σ2 _ _ (rest_sub sb (eB.trans e35)) hS)
  · have hin : i = n := by omega
    subst hin
    exact .inl ⟨st H' eB, hd _ _ _ _ hp⟩
theorem ed_revT (h : EvD K T te σ H (.tuple ds)) : EvD K T (tRevT K te) σ H (.tuple ds.reverse) := fun H1 e Q q =>
  h H1 e _ fun v H2 e2 k2 => by
    obtain ⟨a, xs, rfl, hs, hd⟩ := Dp.tuple_inv k2
    exact ⟨a, xs, rfl, rest_le.sqt hs, fun p hp => q _ _ (e2.new hp) (.tup ((by rw [rest_new (e2.free hp), upd_same])) (DpAll.sub ((upd_rest hp).trans hide_le) _ _ hd.reverse))⟩
end
end KW

/-! text K8Own4 -/
set_option Elab.async false
set_option linter.all false
set_option maxRecDepth 100000
set_option maxHeartbeats 4000000
/-! Several targets with new lists among them; changes of own lists of plain values. -/
namespace KW
open PySem PySem.Spec PyProof.Rows L2 StX
section
variable {K : PySem.W.Frag} {T : Tb} {σ : L2.St} {Hx H0 Hb H H' Hb1 H1 : Hp} {ta tb te tx to ti : TE} {t u : TT} {x y z v : V} {d d' d1 d2 : PyData} {ds es : List PyData} {i j : Int} {b c : Bool} {tr tr' : TA} {E : XK} {D : Ends} {tu tw tz : TS}
theorem Stt.at (S0 : Stt T Hx H0 Hb H) (S : Stt T Hx H0 Hb1 H') (e : Ex T Hb H') : Stt T Hx H0 Hb H' := ⟨S.e0, e, S0.in_⟩
theorem hide_le2 {p : Addr} : Sub (hide p H) H := hide_le
/-- a, b = new list, value -/
theorem q_parN {i j : Nat} (S : Stt T Hx H0 Hb H) (h : EvN K T ta σ Hb ds) (h2 : Ev T tb σ H v) (k : ∀ p xs Hb1 H1, Nxt T Hx H0 Hb H Hb1 H1 → H0 p = none → Hb1 p = none → H1 p = some (.lst xs) → DpAll K Hb1 xs ds → tz D ((σ.set i (some (.ref p))).set j (some v)) H1) : tSeq (tPar i j (tCons ta (tCons tb tNil))) tz D σ H :=
  h H S.eb _ fun p xs H1 hp e1 h1 kd => h2 H1 e1 _ fun H2 e2 => by
    obtain ⟨n, a, b⟩ := new_nxt (xs := xs) S hp e1
    exact ⟨_, _, rfl, k p xs _ H2 (n.trans (.keep n.st e2)) a b (e2.lst h1) kd⟩
/-- a, b, c = new list, value, value through a tuple -/
theorem q_tupN {i j l : Nat} (S : Stt T Hx H0 Hb H) (h : EvN K T ta σ Hb ds) (k : ∀ p xs Hb1 H1, Nxt T Hx H0 Hb H Hb1 H1 → H0 p = none → Hb1 p = none → H1 p = some (.lst xs) → DpAll K Hb1 xs ds → tz D (((σ.set i (some (.ref p))).set j (some x)).set l (some y)) H1) :
    tSeq (tAsg (tTup (tCons ta (tCons (tC x) (tCons (tC y) tNil)))) (gTup K 3 (gCons (gName i) (gCons (gName j) (gCons (gName l) gNil))))) tz D σ H :=
  h H S.eb _ fun p xs H1 hp e1 h1 kd => by
    obtain ⟨n, a, b⟩ := new_nxt (xs := xs) S hp e1
    refine ⟨by show 3 ≤ sizeLine; decide, fun q hq => ?_⟩
    have e2 := (n.st.e0.refl).new (o := .tup [.ref p, x, y]) hq
    exact ⟨q, _, rfl, .inl (.inl upd_same), rfl, gs3 (k p xs _ _ (n.trans (.keep n.st e2)) a b (e2.lst h1) kd)⟩
/-- a, b, c = new list, value, new list -/
theorem q_par3NN {i j l : Nat} (S : Stt T Hx H0 Hb H) (h : EvN K T ta σ Hb ds) (h2 : Ev T tb σ H v) (h3 : EvN K T te σ Hb es) (k : ∀ p q xs ys Hb1 H1, Nxt T Hx H0 Hb H Hb1 H1 → p ≠ q → H0 p = none → Hb1 p = none → H1 p = some (.lst xs) → DpAll K Hb1 xs ds → H0 q = none → Hb1 q = none → H1 q = some (.lst ys) → DpAll K Hb1 ys es → tz D (((σ.set i (some (.ref p))).set j (some v)).set l (some (.ref q))) H1) :
    tSeq (tPar3 i j l (tCons ta (tCons tb (tCons te tNil)))) tz D σ H :=
  h H S.eb _ fun p xs H1 hp e1 h1 kd => h2 H1 e1 _ fun H2 e2 => h3 H2 (S.eb.trans (e1.trans e2)) _ fun q ys H3 hq e3 h3 kd3 => by
    obtain ⟨n, a, b⟩ := new_nxt (xs := xs) S hp e1
    have n2 := n.trans (.keep n.st e2)
    obtain ⟨n3, a3, b3⟩ := new_nxt (xs := ys) n2.st hq e3
    have hp2 := e2.lst h1
    have n4 := n2.trans n3
    refine ⟨_, _, _, rfl, k p q xs ys _ H3 n4 (fun z => by rw [z, hq] at hp2; cases hp2) a (n3.hid p b (by rw [hp2]; intro z; cases z)) (e3.lst hp2) (n3.dps kd) a3 b3 h3 (DpAll.sub (hide_mono (rest_sub n2.sub (S.eb.trans ((e1.trans e2).trans e3)))) _ _ kd3)⟩
/-- a, b, c = datum, new list, value -/
theorem q_par3DN {i j l : Nat} (S : Stt T Hx H0 Hb H) (h : EvD K T ta σ Hb d) (h2 : EvN K T tb σ Hb es) (h3 : Ev T te σ H v) (k : ∀ w q ys Hb1 H1, Nxt T Hx H0 Hb H Hb1 H1 → Dp K Hb1 w d → H0 q = none → Hb1 q = none → H1 q = some (.lst ys) → DpAll K Hb1 ys es → tz D (((σ.set i (some w)).set j (some (.ref q))).set l (some v)) H1) :
    tSeq (tPar3 i j l (tCons ta (tCons tb (tCons te tNil)))) tz D σ H :=
  h H S.eb _ fun w H1 e1 kd => h2 H1 (S.eb.trans e1) _ fun q ys H2 hq e2 h2 kd2 => h3 H2 (e1.trans e2) _ fun H3 e3 => by
    have n := S.step e1
    obtain ⟨n2, a2, b2⟩ := new_nxt (xs := ys) n.st hq e2
    refine ⟨_, _, _, rfl, k w q ys _ H3 ((n.trans n2).trans (.keep n2.st e3)) (n2.dp kd) a2 b2 (e3.lst h2) (DpAll.sub (hide_mono (rest_sub n.sub (S.eb.trans (e1.trans e2)))) _ _ kd2)⟩
/-- stores and appends of plain values -/
theorem s_setV {p : Addr} {xs : List V} {j : Nat} (S : Stt T Hx H0 Hb H) (h : Ev T te σ H v) (ho : Ev T ta σ H (.ref p)) (hi : Ev T tb σ H (.int (j : Int))) (h0 : H0 p = none) (hb : Hb p = none) (hp : H p = some (.lst xs)) (hj : j < xs.length)
    (k : ∀ H1, Stt T Hx H0 Hb (upd H1 p (.lst (xs.set j v))) → Ex T H H1 → D.nx σ (upd H1 p (.lst (xs.set j v)))) : tAsg te (gSub ta tb rSetL) D σ H :=
  h H S.e0.refl _ fun H1 e1 => ho H1 e1 _ fun H2 e2 => hi H2 (e1.trans e2) _ fun H3 e3 => by
    have e13 := (e1.trans e2).trans e3
    have hp3 := e13.lst hp
    exact ⟨p, xs, j, j, rfl, rfl, hp3, ixN_nat hj, k H3 ((S.keep e13).mut h0 hb hp3) e13⟩
theorem q_setV {p : Addr} {xs : List V} {j : Nat} (S : Stt T Hx H0 Hb H) (h : Ev T te σ H v) (ho : Ev T ta σ H (.ref p)) (hi : Ev T tb σ H (.int (j : Int))) (h0 : H0 p = none) (hb : Hb p = none) (hp : H p = some (.lst xs)) (hj : j < xs.length)
    (k : ∀ H1, Stt T Hx H0 Hb (upd H1 p (.lst (xs.set j v))) → Ex T H H1 → tz D σ (upd H1 p (.lst (xs.set j v)))) : tSeq (tAsg te (gSub ta tb rSetL)) tz D σ H := s_setV (D := { D with nx := tz D }) S h ho hi h0 hb hp hj k
theorem s_appV {p : Addr} {xs : List V} (S : Stt T Hx H0 Hb H) (ho : Ev T ta σ H (.ref p)) (h : Ev T te σ H v) (h0 : H0 p = none) (hb : Hb p = none) (hp : H p = some (.lst xs)) (hz : xs.length < 100000)
    (k : ∀ H1, Stt T Hx H0 Hb (upd H1 p (.lst (xs ++ [v]))) → Ex T H H1 → D.nx σ (upd H1 p (.lst (xs ++ [v])))) : tDrop (tBM K "list" rAppend ta (tCons te tNil)) D σ H :=
  ho H S.e0.refl _ fun H1 e1 => ⟨Or.inl ⟨rfl, _, .inl (.inl (e1.lst hp))⟩, h H1 e1 _ fun H2 e2 => by
    have e12 := e1.trans e2
    have hp2 := e12.lst hp
    exact ⟨p, xs, v, rfl, rfl, hp2, sz_lt hz, k H2 ((S.keep e12).mut h0 hb hp2) e12⟩⟩
theorem q_appV {p : Addr} {xs : List V} (S : Stt T Hx H0 Hb H) (ho : Ev T ta σ H (.ref p)) (h : Ev T te σ H v) (h0 : H0 p = none) (hb : Hb p = none) (hp : H p = some (.lst xs)) (hz : xs.length < 100000)
    (k : ∀ H1, Stt T Hx H0 Hb (upd H1 p (.lst (xs ++ [v]))) → Ex T H H1 → tz D σ (upd H1 p (.lst (xs ++ [v])))) : tSeq (tDrop (tBM K "list" rAppend ta (tCons te tNil))) tz D σ H := s_appV (D := { D with nx := tz D }) S ho h h0 hb hp hz k
/-- xs[i] op= e, whole numbers -/
theorem s_augL {p : Addr} {xs : List V} {j : Nat} {a n : Int} {f : Int → Int → Int} (S : Stt T Hx H0 Hb H) (ho : Ev T to σ H (.ref p)) (hi : Ev T ti σ H (.int (j : Int))) (h : Ev T te σ H (.int n)) (h0 : H0 p = none) (hb : Hb p = none) (hp : H p = some (.lst xs)) (hx : xs[j]? = some (.int a))
    (k : ∀ H1, Stt T Hx H0 Hb (upd H1 p (.lst (xs.set j (.int (f a n))))) → Ex T H H1 → D.nx σ (upd H1 p (.lst (xs.set j (.int (f a n)))))) : tAugS to ti te (rGetL K) (ipI f) rSetL D σ H :=
  ho H S.e0.refl _ fun H1 e1 => hi H1 e1 _ fun H2 e2 => ⟨p, xs, j, .int a, rfl, rfl, .inl (.inl ((e1.trans e2).lst hp)), hx, h H2 (e1.trans e2) _ fun H3 e3 => by
    have e13 := (e1.trans e2).trans e3
    have hp3 := e13.lst hp
    exact ⟨a, n, rfl, rfl, p, xs, j, j, rfl, rfl, hp3, ixN_nat (List.getElem?_eq_some_iff.mp hx).1, k H3 ((S.keep e13).mut h0 hb hp3) e13⟩⟩
/-! results that are whole numbers: told at the whole heap -/
theorem own_at {p : Addr} {xs : List V} (S : Stt T Hx H0 Hb H) (hp : H p = some (.lst xs)) (hd : DpAll K Hb xs ds) : Dp K H (.ref p) (.list ds) := .lst hp (DpAll.sub S.eb.sub _ _ hd)
theorem own_atI {p : Addr} {ns : List Int} (hp : H p = some (.lst (ns.map V.int))) : Dp K H (.ref p) (.list (ns.map PyData.int)) := .lst hp (.of_ints ns)
theorem q_newI {i : Nat} {ns : List Int} (S : Stt T Hx H0 Hb H) (h : EvN K T te σ H (ns.map PyData.int)) (k : ∀ p Hb1 H1, H p = none → Nxt T Hx H0 Hb H Hb1 H1 → H0 p = none → Hb1 p = none → H1 p = some (.lst (ns.map V.int)) → tz D (σ.set i (some (.ref p))) H1) : tSeq (tAsg te (gName i)) tz D σ H :=
  h H S.e0.refl _ fun p xs H1 hp e1 h1 kd => by
    rw [kd.ints] at h1
    obtain ⟨n, a, b⟩ := new_nxt (xs := ns.map V.int) S hp e1
    exact k p _ H1 hp n a b h1
/-- a new list of numbers, from now on a datum -/
theorem q_asgI {i : Nat} {ns : List Int} (S : Stt T Hx H0 Hb H) (h : EvN K T te σ H (ns.map PyData.int)) (k : ∀ p Hb1 H1, Nxt T Hx H0 Hb H Hb1 H1 → Dp K Hb1 (.ref p) (.list (ns.map PyData.int)) → tz D (σ.set i (some (.ref p))) H1) : tSeq (tAsg te (gName i)) tz D σ H :=
  h H S.e0.refl _ fun p xs H1 hp e1 h1 kd => by
    rw [kd.ints] at h1
    exact k p _ H1 (S.step e1) (.lst ((by rw [rest_new hp]; exact h1)) (.of_ints ns))
theorem s_setRow {p : Addr} {xs : List V} {j : Nat} {ns : List Int} (S : Stt T Hx H0 Hb H) (h : EvN K T te σ H (ns.map PyData.int)) (ho : Ev T ta σ H (.ref p)) (hi : Ev T tb σ H (.int (j : Int))) (h0 : H0 p = none) (hb : Hb p = none) (hp : H p = some (.lst xs)) (hj : j < xs.length)
    (k : ∀ v Hb1 H1, Stt T Hx H0 Hb1 (upd H1 p (.lst (xs.set j v))) → Nxt T Hx H0 Hb H Hb1 H1 → Hb1 p = none → Dp K Hb1 v (.list (ns.map PyData.int)) → D.nx σ (upd H1 p (.lst (xs.set j v)))) : tAsg te (gSub ta tb rSetL) D σ H :=
  h H S.e0.refl _ fun q ys H1 hq e1 h1 kd => ho H1 e1 _ fun H2 e2 => hi H2 (e1.trans e2) _ fun H3 e3 => by
    rw [kd.ints] at h1
    have e13 := e2.trans e3
    have n := (S.step e1).trans (.keep (S.step e1).st e13)
    have hp3 := (e1.trans e13).lst hp
    exact ⟨p, xs, j, j, rfl, rfl, hp3, ixN_nat hj, k (.ref q) _ H3 (n.st.mut h0 (n.no hb hp) hp3) n (n.no hb hp) (.lst ((by rw [rest_new hq]; exact h1)) (.of_ints ns))⟩
end
end KW

/-! text K8Lc2 -/
set_option Elab.async false
set_option linter.all false
set_option maxRecDepth 100000
set_option maxHeartbeats 4000000
/-! Comprehensions with two for. -/
namespace KW
open PySem PySem.Spec PyProof.Rows L2 StX
section
variable {K : PySem.W.Frag} {T : Tb} {σ : L2.St} {H : Hp} {te : TE}
theorem yes_ok {H' : Hp} {Pb : Bool → Hp → Prop} (h : Pb true H') : tYes σ H' Pb := h
abbrev pre2 (n1 : Nat → Nat) (f : Nat → Nat → PyData) (i : Nat) : List PyData := (List.range i).flatMap fun i => (List.range (n1 i)).map (f i)
theorem pre2_succ {n1 : Nat → Nat} {f : Nat → Nat → PyData} {i : Nat} : pre2 n1 f (i + 1) = pre2 n1 f i ++ (List.range (n1 i)).map (f i) := by
  unfold pre2
  rw [List.range_succ, List.flatMap_append]
  simp
theorem pre2_len {n1 : Nat → Nat} {f : Nat → Nat → PyData} : ∀ i, (∀ t, t < i → n1 t ≤ 10) → (pre2 n1 f i).length ≤ 10 * i
  | 0, _ => Nat.zero_le _
  | i + 1, h => by
    rw [pre2_succ, List.length_append, List.length_map, List.length_range]
    have := pre2_len (f := f) i fun t ht => h t (by omega)
    have := h i (by omega)
    omega
theorem en_lc2 {wi wi1 : TI} {g g1 : TG} {vs vs1 : List Nat} {n : Nat} {S : Nat → L2.St → L2.St → Hp → Prop} (n1 : Nat → Nat) (f : Nat → Nat → PyData) (hi : EvI K T wi g σ H n S) (hn : n ≤ 5000) (hn1 : ∀ i, i < n → n1 i ≤ 10)
    (hb : ∀ i σ2 Hx, i < n → Sub H Hx → S i (wipe σ vs) σ2 Hx → wipe σ2 vs = wipe σ vs ∧ ∃ S1, EvI K T wi1 g1 σ2 Hx (n1 i) S1 ∧ ∀ j σ3 Hy, j < n1 i → Sub Hx Hy → S1 j (wipe σ2 vs1) σ3 Hy → wipe σ3 vs1 = wipe σ2 vs1 ∧ EvD K T te σ3 Hy (f i j)) :
    EvN K T (tLc2 wi g tYes wi1 g1 tYes te vs vs1) σ H (pre2 n1 f n) := fun H1 e Q q => by
  refine hi H1 e _ fun J H2 e2 go st yl => ?_
  intro Dl hDl
  let B := rest H H1 H2
  have BDl : B Dl = none := rest_free hDl
  have H1Dl : H1 Dl = none := e2.free hDl
  let Pv : List PyData → Hp → Prop := fun ds H3 => Ex T H1 H3 ∧ Ex T B H3 ∧ ∃ xs, H3 Dl = some (.lst xs) ∧ DpAll K (hide Dl (rest H H1 H3)) xs ds
  refine ⟨fun i m H3 => m = n - i ∧ i ≤ n ∧ Pv (pre2 n1 f i) H3, ⟨n, by simp, Nat.zero_le _, e2.new hDl, (ex_rest e2).new hDl, [], upd_same, .nil⟩, ?_⟩
  rintro i m H3 ⟨rfl, hle, e13, eB3, xs, hx, kx⟩
  by_cases hlt : i < n
  · refine .inr ⟨go i H3 hlt eB3, Pv (pre2 n1 f (i + 1)), fun H' p' => ⟨n - (i + 1), by omega, rfl, hlt, p'⟩, fun x H4 hy => ?_⟩
    obtain ⟨e34, hg⟩ := yl i H3 x H4 hlt eB3 hy
    refine hg _ _ fun σ2 H5 e45 hS => ?_
    have e35 := e34.trans e45
    have hsub : Sub H (rest B H3 H5) := (sub_rest (e.trans e2).sub).trans (sub_rest (eB3.trans e35).sub)
    obtain ⟨b1, S1, b2, b3⟩ := hb i σ2 (rest B H3 H5) hlt hsub hS
    have eX5 : Ex T (rest B H3 H5) H5 := ex_rest e35
    have XDl : rest B H3 H5 Dl = none := rest_none BDl (by rw [hx]; intro z; cases z)
    refine ⟨b1, ?_⟩
    refine yes_ok ?_
    rw [if_pos rfl]
    refine b2 H5 eX5 _ fun J1 H6 e56 go1 st1 yl1 => ?_
    let B2 := rest (rest B H3 H5) H5 H6
    have hx5 := e35.lst hx
    have B2Dl : B2 Dl = none := rest_none XDl (by rw [hx5]; intro z; cases z)
    have e36 := e35.trans e56
    have eB26 : Ex T B2 H6 := ex_rest e56
    refine ⟨fun j k Hj => k = n1 i - j ∧ j ≤ n1 i ∧ Pv (pre2 n1 f i ++ (List.range j).map (f i)) Hj ∧ Ex T B2 Hj ∧ (∀ a, Hj a = none → H5 a = none), ⟨n1 i, by simp, Nat.zero_le _, ⟨e13.trans e36, eB3.trans e36, xs, e56.lst hx5, ?_⟩, eB26, fun a z => e56.free z⟩, ?_⟩
    · rw [List.range_zero, List.map_nil, List.append_nil]
      exact DpAll.sub (hide_mono (rest_fwd e36.sub)) _ _ kx
    rintro j k Hj ⟨rfl, hlej, ⟨e1j, eBj, ys, hyj, kyj⟩, eB2j, frj⟩
    by_cases hltj : j < n1 i
    · refine .inr ⟨go1 j Hj hltj eB2j, fun H' => Pv (pre2 n1 f i ++ (List.range (j + 1)).map (f i)) H' ∧ Ex T B2 H' ∧ (∀ a, H' a = none → H5 a = none), fun H' p' => ⟨n1 i - (j + 1), by omega, rfl, hltj, p'.1, p'.2⟩, fun x H7 hy1 => ?_⟩
      obtain ⟨ej7, hg1⟩ := yl1 j Hj x H7 hltj eB2j hy1
      refine hg1 _ _ fun σ3 H8 e78 hS1 => ?_
      have ej8 := ej7.trans e78
      have sX : Sub (rest B H3 H5) B2 := sub_rest (eX5.trans e56).sub
      obtain ⟨c1, c2⟩ := b3 j σ3 (rest B2 Hj H8) hltj (sX.trans (sub_rest (eB2j.trans ej8).sub)) hS1
      have eX8 : Ex T (rest B2 Hj H8) H8 := ex_rest ej8
      have hy8 := ej8.lst hyj
      refine ⟨c1, ?_⟩
      refine yes_ok ?_
      rw [if_pos rfl]
      refine c2 H8 eX8 _ fun y H9 e89 ky => ?_
      have hy9 := e89.lst hy8
      have ej9 := ej8.trans e89
      have hyl : ys.length ≤ 10 * (i + 1) := by
        rw [kyj.length, List.length_append, List.length_map, List.length_range]
        have := pre2_len (n1 := n1) (f := f) i fun t ht => hn1 t (by omega)
        have := hn1 i hlt
        omega
      refine ⟨ys, hy9, sz_lt (by omega), ⟨(e1j.trans ej9).mut H1Dl hy9, (eBj.trans ej9).mut BDl hy9, ys ++ [y], upd_same, ?_⟩, (eB2j.trans ej9).mut B2Dl hy9, fun a z => frj a (ej9.free (by
        by_cases w : a = Dl
        · rw [w, upd_same] at z; cases z
        · rw [upd_ne w] at z; exact z))⟩
      have s1 : Sub (hide Dl (rest H H1 H9)) (hide Dl (rest H H1 (upd H9 Dl (.lst (ys ++ [y]))))) := fun a o h n => by
        unfold hide at h ⊢
        split at h
        · cases h
        · rename_i c
          rw [if_neg c]
          unfold rest at h ⊢
          split at h
          · rename_i c2; rw [if_pos c2, upd_ne c]; exact h
          · cases h
      have XDl2 : rest B2 Hj H8 Dl = none := rest_none B2Dl (by rw [hyj]; intro z; cases z)
      have ky2 : Dp K (hide Dl (rest H H1 H9)) y (f i j) := by
        refine Dp.sub (sub_hide ?_ (rest_none XDl2 (by rw [hy8]; intro z; cases z))) _ _ ky
        intro a o h n
        have r1 : Sub (rest (rest B2 Hj H8) H8 H9) (rest B2 Hj H9) := rest_rest ej8.free
        have r2 : Sub (rest B2 Hj H9) (rest (rest B H3 H5) H5 H9) := rest_rest (fun {a} z => frj a z)
        have r3 : Sub (rest (rest B H3 H5) H5 H9) (rest B H3 H9) := rest_rest e35.free
        have r4 : Sub (rest B H3 H9) (rest H H1 H9) := rest_rest e13.free
        exact r4 a o (r3 a o (r2 a o (r1 a o h n) n) n) n
      rw [List.range_succ, List.map_append, ← List.append_assoc]
      exact DpAll.sub s1 _ _ ((DpAll.sub (hide_mono (rest_fwd ej9.sub)) _ _ kyj).snoc ky2)
    · have hjn : j = n1 i := by omega
      subst hjn
      refine .inl ⟨st1 Hj eB2j, e1j, eBj, ys, hyj, ?_⟩
      rw [pre2_succ]
      exact kyj
  · have hin : i = n := by omega
    subst hin
    exact .inl ⟨st H3 eB3, q Dl xs H3 H1Dl e13 hx kx⟩
end
end KW

/-! text K8Sort -/
set_option Elab.async false
set_option linter.all false
set_option maxRecDepth 100000
set_option maxHeartbeats 4000000
/-! sorted(xs) of data, sorted(xs, key=a lambda of one parameter). -/
namespace KW
open PySem PySem.Spec PyProof.Rows L2 StX
open PySem.W (EachIs AllAlike Sortable dataLe)
theorem each_zip : ∀ {vs : List V} {us : List Value} {ds : List PyData}, Vals vs us → vs.length = ds.length → EachIs (fun (u : Value) (b : V × PyData) => RelV b.1 u) us (vs.zip ds)
  | _, _, ds, .nil, h => by
    cases ds with
    | nil => exact .nil
    | cons d ds => cases h
  | _, _, ds, .cons r t, h => by
    cases ds with
    | nil => cases h
    | cons d ds => exact .cons r (each_zip t (Nat.succ.inj h))
theorem each_vals : ∀ {us : List Value} {bs : List (V × PyData)}, EachIs (fun (u : Value) (b : V × PyData) => RelV b.1 u) us bs → Vals (bs.map (·.1)) us
  | _, _, .nil => .nil
  | _, _, .cons r t => .cons r (each_vals t)
theorem each_imp {α β : Type} {R R' : α → β → Prop} : ∀ {as : List α} {bs : List β}, EachIs R as bs → (∀ a b, R a b → b ∈ bs → R' a b) → EachIs R' as bs
  | _, _, .nil, _ => .nil
  | _, _, .cons r t, h => .cons (h _ _ r (List.mem_cons_self ..)) (each_imp t fun a b x m => h a b x (List.mem_cons_of_mem _ m))
theorem zip_snd : ∀ {vs : List V} {ds : List PyData}, vs.length = ds.length → (vs.zip ds).map (·.2) = ds
  | [], [], _ => rfl
  | [], _ :: _, h => by cases h
  | _ :: _, [], h => by cases h
  | v :: vs, d :: ds, h => by
    rw [List.zip_cons_cons, List.map_cons, zip_snd (Nat.succ.inj h)]
theorem dp_zip {K : PySem.W.Frag} {H : Hp} : ∀ {vs : List V} {ds : List PyData}, DpAll K H vs ds → ∀ z, z ∈ vs.zip ds → Dp K H z.1 z.2
  | _, _, .nil, z, h => by simp at h
  | _, _, .cons a t, z, h => by
    rw [List.zip_cons_cons] at h
    rcases List.mem_cons.mp h with q | q
    · rw [q]; exact a
    · exact dp_zip t z q
theorem dp_pairs {K : PySem.W.Frag} {H : Hp} : ∀ {zs : List (V × PyData)}, (∀ z, z ∈ zs → Dp K H z.1 z.2) → DpAll K H (zs.map (·.1)) (zs.map (·.2))
  | [], _ => .nil
  | z :: zs, h => .cons (h z (List.mem_cons_self ..)) (dp_pairs fun y hy => h y (List.mem_cons_of_mem _ hy))
theorem sort_snd {vs : List V} {ds : List PyData} (hl : vs.length = ds.length) (k : PyData → PyData) : ((vs.zip ds).mergeSort (dataLe false fun b => k b.2)).map (·.2) = ds.mergeSort (dataLe false k) := by
  have h := List.map_mergeSort (r := dataLe false fun b : V × PyData => k b.2) (s := dataLe false k) (f := fun b : V × PyData => b.2) (l := vs.zip ds) fun a _ b _ => rfl
  rw [h, zip_snd hl]
def rSortD (K : PySem.W.Frag) : List V → Hp → VK → Prop := fun xs H Q => ∃ (a : Addr) (ys : List V) (ds : List PyData), xs = [.ref a] ∧ SqL K H a ys ∧ L2.DpAll K H ys ds ∧ ys.length = ds.length ∧ AllAlike ds ∧ Sortable ds ∧ (∀ d, d ∈ ds → d.depth ≤ 50) ∧
  ∀ p, H p = none → Q (.ref p) (upd H p (.lst (((ys.zip ds).mergeSort (dataLe false fun b => b.2)).map (·.1))))
section
variable {X : Cx}
theorem reads_zip {pins : List (Addr × Obj)} {s : Shared} {σ : L2.St} {H : Hp} (I : Inv X pins σ H s) : ∀ {ys : List V} {ds : List PyData} {us : List Value}, L2.DpAll X.K H ys ds → Vals ys us → EachIs (fun (u : Value) (b : V × PyData) => ∃ as, Reads s.heap u b.2 as) us (ys.zip ds)
  | _, _, _, .nil, .nil => .nil
  | _, _, _, .cons a t, .cons r rr => .cons (Dp.reads I _ _ _ a r) (reads_zip I t rr)
theorem cr_sortD (hu : X.A.units + 64 < cLine) : CallR X (.builtin "sorted") (rSortD X.K) := by
  intro pins s σ H xs us Q I r h
  obtain ⟨a, ys, ds, rfl, hs, hd, hl, hal, hk, hdep, q⟩ := h
  obtain ⟨u, rfl, ru⟩ := vals1 r
  cases ru
  obtain ⟨its, rv, pl, hz⟩ := I.list hs
  have hzl : (ys.zip ds).length = ys.length := by rw [List.length_zip, hl, Nat.min_self]
  refine PySem.W.sorted_data (bs := ys.zip ds) (enc := fun b => b.2) (R := fun (u : Value) (b : V × PyData) => RelV b.1 u) pl.isList (each_zip rv hl) (reads_zip I hd rv) (by rw [zip_snd hl]; exact hal) (by rw [zip_snd hl]; exact hk) (by rw [hzl]; exact hz) (fun b hb => ?_) fun out ho he => ?_
  · have := hdep b.2 (List.of_mem_zip hb).2
    omega
  · obtain ⟨ep, he'⟩ := PyProof.Rows.sortedAll_at s.heap its out.toArray
    refine ⟨.ref (s.heap.objs.size + 1), _, I.laid (t' := s.toks) (o := .lst (((ys.zip ds).mergeSort (dataLe false fun b => b.2)).map (·.1))) (fun _ _ => PyProof.Rows.sortedAll_old) (Nat.le_succ _) ⟨?_, out, ep, each_vals he, he'⟩, rfl, q _ (I.hok.fresh (Nat.le_succ _))⟩
    rw [List.length_map, List.length_mergeSort, hzl]
    exact hz
end
section
variable {K : PySem.W.Frag} {T : Tb} {σ : L2.St} {H : Hp} {te : TE} {ds : List PyData}
theorem en_sortD (h : EvD K T te σ H (.list ds)) (hal : AllAlike ds) (hk : Sortable ds) (hdep : ∀ d, d ∈ ds → d.depth ≤ 50) : EvN K T (tCB (rSortD K) (tCons te tNil)) σ H (ds.mergeSort (dataLe false id)) := fun H1 e Q q =>
  h H1 e _ fun v H2 e2 k2 => by
    obtain ⟨a, xs, rfl, hs, hd⟩ := Dp.list_inv k2
    refine ⟨a, xs, ds, rfl, rest_le.sql hs, (DpAll.sub rest_le _ _ hd).kit, hd.length, hal, hk, hdep, fun p hp => q p _ _ (e2.free hp) (e2.new hp) upd_same ?_⟩
    have h1 := dp_pairs (K := K) (H := rest H H1 H2) (zs := (xs.zip ds).mergeSort (dataLe false fun b => b.2)) fun z hz => dp_zip hd z ((List.mergeSort_perm _ _).mem_iff.mp hz)
    have h2 : ((xs.zip ds).mergeSort (dataLe false fun b => b.2)).map (·.2) = ds.mergeSort (dataLe false id) := sort_snd hd.length id
    rw [h2] at h1
    exact DpAll.sub (upd_rest hp) _ _ h1
theorem sortDK {X : Cx} (h : X.K = K) (hu : X.A.units + 64 < cLine) : CallR X (.builtin "sorted") (rSortD K) := h ▸ cr_sortD hu
end
end KW

/-! text K8Lam -/
set_option Elab.async false
set_option linter.all false
set_option maxRecDepth 100000
set_option maxHeartbeats 4000000
/-! sorted(xs, key=lambda pair: (len(pair[0]), pair[0])). -/
namespace KW
open PySem PySem.Spec PyProof.Rows L2 StX
open PySem.W (EachIs AllAlike Sortable dataLe)
section
variable {prog : Program} {w : World} {A : Around} {s : Shared}
/-- pair[0], pair a local -/
theorem ev_pair0 {cenv : Env} {m : Str → Option Value} {x : Str} {t : Addr} {y z : Value} {j : Nat} {p1 p2 p3 : Pos} {Q : Value → Shared → Prop} {E : Value → Shared → Prop} (hk : cenv.scope.kind = .function) (hl : cenv.kindOf x = some .local) (hd : (x == ("__debug__" : Str)) = false)
    (hn : s.heap.Ns cenv.locals m) (hm : m x = some (.ref t)) (ht : IsTup s.heap t #[y, z]) (h : ∀ k, Q y { s with toks := k }) :
    wpAny (model prog w) A (eval (.Subscript (.Name x p1) (.Constant (.int 0) j p2) p3) cenv) Q E s := by
  refine Subscript_ (wpAny_Name (wpAny_loadName_local hk hl hn hm ?_) hd)
  refine wpAny_Constant_int ?_
  have ht' : IsTup ({ s with toks := s.toks + 1 } : Shared).heap t #[y, z] := ht
  exact subscriptTail_builtinR (x := y) ht'.typeIs PyProof.Rows.slot_tuple_getitem.lookup (PyProof.Rows.getItem_tuple (j := 0) (Q := fun r s' => r = y ∧ Q r s') ht' (by decide) (by decide) rfl rfl ⟨rfl, h _⟩) (by with_unfolding_all rfl)
/-- the key's tree at one pair -/
theorem key_eval {cenv : Env} {m mg mb : Str → Option Value} {t u : Addr} {z : Value} {items : Array Value} {j1 j2 k1 : Nat} {p1 p2 p3 p4 p5 p6 p7 p8 p9 : Pos} {E : Value → Shared → Prop} (hk : cenv.scope.kind = .function) (hl : cenv.kindOf "pair" = some .local) (hlen : cenv.kindOf "len" = some .globalImplicit)
    (hn : s.heap.Ns cenv.locals m) (hm : m "pair" = some (.ref t)) (ht : IsTup s.heap t #[.ref u, z]) (hu : IsTup s.heap u items) (hsz : (items.size : Int) < 2 ^ 63)
    (hg : s.heap.Ns cenv.globals mg) (hgl : mg "len" = none) (hb : s.heap.Ns cenv.builtins mb) (hbl : mb "len" = some (.builtin "len")) :
    wpAny (model prog w) A (eval (.Tuple [.Call (.Name "len" p1) [.Subscript (.Name "pair" p2) (.Constant (.int 0) j1 p3) p4] [] p5, .Subscript (.Name "pair" p6) (.Constant (.int 0) j2 p7) p8] k1 p9) cenv)
      (fun v s' => ∃ h' tk tt, s' = { s with heap := h', toks := tk } ∧ (∀ b o, s.heap.get? b = some o → h'.get? b = some o) ∧ v = .ref s.heap.objs.size ∧ IsTup h' s.heap.objs.size #[.int items.size tt, .ref u]) E s := by
  refine Tuple_ ?_
  refine Calls.spliced_cons (wpAny_mono (Q := fun v s1 => ∃ tt k, v = .int items.size tt ∧ s1 = { s with toks := k }) ?_ (fun v s1 hv => ?_) fun _ _ z => z)
  · refine wpAny_Call_Name_kw (Calls.Name_function_global hk hlen (Calls.loadGlobal_builtin hg hgl hb hbl ?_))
    refine PyProof.Rows.callWith_builtin1 (Calls.spliced_cons (wpAny_mono (Q := fun v s1 => v = .ref u ∧ ∃ k, s1 = { s with toks := k }) (ev_pair0 hk hl (by decide) hn hm ht fun k => ⟨rfl, k, rfl⟩) (fun v s1 hv => ?_) fun _ _ z => z)) rfl rfl
    obtain ⟨rfl, k, rfl⟩ := hv
    refine Calls.spliced_nil ?_
    have hu' : IsTup ({ s with toks := k } : Shared).heap u items := hu
    exact len_tuple hu' hsz ⟨_, _, rfl, rfl⟩
  · obtain ⟨tt, k, rfl, rfl⟩ := hv
    refine Calls.spliced_cons (wpAny_mono (Q := fun v s1 => v = .ref u ∧ ∃ k, s1 = { s with toks := k }) (ev_pair0 (s := { s with toks := k }) hk hl (by decide) hn hm ht fun k => ⟨rfl, k, rfl⟩) (fun v s1 hv => ?_) fun _ _ z => z)
    obtain ⟨rfl, k2, rfl⟩ := hv
    refine Calls.spliced_nil (wpAny_newTuple ?_)
    exact ⟨_, _, tt, rfl, fun b o e => Heap.get?_push_of_some _ e, rfl, IsTup.new _ _⟩
end
/-! ### the lambda called -/
abbrev keyBody (k1 j1 j2 : Nat) (p1 p2 p3 p4 p5 p6 p7 p8 p9 : Pos) : Expr := .Tuple [.Call (.Name "len" p1) [.Subscript (.Name "pair" p2) (.Constant (.int 0) j1 p3) p4] [] p5, .Subscript (.Name "pair" p6) (.Constant (.int 0) j2 p7) p8] k1 p9
section
variable {prog : Program} {w : World} {A : Around} {s : Shared}
theorem lam_turn {f c' t u : Addr} {qual : Str} {params : Arguments} {scope : Scope} {pm ctv z : Value} {items : Array Value} {mg mb : Str → Option Value} {k1 j1 j2 : Nat} {p1 p2 p3 p4 p5 p6 p7 p8 p9 : Pos}
    (hf : s.heap.get? f = some (PySem.W.kla_obj "<lambda>" qual params (keyBody k1 j1 j2 p1 p2 p3 p4 p5 p6 p7 p8 p9) scope [] pm c' ctv)) (hc : s.heap.CodeRec (.ref c') qual) (lim : s.heap.NoLimit) (hd : A.depth < recursionLimit)
    (hco : scope.isCoroutine = false) (hgen : scope.isGenerator = false) (hkind : scope.kind = .function) (hcell : ∀ x ∈ scope.names, x.2 ≠ .cell) (hl : scope.names.lookup ("pair" : Str) = some .local) (hlen : scope.names.lookup ("len" : Str) = some .globalImplicit)
    (hbind : ∀ v, bindArgs (PySem.W.kla_fn "<lambda>" qual params (keyBody k1 j1 j2 p1 p2 p3 p4 p5 p6 p7 p8 p9) scope [] pm (.ref c') ctv) ⟨[v], []⟩ = pure [(("pair" : Str), v)])
    (hg : s.heap.Ns mainGlobals mg) (hgl : mg "len" = none) (hb : s.heap.Ns builtinsNs mb) (hbl : mb "len" = some (.builtin "len")) (ht : IsTup s.heap t #[.ref u, z]) (hu : IsTup s.heap u items) (hsz : (items.size : Int) < 2 ^ 63) :
    wpAny (model prog w) A (call (.ref f) [.ref t]) (fun v s' => ∃ h' tk T tt, s' = { s with heap := h', toks := tk } ∧ (∀ b o, s.heap.get? b = some o → h'.get? b = some o) ∧ v = .ref T ∧ IsTup h' T #[.int items.size tt, .ref u]) (fun _ _ => False) s := by
  refine wpAny_call ?_
  refine PySem.W.kla_callFunE hd hf rfl hco hgen rfl hc ?_
  rw [hbind]
  refine wpAny_pure (wpAny_newFunctionEnv hcell (fun x hx => ?_) (fun h₁ hns hsb => ?_) hkind)
  · rw [List.mem_singleton.mp hx]; exact hl
  · have kp : ∀ b o, s.heap.get? b = some o → h₁.get? b = some o := fun b o e => hsb.extBut b o (Nat.ne_of_lt (Heap.lt_size e)) (Heap.get?_push_of_some _ e)
    refine ⟨lim.fresh _ hsb, PySem.W.kla_codeExpr (wpAny_mono (key_eval (E := fun _ _ => False) (s := { s with heap := h₁, toks := s.toks + 1 }) (mg := mg) (mb := mb) (z := z) hkind hl hlen hns (by rfl) (ht.keeps kp) (hu.keeps kp) hsz (hg.keeps kp) hgl (hb.keeps kp) hbl) (fun v s' hq => ?_) fun e s' hq => hq.elim)⟩
    · obtain ⟨h', tk, tt, rfl, k2, rfl, hT⟩ := hq
      exact ⟨h', tk, _, tt, rfl, fun b o e => k2 b o (kp b o e), rfl, hT⟩
end
/-! ### the lambda made -/
section
variable {X : Cx} {pins : List (Addr × Obj)} {σ : L2.St} {H : Hp} {s : Shared} {T : Tb}
theorem lam_made {c P : Addr} {params : Arguments} {body : Expr} {scope : Scope} {pos : Pos} {E : Value → Shared → Prop} {Q : Value → Shared → Prop} (I : Inv X pins σ H s) (TB : LamX.TabB X.base X.mg c P) (hcode : X.env.code = .ref c)
    (hm : (P, X.env.qual ++ "<lambda>") ∈ T) (hu : ∀ p ∈ T, p.1 = P → p.2 = X.env.qual ++ "<lambda>") (hT : LamX.Tabs T H) (hdef : defaultsOf params X.env = ([], [])) (hclos : closureFor scope X.env = pure [])
    (h : ∀ (f c' : Addr) (pm ctv : Value) (H1 : Hp) (s' : Shared), Inv X pins σ H1 s' → Ex T H H1 →
      s'.heap.get? f = some (PySem.W.kla_obj "<lambda>" (X.env.qual ++ "<lambda>") params body scope [] pm c' ctv) → s'.heap.CodeRec (.ref c') (X.env.qual ++ "<lambda>") → Q (.ref f) s') :
    wpAny (model X.prog X.w) X.A (eval (.Lambda params body scope pos) X.env) Q E s := by
  obtain ⟨ps, hP, ht, ha⟩ := hT _ hm
  have bP : s.heap.BuiltinsAt X.mg P := TB.bm.keeps I.bk
  have hP' : s.heap.get? P = some { cls := .none, data := .fields ps } := I.hok P _ hP
  refine PySem.W.kla_eval hdef ?_
  cases hc : codeAmong pos ps.toList with
  | none =>
    refine PySem.W.kla_makeFunction (mg := X.mg) (c := c) (P := P) (ps := ps) hclos I.ok.glob (I.mod.glob.keeps I.bk) hcode (TB.code.keeps I.bk) hP' ht hc TB.gP bP fun c' ctv h' tk hx hge hlt hrec htb => ?_
    obtain ⟨c2, oc, vs, t, e2, hoc, hd, hv⟩ := id hrec
    cases e2
    have nC : H c' = none := I.hok.fresh hge
    have I1 := LamX.inv_table (t' := tk) (more := #[rawInt pos.line, rawInt pos.col, .ref c']) (h' := h'.push (PySem.W.kla_obj "<lambda>" (X.env.qual ++ "<lambda>") params body scope [] ((X.mg "__name__").getD .none) c' ctv)) I hP
      (fun b o hb e => Heap.get?_push_of_some _ (hx b o hb e)) (Heap.get?_push_of_some _ htb) hge ⟨oc, vs, t, Heap.get?_push_of_some _ hoc, hd, hv⟩
    have eL : (ps ++ #[rawInt pos.line, rawInt pos.col, .ref c']).toList = ps.toList ++ [rawInt pos.line, rawInt pos.col, .ref c'] := by simp
    have kp : ∀ b o, H b = some o → b ≠ P → upd (upd H P (.tbl (ps ++ #[rawInt pos.line, rawInt pos.col, .ref c']))) c' (LamX.CodeO c' (X.env.qual ++ "<lambda>")) b = some o := fun b o e hb => by
      rw [upd_ne (ne_of_none e nC), upd_ne hb]; exact e
    refine h h'.objs.size c' ((X.mg "__name__").getD .none) ctv _ _ I1 ⟨fun b o e n => kp b o e fun z => n ps (Option.some.inj (e.symm.trans (by rw [z]; exact hP))), fun p hp => ?_, fun {b} z => ?_, fun {b qs} e => ?_⟩ (Heap.get?_push_size _ rfl) ⟨c', oc, vs, t, rfl, Heap.get?_push_of_some _ hoc, hd, hv⟩
    · have codeKeep : ∀ c0, H c0 = some (LamX.CodeO c0 p.2) → upd (upd H P (.tbl (ps ++ #[rawInt pos.line, rawInt pos.col, .ref c']))) c' (LamX.CodeO c' (X.env.qual ++ "<lambda>")) c0 = some (LamX.CodeO c0 p.2) := fun c0 e => kp c0 _ e fun z => LamX.codeO_ne ps (Option.some.inj (e.symm.trans (by rw [z]; exact hP)))
      by_cases hb : p.1 = P
      · have hq := hu p hp hb
        refine ⟨ps ++ #[rawInt pos.line, rawInt pos.col, .ref c'], by rw [hb, upd_ne (ne_of_none hP nC), upd_same], by rw [eL]; exact PySem.TriplesOk_snoc _ _ _ _ ht, fun p' cv hcv => ?_⟩
        rw [eL] at hcv
        rcases LamX.among_app _ ht hcv with z | z
        · obtain ⟨c0, e1, e2⟩ := ha p' cv z
          exact ⟨c0, e1, codeKeep c0 (by rw [hq]; exact e2)⟩
        · exact ⟨c', z, by rw [upd_same, hq]⟩
      · obtain ⟨ps', a1, a2, a3⟩ := hT p hp
        refine ⟨ps', kp _ _ a1 hb, a2, fun p' cv hcv => ?_⟩
        obtain ⟨c0, e1, e2⟩ := a3 p' cv hcv
        exact ⟨c0, e1, codeKeep c0 e2⟩
    · by_cases h1 : b = c'
      · rw [h1, upd_same] at z; cases z
      · rw [upd_ne h1] at z
        by_cases h2 : b = P
        · rw [h2, upd_same] at z; cases z
        · rw [upd_ne h2] at z; exact z
    · by_cases h2 : b = P
      · rw [h2]; exact ⟨_, by rw [upd_ne (ne_of_none hP nC), upd_same]⟩
      · exact ⟨qs, kp _ _ e h2⟩
  | some cv =>
    obtain ⟨c', e, hco⟩ := ha pos cv hc
    subst e
    obtain ⟨⟨oc, vs, t, hoc, hdc, hvc⟩, _, _⟩ := I.hok c' _ hco
    refine PySem.W.kla_makeFunctionHit (mg := X.mg) (c := c) (P := P) (ps := ps) hclos I.ok.glob (I.mod.glob.keeps I.bk) hcode (TB.code.keeps I.bk) hP' ht hc bP fun ctv h' tk hx hsz => ?_
    have I1 : Inv X pins σ H { s with heap := h'.push (PySem.W.kla_obj "<lambda>" (X.env.qual ++ "<lambda>") params body scope [] ((X.mg "__name__").getD .none) c' ctv), toks := tk } := I.kept fun b o e => Heap.get?_push_of_some _ (hx b o e)
    exact h h'.objs.size c' ((X.mg "__name__").getD .none) ctv H _ I1 (.start hT) (Heap.get?_push_size _ rfl) ⟨c', oc, vs, t, rfl, Heap.get?_push_of_some _ (hx _ _ hoc), hdc, hvc⟩
end
/-! ### the sort -/
abbrev dI (n : Int) : PyData := .int n
abbrev dT (ns : List Int) : PyData := .tuple (ns.map PyData.int)
abbrev dL (ns : List Int) : PyData := .list (ns.map PyData.int)
def encP (pr : List Int × Int) : PyData := .tuple [dT pr.1, dI pr.2]
def keyP (pr : List Int × Int) : PyData := .tuple [dI (pr.1.length : Int), dT pr.1]
def keyD : PyData → PyData
  | .tuple [.tuple ds, _] => .tuple [.int (ds.length : Int), .tuple ds]
  | d => d
theorem keyD_enc (pr : List Int × Int) : keyD (encP pr) = keyP pr := by
  show PyData.tuple [.int ((pr.1.map PyData.int).length : Int), _] = _
  rw [List.length_map]
  rfl
def sortF (l : List (List Int × Int)) : List (List Int × Int) := l.mergeSort (dataLe false keyP)
theorem sortF_enc (l : List (List Int × Int)) : (l.map encP).mergeSort (dataLe false keyD) = (sortF l).map encP := by
  unfold sortF
  refine (List.map_mergeSort (r := dataLe false keyP) (s := dataLe false keyD) (f := encP) (l := l) fun a _ b _ => ?_).symm
  rw [PySem.W.dataLe_eq, PySem.W.dataLe_eq]
  show (cond false _ (!PySem.W.dataLt (keyP b) (keyP a))) = (cond false _ (!PySem.W.dataLt (keyD (encP b)) (keyD (encP a))))
  rw [keyD_enc, keyD_enc]
theorem readsI {h : Heap} : ∀ {ns : List Int} {us : List Value}, Vals (ns.map V.int) us → ReadsAll h us (ns.map PyData.int) []
  | [], _, r => by cases r; exact .nil
  | n :: ns, _, r => by
    cases r with
    | cons a t =>
      obtain ⟨tk, rfl⟩ := a
      exact ReadsAll.cons (as := []) (Reads.int n tk) (readsI t)
def tSortLam (K : PySem.W.Frag) (T : Tb) (ta : TA) : TE := fun σ H Q => ta σ H fun vs H1 => ∃ (a : Addr) (xs : List V) (prs : List (List Int × Int)), vs = [.ref a] ∧ SqL K H1 a xs ∧ DpAll K H1 xs (prs.map encP) ∧ (∀ pr, pr ∈ prs → pr.1.length ≤ 1000) ∧ LamX.Tabs T H1 ∧
  ∀ H2 p, Ex T H1 H2 → H2 p = none → Q (.ref p) (upd H2 p (.lst (((xs.zip (prs.map encP)).mergeSort (dataLe false fun b => keyD b.2)).map (·.1))))
section
variable {X : Cx} {T : Tb}
theorem pe_sortLam {c P : Addr} {params : Arguments} {scope : Scope} {lpos kp p pos : Pos} {e : Expr} {t : TA} {k k1 j1 j2 : Nat} {p1 p2 p3 p4 p5 p6 p7 p8 p9 : Pos} (hr : Room k X.A) (hg : Gl X "sorted") (hm : X.mg "sorted" = none) (hml : X.mg "len" = none) (ha : PA X [e] t)
    (TB : LamX.TabB X.base X.mg c P) (hcode : X.env.code = .ref c) (hmT : (P, X.env.qual ++ "<lambda>") ∈ T) (hu : ∀ p ∈ T, p.1 = P → p.2 = X.env.qual ++ "<lambda>") (hdef : defaultsOf params X.env = ([], [])) (hclos : closureFor scope X.env = pure [])
    (hco : scope.isCoroutine = false) (hgen : scope.isGenerator = false) (hkind : scope.kind = .function) (hcell : ∀ x ∈ scope.names, x.2 ≠ .cell) (hl : scope.names.lookup ("pair" : Str) = some .local) (hlen : scope.names.lookup ("len" : Str) = some .globalImplicit)
    (hbind : ∀ (qual : Str) (pm : Value) (c' : Addr) (ctv : Value) (v : Value), bindArgs (PySem.W.kla_fn "<lambda>" qual params (keyBody k1 j1 j2 p1 p2 p3 p4 p5 p6 p7 p8 p9) scope [] pm (.ref c') ctv) ⟨[v], []⟩ = pure [(("pair" : Str), v)])
    (he : backTo pos (starEach [e] X.env) = (false, eval e X.env) :: backTo pos (starEach [] X.env) := by rfl) (hpl : (backTo pos (starEach [e] X.env)).any (·.1) = false := by rfl) :
    PE X (.Call (.Name "sorted" p) [e] [⟨some "key", .Lambda params (keyBody k1 j1 j2 p1 p2 p3 p4 p5 p6 p7 p8 p9) scope lpos, kp⟩] pos) (tSortLam X.K T t) := by
  refine ⟨fun pins s σ H Q I h => ?_⟩
  refine wpAny_Call_Name_kw (ld_blt (u := .builtin "sorted") I hg hm (by decide +kernel) ?_ (by decide) (by decide))
  refine PyProof.Rows.callWith_kw (thn (ha.run pos pins s σ H _ I h) fun us s1 ⟨vs, H1, I1, r1, q1⟩ => ?_) he hpl rfl rfl
  obtain ⟨a, xs, prs, rfl, hs, hd, hb, ht, q⟩ := q1
  obtain ⟨u, rfl, ru⟩ := vals1 r1
  cases ru
  refine PyProof.Rows.kws_cons (lam_made I1 TB hcode hmT hu ht hdef hclos fun f c' pm ctv H2 s2 I2 ex hf hrec => PyProof.Rows.kws_nil ?_)
  show wpAny _ _ (call (.builtin "sorted") [.ref a] [(("key" : Str), .ref f)]) _ _ s2
  have hs2 : SqL X.K H2 a xs := ex.sub.sql hs
  have hd2 : DpAll X.K H2 xs (prs.map encP) := DpAll.sub ex.sub _ _ hd
  obtain ⟨its, rv, pl, hz⟩ := I2.list hs2
  have hln : xs.length = (prs.map encP).length := hd2.length
  have hzl : (xs.zip (prs.map encP)).length = xs.length := by rw [List.length_zip, ← hln, Nat.min_self]
  have hkd : ∀ d, d ∈ (xs.zip (prs.map encP)).map (fun b => keyD b.2) → ∃ pr, pr ∈ prs ∧ d = keyP pr := fun d hd => by
    obtain ⟨b, hb, rfl⟩ := List.mem_map.mp hd
    obtain ⟨pr, hp, e⟩ := List.mem_map.mp (List.of_mem_zip hb).2
    exact ⟨pr, hp, by rw [← e]; exact keyD_enc pr⟩
  have units := hr.units
  obtain ⟨mb, hmb1, hmb2⟩ := I2.mod.blt
  refine PySem.W.sorted_key_data (bs := xs.zip (prs.map encP)) (b := false) (fun b => keyD b.2) (R := fun (u : Value) (b : V × PyData) => RelV b.1 u) pl.isList (each_zip rv hln) ?_ ?_ (by rw [hzl]; exact hz) (fun b hb => ?_) (PyProof.Rows.ksk_s1 _ _) (fun _ => PyProof.Rows.ksk_l1 _ _) (fun _ => PyProof.Rows.ksk_t1 _ _) (fun v x hR hx h tk kp => ?_) fun out c3 h' tk kp _ hD ho he => ?_
  · intro d h1 d' h2
    obtain ⟨p1, _, rfl⟩ := hkd d h1
    obtain ⟨p2, _, rfl⟩ := hkd d' h2
    show (true && (PySem.W.alikeAll _ _ && true)) = true
    rw [PySem.W.alike_ints]
    rfl
  · refine .inl fun d h1 => ?_
    obtain ⟨p1, _, rfl⟩ := hkd d h1
    exact ⟨_, _, rfl⟩
  · obtain ⟨pr, _, e⟩ := hkd _ (List.mem_map_of_mem hb)
    rw [e]
    have e2 : (keyP pr).depth = 2 := by
      show PyData.depth (.tuple [.int _, .tuple (pr.1.map .int)]) = 2
      simp [PyData.depth, PyData.depthAll, PySem.W.depth_ints]
    rw [e2]
    omega
  · obtain ⟨y, d⟩ := x
    have hdy : Dp X.K H2 y d := dp_zip hd2 _ hx
    obtain ⟨pr, hp, rfl⟩ := List.mem_map.mp (List.of_mem_zip hx).2
    obtain ⟨t1, zs, rfl, ht1, hzs⟩ := Dp.tuple_invS hdy
    obtain ⟨y1, y2, rfl, k1, k2⟩ := dp2 hzs
    obtain ⟨u1, ws, rfl, hu1, hws⟩ := Dp.tuple_invS k1
    obtain rfl := hws.ints
    cases k2
    obtain rfl : v = Value.ref t1 := hR
    obtain ⟨its1, rv1, tp1, _⟩ := I2.tuple (.inl (.inl ht1))
    obtain ⟨w1, w2, rfl, r1, r2⟩ := vals2 rv1
    obtain rfl : w1 = Value.ref u1 := r1
    obtain ⟨its2, rv2, tp2, hz2⟩ := I2.tuple (.inl (.inl hu1))
    have hl2 := rv2.length
    have hb2 := hb pr hp
    rw [List.length_map] at hl2
    refine wpAny_mono (lam_turn (s := { s2 with heap := h, toks := tk }) (A := X.A.in1.in1) (mg := X.mg) (mb := mb) (kp _ _ hf) (hrec.keeps kp) (I2.nolimit.keeps kp) (by have := hr.dp; show X.A.depth < _; omega) hco hgen hkind hcell hl hlen (hbind _ _ _ _) ((I2.mod.glob.keeps I2.bk).keeps kp) hml ((hmb1.keeps I2.bk).keeps kp) ((hmb2 "len" (by decide)).trans PySem.boot_len) (tp1.keeps kp) (tp2.keeps kp) (by rw [List.size_toArray]; omega)) (fun v s' hq => ?_) fun _ _ hq => hq
    obtain ⟨h3, tk3, T3, tt, rfl, k3, rfl, o, ho, hcl, n, hdt⟩ := hq
    obtain ⟨o2, ho2, hcl2, n2, hdt2⟩ := (tp2.keeps kp).keeps k3
    refine ⟨h3, tk3, rfl, k3, ?_⟩
    rw [show keyD (encP pr) = keyP pr from keyD_enc pr]
    have e3 : its2.toArray.size = pr.1.length := by rw [List.size_toArray]; omega
    rw [e3] at hdt
    exact Reads.tuple ho hcl hdt (ReadsAll.cons (as := []) (Reads.int _ tt) (ReadsAll.cons (as := []) (Reads.tuple ho2 hcl2 hdt2 (readsI rv2)) .nil))
  · refine ⟨.ref (s2.heap.objs.size + 1), _, I2.laid (t' := tk) (o := .lst (((xs.zip (prs.map encP)).mergeSort (dataLe false fun b => keyD b.2)).map (·.1))) kp (Nat.le_succ _) ⟨?_, out, c3, each_vals he, hD⟩, rfl, q _ _ ex (I2.hok.fresh (Nat.le_succ _))⟩
    rw [List.length_map, List.length_mergeSort, hzl]
    exact hz
end
section
variable {K : PySem.W.Frag} {T : Tb} {σ : L2.St} {H : Hp} {te : TE} {prs : List (List Int × Int)}
theorem en_sortLam (h : EvD K T te σ H (.list (prs.map encP))) (hb : ∀ pr, pr ∈ prs → pr.1.length ≤ 1000) : EvN K T (tSortLam K T (tCons te tNil)) σ H ((sortF prs).map encP) := fun H1 e Q q =>
  h H1 e _ fun v H2 e2 k2 => by
    obtain ⟨a, xs, rfl, hs, hd⟩ := Dp.list_inv k2
    refine ⟨a, xs, prs, rfl, rest_le.sql hs, DpAll.sub rest_le _ _ hd, hb, e2.tabs, fun H3 p e3 hp => q p _ _ ((e2.trans e3).free hp) ((e2.trans e3).new hp) upd_same ?_⟩
    have h1 := dp_pairs (K := K) (H := rest H H1 H3) (zs := (xs.zip (prs.map encP)).mergeSort (dataLe false fun b => keyD b.2)) fun z hz => Dp.sub (rest_fwd e3.sub) _ _ (dp_zip hd z ((List.mergeSort_perm _ _).mem_iff.mp hz))
    have h2 : ((xs.zip (prs.map encP)).mergeSort (dataLe false fun b => keyD b.2)).map (·.2) = (sortF prs).map encP := (sort_snd hd.length keyD).trans (sortF_enc prs)
    rw [h2] at h1
    exact DpAll.sub (upd_rest hp) _ _ h1
end
end KW

/-! text K8Gen -/
set_option Elab.async false
set_option linter.all false
set_option maxRecDepth 100000
set_option maxHeartbeats 4000000
/-! next((x for x in xs if test), None). -/
namespace KW
open PySem PySem.Spec PyProof.Rows L2 StX
theorem over_startG {A : Around} {elt : Expr} {gens : List Comprehension} {sc : Scope} {pos : Pos} {it acc : Value} {cenv : Env} : A.over (.compStart (.GeneratorExp elt gens sc pos) 0 it acc cenv) [] = A.deeper cenv := by
  first
    | rfl
    | (obtain ⟨hd, d, fr, gs, u⟩ := A; simp [Around.over, Around.deeper, marksOver, frameCount, unitsOf, envsOf, guardsOf, pushEnvs, pushGuards, Code.envs, Code.env?, Code.isFrame, Code.guards, Code.isGuard, Code.weight, Code.frames, Code.isCreation, Code.isCaller, Code.cUnits])
theorem over_loopG {A : Around} {elt : Expr} {gens : List Comprehension} {sc : Scope} {pos : Pos} {it acc : Value} {cenv : Env} : A.over (.compLoop (.GeneratorExp elt gens sc pos) 0 it acc cenv) [] = A.deeper cenv := by
  first
    | rfl
    | (obtain ⟨hd, d, fr, gs, u⟩ := A; simp [Around.over, Around.deeper, marksOver, frameCount, unitsOf, envsOf, guardsOf, pushEnvs, pushGuards, Code.envs, Code.env?, Code.isFrame, Code.guards, Code.isGuard, Code.weight, Code.frames, Code.isCreation, Code.isCaller, Code.cUnits])
/-- the context of a generator expression's frame; it: the walked iterator, which may turn -/
def gxCx (X : Cx) (A : Around) (s : Shared) (H : Hp) (cenv : Env) (N : List Str) (it : Addr) : Cx where
  prog := X.prog
  w := X.w
  K := X.K
  mg := X.mg
  base := X.base
  A := A.deeper cenv
  N := N
  s_0 := s
  H_0 := H
  env := cenv
  outer := X.stack
  stack := cenv :: X.stack
  ex := [it]
  fn := fun _ => false
  calm := true
  pn := []
  xe := fun _ _ => False
section
variable {X : Cx} {pins : List (Addr × Obj)} {σ : L2.St} {H : Hp} {s : Shared}
/-- the frame as it is entered: s the state ahead of the frame's making -/
theorem gx_start {A : Around} {scope : Scope} {C : Addr} {cd : Value} {N : List Str} {it : Addr} {h₁ : Heap} {g : Array GenState} {dr : Drawn} {tk : Nat} {σg : L2.St} {m : Str → Option Value} (I : Inv X pins σ H s) (hfr : A.frames = some X.stack) (hd : A.handled = none) (hg : AllBare g)
    (hkind : scope.kind = .function) (hcell : ∀ y ∈ scope.names, y.2 ≠ .cell) (hfree : ∀ y ∈ scope.names, y.2 = .free → ∃ c, X.env.cells.lookup y.1 = some c) (hC : C = s.heap.objs.size) (hns : h₁.Ns C m) (kp : ∀ b o, s.heap.get? b = some o → h₁.get? b = some o)
    (hit : FpOk X pins H it) (hlt : it < s.heap.objs.size) (hσ : σg.length = N.length)
    (hloc : ∀ (i : Nat) (y : Str) (v : V), N[i]? = some y → σg[i]? = some (some v) → Vis scope y → ∃ u, RelV v u ∧ Look (genEnv scope (cloFrom X.env.cells scope.names []) C cd builtinsNs X.env) h₁ m y u) :
    Inv (gxCx X A s H (genEnv scope (cloFrom X.env.cells scope.names []) C cd builtinsNs X.env) N it) [] σg H { s with heap := h₁, gens := g, drawn := dr, toks := tk } := by
  have e0 := I.env0
  obtain ⟨f0, f1, f2, f3, f4, f5⟩ := hit
  have cm : ∀ {y c}, (cloFrom X.env.cells scope.names []).lookup y = some c → X.env.cells.lookup y = some c := fun {y c} e => by
    rcases cloFrom_mem (PySem.mem_of_lookup e) with hm | ⟨h1, h2⟩
    · cases hm
    · obtain ⟨c1, hc⟩ := hfree _ h1 rfl
      have hc : X.env.cells.lookup y = some c1 := hc
      have e2 : c = c1 := by
        rw [h2, hc] <;> rfl
      rw [e2]
      exact hc
  have look : ∀ {y}, scope.names.lookup y = some .free → ∃ c, (cloFrom X.env.cells scope.names []).lookup y = some c := fun {y} hl => by
    have hy : (y, NameKind.free) ∈ scope.names := PySem.mem_of_lookup hl
    exact mem_lookup (cloFrom_has (cells := X.env.cells) (acc := []) hy)
  have cl2 : ∀ y c, (cloFrom X.env.cells scope.names []).lookup y = some c → ∃ v, s.heap.IsCell c v := fun y c e => I.cell y c (cm e)
  have hCn : H C = none := by rw [hC]; exact I.hok.fresh (Nat.le_refl _)
  refine ⟨⟨e0.mod, hkind, I.ok.glob, rfl, by show s.heap.objs.size ≤ C; rw [hC]; exact Nat.le_refl _, fun y z c e1 e2 => I.ok.inj y z c (cm e1) (cm e2), fun y hy => ?_, fun y c z _ => (by cases z), fun _ => hd, Around.frames_deeper hfr, .inr ⟨rfl, rfl⟩, fun b hb => ?_, e0.bs, e0.bsz,
      fun b o e hb => ?_, fun b hb => ?_, e0.funs, e0.frf⟩,
    rfl, hg, ?_, ⟨m, hns, hloc⟩, fun y c e => ?_, hCn, fun y c e => I.freeC y c (cm e), fun q hq => absurd (show q ∈ ([] : List (Addr × Obj)) ++ [] from hq) (by simp), e0.hok.kept kp, hσ⟩
  · have hy : scope.names.lookup y = some .cell ∨ scope.names.lookup y = some .free := hy
    rcases hy with hy | hy
    · exact absurd rfl (hcell _ (PySem.mem_of_lookup hy))
    · exact look hy
  · have hb : b = it := by simpa using (show b ∈ [it] from hb)
    rw [hb]
    refine ⟨?_, fun y c e => f4 y c (cm e)⟩
    show it ≠ C
    rw [hC]
    exact Nat.ne_of_lt hlt
  · have hb : b = it := by simpa using (show b ∈ [it] from hb)
    rw [hb] at e
    rcases f3 with z | z
    · exact I.ok.noex it o e z
    · have h1 := Heap.lt_size e
      have h2 := I.ok.bsz
      exact Nat.lt_irrefl _ (Nat.lt_of_lt_of_le h1 (Nat.le_trans h2 z))
  · have hb : b = it := by simpa using (show b ∈ [it] from hb)
    rw [hb]
    intro z
    rcases List.mem_cons.mp (I.stkSub it z) with q | q
    · exact f1 q
    · exact f2 q
  · have u : Un (frs X.stack) [] H H s.heap h₁ := Un.kept kp
    exact ⟨fun b o e n hb _ => u.keep b o e n hb (by simp), fun b o e n hb _ => u.slot b o e n hb (by simp), fun b o e n _ => u.free b o e n (by simp), fun b o e _ => u.there b o e (by simp), u.tups, u.frzs, u.tbls⟩
  · obtain ⟨v, o, ho, hdd⟩ := I.cell y c (cm e)
    exact ⟨v, o, kp _ _ ho, hdd⟩
/-- behind the frame -/
theorem gx_leave {A : Around} {cenv : Env} {N : List Str} {it : Addr} {σg : L2.St} {H' : Hp} {s' : Shared} (I : Inv X pins σ H s) (hit : FpOk X pins H it) (J : Inv (gxCx X A s H cenv N it) [] σg H' s') : Inv X pins σ H' s' := by
  obtain ⟨f0, f1, f2, f3, f4, f5⟩ := hit
  refine I.call' (ch := [it]) J.os J.base J.hok J.bare fun b hb => ?_
  have hb : b = it := by simpa using hb
  rw [hb]
  exact ⟨f3, f1, f4, f5⟩
end
/-! ### the body's turns -/
theorem seg_bG {M : Model} {A : Around} {R : GenEnd} {Y : Protocol} {n : Nat} {s₀ : Shared} {elt : Expr} {gens : List Comprehension} {sc : Scope} {pos : Pos} {it acc : Value} {cenv : Env} {s : Shared} {α β : Type} {m : Sem α} {K : α → Sem β} {K' : β → Sem PySem.Fin} {H' : Value → Sem PySem.Fin} {gd lv}
    (h : wpAny M (A.deeper cenv) m (fun a s' => Seg M A R Y n s₀ (.compLoop (.GeneratorExp elt gens sc pos) 0 it acc cenv) ((K a).wrap K' H' gd lv) [] s') (fun _ _ => False) s) : Seg M A R Y n s₀ (.compLoop (.GeneratorExp elt gens sc pos) 0 it acc cenv) ((m >>= K).wrap K' H' gd lv) [] s :=
  seg_bind_wrap (by rw [over_loopG]; exact wpAny_mono h (fun _ _ z => z) fun _ _ z => z.elim)
section
variable {X : Cx} {T : Tb}
/-- what the frame's state says -/
structure GxI (X : Cx) (T : Tb) (A : Around) (s0 : Shared) (H0 : Hp) (cenv : Env) (it l : Addr) (B : Hp) (p : Int) (i : Nat) (s : Shared) (H : Hp) : Prop where
  inv : ∃ a, Inv (gxCx X A s0 H0 cenv ["prime", "one"] it) [] [some (.int p), a] H s
  ex : Ex T B H
  itn : H it = none
  itr : s.heap.IsListIter it l i
theorem seg_gx {A : Around} {R : GenEnd} {Y : Protocol} {s0 : Shared} {H0 B : Hp} {cenv : Env} {it l : Addr} {p : Int} {xs : List V} {b : Nat → Bool} {test iter : Expr} {scope : Scope} {pos px pe : Pos} {tt : TT}
    (hco : cenv.scope.isCoroutine = false) (hone : cenv.scope.names.lookup ("one" : Str) = some .local) (hcl : ∀ x c, cenv.cells.lookup x = some c → c ≠ it) (hitC : it ≠ cenv.locals) (hitf : it ∉ frs X.stack)
    (hpt : PT (gxCx X A s0 H0 cenv ["prime", "one"] it) test tt) (hxs : SqL X.K B l xs)
    (htest : ∀ i x H, xs[i]? = some x → Ex T B H → EvT T tt [some (.int p), some x] H (b i))
    (hR : ∀ s H, GxI X T A s0 H0 cenv it l B p xs.length s H → (∀ j, j < xs.length → b j = false) → ∀ s1, (∃ a, Inv (gxCx X A s0 H0 cenv ["prime", "one"] it) [] [some (.int p), a] H s1) → ∀ n s₀, R n s₀ (.ok .next) s1)
    (hY : ∀ i s H x u, xs[i]? = some x → b i = true → (∀ j, j < i → b j = false) → RelV x u → Ex T B H → (∃ a, Inv (gxCx X A s0 H0 cenv ["prime", "one"] it) [] [some (.int p), a] H s) → ∀ n s₀ kap, Y n s₀ u s kap) :
    ∀ (k i : Nat) (s₀ s : Shared) (H : Hp), xs.length - i = k → i ≤ xs.length → GxI X T A s0 H0 cenv it l B p i s H → (∀ j, j < i → b j = false) →
      Seg (model X.prog X.w) A R Y 1 s₀ (.compLoop (.GeneratorExp (.Name "one" pe) [⟨.Name "one" px, iter, [test], 0⟩] scope pos) 0 (.ref it) .none cenv)
        ((model X.prog X.w).den (.compLoop (.GeneratorExp (.Name "one" pe) [⟨.Name "one" px, iter, [test], 0⟩] scope pos) 0 (.ref it) .none cenv)) [] s := by
  have fp : ∀ H, H it = none → ∀ c ∈ [it], FpOk (gxCx X A s0 H0 cenv ["prime", "one"] it) [] H c := fun H hn c hc => by
    have hc : c = it := by simpa using hc
    rw [hc]
    exact ⟨hn, hitC, hitf, .inl (List.mem_singleton.mpr rfl), hcl, fun q hq => absurd (show q ∈ ([] : List (Addr × Obj)) ++ [] from hq) (by simp)⟩
  intro k
  induction k with
  | zero =>
    intro i s₀ s H hk hi G hb
    have hin : i = xs.length := by omega
    subst hin
    obtain ⟨a, I⟩ := G.inv
    show Seg _ A _ _ _ s₀ _ ((compTurn (.GeneratorExp (.Name "one" pe) [⟨.Name "one" px, iter, [test], 0⟩] scope pos) 0 (.ref it) .none cenv).onRaise (leaving cenv)) [] s
    rw [compTurn_gen, Sem.onRaise_eq_wrap]
    refine seg_bG (wpAny_standAt ?_)
    refine seg_bG (wpAny_mono ((turn_list (P := X.prog) (w := X.w) (K := X.K) (tg := .Name "one" px) l it).done (gxCx X A s0 H0 cenv ["prime", "one"] it) rfl rfl rfl rfl xs.length [] s _ H (fun _ _ => False) I (fp H G.itn) G.itr ⟨xs, G.ex.sub.sql hxs, Nat.le_refl _⟩) (fun r s1 hr => ?_) fun _ _ z => z)
    obtain ⟨rfl, I1⟩ := hr
    exact seg_end (.ok .next) (hR s H G hb s1 ⟨a, I1⟩ _ _)
  | succ k ih =>
    intro i s₀ s H hk hi G hb
    have hlt : i < xs.length := by omega
    obtain ⟨a, I⟩ := G.inv
    obtain ⟨x0, hx0⟩ : ∃ x, xs[i]? = some x := ⟨xs[i], List.getElem?_eq_getElem hlt⟩
    show Seg _ A _ _ _ s₀ _ ((compTurn (.GeneratorExp (.Name "one" pe) [⟨.Name "one" px, iter, [test], 0⟩] scope pos) 0 (.ref it) .none cenv).onRaise (leaving cenv)) [] s
    rw [compTurn_gen, Sem.onRaise_eq_wrap]
    refine seg_bG (wpAny_standAt ?_)
    refine seg_bG (wpAny_mono ((turn_list (P := X.prog) (w := X.w) (K := X.K) (tg := .Name "one" px) l it).item (gxCx X A s0 H0 cenv ["prime", "one"] it) rfl rfl rfl rfl i [] s _ H (fun _ _ => False) I (fp H G.itn) G.itr ⟨xs, x0, G.ex.sub.sql hxs, hx0⟩) (fun r s1 hr => ?_) fun _ _ z => z)
    obtain ⟨u, rfl, hr⟩ := hr
    refine seg_bG (wpAny_mono hr (fun _ s2 hs => ?_) fun _ _ z => z)
    obtain ⟨x, H', I2, rx, ⟨rfl, hy⟩, tn2, hn2⟩ := hs
    have hx : xs[i]? = some x := hy xs (G.ex.sub.sql hxs)
    obtain ⟨o, ho, hoc, hod⟩ := id tn2
    have I3 : Inv (gxCx X A s0 H0 cenv ["prime", "one"] it) [(it, o)] [some (.int p), a] H' s2 := I2.pins_of fun q hq => by
      have hq : q = (it, o) := by simpa using (show q ∈ ([] : List (Addr × Obj)) ++ [(it, o)] from hq)
      subst hq
      exact ⟨ho, hn2 it (by simp), hitC, hitf, fun v z => by rw [hod] at z; cases z⟩
    refine seg_bG (wpAny_mono ((pg_name (X := gxCx X A s0 H0 cenv ["prime", "one"] it) (x := "one") (i := 1) (pos := px) (show (["prime", "one"] : List Str).Nodup by decide) rfl (Or.inl hone) (Or.inr hone)).run [(it, o)] s2 _ H' x u (fun σ' H'' => σ' = [some (.int p), some x] ∧ H'' = H') I3 rx ⟨rfl, rfl⟩) (fun _ s3 hs => ?_) fun _ _ z => z)
    obtain ⟨σ', H'', I4, rfl, rfl⟩ := hs
    refine seg_bG (wpAny_mono ((pts_one hpt).run [(it, o)] s3 _ H'' (fun c H5 => c = b i ∧ Ex T H'' H5) I4 (htest i x H'' hx G.ex H'' G.ex.refl _ fun H5 e5 => ⟨rfl, e5⟩)) (fun ok s4 hs => ?_) fun _ _ z => z)
    obtain ⟨H5, I5, rfl, e5⟩ := hs
    have pin5 := I5.pin (it, o) (by show (it, o) ∈ ([] : List (Addr × Obj)) ++ [(it, o)]; simp)
    have I6 : Inv (gxCx X A s0 H0 cenv ["prime", "one"] it) [] [some (.int p), some x] H5 s4 := I5.pins_of fun q hq => absurd (show q ∈ ([] : List (Addr × Obj)) ++ [] from hq) (by simp)
    cases hbi : b i with
    | false =>
      simp only [Bool.false_eq_true, if_false]
      exact seg_again rfl (ih (i + 1) s₀ s4 H5 (by omega) hlt ⟨⟨_, I6⟩, G.ex.trans e5, pin5.2.1, ⟨o, pin5.1, hoc, hod⟩⟩ fun j hj => by
        by_cases hji : j = i
        · rw [hji]; exact hbi
        · exact hb j (by omega))
    | true =>
      simp only [if_true]
      have hy : ∀ v, yieldOut cenv v = yieldValue v := fun v => by simp only [yieldOut, hco, Bool.false_eq_true, if_false]
      simp only [hy]
      rw [Sem.bind_eq_wrap', Sem.bind_eq_wrap', Sem.wrap_wrap, Sem.wrap_wrap]
      refine seg_wrap ?_
      rw [over_loopG]
      refine wpAny_mono ((pe_var (X := gxCx X A s0 H0 cenv ["prime", "one"] it) (x := "one") (pos := pe) (i := 1) rfl (Or.inl hone)).run [] s4 _ H5 (fun v H6 => v = x ∧ H6 = H5) I6 ⟨x, rfl, rfl, rfl⟩) (fun y s5 hs => ?_) fun _ _ z => z.elim
      obtain ⟨v, H6, I7, rv, rfl, rfl⟩ := hs
      exact seg_at (seg_yield rfl rfl rfl (hY i s5 H6 v y hx hbi hb rv (G.ex.trans e5) ⟨_, I7⟩ _ _ _))
end
theorem seg_bS {M : Model} {A : Around} {R : GenEnd} {Y : Protocol} {n : Nat} {s₀ : Shared} {elt : Expr} {gens : List Comprehension} {sc : Scope} {pos : Pos} {it acc : Value} {cenv : Env} {s : Shared} {α β : Type} {m : Sem α} {K : α → Sem β} {K' : β → Sem PySem.Fin} {H' : Value → Sem PySem.Fin} {gd lv}
    (h : wpAny M (A.deeper cenv) m (fun a s' => Seg M A R Y n s₀ (.compStart (.GeneratorExp elt gens sc pos) 0 it acc cenv) ((K a).wrap K' H' gd lv) [] s') (fun _ _ => False) s) : Seg M A R Y n s₀ (.compStart (.GeneratorExp elt gens sc pos) 0 it acc cenv) ((m >>= K).wrap K' H' gd lv) [] s :=
  seg_bind_wrap (by rw [over_startG]; exact wpAny_mono h (fun _ _ z => z) fun _ _ z => z.elim)
theorem seg_gxStart {P : Program} {w : World} {A : Around} {R : GenEnd} {Y : Protocol} {n : Nat} {s₀ s : Shared} {elt iter : Expr} {tg : Expr} {ifs : List Expr} {scope : Scope} {pos : Pos} {it l : Addr} {cenv : Env} (hit : s.heap.IsListIter it l 0)
    (loop : Seg (model P w) A R Y n s₀ (.compLoop (.GeneratorExp elt [⟨tg, iter, ifs, 0⟩] scope pos) 0 (.ref it) .none cenv) ((model P w).den (.compLoop (.GeneratorExp elt [⟨tg, iter, ifs, 0⟩] scope pos) 0 (.ref it) .none cenv)) [] s) :
    Seg (model P w) A R Y n s₀ (.compStart (.GeneratorExp elt [⟨tg, iter, ifs, 0⟩] scope pos) 0 (.ref it) .none cenv) ((model P w).den (.compStart (.GeneratorExp elt [⟨tg, iter, ifs, 0⟩] scope pos) 0 (.ref it) .none cenv)) [] s := by
  show Seg _ A _ _ _ s₀ _ ((compStart (.GeneratorExp elt [⟨tg, iter, ifs, 0⟩] scope pos) 0 (.ref it) .none cenv).onRaise (leaving cenv)) [] s
  unfold compStart
  rw [Sem.onRaise_eq_wrap]
  show Seg _ A _ _ _ s₀ _ ((ask >>= _).wrap _ _ _ _) [] s
  refine seg_bind_wrap (wpAny_askSetting ?_)
  split
  · exact seg_again rfl loop
  · have self := fun (B : Around) (Q : Value → Shared → Prop) (E : Value → Shared → Prop) => (turn_list (P := P) (w := w) (K := []) (tg := tg) l it).self B 0 s Q E hit
    first
      | exact seg_bind_wrap (wpAny_rule (seg_bind_wrap (wpAny_standAt (seg_bind_wrap (self _ _ _ (seg_again rfl loop))))))
      | (refine seg_bind_wrap (wpAny_rule ?_); show Seg _ A _ _ _ s₀ _ ((standAt iter.pos >>= _).wrap _ _ _ _) [] s; exact seg_bind_wrap (wpAny_standAt (seg_bind_wrap (self _ _ _ (seg_again rfl loop)))))
section
variable {X : Cx} {pins : List (Addr × Obj)} {σ : L2.St} {H : Hp} {s : Shared} {T : Tb}
/-- its code object: new, or found in the table -/
theorem gx_code {c P : Addr} {pos : Pos} {qual : Str} {scope : Scope} {M : Model} {A : Around} {Q : Value → Shared → Prop} {E : Value → Shared → Prop} (I : Inv X pins σ H s) (TB : LamX.TabB X.base X.mg c P) (hcode : X.env.code = .ref c) (hm : (P, qual) ∈ T) (hu : ∀ p ∈ T, p.1 = P → p.2 = qual) (hT : LamX.Tabs T H)
    (h : ∀ cd h' tk H', Inv X pins σ H' { s with heap := h', toks := tk } → Ex T H H' → (∀ b o, b ≠ P → s.heap.get? b = some o → h'.get? b = some o) → s.heap.objs.size ≤ h'.objs.size → h'.BuiltinsAt X.mg P → Q cd { s with heap := h', toks := tk }) :
    wpAny M A (genexprCode X.env pos qual scope) Q E s := by
  obtain ⟨ps, hP, ht, ha⟩ := hT _ hm
  have bP : s.heap.BuiltinsAt X.mg P := TB.bm.keeps I.bk
  have hP' : s.heap.get? P = some { cls := .none, data := .fields ps } := I.hok P _ hP
  have cd : PySem.W.CodeHd s.heap c P := TB.code.keeps I.bk
  cases hc : codeAmong pos ps.toList with
  | none =>
    refine wpAny_genexprCodeX hcode (cd.code hP' ht) (cd.tab hP') hc fun c' h' tk hx hge hlt hco' hrec htab' _ => ?_
    obtain ⟨c2, oc, vs, t, e2, hoc, hd, hv⟩ := id hrec
    cases e2
    have nC : H c' = none := I.hok.fresh hge
    have I1 := LamX.inv_table (t' := tk) (more := #[rawInt pos.line, rawInt pos.col, .ref c']) (h' := h') I hP (fun b o hb e => hx b o hb e) htab'.2 hge ⟨oc, vs, t, hoc, hd, hv⟩
    have eL : (ps ++ #[rawInt pos.line, rawInt pos.col, .ref c']).toList = ps.toList ++ [rawInt pos.line, rawInt pos.col, .ref c'] := by simp
    have kp : ∀ b o, H b = some o → b ≠ P → upd (upd H P (.tbl (ps ++ #[rawInt pos.line, rawInt pos.col, .ref c']))) c' (LamX.CodeO c' qual) b = some o := fun b o e hb => by
      rw [upd_ne (ne_of_none e nC), upd_ne hb]; exact e
    refine h (.ref c') h' tk _ I1 ⟨fun b o e n => kp b o e fun z => n ps (Option.some.inj (e.symm.trans (by rw [z]; exact hP))), fun p hp => ?_, fun {b} z => ?_, fun {b qs} e => ?_⟩ (fun b o hb e => hx b o hb e) (Nat.le_trans hge (Nat.le_of_lt hlt)) ?_
    · have codeKeep : ∀ c0, H c0 = some (LamX.CodeO c0 p.2) → upd (upd H P (.tbl (ps ++ #[rawInt pos.line, rawInt pos.col, .ref c']))) c' (LamX.CodeO c' qual) c0 = some (LamX.CodeO c0 p.2) := fun c0 e => kp c0 _ e fun z => LamX.codeO_ne ps (Option.some.inj (e.symm.trans (by rw [z]; exact hP)))
      by_cases hb : p.1 = P
      · have hq := hu p hp hb
        refine ⟨ps ++ #[rawInt pos.line, rawInt pos.col, .ref c'], by rw [hb, upd_ne (ne_of_none hP nC), upd_same], by rw [eL]; exact PySem.TriplesOk_snoc _ _ _ _ ht, fun p' cv hcv => ?_⟩
        rw [eL] at hcv
        rcases LamX.among_app _ ht hcv with z | z
        · obtain ⟨c0, e1, e2⟩ := ha p' cv z
          exact ⟨c0, e1, codeKeep c0 (by rw [hq]; exact e2)⟩
        · exact ⟨c', z, by rw [upd_same, hq]⟩
      · obtain ⟨ps', a1, a2, a3⟩ := hT p hp
        refine ⟨ps', kp _ _ a1 hb, a2, fun p' cv hcv => ?_⟩
        obtain ⟨c0, e1, e2⟩ := a3 p' cv hcv
        exact ⟨c0, e1, codeKeep c0 e2⟩
    · by_cases h1 : b = c'
      · rw [h1, upd_same] at z; cases z
      · rw [upd_ne h1] at z
        by_cases h2 : b = P
        · rw [h2, upd_same] at z; cases z
        · rw [upd_ne h2] at z; exact z
    · by_cases h2 : b = P
      · rw [h2]; exact ⟨_, by rw [upd_ne (ne_of_none hP nC), upd_same]⟩
      · exact ⟨qs, kp _ _ e h2⟩
    · obtain ⟨bm, ob, e1, e2, e3, e4, e5, e6, e7, e8⟩ := bP
      exact ⟨bm, ob, e1, e2, e3, e4, hx _ _ e4 e5, e6, e7, e8⟩
  | some cv =>
    refine wpAny_genexprCode_hit hcode (cd.code hP' ht) hc ?_
    exact h cv s.heap s.toks H I (.start hT) (fun b o _ e => e) (Nat.le_refl _) bP
end
end KW

/-! text K8Gen2 -/
set_option Elab.async false
set_option linter.all false
set_option maxRecDepth 100000
set_option maxHeartbeats 4000000
namespace KW
open PySem PySem.Spec PyProof.Rows L2 StX
def tNextG (K : PySem.W.Frag) (T : Tb) (te : TE) (tt : TT) : TE := fun σ H Q => te σ H fun v H1 => ∃ (l : Addr) (xs : List V) (p : Int) (b : Nat → Bool), v = .ref l ∧ SqL K H1 l xs ∧ σ[0]? = some (some (.int p)) ∧ LamX.Tabs T H1 ∧
  (∀ i x H', xs[i]? = some x → Ex T H1 H' → EvT T tt [some (.int p), some x] H' (b i)) ∧ (∀ i x H', xs[i]? = some x → b i = true → (∀ j, j < i → b j = false) → Ex T H1 H' → Q x H') ∧ (∀ H', (∀ j, j < xs.length → b j = false) → Ex T H1 H' → Q .non H')
section
variable {X : Cx} {T : Tb}
theorem Inv.regen {pins : List (Addr × Obj)} {σ : L2.St} {H : Hp} {s : Shared} {g : Array GenState} (I : L2.Inv X pins σ H s) (hg : AllBare g) : L2.Inv X pins σ H { s with gens := g } := ⟨I.ok, I.os, hg, I.base, I.loc, I.cell, I.free, I.freeC, I.pin, I.hok, I.len⟩
theorem pe_nextGen {c P : Addr} {iter test : Expr} {scope : Scope} {p pos gpos px pe cp : Pos} {j k : Nat} {te : TE} {tt : TT} (hr : Room (k + 2) X.A) (hg : Gl X "next") (hm : X.mg "next" = none) (TB : LamX.TabB X.base X.mg c P) (hcode : X.env.code = .ref c)
    (hmT : (P, X.env.qual ++ "<genexpr>") ∈ T) (hu : ∀ p ∈ T, p.1 = P → p.2 = X.env.qual ++ "<genexpr>") (he : PE X iter te) (hco : scope.isCoroutine = false) (hkind : scope.kind = .function) (hcell : ∀ y ∈ scope.names, y.2 ≠ .cell)
    (hdot : scope.names.lookup (".0" : Str) = some NameKind.local) (hone : scope.names.lookup ("one" : Str) = some .local) (hprime : scope.names.lookup ("prime" : Str) = some .free) (hfree : ∀ y ∈ scope.names, y.2 = .free → ∃ c, X.env.cells.lookup y.1 = some c)
    (hN0 : X.N[0]? = some ("prime" : Str)) (hcp : X.env.scope.names.lookup ("prime" : Str) = some .cell) (hs : ∀ v, genFold iter X.env v = pure v)
    (hpt : ∀ (A : Around) (s0 : Shared) (H0 : Hp) (C : Addr) (cd : Value) (it : Addr), Room k (A.deeper (genEnv scope (cloFrom X.env.cells scope.names []) C cd builtinsNs X.env)) → PT (gxCx X A s0 H0 (genEnv scope (cloFrom X.env.cells scope.names []) C cd builtinsNs X.env) ["prime", "one"] it) test tt)
    (he1 : starEach [.GeneratorExp (.Name "one" pe) [⟨.Name "one" px, iter, [test], 0⟩] scope gpos, .Constant .none j cp] X.env = (false, eval (.GeneratorExp (.Name "one" pe) [⟨.Name "one" px, iter, [test], 0⟩] scope gpos) X.env) :: starEach [.Constant .none j cp] X.env := by rfl)
    (hpl : (backTo pos (starEach [.Constant .none j cp] X.env)).any (·.1) = false := by rfl) :
    PE X (.Call (.Name "next" p) [.GeneratorExp (.Name "one" pe) [⟨.Name "one" px, iter, [test], 0⟩] scope gpos, .Constant .none j cp] [] pos) (tNextG X.K T te tt) := by
  refine ⟨fun pins s σ H Q I h => ?_⟩
  refine wpAny_Call_Name_kw (ld_blt (u := .builtin "next") I hg hm (by decide +kernel) ?_ (by decide) (by decide))
  refine PyProof.Rows.callWith_builtin1 ?_ he1 hpl
  rw [he1]
  show wpAny _ _ (spliced ((false, eval (.GeneratorExp (.Name "one" pe) [⟨.Name "one" px, iter, [test], 0⟩] scope gpos) X.env) :: backTo pos (starEach [.Constant .none j cp] X.env))) _ _ s
  refine Calls.spliced_cons (wpAny_GeneratorExp_make hco (closure_ok hfree) hcell hdot hkind (by have := hr.dp; omega) ?_ hs)
  refine thn (he.run pins s σ H _ I h) fun xv s1 ⟨v, H1, I1, r1, q1⟩ => ?_
  obtain ⟨l, xs, pr, b, rfl, hq, hσ, hT, htest, hyes, hno⟩ := q1
  cases r1
  obtain ⟨its, rv, pl, hz⟩ := I1.list hq
  refine wpAny_pyIter_list pl.isList ?_
  have I2 : L2.Inv X pins σ H1 { s1 with heap := s1.heap.push { cls := .type "list_iterator", data := .fields #[.ref l, .int 0 0] } } := I1.kept (t' := s1.toks) fun b o e => Heap.get?_push_of_some _ e
  have hitf : FpOk X pins H1 s1.heap.objs.size := I1.fpOk (Nat.le_refl _) (I1.hok.fresh (Nat.le_refl _))
  have hit2 : (s1.heap.push { cls := .type "list_iterator", data := .fields #[.ref l, .int 0 0] }).get? s1.heap.objs.size = some { cls := .type "list_iterator", data := .fields #[.ref l, .int 0 0] } := Heap.get?_push_size _ rfl
  obtain ⟨it, hitE⟩ : ∃ it, it = s1.heap.objs.size := ⟨_, rfl⟩
  rw [← hitE] at hitf hit2
  have I2p : L2.Inv X ((it, { cls := .type "list_iterator", data := .fields #[.ref l, .int 0 0] }) :: pins) σ H1 { s1 with heap := s1.heap.push { cls := .type "list_iterator", data := .fields #[.ref l, .int 0 0] } } := I2.pins_of fun q hq => by
    rcases List.mem_cons.mp hq with z | z
    · rw [z]
      exact ⟨hit2, hitf.1, hitf.2.1, hitf.2.2.1, fun v z => by cases z⟩
    · exact I2.pin q (List.mem_append_right _ z)
  rw [← hitE]
  refine ⟨I2.nolimit, gx_code I2p TB hcode hmT hu hT fun cd h3 tk H3 I3p e13 k3 sz3 bA => ?_⟩
  obtain ⟨q1, q2, q3, q4, q5⟩ := I3p.pin (it, { cls := .type "list_iterator", data := .fields #[.ref l, .int 0 0] }) (List.mem_append_right _ (List.mem_cons_self ..))
  have I3 : L2.Inv X pins σ H3 { s1 with heap := h3, toks := tk } := I3p.pins_of fun q hq => I3p.pin q (List.mem_append_right _ (List.mem_cons_of_mem _ hq))
  have hitf3 : FpOk X pins H3 it := ⟨q2, hitf.2⟩
  have hitlt : it < h3.objs.size := Heap.lt_size q1
  obtain ⟨bm, ob, e1, e2, e3, e4, e5, e6, e7, e8⟩ := id bA
  refine wpAny_builtinsFor (m := X.mg) (by rw [I3.ok.glob]; exact I3.mod.glob.keeps I3.bk) e1 e2 e5 e6 e7 e8 ?_
  intro h' hn' hs'
  have hsz : h'.objs.size = h3.objs.size + 1 := by rw [hs'.1, Heap.size_push]
  have keep' : ∀ b o, h3.get? b = some o → h'.get? b = some o := fun b o e => hs'.extBut b o (Nat.ne_of_lt (Heap.lt_size e)) (Heap.get?_push_of_some _ e)
  refine Calls.spliced_cons (x := eval (.Constant .none j cp) X.env) (rest := []) (Constant_none (k := j) (pos := cp) (env := X.env) (Calls.spliced_nil ?_))
  obtain ⟨h5, hh5⟩ : ∃ h5 : Heap, h5 = h'.push { cls := .type "generator", data := .fields #[.int s1.gens.size 0, .str "<genexpr>" (tk + 1), .str (X.env.qual ++ "<genexpr>") (tk + 1 + 1)] } := ⟨_, rfl⟩
  have keep5 : ∀ b o, h3.get? b = some o → h5.get? b = some o := fun b o e => by rw [hh5]; exact Heap.get?_push_of_some _ (keep' b o e)
  have hgen : h5.IsGen h'.objs.size s1.gens.size := by rw [hh5]; exact ⟨_, _, _, Heap.get?_push_size _ rfl, rfl, rfl, rfl⟩
  show wpAny _ _ (call (.builtin "next") [.ref h'.objs.size, .none]) _ _ { s1 with heap := h'.push _, gens := s1.gens.push _, toks := tk + 1 + 1 + 1 }
  rw [← hh5]
  generalize hcode0 : (GenState.fresh (.compStart (.GeneratorExp (.Name "one" pe) [⟨.Name "one" px, iter, [test], 0⟩] scope gpos) 0 (.ref it) .none (genEnv scope (cloFrom X.env.cells scope.names []) h3.objs.size cd builtinsNs X.env))) = gs0
  have hbare0 : AllBare (s1.gens.push gs0) := I3.bare.push (by rw [← hcode0]; rfl)
  refine Calls.call_function_entry (by decide +kernel) (by decide +kernel) PySem.W.kdk_entry_next (PySem.W.kdk_args_next2 _ _) ?_
  unfold Builtin.«next»
  refine wpAny_bind (m := someArgs "next" 1 2 _) (wpAny_of_eq (a := [Value.ref h'.objs.size, .none]) (by first | rfl | kernel_rfl!) ?_)
  dsimp only
  refine wpAny_bind (wpAny_specialOf (name := Str.ofString "__next__") (Heap.IsGen.typeIs (s := { s1 with heap := h5, gens := s1.gens.push gs0, toks := tk + 1 + 1 + 1 }) hgen) slot_gen_next.lookup ?_)
  refine wpAny_ite_split (fun hab => absurd hab (by decide)) (fun _ => ?_)
  obtain ⟨cenv, hcenv⟩ : ∃ cenv, cenv = genEnv scope (cloFrom X.env.cells scope.names []) h3.objs.size cd builtinsNs X.env := ⟨_, rfl⟩
  rw [← hcenv] at hcode0
  have cm : ∀ {y c}, (cloFrom X.env.cells scope.names []).lookup y = some c → X.env.cells.lookup y = some c := fun {y c} e => by
    rcases cloFrom_mem (PySem.mem_of_lookup e) with hm | ⟨h1, h2⟩
    · cases hm
    · obtain ⟨c1, hc⟩ := hfree _ h1 rfl
      have hc : X.env.cells.lookup y = some c1 := hc
      have e2 : c = c1 := by
        rw [h2, hc] <;> rfl
      rw [e2]
      exact hc
  have hitC : it ≠ h3.objs.size := Nat.ne_of_lt hitlt
  have hits : it ∉ frs X.stack := fun z => by
    rcases List.mem_cons.mp (I3.stkSub it z) with q | q
    · exact hitf.2.1 q
    · exact hitf.2.2.1 q
  have Jstart : ∀ (g : Array GenState) (tk' : Nat), AllBare g → L2.Inv (gxCx X X.A.in1.in1 { s1 with heap := h3, toks := tk } H3 cenv ["prime", "one"] it) [] [some (.int pr), none] H3 { s1 with heap := h5, gens := g, toks := tk' } := fun g tk' hg => by
    rw [hcenv]
    refine gx_start (m := fun y => if y = (".0" : Str) then some (.ref it) else none) (dr := s1.drawn) I3 I3.ok.frames hr.hd hg hkind hcell hfree rfl ?_ keep5 hitf3 hitlt rfl fun i y v hy hv hvis => ?_
    · rw [hh5]; exact hn'.push _
    · match i, hy, hv with
      | 0, hy, hv =>
        cases hy
        cases hv
        obtain ⟨m3, hn3, hl3⟩ := I3.loc
        obtain ⟨u, ru, lk⟩ := hl3 0 "prime" (.int pr) hN0 hσ (.inr (.inl hcp))
        refine ⟨u, ru, .inr ⟨.inr hprime, ?_⟩⟩
        rcases lk with ⟨z, _⟩ | ⟨_, c0, hc0, hcell0⟩
        · have z : X.env.scope.names.lookup ("prime" : Str) = some .local := z
          rw [hcp] at z
          cases z
        · obtain ⟨c2, h2⟩ := mem_lookup (cloFrom_has (cells := X.env.cells) (acc := []) (PySem.mem_of_lookup hprime))
          have e9 := cm h2
          rw [hc0] at e9
          cases e9
          obtain ⟨oc, ho, hd⟩ := hcell0
          exact ⟨c0, h2, oc, keep5 _ _ ho, hd⟩
      | 1, hy, hv => cases hv
  have G0 : ∀ (g : Array GenState) (tk' : Nat), AllBare g → GxI X T X.A.in1.in1 { s1 with heap := h3, toks := tk } H3 cenv it l H1 pr 0 { s1 with heap := h5, gens := g, toks := tk' } H3 := fun g tk' hg => ⟨⟨_, Jstart g tk' hg⟩, e13, q2, ⟨_, keep5 _ _ q1, rfl, rfl⟩⟩
  have leave : ∀ {a : Option V} {H' : Hp} {s' : Shared}, L2.Inv (gxCx X X.A.in1.in1 { s1 with heap := h3, toks := tk } H3 cenv ["prime", "one"] it) [] [some (.int pr), a] H' s' → L2.Inv X pins σ H' s' := fun J => gx_leave I3 hitf3 J
  refine wpAny_bind (wpAny_pyNext_genexpQ (A := X.A.in1) (n := 1) (gs := gs0) (g := s1.gens.size)
    (P := fun _ _ s₁ => ∃ a H', Ex T H1 H' ∧ L2.Inv (gxCx X X.A.in1.in1 { s1 with heap := h3, toks := tk } H3 cenv ["prime", "one"] it) [] [some (.int pr), a] H' s₁ ∧ ∀ j, j < xs.length → b j = false)
    (Y := fun _ _ v s₁ _ => ∃ i x a H', xs[i]? = some x ∧ b i = true ∧ (∀ j, j < i → b j = false) ∧ RelV x v ∧ Ex T H1 H' ∧ L2.Inv (gxCx X X.A.in1.in1 { s1 with heap := h3, toks := tk } H3 cenv ["prime", "one"] it) [] [some (.int pr), a] H' s₁)
    hr.hd ((I3.nolimit).keeps keep5) (by have := hr.dp; show X.A.depth < _; omega) hgen (Array.getElem?_push_size ..) ?_ (fun v s₁ gs' hbare hv => ?_) fun s₁ hp h' hk => ?_)
  · rw [← hcode0]
    have hb2 : AllBare ((s1.gens.push (GenState.fresh (.compStart (.GeneratorExp (.Name "one" pe) [⟨.Name "one" px, iter, [test], 0⟩] scope gpos) 0 (.ref it) .none cenv))).setIfInBounds s1.gens.size .running) :=
      allBare_setGen (s := { s1 with gens := s1.gens.push (GenState.fresh (.compStart (.GeneratorExp (.Name "one" pe) [⟨.Name "one" px, iter, [test], 0⟩] scope gpos) 0 (.ref it) .none cenv)) }) (by rw [hcode0]; exact hbare0) rfl
    refine ⟨rfl, seg_gxStart (l := l) ⟨_, keep5 _ _ q1, rfl, rfl⟩ (seg_gx (X := X) (T := T) (A := X.A.in1.in1) (s0 := { s1 with heap := h3, toks := tk }) (H0 := H3) (B := H1) (cenv := cenv) (l := l) (p := pr) (xs := xs) (b := b) (tt := tt) (by rw [hcenv]; exact hco) (by rw [hcenv]; exact hone) (fun x c e => ?_) (by rw [hcenv]; exact hitC) hits ?_ hq htest ?_ ?_ xs.length 0 _ _ H3 rfl (Nat.zero_le _) (G0 _ _ hb2) fun j hj => absurd hj (Nat.not_lt_zero _))⟩
    · rw [hcenv] at e
      exact hitf.2.2.2.2.1 x c (cm e)
    · rw [hcenv]
      refine hpt _ _ _ _ _ _ ⟨hr.hd, ?_, ?_⟩
      · have := hr.dp
        show X.A.depth + 1 + 3 * k + 5 < _
        omega
      · have := hr.un
        show X.A.units + 1 + 1 + 3 + 16 * k + 200 < _
        omega
    · intro s' H' G hall s1' hJ n s₀
      obtain ⟨a, J⟩ := hJ
      exact ⟨rfl, a, H', G.ex, J, hall⟩
    · intro i s' H' x u hx hbi hlt ru ex hJ n s₀ kap
      obtain ⟨a, J⟩ := hJ
      exact ⟨i, x, a, H', hx, hbi, hlt, ru, ex, J⟩
  · obtain ⟨i, x, a, H', hx, hbi, hlt, ru, ex, J⟩ := hv
    have J2 := Inv.regen (leave J) (allBare_setGen (leave J).bare hbare (g := s1.gens.size))
    exact wpAny_pure ⟨_, rfl, x, H', J2, ru, hyes i x H' hx hbi hlt ex⟩
  · obtain ⟨a, H', ex, J, hall⟩ := hp
    have J2 := Inv.regen (leave J) (allBare_setGen (x := .finished) (leave J).bare rfl (g := s1.gens.size))
    exact wpAny_pure ⟨_, rfl, .non, H', J2.kept (t' := s₁.toks) hk, rfl, hno H' hall ex⟩
end
end KW

/-! text K8Base -/
set_option Elab.async false
set_option linter.all false
set_option maxRecDepth 100000
set_option maxHeartbeats 4000000
/-! The program's text, the bundle of a def's facts. -/
namespace KW
open PySem PySem.Spec PyProof.Rows L2 StX
def topS (i : Nat) : Stmt := PySem.Challenge.pw_wildsteps_k08_whole_counts_of_factors_an.main.body.getD i (.Pass ⟨0, 0, 0, 0⟩)
abbrev FnP (K : PySem.W.Frag) (x : Str) (st : Stmt) (f : Addr) (fd : FuncData) : Prop := FunD K x x (defArgs st) (defBody st) (defScope st) [] [] f fd
/-- a def as its callers know it -/
structure Df (P : Program) (w : World) (K : PySem.W.Frag) (mg : Str → Option Value) (base : Heap) (k : Nat) (x : Str) (ps : List Str) (sp : Sp) : Prop where
  get : ∃ f fd, mg x = some (.ref f) ∧ PySem.W.keepIn K (.ref f) = true ∧ Binds K fd ps [] ∧ FnOk P w K mg base L2.CX0 k f fd ps sp
section
variable {P : Program} {w : World} {K : PySem.W.Frag} {mg : Str → Option Value} {base : Heap} {k : Nat} {x : Str} {ps : List Str} {sp : Sp}
theorem Df.of {st : Stmt} {f : Addr} {fd : FuncData} (F : FnP K x st f fd) (hm : mg x = some (.ref f)) (ok : FnOk P w K mg base L2.CX0 k f fd ps sp)
    (h : ∀ (kV doc pm : Value) (an : Option Addr) (cdv ct : Value) (us : List Value), us.length = ps.length → bindArgs (PySem.W.fnOf x x (defArgs st) (defBody st) (defScope st) .none kV doc pm an cdv ct) ⟨us, []⟩ = pure (ps.zip us)) : Df P w K mg base k x ps sp :=
  ⟨f, fd, hm, F.kp, F.bindsN h, ok⟩
end
section
variable {X : Cx} {k j : Nat} {x : Str} {ps : List Str} {sp : Sp} {e : Expr} {es : List Expr} {t : TA} {p pos : Pos}
theorem pe_callD (D : Df X.prog X.w X.K X.mg X.base j x ps sp) (hr : Room k X.A) (hk : j ≤ k) (hg : Gl X x) (ha : PA X (e :: es) t)
    (hdb : (x == ("__debug__" : Str)) = false := by decide) (he : starEach (e :: es) X.env = (false, eval e X.env) :: starEach es X.env := by rfl) (hpl : (backTo pos (starEach es X.env)).any (·.1) = false := by rfl) :
    PE X (.Call (.Name x p) (e :: es) [] pos) (tCall sp [] L2.E0 t) := by
  obtain ⟨f, fd, hm, kp, b, F⟩ := D.get
  exact pe_call F (hr.mono hk) hg hm kp b .nil L2.pass0 ha hdb he hpl
end
/-- the module's other names -/
structure Bi (K : PySem.W.Frag) (mg : Str → Option Value) : Prop where
  len : mg "len" = none
  list : mg "list" = none
  tuple : mg "tuple" = none
  range : mg "range" = none
  max : mg "max" = none
  min : mg "min" = none
  abs : mg "abs" = none
  int : mg "int" = none
  bool : mg "bool" = none
  sum : mg "sum" = none
  all : mg "all" = none
  zip : mg "zip" = none
  enumerate : mg "enumerate" = none
  isinstance : mg "isinstance" = none
  sorted : mg "sorted" = none
  next : mg "next" = none
  sixty : ∃ t, mg "SIXTY" = some (.int (10 ^ 60) t)
  maxDegree : ∃ t, mg "MAX_DEGREE" = some (.int 8 t)
  mostLow : ∃ t, mg "MOST_LOW" = some (.int 6 t)
  mostResidues : ∃ t, mg "MOST_RESIDUES" = some (.int 64 t)
  primes : ∃ a, mg "PRIMES" = some (.ref a) ∧ ∀ H : Hp, SqT K H a [.int 2, .int 3, .int 5, .int 7]
section
variable {X : Cx} {x : Str} {pos : Pos} {n : Int}
theorem pe_gint (hg : Gl X x) (h : ∃ t, X.mg x = some (.int n t)) (hd : (x == ("__debug__" : Str)) = false := by decide) : PE X (.Name x pos) (tC (.int n)) := by
  obtain ⟨t, h⟩ := h
  exact pe_glob hg h ⟨t, rfl⟩ hd
/-- PRIMES: where it stands is not told -/
def tPrimes (K : PySem.W.Frag) : TE := fun _ H Q => ∀ a, (∀ H : Hp, SqT K H a [.int 2, .int 3, .int 5, .int 7]) → Q (.ref a) H
theorem pe_primes {mg : Str → Option Value} (hg : Gl X "PRIMES") (h : ∃ a, X.mg "PRIMES" = some (.ref a) ∧ ∀ H : Hp, SqT X.K H a [.int 2, .int 3, .int 5, .int 7]) : PE X (.Name "PRIMES" pos) (tPrimes X.K) := by
  obtain ⟨a, h, z⟩ := h
  refine ⟨fun pins s σ H Q I q => ?_⟩
  exact ld_glob I hg h ⟨.ref a, H, I, rfl, q a z⟩ (by decide)
theorem op_powX : OpR X (binaryOp .Pow) (rI (fun i j => 0 ≤ j ∧ (Builtin.Int.intBits i : Int) * j ≤ 2 ^ 27) fun i j => .int (i ^ j.toNat)) := opI fun _ _ _ _ _ _ _ hc q => pow_int hc.1 hc.2 q
end
section
variable {K : PySem.W.Frag} {T : Tb} {σ : L2.St} {H : Hp} {te : TE} {R : List PyData → PyData → Prop} {vs : List V} {Q : VK} {E : XK}
theorem eb_notPrimes {ta : TE} {n : Int} (ha : Ev T ta σ H (.int n)) : Ev T (tOp (rIn K true) ta (tPrimes K)) σ H (.bl (!inV (.int n) [.int 2, .int 3, .int 5, .int 7])) := fun H1 e Q q =>
  ha H1 e _ fun H2 e2 a h => ⟨a, _, rfl, .inr (h H2), rfl, rfl, q H2 e2⟩
theorem sp1 (h : spR K T 1 R vs H Q E) : ∃ v1 Hx d1 r, vs = [v1] ∧ LamX.Tabs T H ∧ Ex T Hx H ∧ Dp K Hx v1 d1 ∧ R [d1] r ∧ Ret K T Hx H Q r := by
  obtain ⟨hl, ht, Hx, ds, r, ex, da, hR, hQ⟩ := h
  match vs, hl, ds, da with
  | [v1], _, _, .cons a .nil => exact ⟨v1, Hx, _, r, rfl, ht, ex, a, hR, hQ⟩
theorem sp2 (h : spR K T 2 R vs H Q E) : ∃ v1 v2 Hx d1 d2 r, vs = [v1, v2] ∧ LamX.Tabs T H ∧ Ex T Hx H ∧ Dp K Hx v1 d1 ∧ Dp K Hx v2 d2 ∧ R [d1, d2] r ∧ Ret K T Hx H Q r := by
  obtain ⟨hl, ht, Hx, ds, r, ex, da, hR, hQ⟩ := h
  match vs, hl, ds, da with
  | [v1, v2], _, _, .cons a (.cons b .nil) => exact ⟨v1, v2, Hx, _, _, r, rfl, ht, ex, a, b, hR, hQ⟩
theorem sp3 (h : spR K T 3 R vs H Q E) : ∃ v1 v2 v3 Hx d1 d2 d3 r, vs = [v1, v2, v3] ∧ LamX.Tabs T H ∧ Ex T Hx H ∧ Dp K Hx v1 d1 ∧ Dp K Hx v2 d2 ∧ Dp K Hx v3 d3 ∧ R [d1, d2, d3] r ∧ Ret K T Hx H Q r := by
  obtain ⟨hl, ht, Hx, ds, r, ex, da, hR, hQ⟩ := h
  match vs, hl, ds, da with
  | [v1, v2, v3], _, _, .cons a (.cons b (.cons c .nil)) => exact ⟨v1, v2, v3, Hx, _, _, _, r, rfl, ht, ex, a, b, c, hR, hQ⟩
theorem sp4 (h : spR K T 4 R vs H Q E) : ∃ v1 v2 v3 v4 Hx d1 d2 d3 d4 r, vs = [v1, v2, v3, v4] ∧ LamX.Tabs T H ∧ Ex T Hx H ∧ Dp K Hx v1 d1 ∧ Dp K Hx v2 d2 ∧ Dp K Hx v3 d3 ∧ Dp K Hx v4 d4 ∧ R [d1, d2, d3, d4] r ∧ Ret K T Hx H Q r := by
  obtain ⟨hl, ht, Hx, ds, r, ex, da, hR, hQ⟩ := h
  match vs, hl, ds, da with
  | [v1, v2, v3, v4], _, _, .cons a (.cons b (.cons c (.cons d .nil))) => exact ⟨v1, v2, v3, v4, Hx, _, _, _, _, r, rfl, ht, ex, a, b, c, d, hR, hQ⟩
end
end KW
namespace KW
open PySem PySem.Spec PyProof.Rows L2 StX
/-- the def of the i-th statement stands under its name -/
def Has (K : PySem.W.Frag) (mg : Str → Option Value) (x : Str) (i : Nat) : Prop := ∃ f fd, mg x = some (.ref f) ∧ FnP K x (topS i) f fd
section
variable {P : Program} {w : World} {K : PySem.W.Frag} {mg : Str → Option Value} {base : Heap} {k : Nat} {x : Str} {ps N : List Str} {sp : Sp} {i : Nat}
theorem Has.df (h : Has K mg x i) (S : FnScope N ps (defScope (topS i))) (len : ∀ vs H Q E, sp vs H Q E → vs.length = ps.length)
    (hb : ∀ (kV doc pm : Value) (an : Option Addr) (cdv ct : Value) (us : List Value), us.length = ps.length → bindArgs (PySem.W.fnOf x x (defArgs (topS i)) (defBody (topS i)) (defScope (topS i)) .none kV doc pm an cdv ct) ⟨us, []⟩ = pure (ps.zip us))
    (hbody : ∀ (f : Addr) (cdv : Value) (A : Around) (outer : List Env) (s : Shared) (H : Hp) (vs : List V) (Q : VK) (E : XK), Room k (A.deeper (envOfC x (defScope (topS i)) s.heap.objs.size f cdv)) → sp vs H Q E →
      ∃ t, PSs (cxOf L2.CX0 P w K mg base N x (defScope (topS i)) f cdv A outer s H E) (defBody (topS i)) t ∧ t { nx := fun _ H' => Q .non H', rt := Q } (L2.start N vs) H) : Df P w K mg base (k + 1) x ps sp := by
  obtain ⟨f, fd, hm, F⟩ := h
  exact .of F hm (F.ok S len fun cdv A outer s H vs Q E hr hsp => hbody f cdv A outer s H vs Q E hr hsp) hb
end
section
variable {X : Cx} {e : Expr} {te : TE} {tg : Expr}
theorem pi_seq (h : PE X e te) : PI X tg e (fun σ H R => iList X.K te σ H R ∨ iTup X.K te σ H R) := ⟨fun pins s σ H R I q => q.elim ((pi_list h).run pins s σ H R I) ((pi_tup h).run pins s σ H R I)⟩
end
section
variable {K : PySem.W.Frag} {T : Tb} {σ : L2.St} {H : Hp} {ta tb te : TE} {v : V} {d : PyData} {ds : List PyData} {i j : Int} {b c : Bool}
theorem ei_isi {cn tn : String} (ha : Ev T ta σ H v) (hb : TyOf K H v (.type tn)) (hm : ∀ {H' t}, Ex T H H' → TyOf K H v t → TyOf K H' v t) (h : kitB tn cn = some b) : Ev T (tCB (rIsi K) (tCons ta (tCons (tC (.ty cn)) tNil))) σ H (.bl b) := fun H1 e Q q =>
  ha H1 e _ fun H2 e2 => ⟨v, .ty cn, .type tn, .type cn, b, rfl, .ty cn, .base (hm (e.trans e2) hb), kit_ty h, q H2 e2⟩
theorem ei_isiI {cn : String} (ha : Ev T ta σ H (.int i)) (h : kitB "int" cn = some b) : Ev T (tCB (rIsi K) (tCons ta (tCons (tC (.ty cn)) tNil))) σ H (.bl b) := ei_isi ha (.int i) (fun _ _ => by rename_i q; cases q; exact .int i) h
theorem ei_isiT (ha : EvD K T ta σ H (.tuple ds)) : Ev T (tCB (rIsi K) (tCons ta (tCons (tC (.ty "tuple")) tNil))) σ H (.bl true) := fun H1 e Q q =>
  ha H1 e _ fun v H2 e2 k2 => by
    obtain ⟨a, xs, rfl, hs, hd⟩ := Dp.tuple_inv k2
    refine ⟨.ref a, .ty "tuple", .type "tuple", .type "tuple", true, rfl, .ty _, ?_, kit_ty (by decide +kernel), q H2 e2⟩
    rcases rest_le.sqt hs with (h | ⟨o, h⟩) | ⟨o, its, n, h1, h2, _⟩
    · exact .base (.tup h)
    · exact .fTuple h
    · exact .kTuple h1 h2
theorem iSeq_ev {g : TG} {n : Nat} {S : Nat → L2.St → L2.St → Hp → Prop} (h : EvI K T (iList K te) g σ H n S ∨ EvI K T (iTup K te) g σ H n S) : EvI K T (fun σ H R => iList K te σ H R ∨ iTup K te σ H R) g σ H n S := fun H1 e R q =>
  h.elim (fun z => .inl (z H1 e R q)) (fun z => .inr (z H1 e R q))
end
end KW

namespace KW
open PySem PySem.Spec PyProof.Rows L2 StX
section
variable {K : PySem.W.Frag} {T : Tb} {σ : L2.St} {Hx H0 Hb H : Hp} {t : TT} {b : Bool} {D : Ends} {tu tw tz : TS}
/-- if, both ways meet in J -/
theorem q_ifJ (J : L2.St → Hp → Prop) (S : Stt T Hx H0 Hb H) (h : EvT T t σ H b) (k : ∀ σ' H', J σ' H' → tz D σ' H')
    (h1 : b = true → ∀ H1, Nxt T Hx H0 Hb H Hb H1 → (∀ σ' H', J σ' H' → tz D σ' H') → tu { D with nx := tz D } σ H1) (h2 : b = false → ∀ H1, Nxt T Hx H0 Hb H Hb H1 → (∀ σ' H', J σ' H' → tz D σ' H') → tw { D with nx := tz D } σ H1) : tSeq (tIfS t tu tw) tz D σ H :=
  q_if S h (fun z H1 n => h1 z H1 n k) fun z H1 n => h2 z H1 n k
/-- while, as one of several statements -/
theorem q_while {tc : TT} (Pv : Nat → L2.St → Hp → Prop) (m0 : Nat) (h0 : Pv m0 σ H)
    (hs : ∀ m σ' H', Pv m σ' H' → ∃ b, LamX.Tabs T H' ∧ EvT T tc σ' H' b ∧ (b = true → ∀ H1, Ex T H' H1 → tw { D with nx := fun σ2 H2 => ∃ m', m' < m ∧ Pv m' σ2 H2, ct := fun σ2 H2 => ∃ m', m' < m ∧ Pv m' σ2 H2, bk := tz D } σ' H1) ∧ (b = false → ∀ H1, Ex T H' H1 → tz D σ' H1)) : tSeq (tWhile tc tw) tz D σ H :=
  s_while (T := T) (D := { D with nx := tz D }) Pv m0 h0 hs
end
end KW

namespace KW
open PySem PySem.Spec PyProof.Rows L2 StX
theorem ixL {X : Cx} {K : PySem.W.Frag} (h : X.K = K) : IxR X (rIxL K) := h ▸ ix_list
theorem ixT {X : Cx} {K : PySem.W.Frag} (h : X.K = K) : IxR X (rIxT K) := h ▸ ix_tup
end KW

namespace KW
open PySem PySem.Spec PyProof.Rows L2 StX
section
variable {X : Cx} {K : PySem.W.Frag}
theorem lenK (h : X.K = K) : CallR X (.builtin "len") (rLenS K) := h ▸ call_len_seq
theorem listK (h : X.K = K) : CallR X (.type "list") (rListS K) := h ▸ call_list_of
theorem tupK (h : X.K = K) : CallR X (.type "tuple") (rTupS K) := h ▸ call_tuple_of
theorem sumK (h : X.K = K) (hc : X.calm = true) : CallR X (.builtin "sum") (rSum K) := h ▸ cr_sum hc
theorem allK (h : X.K = K) (hc : X.calm = true) : CallR X (.builtin "all") (rAll K) := h ▸ cr_all hc
theorem isiK (h : X.K = K) : CallR X (.builtin "isinstance") (rIsi K) := h ▸ call_isi
theorem eqDK (h : X.K = K) (hu : X.A.units + 64 < cLine) : OpR X (compareOp .Eq) (rEqD K) := h ▸ op_eqD hu
theorem neDK (h : X.K = K) (hu : X.A.units + 64 < cLine) : OpR X (compareOp .NotEq) (rNeD K) := h ▸ op_neD hu
theorem ltTK (h : X.K = K) (hu : X.A.units < cLine) : OpR X (compareOp .Lt) (rLtT K) := h ▸ op_ltT hu
theorem catK (h : X.K = K) : OpR X (binaryOp .Add) (rCatA K) := h ▸ op_catA
theorem ninK (h : X.K = K) : OpR X (compareOp .NotIn) (rIn K true) := h ▸ op_notIn_seq
theorem slK (h : X.K = K) : SlR X (rSlL K) := h ▸ sl_list
end
end KW

namespace KW
open PySem PySem.Spec PyProof.Rows L2 StX
section
variable {X : Cx} {K : PySem.W.Frag} {e : Expr} {es : List Expr} {te : TE} {t : TA} {p : Pos}
theorem pa_starK (h : X.K = K) (he : PE X e te) (hr : PA X es t) (hs : starEach (.Starred e p :: es) X.env = (true, eval e X.env) :: starEach es X.env := by rfl) : PA X (.Starred e p :: es) (tStar K te t) := h ▸ pa_star he hr hs
end
end KW

namespace KW
open PySem PySem.Spec PyProof.Rows L2 StX
section
variable {K : PySem.W.Frag} {T : Tb} {σ : L2.St} {Hx H0 Hb H : Hp} {te : TE} {D : Ends}
theorem s_newI {i : Nat} {ns : List Int} (S : Stt T Hx H0 Hb H) (h : EvN K T te σ H (ns.map PyData.int)) (k : ∀ p Hb1 H1, H p = none → Nxt T Hx H0 Hb H Hb1 H1 → H0 p = none → Hb1 p = none → H1 p = some (.lst (ns.map V.int)) → D.nx (σ.set i (some (.ref p))) H1) : tAsg te (gName i) D σ H :=
  q_newI (K := K) (tz := tNext) (D := D) S h k
end
end KW

namespace KW
open PySem PySem.Spec PyProof.Rows L2 StX
/-- the same, with the def's code object and its table -/
def HasC (K : PySem.W.Frag) (mg : Str → Option Value) (base : Heap) (x : Str) (i : Nat) (P : Addr) : Prop := ∃ f fd c, mg x = some (.ref f) ∧ FnP K x (topS i) f fd ∧ fd.code = .ref c ∧ LamX.TabB base mg c P
section
variable {P : Program} {w : World} {K : PySem.W.Frag} {mg : Str → Option Value} {base : Heap} {k : Nat} {x : Str} {ps N : List Str} {sp : Sp} {i : Nat} {Pt : Addr}
theorem HasC.df (h : HasC K mg base x i Pt) (S : FnScope N ps (defScope (topS i))) (len : ∀ vs H Q E, sp vs H Q E → vs.length = ps.length)
    (hb : ∀ (kV doc pm : Value) (an : Option Addr) (cdv ct : Value) (us : List Value), us.length = ps.length → bindArgs (PySem.W.fnOf x x (defArgs (topS i)) (defBody (topS i)) (defScope (topS i)) .none kV doc pm an cdv ct) ⟨us, []⟩ = pure (ps.zip us))
    (hbody : ∀ (f c : Addr) (A : Around) (outer : List Env) (s : Shared) (H : Hp) (vs : List V) (Q : VK) (E : XK), LamX.TabB base mg c Pt → Room k (A.deeper (envOfC x (defScope (topS i)) s.heap.objs.size f (.ref c))) → sp vs H Q E →
      ∃ t, PSs (cxOf L2.CX0 P w K mg base N x (defScope (topS i)) f (.ref c) A outer s H E) (defBody (topS i)) t ∧ t { nx := fun _ H' => Q .non H', rt := Q } (L2.start N vs) H) : Df P w K mg base (k + 1) x ps sp := by
  obtain ⟨f, fd, c, hm, F, hc, TB⟩ := h
  refine .of F hm ?_ hb
  obtain ⟨oc, od, dV, kV, doc, pm, an, cdv, ct, osl, rfl, lk, hcd, _, _⟩ := F.ex
  obtain rfl : cdv = .ref c := hc
  exact fn_of lk hcd S len fun A outer s H vs Q E hr hsp => hbody f c A outer s H vs Q E TB hr hsp
end
end KW

namespace KW
open PySem PySem.Spec PyProof.Rows L2 StX
theorem free_ok {scope sc : Scope} {n : Nat} (h : scope.names.all (fun y => !decide (y.2 = .free) || decide (sc.names.lookup y.1 = some .cell)) = true) : ∀ y ∈ scope.names, y.2 = .free → ∃ c, (cellsFrom n sc.names []).lookup y.1 = some c := fun y hy e => by
  have := List.all_eq_true.mp h y hy
  rw [Bool.or_eq_true] at this
  rcases this with z | z
  · rw [decide_eq_true e] at z; cases z
  · exact cell_has (of_decide_eq_true z)
section
variable {K : PySem.W.Frag} {T : Tb} {σ : L2.St} {H : Hp} {te : TE} {tt : TT} {ds : List PyData} {r : PyData} {p : Int}
theorem ed_nextG (b : Nat → Bool) (h : EvD K T te σ H (.list ds)) (hσ : σ[0]? = some (some (.int p))) (htest : ∀ i d v Hy, ds[i]? = some d → Dp K Hy v d → EvT T tt [some (.int p), some v] Hy (b i))
    (hyes : ∀ i d, ds[i]? = some d → b i = true → (∀ j, j < i → b j = false) → r = d) (hno : (∀ j, j < ds.length → b j = false) → r = .none) : EvD K T (tNextG K T te tt) σ H r := fun H1 e Q q =>
  h H1 e _ fun v H2 e2 k2 => by
    obtain ⟨a, xs, rfl, hs, hd⟩ := Dp.list_inv k2
    refine ⟨a, xs, p, b, rfl, rest_le.sql hs, hσ, e2.tabs, fun i x H' hx ex => ?_, fun i x H' hx hb hlt ex => ?_, fun H' hall ex => ?_⟩
    · obtain ⟨d, h1, h2⟩ := hd.get' hx
      exact htest i d x H' h1 (Dp.sub (rest_le.trans ex.sub) _ _ h2)
    · obtain ⟨d, h1, h2⟩ := hd.get' hx
      rw [hyes i d h1 hb hlt] at q
      exact q x H' (e2.trans ex) (Dp.sub (rest_fwd ex.sub) _ _ h2)
    · rw [hno (fun j hj => hall j (by rw [hd.length]; exact hj))] at q
      exact q .non H' (e2.trans ex) .non
end
end KW

/-! text K8Help -/
set_option Elab.async false
set_option linter.all false
set_option maxRecDepth 100000
set_option maxHeartbeats 4000000
namespace KW
open PySem PySem.Spec PyProof.Rows L2 StX
open K8 (trim rests divided monics dsteps facsOf)
theorem cutD_take (ns : List Int) (m : Nat) : cutD (ns.map PyData.int) none (some (m : Int)) = (ns.take m).map PyData.int := by
  unfold cutD
  rw [HT.sIx_none, HT.sIx_nat, List.length_map, List.drop_zero, Nat.sub_zero, List.map_take]
  rw [List.take_eq_take_iff]
  rw [List.length_map]
  omega
theorem trim_take {ns : List Int} {m : Nat} (h : ns[m]? = some 0) : trim (ns.take (m + 1)) = trim (ns.take m) := by
  rw [List.take_add_one, h]
  exact K8.trim_zero
theorem trim_done {ns : List Int} {m : Nat} {x : Int} (h : ns[m]? = some x) (h0 : x ≠ 0) : trim (ns.take (m + 1)) = ns.take (m + 1) := by
  rw [List.take_add_one, h]
  exact K8.trim_last h0
theorem atI_ints {ns : List Int} {m : Nat} {x : Int} (h : ns[m]? = some x) : atI (ns.map PyData.int) (m : Int) = some (.int x) := atI_nat (by rw [List.getElem?_map, h]; rfl)
theorem w2 {i j : Int} (hi : i.natAbs < 2 ^ 9000) (hj : j.natAbs < 2 ^ 9000) : CMulW i j := by
  have h : ∀ x : Int, x.natAbs < 2 ^ 9000 → x.natAbs.log2 < 9001 := fun x hx => by
    by_cases h0 : x.natAbs = 0
    · rw [h0]; decide
    · exact Nat.lt_succ_of_lt ((Nat.log2_lt h0).mpr hx)
  show i.natAbs.log2 + j.natAbs.log2 < 1000000
  have := h i hi
  have := h j hj
  omega
theorem big_of {n : Nat} (h : n < 10 ^ 300) : n < 2 ^ 9000 := Nat.lt_of_lt_of_le h (by decide +kernel)
theorem eqv_T (ns ms : List Int) : PyData.eqv (dT ns) (dT ms) = decide (ns = ms) := by
  show PyData.eqv (.tuple _) (.tuple _) = _
  rw [PyData.eqv]
  exact PySem.W.ked_eqvAll ns ms
theorem eqv_L (ns ms : List Int) : PyData.eqv (dL ns) (dL ms) = decide (ns = ms) := by
  show PyData.eqv (.list _) (.list _) = _
  rw [PyData.eqv]
  exact PySem.W.ked_eqvAll ns ms
theorem layI : ∀ ns : List Int, PyData.canLayAll0 (ns.map PyData.int) = true
  | [] => by simp [PyData.canLayAll0]
  | n :: ns => by
    rw [List.map_cons]
    simp [PyData.canLayAll0, PyData.canLay0, layI ns]
theorem depI : ∀ ns : List Int, PyData.depthAll (ns.map PyData.int) = 0
  | [] => by simp [PyData.depthAll]
  | n :: ns => by
    rw [List.map_cons]
    simp [PyData.depthAll, PyData.depth, depI ns]
theorem shT (ns : List Int) (h : ns.length ≤ 100000) : SeqAt.shaped (dT ns) = true := by
  unfold SeqAt.shaped
  simp [PyData.canLay0, PyData.depth, layI, depI]
theorem shL (ns : List Int) (h : ns.length ≤ 100000) : SeqAt.shaped (dL ns) = true := by
  unfold SeqAt.shaped
  simp [PyData.canLay0, PyData.depth, layI, depI]
end KW
namespace KW
open PySem PySem.Spec PyProof.Rows L2 StX
section
variable {K : PySem.W.Frag} {T : Tb} {σ : L2.St} {H : Hp} {ta tb te : TE} {v : V} {d : PyData} {ds : List PyData} {i j : Int} {b c : Bool} {wi : TI} {g : TG} {tt : TT} {vs : List Nat}
theorem get_map (ds : List PyData) : (List.range ds.length).map (fun i => ds.getD i .none) = ds := by
  apply List.ext_getElem
  · simp
  · intro i h1 h2
    simp [List.getElem_map, List.getD_eq_getElem?_getD, List.getElem?_eq_getElem h2]
theorem filter_get (ds : List PyData) (p : PyData → Bool) (φ : PyData → PyData) : ((List.range ds.length).filter (fun i => p (ds.getD i .none))).map (fun i => φ (ds.getD i .none)) = (ds.filter p).map φ := by
  conv => rhs; rw [← get_map ds]
  rw [List.filter_map, List.map_map]
  rfl
/-- a comprehension over data, told item by item -/
theorem en_lcF {j : Nat} (p : PyData → Bool) (φ : PyData → PyData) (hi : EvI K T wi g σ H ds.length (SAt K j ds)) (hn : ds.length ≤ 50000)
    (hb : ∀ d, d ∈ ds → ∀ v Hx, Sub H Hx → Dp K Hx v d → wipe ((wipe σ vs).set j (some v)) vs = wipe σ vs ∧ EvT T tt ((wipe σ vs).set j (some v)) Hx (p d) ∧ (p d = true → EvD K T te ((wipe σ vs).set j (some v)) Hx (φ d))) : EvN K T (tLc wi g tt te vs) σ H ((ds.filter p).map φ) := by
  refine en_is (en_lc (fun i => p (ds.getD i .none)) (fun i => φ (ds.getD i .none)) hi hn fun i σ2 Hx hlt sb hS => ?_) (filter_get ds p φ)
  obtain ⟨v, d, h1, h2, rfl⟩ := hS
  have e : ds.getD i .none = d := by rw [List.getD_eq_getElem?_getD, h1]; rfl
  rw [e]
  exact hb d (List.mem_of_getElem? h1) v Hx sb h2
theorem en_lcM {j : Nat} (φ : PyData → PyData) (hi : EvI K T wi g σ H ds.length (SAt K j ds)) (hn : ds.length ≤ 50000)
    (hb : ∀ d, d ∈ ds → ∀ v Hx, Sub H Hx → Dp K Hx v d → wipe ((wipe σ vs).set j (some v)) vs = wipe σ vs ∧ EvD K T te ((wipe σ vs).set j (some v)) Hx (φ d)) : EvN K T (tLc wi g tYes te vs) σ H (ds.map φ) := by
  have := en_lcF (K := K) (T := T) (tt := tYes) (fun _ => true) φ hi hn fun d hd v Hx h1 h2 => ⟨(hb d hd v Hx h1 h2).1, fun _ e _ q => q _ e.refl, fun _ => (hb d hd v Hx h1 h2).2⟩
  rw [show ds.filter (fun _ => true) = ds from List.filter_eq_self.mpr fun _ _ => rfl] at this
  exact this
/-- over whole numbers, to whole numbers -/
theorem en_lcI {j : Nat} {ns : List Int} (φ : Int → Int) (hi : EvI K T wi g σ H (ns.map PyData.int).length (SAt K j (ns.map PyData.int))) (hn : ns.length ≤ 50000)
    (hb : ∀ x, x ∈ ns → ∀ Hx, Sub H Hx → wipe ((wipe σ vs).set j (some (.int x))) vs = wipe σ vs ∧ EvD K T te ((wipe σ vs).set j (some (.int x))) Hx (.int (φ x))) : EvN K T (tLc wi g tYes te vs) σ H ((ns.map φ).map PyData.int) := by
  refine en_is (en_lcM (fun d => match d with | .int x => .int (φ x) | _ => .none) hi (by rw [List.length_map]; exact hn) fun d hd v Hx sb hv => ?_) ?_
  · obtain ⟨x, hx, rfl⟩ := List.mem_map.mp hd
    cases hv
    exact hb x hx Hx sb
  · rw [List.map_map, List.map_map]
    rfl
theorem q_none {Hx H0 H' : Hp} {Q : VK} (S : Stt T Hx H0 Hx H') (q : Ret K T Hx H0 Q .none) : Q .non H' := q H' .non S.e0 .non
end
end KW

/-! text K8W1 -/
set_option Elab.async false
set_option linter.all false
set_option maxRecDepth 100000
set_option maxHeartbeats 4000000
namespace KW
open PySem PySem.Spec PyProof.Rows L2 StX
open K8 (trim rests divided monics dsteps facsOf)
section
variable {P : Program} {w : World} {K : PySem.W.Frag} {mg : Str → Option Value} {base : Heap} {T : Tb}
/-! ### is_whole_number -/
abbrev N_is_whole_number : List Str := ["value"]
theorem sc_is_whole_number : FnScope N_is_whole_number ["value"] (defScope (topS 10)) := ⟨rfl, rfl, rfl, by decide +kernel, rfl, by decide +kernel, by decide +kernel⟩
abbrev spWhole (K : PySem.W.Frag) (T : Tb) : Sp := spR K T 1 fun ds r => ∃ n : Int, ds = [.int n] ∧ r = .bool true
theorem df_whole (B : Bi K mg) (h : Has K mg "is_whole_number" 10) : Df P w K mg base 1 "is_whole_number" ["value"] (spWhole K T) := by
  refine h.df sc_is_whole_number (fun vs H Q E h => h.1) (fun _ _ _ _ _ _ us hl => match us, hl with | [_], _ => rfl) (fun f cdv A outer s H vs Q E hr h => ?_)
  have nd := sc_is_whole_number.nd
  refine ⟨_, PSs.nox (pss_one (ps_ret (pe_and (pe_callB (isiK (K := K) rfl) (by rfl) B.isinstance boot_isinstance (pa_cons (pv 0) (pa_cons (pe_bltn (v := .ty "int") (by rfl) B.int boot_int rfl) pa_nil))) (pe_one (pe_not (pe_callB (isiK (K := K) rfl) (by rfl) B.isinstance boot_isinstance (pa_cons (pv 0) (pa_cons (pe_bltn (v := .ty "bool") (by rfl) B.bool boot_bool rfl) pa_nil)))))))), ?_⟩
  obtain ⟨v1, Hx, d1, r, rfl, ht, ex, k1, ⟨n, e, rfl⟩, q⟩ := sp1 h
  cases e
  cases k1
  exact s_ret (.start ex) (ed_bool (ev_andV (ei_isiI (b := true) (ev_var rfl) (by decide +kernel)) fun _ => ev_notV (ei_isiI (b := false) (ev_var rfl) (by decide +kernel)))) q
/-! ### is_integer -/
abbrev N_is_integer : List Str := ["value"]
theorem sc_is_integer : FnScope N_is_integer ["value"] (defScope (topS 11)) := ⟨rfl, rfl, rfl, by decide +kernel, rfl, by decide +kernel, by decide +kernel⟩
abbrev spInteger (K : PySem.W.Frag) (T : Tb) : Sp := spR K T 1 fun ds r => ∃ n : Int, ds = [.int n] ∧ r = .bool (decide (-(10 ^ 60) < n ∧ n < 10 ^ 60))
theorem df_integer (B : Bi K mg) (D_is_whole_number : Df P w K mg base 1 "is_whole_number" ["value"] (spWhole K T)) (h : Has K mg "is_integer" 11) : Df P w K mg base 2 "is_integer" ["value"] (spInteger K T) := by
  refine h.df sc_is_integer (fun vs H Q E h => h.1) (fun _ _ _ _ _ _ us hl => match us, hl with | [_], _ => rfl) (fun f cdv A outer s H vs Q E hr h => ?_)
  have nd := sc_is_integer.nd
  refine ⟨_, PSs.nox (pss_one (ps_ret (pe_and (pe_callD D_is_whole_number hr (by decide) rfl (pa_cons (pv 0) pa_nil)) (pe_one (pe_chain op_lt op_lt (pe_un un_neg (pe_gint rfl B.sixty)) (pv 0) (pe_gint rfl B.sixty)))))), ?_⟩
  obtain ⟨v1, Hx, d1, r, rfl, ht, ex, k1, ⟨n, e, rfl⟩, q⟩ := sp1 h
  cases e
  cases k1
  refine s_ret (.start ex) (ed_bool (ev_is (ev_andV (b := true) (eb (ed_call (ea_cons (ed_vari rfl) ea_nil) ⟨n, rfl, rfl⟩)) fun _ => ev_chain (ev_neg ev_c) (ev_var rfl) ev_c rv_I0 fun _ => rv_I0) ?_)) q
  simp [Bool.decide_and]
/-! ### is_polynomial_any -/
abbrev N_is_polynomial_any : List Str := ["value", "one"]
theorem sc_is_polynomial_any : FnScope N_is_polynomial_any ["value"] (defScope (topS 12)) := ⟨rfl, rfl, rfl, by decide +kernel, rfl, by decide +kernel, by decide +kernel⟩
/-- what the law hands in: whole numbers of less than sixty digits, the last one not 0 -/
def OkP (g : List Int) : Prop := g.length ≤ 9 ∧ (∀ x, x ∈ g → -(10 ^ 60) < x ∧ x < 10 ^ 60) ∧ ∃ h a, g = h ++ [a] ∧ a ≠ 0
abbrev spTrue (K : PySem.W.Frag) (T : Tb) : Sp := spR K T 1 fun ds r => ∃ g, ds = [dT g] ∧ OkP g ∧ r = .bool true
theorem df_polyAny (B : Bi K mg) (D_is_integer : Df P w K mg base 2 "is_integer" ["value"] (spInteger K T)) (h : Has K mg "is_polynomial_any" 12) : Df P w K mg base 3 "is_polynomial_any" ["value"] (spTrue K T) := by
  refine h.df sc_is_polynomial_any (fun vs H Q E h => h.1) (fun _ _ _ _ _ _ us hl => match us, hl with | [_], _ => rfl) (fun f cdv A outer s H vs Q E hr h => ?_)
  have nd := sc_is_polynomial_any.nd
  refine ⟨_, PSs.nox (pss_one (ps_ret (pe_and (pe_callB (isiK (K := K) rfl) (by rfl) B.isinstance boot_isinstance (pa_cons (pv 0) (pa_cons (pe_bltn (v := .ty "tuple") (by rfl) B.tuple boot_tuple rfl) pa_nil))) (pe_and (pe_callB (allK (K := K) rfl rfl) (by rfl) B.all (by decide +kernel) (pa_cons (pe_lc (own := [("one", 1)]) (g := (gName 1)) rfl nd (pi_tup (pv 0)) (blkOk_by (own := [("one", 1)]) (N := N_is_polynomial_any) (sc := defScope (topS 12)) (by decide +kernel)) (fun _ _ _ _ _ => (pg_name (i := 1) nd rfl (by first | exact Or.inl rfl | exact Or.inr rfl))) (fun _ _ _ _ _ => pts_nil) (fun _ _ _ _ _ => (pe_callD D_is_integer hr (by decide) rfl (pa_cons (pv 1) pa_nil)))) pa_nil)) (pe_one (pe_or (pe_cmpR (eqDK (K := K) rfl hr.units) (pv 0) (pe_tup pa_nil) (nomark _)) (pe_one (pe_cmpR op_ne (pe_ix (ixT (K := K) rfl) (pv 0) (pe_un un_neg pe_int) (fun _ _ => rfl)) pe_int (nomark _))))))))), ?_⟩
  obtain ⟨v1, Hx, d1, r, rfl, ht, ex, k1, ⟨g, e, ⟨hl, hb, hh, a, rfl, ha⟩, rfl⟩, q⟩ := sp1 h
  cases e
  refine s_ret (.start ex) (ed_bool ?_) q
  have hv : EvD K T (tVar 0) (L2.start N_is_polynomial_any [v1]) Hx (dT (hh ++ [a])) := ed_var rfl k1
  refine ev_is (ev_andV (b := true) (c := true) (ei_isiT hv) fun _ => ev_is (ev_andV (b := true) (c := true) ?_ fun _ => ?_) rfl) rfl
  · refine ev_is (eb_all (bs := (List.range (hh ++ [a]).length).map fun _ => true) (ed_is (ed_new (en_lcAll (fun _ => .bool true) (it_tup hv) (by rw [List.length_map]; omega) fun i σ2 Hy hi sb hS => ?_)) ?_)) ?_
    · obtain ⟨v, d, h1, h2, rfl⟩ := hS
      refine ⟨rfl, ?_⟩
      rw [List.getElem?_map] at h1
      cases q1 : (hh ++ [a])[i]? with
      | none => rw [q1] at h1; cases h1
      | some x =>
        rw [q1] at h1
        cases h1
        cases h2
        have := hb x (List.mem_of_getElem? q1)
        exact ed_call (ea_cons (ed_vari rfl) ea_nil) ⟨x, rfl, by rw [decide_eq_true this]⟩
    · rw [List.length_map, List.map_map]; rfl
    · congr 1
      rw [List.all_eq_true]
      intro x hx
      obtain ⟨_, _, rfl⟩ := List.mem_map.mp hx
      rfl
  · refine ev_is (ev_orV (b := PyData.eqv (dT (hh ++ [a])) (.tuple [])) (c := true) (ed_eqD hv (ed_tup ea_nil (by decide)) (shT _ (by omega)) rfl) fun _ => ?_) ?_
    · refine ev_is (ei_ne (ei (ed_ixT hv (ev_neg ev_c) (d := .int a) ?_)) ev_c) (by rw [decide_eq_false ha]; rfl)
      rw [List.map_append]
      exact atI_last _ _
    · rw [Bool.or_true]
/-! ### without_zeros -/
abbrev N_without_zeros : List Str := ["numbers", "size"]
theorem sc_without_zeros : FnScope N_without_zeros ["numbers"] (defScope (topS 20)) := ⟨rfl, rfl, rfl, by decide +kernel, rfl, by decide +kernel, by decide +kernel⟩
abbrev spTrim (K : PySem.W.Frag) (T : Tb) : Sp := spR K T 1 fun ds r => ∃ g : List Int, ds = [dL g] ∧ g.length ≤ 10000 ∧ r = dT (trim g)
theorem df_zeros (B : Bi K mg) (h : Has K mg "without_zeros" 20) : Df P w K mg base 1 "without_zeros" ["numbers"] (spTrim K T) := by
  refine h.df sc_without_zeros (fun vs H Q E h => h.1) (fun _ _ _ _ _ _ us hl => match us, hl with | [_], _ => rfl) (fun f cdv A outer s H vs Q E hr h => ?_)
  have nd := sc_without_zeros.nd
  refine ⟨_, PSs.nox (pss_cons (ps_set (i := 1) nd rfl (by first | exact Or.inl rfl | exact Or.inr rfl) (pe_callB (lenK (K := K) rfl) (by rfl) B.len boot_len (pa_cons (pv 0) pa_nil))) (pss_cons (ps_while PassesOwn.never (PW.pt (pw_and (pt_cmpR op_gt (pv 1) pe_int (nomark _)) (pw_and1 (pt_cmpR op_eq (pe_ix (ixL (K := K) rfl) (pv 0) (pe_op op_sub (pv 1) pe_int) (fun _ _ => rfl)) pe_int (nomark _))))) (pss_one (ps_aug (i := 1) nd rfl (by first | exact Or.inl rfl | exact Or.inr rfl) pe_int ip_sub))) (pss_one (ps_ret (pe_callTy (tupK (K := K) rfl) (by rfl) B.tuple boot_tuple (pa_cons (pe_slice (slK (K := K) rfl) (pv 0) po_none (po_some (pv 1))) pa_nil)))))), ?_⟩
  obtain ⟨v1, Hx, d1, r, rfl, ht, ex, k1, ⟨g, e, hg, rfl⟩, q⟩ := sp1 h
  cases e
  refine q_asgV (.start ex) ((ei_len (.inl (ed_var rfl k1))).mono ex) fun H1 n1 => ?_
  refine q_while (T := T) (fun m σ' H' => Ex T H H' ∧ σ' = [some v1, some (.int (m : Nat))] ∧ m ≤ g.length ∧ trim (g.take m) = trim g) g.length ⟨n1.ex, by rw [List.length_map]; rfl, Nat.le_refl _, by rw [List.take_length]⟩ ?_
  rintro m σ' H' ⟨e, rfl, hm, htr⟩
  have S : Stt T Hx H Hx H' := (Stt.start ex).keep e
  have hv : EvD K T (tVar 0) [some v1, some (.int (m : Nat))] Hx (dL g) := ed_var rfl k1
  have fin : (m = 0 ∨ ∃ x, g[m - 1]? = some x ∧ x ≠ 0) → ∀ H1, Ex T H' H1 → tRet (tCB (rTupS K) (tCons (tSl (rSlL K) (tVar 0) tNoPart (tPart (tVar 1))) tNil)) { nx := fun x H' => Q V.non H', rt := Q } [some v1, some (.int (m : Nat))] H1 := fun hx H1 e1 => by
    refine s_ret (S.keep e1) (ed_is (ed_tupL (ed_new (en_is (en_sl hv eo_none (eo_some (ev_var rfl))) (cutD_take g m)))) ?_) q
    rw [← htr]
    rcases hx with rfl | ⟨x, h1, h2⟩
    · rfl
    · cases m with
      | zero => rfl
      | succ m =>
        show PyData.tuple _ = PyData.tuple _
        rw [trim_done (m := m) h1 h2]
  have t1 : Ev T (tOp (rI0 fun i j => V.bl (decide (j < i))) (tVar 1) (tC (.int 0))) [some v1, some (.int (m : Nat))] Hx (.bl (decide ((0 : Int) < (m : Int)))) := ei_op0 (g := fun i j => V.bl (decide (j < i))) (ev_var rfl) ev_c
  cases m with
  | zero => exact ⟨_, e.tabs, (et_and (c := false) (et_test t1) fun h => absurd h (by decide)).mono S.eb, fun h => absurd h (by decide), fun _ => fin (.inl rfl)⟩
  | succ m =>
    obtain ⟨x, hx⟩ : ∃ x, g[m]? = some x := ⟨g[m], List.getElem?_eq_getElem (by omega)⟩
    have t2 : Ev T _ [some v1, some (.int ((m + 1 : Nat) : Int))] Hx (.bl (decide (x = 0))) := ei_eq (ei (ed_ixL (K := K) hv (ei_sub (ev_var (i := 1) rfl) ev_c) (d := .int x) (by rw [show (((m + 1 : Nat) : Int) - 1) = (m : Int) by omega]; exact atI_ints hx))) ev_c
    refine ⟨_, e.tabs, (et_is (et_and (et_test t1) fun _ => et_test t2) (by rw [decide_eq_true (by omega)]; exact Bool.true_and _)).mono S.eb, fun h H1 e1 => ?_, fun h => fin (.inr ⟨x, hx, of_decide_eq_false h⟩)⟩
    have h0 := of_decide_eq_true h
    subst h0
    refine s_aug (S.keep e1) rfl ev_c fun H2 n2 => ⟨m, Nat.lt_succ_self _, (e.trans e1).trans n2.ex, ?_, by omega, by rw [← trim_take hx]; exact htr⟩
    show [some v1, some (V.int (((m + 1 : Nat) : Int) - 1))] = _
    rw [show (((m + 1 : Nat) : Int) - 1) = (m : Int) by omega]
/-! ### power_of -/
abbrev N_power_of : List Str := ["base", "count", "found", "square", "left"]
theorem sc_power_of : FnScope N_power_of ["base", "count"] (defScope (topS 13)) := ⟨rfl, rfl, rfl, by decide +kernel, rfl, by decide +kernel, by decide +kernel⟩
abbrev spPow (K : PySem.W.Frag) (T : Tb) : Sp := spR K T 2 fun ds r => ∃ b c : Nat, ds = [dI b, dI c] ∧ 1 ≤ b ∧ b ≤ 7 ∧ c ≤ 6 ∧ r = dI ((b ^ c : Nat) : Int)
theorem df_power (B : Bi K mg) (h : Has K mg "power_of" 13) : Df P w K mg base 1 "power_of" ["base", "count"] (spPow K T) := by
  refine h.df sc_power_of (fun vs H Q E h => h.1) (fun _ _ _ _ _ _ us hl => match us, hl with | [_, _], _ => rfl) (fun f cdv A outer s H vs Q E hr h => ?_)
  have nd := sc_power_of.nd
  refine ⟨_, PSs.nox (pss_cons (ps_par3 (i := 2) (j := 3) (l := 4) rfl nd rfl rfl rfl (by decide) (by decide) (by decide) rfl rfl rfl (pa_cons pe_int (pa_cons (pv 0) (pa_cons (pv 1) pa_nil))) (by rfl)) (pss_cons (ps_while PassesOwn.never (pt_cmpR op_gt (pv 4) pe_int (nomark _)) (pss_cons (ps_if (pt_cmpR op_eq (pe_op op_mod (pv 4) pe_int) pe_int (nomark _)) (pss_one (ps_set (i := 2) nd rfl (by first | exact Or.inl rfl | exact Or.inr rfl) (pe_op op_mulW (pv 2) (pv 3)))) pss_nil) (pss_cons (ps_set (i := 4) nd rfl (by first | exact Or.inl rfl | exact Or.inr rfl) (pe_op op_fdivW (pv 4) pe_int)) (pss_one (ps_set (i := 3) nd rfl (by first | exact Or.inl rfl | exact Or.inr rfl) (pe_ifExp (pt_cmpR op_gt (pv 4) pe_int (nomark _)) (pe_op op_mulW (pv 3) (pv 3)) (pv 3))))))) (pss_one (ps_ret (pv 2))))), ?_⟩
  obtain ⟨v1, v2, Hx, d1, d2, r, rfl, ht, ex, k1, k2, ⟨b, c, e, hb1, hb, hc, rfl⟩, q⟩ := sp2 h
  cases e
  cases k1
  cases k2
  have lim : ∀ x : Nat, x ≤ b ^ c → x < 10 ^ 300 := fun x hx => by
    have h1 : b ^ c ≤ 7 ^ c := Nat.pow_le_pow_left hb c
    have h2 : 7 ^ c ≤ 7 ^ 6 := Nat.pow_le_pow_right (by decide) hc
    exact Nat.lt_of_le_of_lt (Nat.le_trans hx (Nat.le_trans h1 h2)) (by decide +kernel)
  refine q_par3 (K := K) (d1 := dI 1) (d2 := dI b) (d3 := dI c) (.start ex) (ea_cons (ed_int ev_c) (ea_cons (ed_vari rfl) (ea_cons (ed_vari rfl) ea_nil))) fun v w x Hb1 H1 n1 a1 a2 a3 => ?_
  cases a1
  cases a2
  cases a3
  refine q_while (T := T) (fun m σ' H' => Ex T H H' ∧ ∃ fd sq : Nat, σ' = [some (.int b), some (.int c), some (.int fd), some (.int sq), some (.int (m : Nat))] ∧ 1 ≤ fd ∧ 1 ≤ sq ∧ fd * (if 0 < m then sq ^ m else 1) = b ^ c) c ⟨n1.ex, 1, b, rfl, by decide, hb1, by
    split
    · exact Nat.one_mul _
    · rw [show c = 0 by omega]; rfl⟩ ?_
  rintro m σ' H' ⟨e, fd, sq, rfl, f1, s1, hp⟩
  have S : Stt T Hx H Hx H' := (Stt.start ex).keep e
  refine ⟨decide ((0 : Int) < (m : Int)), e.tabs, et_test (ei_op0 (g := fun i j => V.bl (decide (j < i))) (ev_var rfl) ev_c), fun h H2 e2 => ?_, fun h H2 e2 => ?_⟩
  · have hm : 0 < m := by have := of_decide_eq_true h; omega
    rw [if_pos hm] at hp
    have sqm : 1 ≤ sq ^ m := Nat.one_le_pow _ _ s1
    have lsq : sq ≤ b ^ c := by
      have h1 : sq ^ 1 ≤ sq ^ m := Nat.pow_le_pow_right s1 hm
      have h2 : sq ^ m ≤ fd * sq ^ m := Nat.le_mul_of_pos_left _ f1
      rw [Nat.pow_one] at h1
      omega
    have lfd : fd ≤ b ^ c := by
      have h2 : fd ≤ fd * sq ^ m := Nat.le_mul_of_pos_right _ sqm
      omega
    have S2 := S.keep e2
    refine q_ifJ (fun σ' H' => ∃ fd' : Nat, σ' = [some (.int b), some (.int c), some (.int fd'), some (.int sq), some (.int (m : Nat))] ∧ Ex T H H' ∧ 1 ≤ fd' ∧ fd' * (if 0 < m / 2 then (sq * sq) ^ (m / 2) else 1) = b ^ c)
      S2 (b := decide ((m : Int) % 2 = 1)) (et_test (ei_eq (ei_opC (g := fun i j => V.int (i % j)) (ev_var rfl) ev_c (by decide)) ev_c)) ?_ (fun h H3 n3 kont => ?_) fun h H3 n3 kont => ?_
    · rintro σ3 H3 ⟨fd', rfl, e3, f2, hp2⟩
      have S3 := (Stt.start ex).keep e3
      refine q_asgV S3 (v := .int ((m : Int) / 2)) (ei_opC (g := fun i j => V.int (i / j)) (ev_var rfl) ev_c ⟨by decide, by decide +kernel⟩) fun H4 n4 => ?_
      have em : ((m : Int) / 2) = ((m / 2 : Nat) : Int) := by omega
      rw [em]
      refine s_asg (K := K) n4.st (d := dI ((if 0 < m / 2 then sq * sq else sq : Nat) : Int)) (ed_if (b := decide ((0 : Int) < ((m / 2 : Nat) : Int))) (et_test (ei_op0 (g := fun i j => V.bl (decide (j < i))) (ev_var rfl) ev_c)) (fun h => ?_) fun h => ?_) fun v Hb5 H5 n5 kv => ?_
      · have h0 : 0 < m / 2 := by have := of_decide_eq_true h; omega
        rw [if_pos h0]
        exact ed_int (ev_is (ei_opC (g := fun i j => V.int (i * j)) (ev_var rfl) (ev_var rfl) (w2 (i := (sq : Int)) (j := (sq : Int)) (big_of (lim sq lsq)) (big_of (lim sq lsq)))) (by rw [Int.natCast_mul]))
      · have h0 : ¬ 0 < m / 2 := by have := of_decide_eq_false h; omega
        rw [if_neg h0]
        exact ed_vari rfl
      · cases kv
        refine ⟨m / 2, by omega, (e3.trans n4.ex).trans n5.ex, fd', (if 0 < m / 2 then sq * sq else sq), rfl, f2, ?_, ?_⟩
        · split
          · exact Nat.mul_pos s1 s1
          · exact s1
        · rw [← hp2]
          by_cases h0 : 0 < m / 2
          · simp only [if_pos h0]
          · simp only [if_neg h0]
    · have h1 : m % 2 = 1 := by have := of_decide_eq_true h; omega
      refine s_asgV n3.st (v := .int ((fd * sq : Nat) : Int)) (ev_is (ei_opC (g := fun i j => V.int (i * j)) (ev_var rfl) (ev_var rfl) (w2 (i := (fd : Int)) (j := (sq : Int)) (big_of (lim fd lfd)) (big_of (lim sq lsq)))) (by rw [Int.natCast_mul])) fun H4 n4 => kont _ _ ⟨fd * sq, rfl, (e.trans e2).trans (n3.ex.trans n4.ex), Nat.mul_pos f1 s1, ?_⟩
      rw [← hp]
      by_cases h0 : 0 < m / 2
      · rw [if_pos h0, Nat.mul_assoc, ← Nat.pow_two, ← Nat.pow_mul, ← Nat.pow_succ']
        congr 2
        omega
      · rw [if_neg h0, show m = 1 by omega, Nat.pow_one, Nat.mul_one]
    · have h1 : m % 2 = 0 := by have := of_decide_eq_false h; omega
      refine kont _ _ ⟨fd, rfl, (e.trans e2).trans n3.ex, f1, ?_⟩
      have h0 : 0 < m / 2 := by omega
      rw [← hp, if_pos h0, ← Nat.pow_two, ← Nat.pow_mul]
      congr 2
      omega
  · have hm : m = 0 := by have := of_decide_eq_false h; omega
    subst hm
    rw [if_neg (Nat.lt_irrefl 0), Nat.mul_one] at hp
    refine s_ret (S.keep e2) (ed_is (ed_vari rfl) ?_) q
    rw [hp]
end
end KW

/-! text K8W2 -/
set_option Elab.async false
set_option linter.all false
set_option maxRecDepth 100000
set_option maxHeartbeats 4000000
namespace KW
open PySem PySem.Spec PyProof.Rows L2 StX
open K8 (trim rests divided monics dsteps facsOf)
def IsP (p : Nat) : Prop := p = 2 ∨ p = 3 ∨ p = 5 ∨ p = 7
theorem IsP.lo {p : Nat} (h : IsP p) : 2 ≤ p := by rcases h with rfl | rfl | rfl | rfl <;> decide
theorem IsP.hi {p : Nat} (h : IsP p) : p ≤ 7 := by rcases h with rfl | rfl | rfl | rfl <;> decide
theorem rests_len (p : Int) (g : List Int) : (rests p g).length ≤ g.length := by
  have h : ∀ l : List Int, (trim l).length ≤ l.length := fun l => by
    induction l with
    | nil => exact Nat.le_refl _
    | cons x xs ih =>
      unfold trim
      cases e : trim xs with
      | nil => by_cases hx : x = 0 <;> simp [hx]
      | cons y ys => rw [e] at ih; simp only [List.length_cons] at ih ⊢; omega
  unfold K8.rests
  have := h (g.map (· % p))
  rw [List.length_map] at this
  exact this
theorem rests_monic {p : Nat} (hp : 2 ≤ p) (h : List Int) : rests p (h ++ [1]) = h.map (· % (p : Int)) ++ [1] := by
  unfold K8.rests
  rw [List.map_append]
  have e : (1 : Int) % (p : Int) = 1 := Int.emod_eq_of_lt (by decide) (by omega)
  show trim (_ ++ [1 % (p : Int)]) = _
  rw [e]
  exact K8.trim_last (by decide)
theorem ediv_small {a : Int} {n : Nat} (h : a.natAbs < 10 ^ 300) (hn : 0 < n) : True := trivial
section
variable {P : Program} {w : World} {K : PySem.W.Frag} {mg : Str → Option Value} {base : Heap} {T : Tb}
/-! ### undone_in -/
abbrev N_undone_in : List Str := ["number", "modulus", "here", "there", "one", "other", "factor"]
theorem sc_undone_in : FnScope N_undone_in ["number", "modulus"] (defScope (topS 14)) := ⟨rfl, rfl, rfl, by decide +kernel, rfl, by decide +kernel, by decide +kernel⟩
abbrev spUndone (K : PySem.W.Frag) (T : Tb) : Sp := spR K T 2 fun ds r => ∃ p : Nat, ds = [dI 1, dI p] ∧ 2 ≤ p ∧ p ≤ 7 ∧ r = dI 1
theorem df_undone (B : Bi K mg) (h : Has K mg "undone_in" 14) : Df P w K mg base 1 "undone_in" ["number", "modulus"] (spUndone K T) := by
  refine h.df sc_undone_in (fun vs H Q E h => h.1) (fun _ _ _ _ _ _ us hl => match us, hl with | [_, _], _ => rfl) (fun f cdv A outer s H vs Q E hr h => ?_)
  have nd := sc_undone_in.nd
  refine ⟨_, PSs.nox (pss_cons (ps_asg (pe_tup (pa_cons (pe_op op_mod (pv 0) (pv 1)) (pa_cons (pv 1) (pa_cons pe_int (pa_cons pe_int pa_nil))))) (pg_tup rfl (pgs_cons (pg_name (i := 2) nd rfl (by first | exact Or.inl rfl | exact Or.inr rfl)) (pgs_cons (pg_name (i := 3) nd rfl (by first | exact Or.inl rfl | exact Or.inr rfl)) (pgs_cons (pg_name (i := 4) nd rfl (by first | exact Or.inl rfl | exact Or.inr rfl)) (pgs_cons (pg_name (i := 5) nd rfl (by first | exact Or.inl rfl | exact Or.inr rfl)) pgs_nil)))))) (pss_cons (ps_while PassesOwn.never (pt_cmpR op_ne (pv 3) pe_int (nomark _)) (pss_cons (ps_set (i := 6) nd rfl (by first | exact Or.inl rfl | exact Or.inr rfl) (pe_op op_fdivW (pv 2) (pv 3))) (pss_one (ps_asg (pe_tup (pa_cons (pv 3) (pa_cons (pe_op op_sub (pv 2) (pe_op op_mulW (pv 6) (pv 3))) (pa_cons (pv 5) (pa_cons (pe_op op_sub (pv 4) (pe_op op_mulW (pv 6) (pv 5))) pa_nil))))) (pg_tup rfl (pgs_cons (pg_name (i := 2) nd rfl (by first | exact Or.inl rfl | exact Or.inr rfl)) (pgs_cons (pg_name (i := 3) nd rfl (by first | exact Or.inl rfl | exact Or.inr rfl)) (pgs_cons (pg_name (i := 4) nd rfl (by first | exact Or.inl rfl | exact Or.inr rfl)) (pgs_cons (pg_name (i := 5) nd rfl (by first | exact Or.inl rfl | exact Or.inr rfl)) pgs_nil))))))))) (pss_one (ps_ret (pe_op op_mod (pv 4) (pv 1)))))), ?_⟩
  obtain ⟨v1, v2, Hx, d1, d2, r, rfl, ht, ex, k1, k2, ⟨p, e, hp, hp7, rfl⟩, q⟩ := sp2 h
  cases e
  cases k1
  cases k2
  have hp0 : (0 : Int) < (p : Int) := by omega
  have e1 : (1 : Int) % (p : Int) = 1 := Int.emod_eq_of_lt (by decide) (by omega)
  have sm : ∀ x : Int, x.natAbs ≤ 100 → x.natAbs < 10 ^ 300 := fun x h => Nat.lt_of_le_of_lt h (by decide +kernel)
  refine q_tup (K := K) (ds := [dI 1, dI p, dI 1, dI 0]) (.start ex) (ed_tup (ea_cons (ed_int (ev_is (ei_opC (g := fun i j => V.int (i % j)) (ev_var rfl) (ev_var rfl) hp0) (by rw [e1]))) (ea_cons (ed_vari rfl) (ea_cons (ed_int ev_c) (ea_cons (ed_int ev_c) ea_nil)))) (Nat.le_of_ble_eq_true rfl)) rfl fun vs Hb1 H1 n1 kk => ?_
  obtain rfl : vs = [.int 1, .int p, .int 1, .int 0] := DpAll.ints (ns := [1, (p : Int), 1, 0]) kk
  refine gs4 ?_
  refine q_while (T := T) (fun m σ' H' => Ex T H H' ∧ ∃ (a b c d : Int) (f : Option V), σ' = [some (.int 1), some (.int p), some (.int a), some (.int b), some (.int c), some (.int d), f] ∧ ((m = 2 ∧ a = 1 ∧ b = p ∧ c = 1 ∧ d = 0) ∨ (m = 1 ∧ a = p ∧ b = 1 ∧ c = 0 ∧ d = 1) ∨ (m = 0 ∧ a = 1 ∧ b = 0 ∧ c = 1))) 2 ⟨n1.ex, 1, p, 1, 0, _, rfl, .inl ⟨rfl, rfl, rfl, rfl, rfl⟩⟩ ?_
  rintro m σ' H' ⟨e, a, b, c, d, f, rfl, hm⟩
  have S : Stt T Hx H Hx H' := (Stt.start ex).keep e
  refine ⟨!decide (b = 0), e.tabs, et_test (ei_ne (ev_var rfl) ev_c), fun h H2 e2 => ?_, fun h H2 e2 => ?_⟩
  · have hb0 : b ≠ 0 := by simpa using h
    have hb : 0 < b ∧ b ≤ 7 ∧ a.natAbs ≤ 7 ∧ c.natAbs ≤ 7 ∧ d.natAbs ≤ 7 := by omega
    have hq : (a / b).natAbs ≤ 7 := by
      have h1 : a = 1 ∨ (a = p ∧ b = 1) := by omega
      rcases h1 with h1 | ⟨h1, h2⟩
      · rw [h1]
        have : (1 : Int) / b ≤ 1 := Int.ediv_le_self b (by decide)
        have : 0 ≤ (1 : Int) / b := Int.ediv_nonneg (by decide) (by omega)
        omega
      · rw [h2, Int.ediv_one]; omega
    refine q_asgV (S.keep e2) (v := .int (a / b)) (ei_opC (g := fun i j => V.int (i / j)) (ev_var rfl) (ev_var rfl) ⟨hb.1, Nat.lt_of_le_of_lt (Nat.log2_le_self _) (by omega)⟩) fun H3 n3 => ?_
    have mul : ∀ x : Int, x.natAbs ≤ 7 → CMulW (a / b) x := fun x hx => w2 (big_of (sm _ (by omega))) (big_of (sm _ (by omega)))
    refine s_tup (K := K) (ds := [dI b, dI (a - a / b * b), dI d, dI (c - a / b * d)]) n3.st (ed_tup (ea_cons (ed_vari rfl) (ea_cons (ed_int (ei_sub (ev_var rfl) (ei_opC (g := fun i j => V.int (i * j)) (ev_var rfl) (ev_var rfl) (mul b (by omega)))))
      (ea_cons (ed_vari rfl) (ea_cons (ed_int (ei_sub (ev_var rfl) (ei_opC (g := fun i j => V.int (i * j)) (ev_var rfl) (ev_var rfl) (mul d (by omega))))) ea_nil)))) (Nat.le_of_ble_eq_true rfl)) rfl fun vs Hb4 H4 n4 kk => ?_
    obtain rfl : vs = [.int b, .int (a - a / b * b), .int d, .int (c - a / b * d)] := DpAll.ints (ns := [b, a - a / b * b, d, c - a / b * d]) kk
    refine gs4 ⟨m - 1, by omega, (e.trans e2).trans (n3.ex.trans n4.ex), _, _, _, _, _, rfl, ?_⟩
    rcases hm with ⟨rfl, rfl, rfl, rfl, rfl⟩ | ⟨rfl, rfl, rfl, rfl, rfl⟩ | ⟨rfl, rfl, rfl, rfl⟩
    · have h0 : (1 : Int) / (p : Int) = 0 := Int.ediv_eq_zero_of_lt (by decide) (by omega)
      refine .inr (.inl ⟨rfl, rfl, ?_, rfl, ?_⟩) <;> rw [h0] <;> omega
    · refine .inr (.inr ⟨rfl, rfl, ?_, rfl⟩)
      rw [Int.ediv_one]; omega
    · exact absurd rfl hb0
  · have hb0 : b = 0 := by simpa using h
    have h1 : c = 1 := by omega
    subst h1
    refine s_ret (S.keep e2) (ed_int (ev_is (ei_opC (g := fun i j => V.int (i % j)) (ev_var rfl) (ev_var rfl) hp0) (by rw [e1]))) q
/-! ### require_prime -/
abbrev N_require_prime : List Str := ["prime"]
theorem sc_require_prime : FnScope N_require_prime ["prime"] (defScope (topS 15)) := ⟨rfl, rfl, rfl, by decide +kernel, rfl, by decide +kernel, by decide +kernel⟩
abbrev spReqP (K : PySem.W.Frag) (T : Tb) : Sp := spR K T 1 fun ds r => ∃ p : Nat, ds = [dI p] ∧ IsP p ∧ r = .none
theorem df_reqP (B : Bi K mg) (D_is_integer : Df P w K mg base 2 "is_integer" ["value"] (spInteger K T)) (h : Has K mg "require_prime" 15) : Df P w K mg base 3 "require_prime" ["prime"] (spReqP K T) := by
  refine h.df sc_require_prime (fun vs H Q E h => h.1) (fun _ _ _ _ _ _ us hl => match us, hl with | [_], _ => rfl) (fun f cdv A outer s H vs Q E hr h => ?_)
  have nd := sc_require_prime.nd
  refine ⟨_, PSs.nox (pss_one (ps_if (PW.pt (pw_or (pt_not (pt_val (pe_callD D_is_integer hr (by decide) rfl (pa_cons (pv 0) pa_nil)))) (pw_or1 (pt_cmpR (ninK (K := K) rfl) (pv 0) (pe_primes (mg := mg) rfl B.primes) (by with_unfolding_all rfl))))) (pss_one ps_never) pss_nil)), ?_⟩
  obtain ⟨v1, Hx, d1, r, rfl, ht, ex, k1, ⟨p, e, hp, rfl⟩, q⟩ := sp1 h
  cases e
  cases k1
  refine s_pass (.start ex) ((et_is (et_or (b := false) (c := false) (et_is (et_not (et_B (eb (ed_call (ea_cons (ed_vari rfl) ea_nil) ⟨_, rfl, rfl⟩)))) ?_) fun _ => et_test (ev_is (eb_notPrimes (ev_var rfl)) ?_)) rfl).mono ex) fun H1 n1 => q_none n1.st q
  · have := hp.lo
    have := hp.hi
    rw [decide_eq_true (by omega)]; rfl
  · rcases hp with rfl | rfl | rfl | rfl <;> rfl
/-! ### require_polynomial -/
abbrev N_require_polynomial : List Str := ["polynomial"]
theorem sc_require_polynomial : FnScope N_require_polynomial ["polynomial"] (defScope (topS 16)) := ⟨rfl, rfl, rfl, by decide +kernel, rfl, by decide +kernel, by decide +kernel⟩
abbrev spReqG (K : PySem.W.Frag) (T : Tb) : Sp := spR K T 1 fun ds r => ∃ g, ds = [dT g] ∧ OkP g ∧ r = .none
theorem df_reqG (B : Bi K mg) (D_is_polynomial_any : Df P w K mg base 3 "is_polynomial_any" ["value"] (spTrue K T)) (h : Has K mg "require_polynomial" 16) : Df P w K mg base 4 "require_polynomial" ["polynomial"] (spReqG K T) := by
  refine h.df sc_require_polynomial (fun vs H Q E h => h.1) (fun _ _ _ _ _ _ us hl => match us, hl with | [_], _ => rfl) (fun f cdv A outer s H vs Q E hr h => ?_)
  have nd := sc_require_polynomial.nd
  refine ⟨_, PSs.nox (pss_one (ps_if (PW.pt (pw_or (pt_not (pt_val (pe_callD D_is_polynomial_any hr (by decide) rfl (pa_cons (pv 0) pa_nil)))) (pw_or1 (pt_cmpR op_gt (pe_callB (lenK (K := K) rfl) (by rfl) B.len boot_len (pa_cons (pv 0) pa_nil)) (pe_op op_add (pe_gint rfl B.maxDegree) pe_int) (nomark _))))) (pss_one ps_never) pss_nil)), ?_⟩
  obtain ⟨v1, Hx, d1, r, rfl, ht, ex, k1, ⟨g, e, hg, rfl⟩, q⟩ := sp1 h
  cases e
  have hv : EvD K T (tVar 0) (L2.start N_require_polynomial [v1]) Hx (dT g) := ed_var rfl k1
  refine s_pass (.start ex) ((et_is (et_or (b := false) (c := false) (et_is (et_not (et_B (eb (ed_call (ea_cons hv ea_nil) ⟨g, rfl, hg, rfl⟩)))) rfl) fun _ => et_test (ev_is (ei_op0 (g := fun i j => V.bl (decide (j < i))) (ei_len (.inr hv)) (ei_add ev_c ev_c)) ?_)) rfl).mono ex) fun H1 n1 => q_none n1.st q
  have := hg.1
  rw [List.length_map, decide_eq_false (by omega)]
/-! ### rests_in -/
abbrev N_rests_in : List Str := ["prime", "polynomial", "number"]
theorem sc_rests_in : FnScope N_rests_in ["prime", "polynomial"] (defScope (topS 27)) := ⟨rfl, rfl, rfl, by decide +kernel, rfl, by decide +kernel, by decide +kernel⟩
abbrev spRests (K : PySem.W.Frag) (T : Tb) : Sp := spR K T 2 fun ds r => ∃ (p : Int) (g : List Int), (ds = [dI p, dT g] ∨ ds = [dI p, dL g]) ∧ 0 < p ∧ g.length ≤ 1000 ∧ r = dT (rests p g)
theorem df_rests (B : Bi K mg) (D_without_zeros : Df P w K mg base 1 "without_zeros" ["numbers"] (spTrim K T)) (h : Has K mg "rests_in" 27) : Df P w K mg base 2 "rests_in" ["prime", "polynomial"] (spRests K T) := by
  refine h.df sc_rests_in (fun vs H Q E h => h.1) (fun _ _ _ _ _ _ us hl => match us, hl with | [_, _], _ => rfl) (fun f cdv A outer s H vs Q E hr h => ?_)
  have nd := sc_rests_in.nd
  refine ⟨_, PSs.nox (pss_one (ps_ret (pe_callD D_without_zeros hr (by decide) rfl (pa_cons (pe_lc (own := [("number", 2)]) (g := (gName 2)) rfl nd (pi_seq (pv 1)) (blkOk_by (own := [("number", 2)]) (N := N_rests_in) (sc := defScope (topS 27)) (by decide +kernel)) (fun _ _ _ _ _ => (pg_name (i := 2) nd rfl (by first | exact Or.inl rfl | exact Or.inr rfl))) (fun _ _ _ _ _ => pts_nil) (fun _ _ _ _ _ => (pe_op op_mod (pv 2) (pv 0)))) pa_nil)))), ?_⟩
  obtain ⟨v1, v2, Hx, d1, d2, r, rfl, ht, ex, k1, k2, ⟨p, g, e, hp, hg, rfl⟩, q⟩ := sp2 h
  obtain ⟨hd, rfl⟩ : (d2 = dT g ∨ d2 = dL g) ∧ d1 = dI p := by
    rcases e with e | e <;> cases e
    · exact ⟨.inl rfl, rfl⟩
    · exact ⟨.inr rfl, rfl⟩
  cases k1
  refine s_ret (.start ex) (ed_call (ea_cons (ed_new (en_lcI (j := 2) (ns := g) (· % p) (iSeq_ev ?_) (by omega) fun x hx Hy sb => ⟨rfl, ed_int (ei_opC (g := fun i j => V.int (i % j)) (ev_var rfl) (ev_var rfl) hp)⟩)) ea_nil) ⟨_, rfl, by rw [List.length_map]; omega, rfl⟩) q
  rcases hd with rfl | rfl
  · exact .inr (it_tup (ed_var rfl k2))
  · exact .inl (it_list (ed_var rfl k2))
/-! ### monic_rests -/
abbrev N_monic_rests : List Str := ["prime", "polynomial", "found", "factor", "number"]
theorem sc_monic_rests : FnScope N_monic_rests ["prime", "polynomial"] (defScope (topS 28)) := ⟨rfl, rfl, rfl, by decide +kernel, rfl, by decide +kernel, by decide +kernel⟩
abbrev spMRests (K : PySem.W.Frag) (T : Tb) : Sp := spR K T 2 fun ds r => ∃ (p : Nat) (g : List Int), ds = [dI p, dT (g ++ [1])] ∧ IsP p ∧ g.length ≤ 100 ∧ r = dT (g.map (· % (p : Int)) ++ [1])
theorem df_mrests (B : Bi K mg) (D_rests_in : Df P w K mg base 2 "rests_in" ["prime", "polynomial"] (spRests K T)) (D_undone_in : Df P w K mg base 1 "undone_in" ["number", "modulus"] (spUndone K T)) (h : Has K mg "monic_rests" 28) : Df P w K mg base 3 "monic_rests" ["prime", "polynomial"] (spMRests K T) := by
  refine h.df sc_monic_rests (fun vs H Q E h => h.1) (fun _ _ _ _ _ _ us hl => match us, hl with | [_, _], _ => rfl) (fun f cdv A outer s H vs Q E hr h => ?_)
  have nd := sc_monic_rests.nd
  refine ⟨_, PSs.nox (pss_cons (ps_set (i := 2) nd rfl (by first | exact Or.inl rfl | exact Or.inr rfl) (pe_callD D_rests_in hr (by decide) rfl (pa_cons (pv 0) (pa_cons (pv 1) pa_nil)))) (pss_cons (ps_set (i := 3) nd rfl (by first | exact Or.inl rfl | exact Or.inr rfl) (pe_callD D_undone_in hr (by decide) rfl (pa_cons (pe_ix (ixT (K := K) rfl) (pv 2) (pe_un un_neg pe_int) (fun _ _ => rfl)) (pa_cons (pv 0) pa_nil)))) (pss_one (ps_ret (pe_callD D_rests_in hr (by decide) rfl (pa_cons (pv 0) (pa_cons (pe_lc (own := [("number", 4)]) (g := (gName 4)) rfl nd (pi_tup (pv 2)) (blkOk_by (own := [("number", 4)]) (N := N_monic_rests) (sc := defScope (topS 28)) (by decide +kernel)) (fun _ _ _ _ _ => (pg_name (i := 4) nd rfl (by first | exact Or.inl rfl | exact Or.inr rfl))) (fun _ _ _ _ _ => pts_nil) (fun _ _ _ _ _ => (pe_op op_mulW (pv 4) (pv 3)))) pa_nil))))))), ?_⟩
  obtain ⟨v1, v2, Hx, d1, d2, r, rfl, ht, ex, k1, k2, ⟨p, g, e, hp, hg, rfl⟩, q⟩ := sp2 h
  cases e
  cases k1
  have h2 := hp.lo
  have h7 := hp.hi
  have hp0 : (0 : Int) < (p : Int) := by omega
  have er := rests_monic h2 g
  refine q_asg (K := K) (.start ex) (d := dT (g.map (· % (p : Int)) ++ [1])) (ed_call (ea_cons (ed_vari rfl) (ea_cons (ed_var rfl k2) ea_nil)) ⟨p, _, .inl rfl, hp0, by rw [List.length_append]; simp only [List.length_singleton]; omega, by rw [er]⟩) fun v Hb1 H1 n1 kv => ?_
  refine q_asgV n1.st (v := .int 1) ((ei (ed_call (d := dI 1) (ea_cons (ed_ixT (d := dI 1) (ed_var rfl kv) (ev_neg ev_c) (by rw [List.map_append]; exact atI_last _ _)) (ea_cons (ed_vari rfl) ea_nil)) ⟨p, rfl, h2, h7, rfl⟩)).mono n1.st.eb) fun H2 n2 => ?_
  refine s_ret n2.st (ed_call (ea_cons (ed_vari rfl) (ea_cons (ed_new (en_lcI (ns := g.map (· % (p : Int)) ++ [1]) (fun x => x * 1) (it_tup (ed_var rfl kv)) (by rw [List.length_append, List.length_map]; simp only [List.length_singleton]; omega) fun x hx Hy sb => ⟨rfl, ed_int (ei_opC (g := fun i j => V.int (i * j)) (ev_var rfl) (ev_var rfl) ?_)⟩)) ea_nil)) ⟨p, _, .inr rfl, hp0, by rw [List.length_map, List.length_append, List.length_map]; simp only [List.length_singleton]; omega, ?_⟩) q
  · refine w2 (big_of ?_) (big_of (by decide +kernel))
    have : x.natAbs < 10 := by
      rcases List.mem_append.mp hx with z | z
      · obtain ⟨y, _, rfl⟩ := List.mem_map.mp z
        have h1 := Int.emod_nonneg y (b := (p : Int)) (by omega)
        have h2 := Int.emod_lt_of_pos y hp0
        omega
      · rw [List.mem_singleton.mp z]; decide
    exact Nat.lt_of_lt_of_le this (by decide +kernel)
  · rw [show (fun x : Int => x * 1) = id from funext fun x => Int.mul_one x, List.map_id, rests_monic h2]
    have e3 : (g.map (· % (p : Int))).map (· % (p : Int)) = g.map (· % (p : Int)) := by
      rw [List.map_map]
      exact List.map_congr_left fun x _ => Int.emod_emod_of_dvd x (Int.dvd_refl _)
    rw [e3]
/-! ### moved_row -/
abbrev N_moved_row : List Str := ["polynomial", "ahead", "width"]
theorem sc_moved_row : FnScope N_moved_row ["polynomial", "ahead", "width"] (defScope (topS 24)) := ⟨rfl, rfl, rfl, by decide +kernel, rfl, by decide +kernel, by decide +kernel⟩
abbrev spMoved (K : PySem.W.Frag) (T : Tb) : Sp := spR K T 3 fun ds r => ∃ (g : List Int) (a wd : Nat), ds = [dT g, dI a, dI wd] ∧ a + g.length ≤ wd ∧ wd ≤ 100 ∧ r = dL (K8.padRow K8.intOps g wd a)
theorem rep_flat (n : Nat) : (List.replicate n [PyData.int 0]).flatten = (List.replicate n (0 : Int)).map PyData.int := by
  induction n with
  | zero => rfl
  | succ n ih => rw [List.replicate_succ, List.flatten_cons, ih, List.replicate_succ]; rfl
theorem df_moved (B : Bi K mg) (h : Has K mg "moved_row" 24) : Df P w K mg base 1 "moved_row" ["polynomial", "ahead", "width"] (spMoved K T) := by
  refine h.df sc_moved_row (fun vs H Q E h => h.1) (fun _ _ _ _ _ _ us hl => match us, hl with | [_, _, _], _ => rfl) (fun f cdv A outer s H vs Q E hr h => ?_)
  have nd := sc_moved_row.nd
  refine ⟨_, PSs.nox (pss_one (ps_ret (pe_lst (pa_starK (K := K) rfl (pe_op op_rep (pe_lst (pa_cons pe_int pa_nil)) (pv 1)) (pa_starK (K := K) rfl (pe_revT (pv 0)) (pa_starK (K := K) rfl (pe_op op_rep (pe_lst (pa_cons pe_int pa_nil)) (pe_op op_sub (pe_op op_sub (pv 2) (pv 1)) (pe_callB (lenK (K := K) rfl) (by rfl) B.len boot_len (pa_cons (pv 0) pa_nil)))) pa_nil)))))), ?_⟩
  obtain ⟨v1, v2, v3, Hx, d1, d2, d3, r, rfl, ht, ex, k1, k2, k3, ⟨g, a, wd, e, h1, h2, rfl⟩, q⟩ := sp3 h
  cases e
  cases k2
  cases k3
  have hv : EvD K T (tVar 0) (L2.start N_moved_row [v1, .int a, .int wd]) Hx (dT g) := ed_var rfl k1
  refine s_ret (.start ex) (ed_is (ed_new (en_lst (ea_star (.inl (ed_new (en_rep (ds := [.int 0]) (en_lst (ea_cons (ed_int ev_c) ea_nil) (by decide)) (ev_var rfl) (by omega) (by simp; omega))))
    (ea_star (.inr (ed_revT hv)) (ea_star (.inl (ed_new (en_rep (ds := [.int 0]) (en_lst (ea_cons (ed_int ev_c) ea_nil) (by decide)) (ei_sub (ei_sub (ev_var rfl) (ev_var rfl)) (ei_len (.inr hv))) (by rw [List.length_map]; omega) (by simp; omega)))) ea_nil))) ?_)) ?_) q
  · simp
    omega
  · rw [rep_flat, rep_flat, List.append_nil, List.length_map, ← List.map_reverse, ← List.map_append, ← List.map_append]
    have e1 : (((wd : Int) - (a : Int) - (g.length : Int)).toNat) = wd - a - g.length := by omega
    rw [e1]
    rfl
end
end KW

/-! text K8W3 -/
set_option Elab.async false
set_option linter.all false
set_option maxRecDepth 100000
set_option maxHeartbeats 4000000
namespace KW
open PySem PySem.Spec PyProof.Rows L2 StX
open K8 (trim rests divided monics dsteps facsOf divLoop subAt)
theorem getD_some {l : List Int} {i : Nat} (h : i < l.length) : l[i]? = some (l.getD i 0) := by
  rw [List.getD_eq_getElem?_getD, List.getElem?_eq_getElem h]; rfl
theorem map_get {l : List Int} {i : Nat} (h : i < l.length) : (l.map V.int)[i]? = some (.int (l.getD i 0)) := by
  rw [List.getElem?_map, getD_some h]; rfl
theorem subAt_bound {F l : List Int} {k : Nat} {a : Int} {M : Nat} (hl : k + F.length ≤ l.length) (hF : ∀ x, x ∈ F → x.natAbs ≤ 7) (ha : a.natAbs ≤ M) (h : ∀ x, x ∈ l → x.natAbs ≤ M) : ∀ x, x ∈ subAt l k a F → x.natAbs ≤ 8 * M := by
  intro x hx
  obtain ⟨i, hi, rfl⟩ := K8.mem_getD hx
  rw [K8.subAt_getD hl]
  have h1 : (l.getD i 0).natAbs ≤ M := by
    by_cases q : i < l.length
    · exact h _ (List.mem_of_getElem? (getD_some q))
    · rw [List.getD_eq_getElem?_getD, List.getElem?_eq_none (by omega)]; exact Nat.zero_le _
  split
  · rename_i hk
    have h2 : (F.getD (i - k) 0).natAbs ≤ 7 := by
      by_cases q : i - k < F.length
      · exact hF _ (List.mem_of_getElem? (getD_some q))
      · rw [List.getD_eq_getElem?_getD, List.getElem?_eq_none (by omega)]; exact Nat.zero_le _
    have h3 : (a * F.getD (i - k) 0).natAbs ≤ M * 7 := by
      rw [Int.natAbs_mul]
      exact Nat.mul_le_mul ha h2
    omega
  · omega
theorem set_map (l : List Int) (i : Nat) (a : Int) : (l.map V.int).set i (.int a) = (l.set i a).map V.int := (List.map_set ..).symm
section
variable {P : Program} {w : World} {K : PySem.W.Frag} {mg : Str → Option Value} {base : Heap} {T : Tb}
/-! ### divided_in -/
abbrev N_divided_in : List Str := ["polynomial", "monic", "left", "size", "quotient", "place", "factor", "further", "number"]
theorem sc_divided_in : FnScope N_divided_in ["polynomial", "monic"] (defScope (topS 22)) := ⟨rfl, rfl, rfl, by decide +kernel, rfl, by decide +kernel, by decide +kernel⟩
abbrev spDiv (K : PySem.W.Frag) (T : Tb) : Sp := spR K T 2 fun ds r => ∃ g F : List Int, ds = [dT g, dT F] ∧ g.length ≤ 20 ∧ 1 ≤ F.length ∧ F.length ≤ 20 ∧ (∀ x, x ∈ g → x.natAbs ≤ 7) ∧ (∀ x, x ∈ F → x.natAbs ≤ 7) ∧ r = .tuple [dT (divided g F).1, dT (divided g F).2]
theorem df_divided (B : Bi K mg) (D_without_zeros : Df P w K mg base 1 "without_zeros" ["numbers"] (spTrim K T)) (h : Has K mg "divided_in" 22) : Df P w K mg base 2 "divided_in" ["polynomial", "monic"] (spDiv K T) := by
  refine h.df sc_divided_in (fun vs H Q E h => h.1) (fun _ _ _ _ _ _ us hl => match us, hl with | [_, _], _ => rfl) (fun f cdv A outer s H vs Q E hr h => ?_)
  have nd := sc_divided_in.nd
  refine ⟨_, PSs.nox (pss_cons (ps_par (i := 2) (j := 3) rfl nd rfl rfl (by decide) rfl rfl (pa_cons (pe_callTy (listK (K := K) rfl) (by rfl) B.list boot_list (pa_cons (pv 0) pa_nil)) (pa_cons (pe_op op_sub (pe_callB (lenK (K := K) rfl) (by rfl) B.len boot_len (pa_cons (pv 1) pa_nil)) pe_int) pa_nil)) (by rfl)) (pss_cons (ps_set (i := 4) nd rfl (by first | exact Or.inl rfl | exact Or.inr rfl) (pe_op op_rep (pe_lst (pa_cons pe_int pa_nil)) (pe_callB (call_max2 rfl) (by rfl) B.max (by decide +kernel) (pa_cons pe_int (pa_cons (pe_op op_sub (pe_callB (lenK (K := K) rfl) (by rfl) B.len boot_len (pa_cons (pv 2) pa_nil)) (pv 3)) pa_nil))))) (pss_cons (ps_for PassesOwn.never rfl (pi_range3 rfl B.range (pa_cons (pe_op op_sub (pe_callB (lenK (K := K) rfl) (by rfl) B.len boot_len (pa_cons (pv 4) pa_nil)) pe_int) (pa_cons (pe_un un_neg pe_int) (pa_cons (pe_un un_neg pe_int) pa_nil)))) (pg_name (i := 5) nd rfl (by first | exact Or.inl rfl | exact Or.inr rfl)) (pss_cons (ps_set (i := 6) nd rfl (by first | exact Or.inl rfl | exact Or.inr rfl) (pe_ix (ixL (K := K) rfl) (pv 2) (pe_op op_add (pv 5) (pv 3)) (fun _ _ => rfl))) (pss_cons (ps_asg (pv 6) (pg_sub (pv 4) (pv 5) set_list)) (pss_one (ps_for PassesOwn.never rfl (pi_enumT rfl B.enumerate (pa_cons (pv 1) pa_nil)) (pg_tup rfl (pgs_cons (pg_name (i := 7) nd rfl (by first | exact Or.inl rfl | exact Or.inr rfl)) (pgs_cons (pg_name (i := 8) nd rfl (by first | exact Or.inl rfl | exact Or.inr rfl)) pgs_nil))) (pss_one (ps_augS (pv 2) (pe_op op_add (pv 5) (pv 7)) get_list (pe_op op_mulW (pv 6) (pv 8)) ip_sub set_list))))))) (pss_one (ps_ret (pe_tup (pa_cons (pe_callD D_without_zeros hr (by decide) rfl (pa_cons (pv 4) pa_nil)) (pa_cons (pe_callD D_without_zeros hr (by decide) rfl (pa_cons (pv 2) pa_nil)) pa_nil)))))))), ?_⟩
  obtain ⟨v1, v2, Hx, d1, d2, r, rfl, ht, ex, k1, k2, ⟨g, F, e, hg, hF1, hF, bg, bF, rfl⟩, q⟩ := sp2 h
  cases e
  have hv1 : EvD K T (tVar 0) (L2.start N_divided_in [v1, v2]) Hx (dT g) := ed_var rfl k1
  have hv2 : EvD K T (tVar 1) (L2.start N_divided_in [v1, v2]) Hx (dT F) := ed_var rfl k2
  obtain ⟨s, hs⟩ : ∃ s, F.length = s + 1 := ⟨F.length - 1, by omega⟩
  obtain ⟨m, hm⟩ : ∃ m, m = g.length - s := ⟨_, rfl⟩
  refine q_parN (K := K) (v := .int (s : Int)) (.start ex) (en_list (.inr hv1)) (ev_is (ei_sub ((ei_len (.inr hv2)).mono ex) ev_c) (by rw [List.length_map, hs]; congr 1; omega)) fun p xs Hb1 H1 n1 p0 pb hp kd => ?_
  obtain rfl := kd.ints
  refine q_newI (K := K) (ns := List.replicate m 0) n1.st (en_is (en_rep (ds := [.int 0]) (i := (m : Int)) (en_lst (ea_cons (ed_int ev_c) ea_nil) (Nat.le_of_ble_eq_true rfl)) (ev_is (ei_max ev_c (ei_sub (ei_len (.inl (ed_var rfl (own_atI hp)))) (ev_var rfl))) ?_) (by omega) (by simp; omega)) ?_) fun q' Hb2 H2 qn n2 q0 qb hq => ?_
  · rw [List.length_map]
    congr 1
    split <;> omega
  · rw [Int.toNat_natCast]; exact rep_flat m
  have n12 := n1.trans n2
  have pb2 := n2.no pb hp
  have hp2 := n2.ex.lst hp
  have kF : Dp K Hb2 v2 (dT F) := n12.dp k2
  have pq : p ≠ q' := fun z => by rw [z, qn] at hp; cases hp
  refine s_forDown (T := T) (m := m) n2.st (ei_sub (ev_is (ev_lenOwn hq (ev_var rfl)) (by rw [List.length_map, List.length_replicate])) ev_c) (ev_neg ev_c) (ev_neg ev_c) (by omega) (fun i σ' H' => Stt T Hx H Hb2 H' ∧ ∃ (qs ls : List Int) (a5 a6 a7 a8 : Option V), σ' = [some v1, some v2, some (.ref p), some (.int s), some (.ref q'), a5, a6, a7, a8] ∧ i ≤ m ∧ qs.length = m ∧ ls.length = g.length ∧ H' p = some (.lst (ls.map V.int)) ∧ H' q' = some (.lst (qs.map V.int)) ∧ (∀ x, x ∈ ls → x.natAbs ≤ 7 * 8 ^ i) ∧ divLoop F s (m - i) qs ls = divLoop F s m (List.replicate m 0) g) ?_ ?_ ?_
  · intro H3 n3
    exact ⟨n3.st, List.replicate m 0, g, none, none, none, none, rfl, Nat.zero_le _, List.length_replicate, rfl, n3.ex.lst hp2, n3.ex.lst hq, fun x hx => by have := bg x hx; omega, rfl⟩
  · rintro i σ' H' hi ⟨S, qs, ls, a5, a6, a7, a8, rfl, _, hql, hll, hp', hq', bl, hD⟩
    obtain ⟨k, hk⟩ : ∃ k, m - i = k + 1 := ⟨m - i - 1, by omega⟩
    have epl : ((m : Int) - 1 + (i : Int) * (-1)) = (k : Int) := by omega
    rw [epl]
    have hks : k + s < ls.length := by omega
    obtain ⟨a, ha⟩ : ∃ a, a = ls.getD (k + s) 0 := ⟨_, rfl⟩
    have bnd : (7 : Nat) * 8 ^ i < 10 ^ 100 := by
      have : 8 ^ i ≤ 8 ^ 20 := Nat.pow_le_pow_right (by decide) (by omega)
      exact Nat.lt_of_le_of_lt (Nat.mul_le_mul_left 7 this) (by decide +kernel)
    have ba : a.natAbs ≤ 7 * 8 ^ i := by
      rw [ha]
      exact bl _ (List.mem_of_getElem? (getD_some hks))
    refine q_asgV S (v := .int a) (ev_own (j := k + s) hp' (ev_var rfl) (ev_is (ei_add (ev_var rfl) (ev_var rfl)) (by rw [Int.natCast_add])) (by rw [ha]; exact map_get hks)) fun H3 n3 => ?_
    refine q_setV n3.st (j := k) (ev_var rfl) (ev_var rfl) (ev_var rfl) q0 qb (n3.ex.lst hq') (by rw [List.length_map]; omega) fun H4 S4 e4 => ?_
    rw [set_map] at S4 ⊢
    have hp4 : (upd H4 q' (.lst ((qs.set k a).map V.int))) p = some (.lst (ls.map V.int)) := by
      rw [upd_ne pq]
      exact e4.lst (n3.ex.lst hp')
    refine s_for (K := K) S4 (it_enumT (K := K) (ed_var rfl kF)) sen_mono (fun Bs t σ' Hb' H' => Hb' = Bs ∧ Sub Hb2 Bs ∧ Bs p = none ∧ Stt T Hx H Bs H' ∧ Ex T Hb2 H' ∧ ∃ (l' : List Int) (a7 a8 : Option V), σ' = [some v1, some v2, some (.ref p), some (.int s), some (.ref q'), some (.int k), some (.int a), a7, a8] ∧ t ≤ F.length ∧ l'.length = ls.length ∧ H' p = some (.lst (l'.map V.int)) ∧ H' q' = some (.lst ((qs.set k a).map V.int)) ∧ subAt l' (k + t) a (F.drop t) = subAt ls k a F) ?_ ?_ ?_ ?_
    · intro Bs H5 n5
      exact ⟨rfl, n5.sub, n5.no pb2 hp4, n5.st, S4.eb.trans n5.ex, ls, a7, a8, rfl, Nat.zero_le _, rfl, n5.ex.lst hp4, n5.ex.lst upd_same, rfl⟩
    · rintro Bs t σ' Hb' H' ⟨rfl, sb, _, S', _⟩
      exact ⟨S', Sub.refl _, S'.eb⟩
    · rintro Bs t σ' Hb' H' ht ⟨rfl, sb, pb', S', e2', l', a7, a8, rfl, ht', hl', hp5, hq5, hsub⟩ σ2 Hb6 H6 n6 ⟨v, d, hd, kv, rfl⟩
      rw [List.length_map] at ht
      rw [List.getElem?_map, getD_some ht] at hd
      cases hd
      cases kv
      have hkt : k + t < l'.length := by omega
      have bx : (F.getD t 0).natAbs ≤ 7 := bF _ (List.mem_of_getElem? (getD_some ht))
      refine s_augL (n := a * F.getD t 0) (a := l'.getD (k + t) 0) (j := k + t) (S'.keep n6.ex) (ev_var rfl) (ev_is (ei_add (ev_var rfl) (ev_var rfl)) (by rw [Int.natCast_add])) (ei_opC (g := fun i j => V.int (i * j)) (ev_var rfl) (ev_var rfl) (w2 (big_of (Nat.lt_of_le_of_lt ba (Nat.lt_of_lt_of_le bnd (by decide +kernel)))) (big_of (Nat.lt_of_le_of_lt bx (by decide +kernel))))) p0 pb' (n6.ex.lst hp5) (map_get hkt) fun H7 S7 e7 => ?_
      rw [set_map] at S7 ⊢
      refine ⟨Hb', rfl, sb, pb', S7, (e2'.trans (n6.ex.trans e7)).mut pb2 ((n6.ex.trans e7).lst hp5), l'.set (k + t) (l'.getD (k + t) 0 - a * F.getD t 0), _, _, rfl, ht, by rw [List.length_set]; exact hl', upd_same, ?_, ?_⟩
      · rw [upd_ne (Ne.symm pq)]
        exact (n6.ex.trans e7).lst hq5
      · rw [← hsub]
        have ed : F.drop t = F.getD t 0 :: F.drop (t + 1) := by
          rw [List.drop_eq_getElem_cons ht, List.getD_eq_getElem?_getD, List.getElem?_eq_getElem ht]; rfl
        rw [ed]
        rfl
    · rintro Bs σ' Hb' H' ⟨rfl, sb, pb', S', e2', l', a7, a8, rfl, ht', hl', hp5, hq5, hsub⟩
      rw [List.length_map, List.drop_length] at hsub
      have hsub : l' = subAt ls k a F := hsub
      subst hsub
      refine ⟨n2.st.at S' e2', qs.set k a, subAt ls k a F, _, _, _, _, rfl, by omega, by rw [List.length_set]; exact hql, by rw [K8.subAt_len]; exact hll, hp5, hq5, ?_, ?_⟩
      · have := subAt_bound (F := F) (l := ls) (k := k) (a := a) (M := 7 * 8 ^ i) (by omega) bF ba bl
        intro x hx
        have := this x hx
        rw [Nat.pow_succ]
        omega
      · rw [← hD, hk, show m - (i + 1) = k by omega]
        show _ = divLoop F s k (qs.set k (ls.getD (k + s) 0)) (subAt ls k (ls.getD (k + s) 0) F)
        rw [← ha]
  · rintro σ' H' ⟨S, qs, ls, a5, a6, a7, a8, rfl, _, hql, hll, hp', hq', bl, hD⟩
    rw [Nat.sub_self] at hD
    obtain ⟨Hb3, S3, s3, kq⟩ := own_dp (K := K) S q0 hq' (.of_ints qs)
    obtain ⟨Hb4, S4, s4, kp⟩ := own_dp (K := K) S3 p0 hp' (.of_ints ls)
    refine s_ret S4 (ed_is (ed_tup (ea_cons (ed_call (ea_cons (ed_var rfl (Dp.sub s4 _ _ kq)) ea_nil) ⟨qs, rfl, by omega, rfl⟩) (ea_cons (ed_call (ea_cons (ed_var rfl kp) ea_nil) ⟨ls, rfl, by omega, rfl⟩) ea_nil)) (Nat.le_of_ble_eq_true rfl)) ?_) q
    have eF : F.length - 1 = s := by omega
    unfold K8.divided
    rw [eF, ← hm, ← hD]
    rfl
end
end KW

/-! text K8W4 -/
set_option Elab.async false
set_option linter.all false
set_option maxRecDepth 100000
set_option maxHeartbeats 4000000
namespace KW
open PySem PySem.Spec PyProof.Rows L2 StX
open K8 (trim rests divided monics dsteps facsOf at2 RelB BInv passL elimRow swapL matOf)
section
variable {K : PySem.W.Frag} {T : Tb} {σ : L2.St} {Hx H0 Hb H H' : Hp} {ta tb t1 t2 t3 : TE} {x1 x2 x3 v : V} {D : Ends}
theorem s_tup3V {gs : TGs} (S : Stt T Hx H0 Hb H) (h1 : Ev T t1 σ H x1) (h2 : Ev T t2 σ H x2) (h3 : Ev T t3 σ H x3) (k : ∀ H1, Nxt T Hx H0 Hb H Hb H1 → gs [x1, x2, x3] σ H1 D.nx) : tAsg (tTup (tCons t1 (tCons t2 (tCons t3 tNil)))) (gTup K 3 gs) D σ H :=
  h1 H S.e0.refl _ fun H1 e1 => h2 H1 e1 _ fun H2 e2 => h3 H2 (e1.trans e2) _ fun H3 e3 => by
    refine ⟨by show 3 ≤ sizeLine; decide, fun q hq => ?_⟩
    have e4 := ((e1.trans e2).trans e3).new (o := .tup [x1, x2, x3]) hq
    exact ⟨q, _, rfl, .inl (.inl upd_same), rfl, k _ (.keep S e4)⟩
theorem gs_set {gs : TGs} {p : Addr} {xs : List V} {j : Nat} {vs : List V} {Q : L2.St → Hp → Prop} (S : Stt T Hx H0 Hb H) (ho : Ev T ta σ H (.ref p)) (hi : Ev T tb σ H (.int (j : Int))) (h0 : H0 p = none) (hb : Hb p = none) (hp : H p = some (.lst xs)) (hj : j < xs.length)
    (k : ∀ H1, Stt T Hx H0 Hb (upd H1 p (.lst (xs.set j v))) → Ex T H H1 → gs vs σ (upd H1 p (.lst (xs.set j v))) Q) : gCons (gSub ta tb rSetL) gs (v :: vs) σ H Q :=
  ⟨v, vs, rfl, ho H S.e0.refl _ fun H1 e1 => hi H1 e1 _ fun H2 e2 => by
    have e12 := e1.trans e2
    have hp3 := e12.lst hp
    exact ⟨p, xs, j, j, rfl, rfl, hp3, ixN_nat hj, k H2 ((S.keep e12).mut h0 hb hp3) e12⟩⟩
end
theorem dp_row {K : PySem.W.Frag} {H : Hp} {xs : List V} {L : List (List Int)} (h : DpAll K H xs (L.map dL)) {i : Nat} (hi : i < L.length) : ∃ v, xs[i]? = some v ∧ Dp K H v (dL (L.getD i [])) :=
  h.get (by rw [List.getElem?_map, List.getD_eq_getElem?_getD, List.getElem?_eq_getElem hi]; rfl)
theorem atI_row {L : List (List Int)} {i : Nat} (hi : i < L.length) : atI (L.map dL) (i : Int) = some (dL (L.getD i [])) := atI_nat (by rw [List.getElem?_map, List.getD_eq_getElem?_getD, List.getElem?_eq_getElem hi]; rfl)
theorem atI_int {l : List Int} {i : Nat} (hi : i < l.length) : atI (l.map PyData.int) (i : Int) = some (.int (l.getD i 0)) := atI_ints (getD_some hi)
theorem elim_range {h row : List Int} {k : Nat} {d : Int} (e : row.length = h.length) : (List.range row.length).map (fun j => PyData.int ((row.getD j 0 * h.getD k 0 - row.getD k 0 * h.getD j 0).fdiv d)) = (elimRow h row k d).map PyData.int := by
  apply List.ext_getElem?
  intro i
  rw [List.getElem?_map, List.getElem?_map]
  by_cases hi : i < row.length
  · rw [List.getElem?_range hi, getD_some (l := elimRow h row k d) (by rw [K8.elimRow_len e]; omega), K8.elimRow_getD e (by omega)]
    rfl
  · rw [List.getElem?_eq_none (by rw [List.length_range]; omega), List.getElem?_eq_none (by rw [K8.elimRow_len e]; omega)]
    rfl
def bdX : Nat := (12 * 10 ^ 8) ^ 12
theorem bdX_lt : bdX < 10 ^ 140 := by decide +kernel
section
variable {P : Program} {w : World} {K : PySem.W.Frag} {mg : Str → Option Value} {base : Heap} {T : Tb}
/-! ### determinant_in -/
abbrev N_determinant_in : List Str := ["rows", "left", "last", "sign", "start", "heads", "head", "at", "factor", "row", "entry", "more"]
theorem sc_determinant_in : FnScope N_determinant_in ["rows"] (defScope (topS 23)) := ⟨rfl, rfl, rfl, by decide +kernel, rfl, by decide +kernel, by decide +kernel⟩
abbrev spDet (K : PySem.W.Frag) (T : Tb) : Sp := spR K T 1 fun ds r => ∃ (rows : List (List Int)) (N : Nat), ds = [.list (rows.map dL)] ∧ N ≤ 12 ∧ rows.length = N ∧ (∀ r, r ∈ rows → r.length = N) ∧ (∀ i j, (matOf rows i j).natAbs ≤ 10 ^ 8) ∧ r = dI (K8.det N (matOf rows))
theorem df_det (B : Bi K mg) (h : Has K mg "determinant_in" 23) : Df P w K mg base 1 "determinant_in" ["rows"] (spDet K T) := by
  refine h.df sc_determinant_in (fun vs H Q E h => h.1) (fun _ _ _ _ _ _ us hl => match us, hl with | [_], _ => rfl) (fun f cdv A outer s H vs Q E hr h => ?_)
  have nd := sc_determinant_in.nd
  refine ⟨_, PSs.nox (pss_cons (ps_asg (pe_tup (pa_cons (pe_lc (own := [("row", 9)]) (g := (gName 9)) rfl nd (pi_list (pv 0)) (blkOk_by (own := [("row", 9)]) (N := N_determinant_in) (sc := defScope (topS 23)) (by decide +kernel)) (fun _ _ _ _ _ => (pg_name (i := 9) nd rfl (by first | exact Or.inl rfl | exact Or.inr rfl))) (fun _ _ _ _ _ => pts_nil) (fun _ _ _ _ _ => (pe_callTy (listK (K := K) rfl) (by rfl) B.list boot_list (pa_cons (pv 9) pa_nil)))) (pa_cons pe_int (pa_cons pe_int pa_nil)))) (pg_tup rfl (pgs_cons (pg_name (i := 1) nd rfl (by first | exact Or.inl rfl | exact Or.inr rfl)) (pgs_cons (pg_name (i := 2) nd rfl (by first | exact Or.inl rfl | exact Or.inr rfl)) (pgs_cons (pg_name (i := 3) nd rfl (by first | exact Or.inl rfl | exact Or.inr rfl)) pgs_nil))))) (pss_cons (ps_for PassesOwn.never rfl (pi_range1 rfl B.range (pa_cons (pe_callB (lenK (K := K) rfl) (by rfl) B.len boot_len (pa_cons (pv 1) pa_nil)) pa_nil)) (pg_name (i := 4) nd rfl (by first | exact Or.inl rfl | exact Or.inr rfl)) (pss_cons (ps_setLc (i := 5) (own := [("at", 7)]) (g := (gName 7)) rfl nd rfl rfl (sw_true rfl rfl rfl (by decide +kernel)) (pi_range2 rfl B.range (pa_cons (pv 4) (pa_cons (pe_callB (lenK (K := K) rfl) (by rfl) B.len boot_len (pa_cons (pv 1) pa_nil)) pa_nil))) (blkOk_by (own := [("at", 7)]) (N := N_determinant_in) (sc := defScope (topS 23)) (by decide +kernel)) (fun _ _ _ _ _ => (pg_name (i := 7) nd rfl (by first | exact Or.inl rfl | exact Or.inr rfl))) (fun _ _ _ _ _ => (pts_one (pt_cmpR op_ne (pe_ix (ixL (K := K) rfl) (pe_ix (ixL (K := K) rfl) (pv 1) (pv 7) (fun _ _ => rfl)) (pv 4) (fun _ _ => rfl)) pe_int (nomark _)))) (fun _ _ _ _ _ => (pv 7))) (pss_cons (ps_if (pt_cmpR (eqDK (K := K) rfl hr.units) (pv 5) (pe_lst pa_nil) (nomark _)) (pss_one (ps_ret pe_int)) pss_nil) (pss_cons (ps_if (pt_cmpR op_ne (pe_ix (ixL (K := K) rfl) (pv 5) pe_int (fun _ _ => rfl)) (pv 4) (nomark _)) (pss_one (ps_asg (pe_tup (pa_cons (pe_ix (ixL (K := K) rfl) (pv 1) (pe_ix (ixL (K := K) rfl) (pv 5) pe_int (fun _ _ => rfl)) (fun _ _ => rfl)) (pa_cons (pe_ix (ixL (K := K) rfl) (pv 1) (pv 4) (fun _ _ => rfl)) (pa_cons (pe_un un_neg (pv 3)) pa_nil)))) (pg_tup rfl (pgs_cons (pg_sub (pv 1) (pv 4) set_list) (pgs_cons (pg_sub (pv 1) (pe_ix (ixL (K := K) rfl) (pv 5) pe_int (fun _ _ => rfl)) set_list) (pgs_cons (pg_name (i := 3) nd rfl (by first | exact Or.inl rfl | exact Or.inr rfl)) pgs_nil)))))) pss_nil) (pss_cons (ps_set (i := 6) nd rfl (by first | exact Or.inl rfl | exact Or.inr rfl) (pe_ix (ixL (K := K) rfl) (pv 1) (pv 4) (fun _ _ => rfl))) (pss_cons (ps_for PassesOwn.never rfl (pi_range2 rfl B.range (pa_cons (pe_op op_add (pv 4) pe_int) (pa_cons (pe_callB (lenK (K := K) rfl) (by rfl) B.len boot_len (pa_cons (pv 1) pa_nil)) pa_nil))) (pg_name (i := 7) nd rfl (by first | exact Or.inl rfl | exact Or.inr rfl)) (pss_cons (ps_set (i := 8) nd rfl (by first | exact Or.inl rfl | exact Or.inr rfl) (pe_ix (ixL (K := K) rfl) (pe_ix (ixL (K := K) rfl) (pv 1) (pv 7) (fun _ _ => rfl)) (pv 4) (fun _ _ => rfl))) (pss_one (ps_asg (pe_lc (own := [("entry", 10), ("more", 11)]) (g := (gTup K 2 (gCons (gName 10) (gCons (gName 11) gNil)))) rfl nd (pi_zip rfl B.zip (pa_cons (pe_ix (ixL (K := K) rfl) (pv 1) (pv 7) (fun _ _ => rfl)) (pa_cons (pv 6) pa_nil))) (blkOk_by (own := [("entry", 10), ("more", 11)]) (N := N_determinant_in) (sc := defScope (topS 23)) (by decide +kernel)) (fun _ _ _ _ _ => (pg_tup rfl (pgs_cons (pg_name (i := 10) nd rfl (by first | exact Or.inl rfl | exact Or.inr rfl)) (pgs_cons (pg_name (i := 11) nd rfl (by first | exact Or.inl rfl | exact Or.inr rfl)) pgs_nil)))) (fun _ _ _ _ _ => pts_nil) (fun _ _ _ _ _ => (pe_op op_fdivX (pe_op op_sub (pe_op op_mulW (pv 10) (pe_ix (ixL (K := K) rfl) (pv 6) (pv 4) (fun _ _ => rfl))) (pe_op op_mulW (pv 8) (pv 11))) (pv 2)))) (pg_sub (pv 1) (pv 7) set_list))))) (pss_one (ps_set (i := 2) nd rfl (by first | exact Or.inl rfl | exact Or.inr rfl) (pe_ix (ixL (K := K) rfl) (pv 6) (pv 4) (fun _ _ => rfl)))))))))) (pss_one (ps_ret (pe_op op_mulW (pv 3) (pv 2)))))), ?_⟩
  obtain ⟨v1, Hx, d1, r, rfl, ht, ex, k1, ⟨rows, N, e, hN, hl, hrl, hB, rfl⟩, q⟩ := sp1 h
  cases e
  refine q_tupN (K := K) (ds := rows.map dL) (.start ex) (en_is (en_lcM (j := 9) (fun d => d) (it_list (ed_var rfl k1)) (by rw [List.length_map]; omega) fun d hd v Hy sb hv => ⟨rfl, ?_⟩) (List.map_id _)) fun p xs Hb1 H1 n1 p0 pb hp kd => ?_
  · obtain ⟨row, _, rfl⟩ := List.mem_map.mp hd
    exact ed_new (en_list (.inl (ed_var rfl hv)))
  have bX : ∀ {i : Nat} {M : K8.Mat} {d sg : Int}, i < N → BInv (matOf rows) N i M d sg → ∀ a b, (M a b).natAbs ≤ bdX := fun {i M d sg} hi I a b => by
    have h1 := I.bound hB a b
    have h2 : ((i + 1) * 10 ^ 8) ^ (i + 1) ≤ (12 * 10 ^ 8) ^ (i + 1) := Nat.pow_le_pow_left (Nat.mul_le_mul_right _ (by omega)) _
    have h3 : (12 * 10 ^ 8) ^ (i + 1) ≤ (12 * 10 ^ 8) ^ 12 := Nat.pow_le_pow_right (by decide) (by omega)
    exact Nat.le_trans h1 (Nat.le_trans h2 h3)
  have big : ∀ x : Int, x.natAbs ≤ bdX → x.natAbs < 2 ^ 9000 := fun x hx => big_of (Nat.lt_of_le_of_lt hx (Nat.lt_trans bdX_lt (by decide +kernel)))
  refine s_forR1 (T := T) (g := 4) (n := (N : Int)) n1.st (ev_is (ev_lenOwn hp (ev_var rfl)) (by rw [kd.length, List.length_map, hl])) (by omega)
    (fun i σ' H' => ∃ (Hb' : Hp) (xs : List V) (L : List (List Int)) (M : K8.Mat) (d sg : Int) (a4 a5 a6 a7 a8 a9 a10 a11 : Option V), Stt T Hx H Hb' H' ∧ Hb' p = none ∧ H' p = some (.lst xs) ∧ DpAll K Hb' xs (L.map dL) ∧ RelB N i L M ∧ BInv (matOf rows) N i M d sg ∧ d.natAbs ≤ bdX ∧ sg.natAbs ≤ 1 ∧
      σ' = [some v1, some (.ref p), some (.int d), some (.int sg), a4, a5, a6, a7, a8, a9, a10, a11]) ?_ ?_ ?_
  · intro H2 n2
    exact ⟨Hb1, xs, rows, matOf rows, 1, 1, _, _, _, _, _, _, _, _, n2.st, pb, n2.ex.lst hp, kd, .start hl hrl, .start _ _, by decide +kernel, by decide, rfl⟩
  · rintro i σ' H' hi ⟨Hb', xs, L, M, d, sg, a4, a5, a6, a7, a8, a9, a10, a11, S, pb', hp', kd', R, I, bd, bs, rfl⟩
    have hi : i < N := by omega
    have hLN : L.length = N := R.len
    have hxl : xs.length = N := by rw [kd'.length, List.length_map, hLN]
    have kL : Dp K H' (.ref p) (.list (L.map dL)) := own_at S hp' kd'
    obtain ⟨ts, hts⟩ : ∃ ts, ts = (List.range (N - i)).filter (fun t => !decide (at2 L (i + t) i = 0)) := ⟨_, rfl⟩
    obtain ⟨ns, hns⟩ : ∃ ns : List Int, ns = ts.map (fun t : Nat => (i : Int) + (t : Int)) := ⟨_, rfl⟩
    have htl : ts.length ≤ N := by
      rw [hts]
      have := List.length_filter_le (fun t => !decide (at2 L (i + t) i = 0)) (List.range (N - i))
      rw [List.length_range] at this
      omega
    refine q_asgI (K := K) (ns := ns) S (en_is (en_lc (n := ((N : Int) - (i : Int)).toNat) (fun t => !decide (at2 L (i + t) i = 0)) (fun t => .int ((i : Int) + (t : Int))) (it_r2 (j := 7) (ev_var rfl) (ev_is (ev_lenOwn hp' (ev_var rfl)) (by rw [hxl])) (by omega) (by omega)) (by omega) fun t σ2 Hy ht sb hS => ?_) ?_) fun ph Hb2 H2 n2 kh => ?_
    · obtain rfl := hS
      refine ⟨rfl, et_test (ei_ne (ei (ed_ixL (d := .int (at2 L (i + t) i)) (ed_ixL (d := dL (L.getD (i + t) [])) (ed_var rfl (Dp.sub sb _ _ kL)) (ev_var rfl) (by rw [← Int.natCast_add]; exact atI_row (by omega))) (ev_var rfl) (atI_int (by rw [R.row _ (by omega)]; exact hi)))) ev_c), fun _ => ed_vari rfl⟩
    · rw [show ((N : Int) - (i : Int)).toNat = N - i by omega, hns, hts, List.map_map]; rfl
    have nil : EvD K T (tLst tNil) [some v1, some (.ref p), some (.int d), some (.int sg), some (.int i), some (.ref ph), a6, a7, a8, a9, a10, a11] Hb2 (dL []) := ed_new (en_lst ea_nil (by decide))
    refine q_if n2.st (b := decide (ns = [])) ((et_test (ev_is (ed_eqD (ed_var rfl kh) nil (shL _ (by rw [hns, List.length_map]; omega)) (shL _ (by decide))) (by rw [eqv_L]))).mono n2.st.eb) (fun hb H3 n3 => ?_) (fun hb H3 n3 => ?_)
    · have hz : K8.det N (matOf rows) = 0 := I.zero hi fun t ht => by
        have h0 : ts = [] := by have := of_decide_eq_true hb; rw [hns] at this; exact List.map_eq_nil_iff.mp this
        rw [hts, List.filter_eq_nil_iff] at h0
        have h1 := h0 t (List.mem_range.mpr ht)
        have h2 : at2 L (i + t) i = 0 := by simpa using h1
        have h3 := R.val t 0 (by omega) (by omega)
        rw [Nat.add_zero] at h3
        rw [← h3]; exact h2
      refine s_ret n3.st (ed_is (ed_int ev_c) ?_) q
      rw [hz]
    · have hne : ns ≠ [] := of_decide_eq_false hb
      obtain ⟨t0, ts', hts'⟩ : ∃ t0 ts', ts = t0 :: ts' := by
        cases hq : ts with
        | nil => rw [hns, hq] at hne; exact absurd rfl hne
        | cons a b => exact ⟨a, b, rfl⟩
      have ht0 : t0 ∈ ts := by rw [hts']; exact List.mem_cons_self ..
      rw [hts, List.mem_filter, List.mem_range] at ht0
      obtain ⟨ht0, hz0⟩ := ht0
      have hz0 : at2 L (i + t0) i ≠ 0 := by simpa using hz0
      have hm0 : M t0 0 ≠ 0 := by
        have h3 := R.val t0 0 (by omega) (by omega)
        rw [Nat.add_zero] at h3
        rw [← h3]; exact hz0
      have h00 : ns.getD 0 0 = (i : Int) + (t0 : Int) := by rw [hns, hts']; rfl
      have hnl : 0 < ns.length := by rw [hns, hts']; exact Nat.succ_pos _
      have evH : ∀ Hy, Ex T Hb2 Hy → Ev T (tOp (rIxL K) (tVar 5) (tC (.int 0))) [some v1, some (.ref p), some (.int d), some (.int sg), some (.int i), some (.ref ph), a6, a7, a8, a9, a10, a11] Hy (.int (((i + t0 : Nat) : Nat) : Int)) := fun Hy ey => (ev_is (ei (ed_ixL (d := .int (ns.getD 0 0)) (ed_var rfl kh) ev_c (atI_int (i := 0) hnl))) (by rw [h00, Int.natCast_add])).mono ey
      have S3 := n3.st
      have kd3 : DpAll K Hb2 xs (L.map dL) := n2.dps kd'
      have hp3 := n3.ex.lst (n2.ex.lst hp')
      have pb3 := n2.no pb' hp'
      refine q_ifJ (fun σ3 H3 => ∃ (xs3 : List V) (L3 : List (List Int)) (M3 : K8.Mat) (sg3 : Int), Stt T Hx H Hb2 H3 ∧ H3 p = some (.lst xs3) ∧ DpAll K Hb2 xs3 (L3.map dL) ∧ RelB N i L3 M3 ∧ BInv (matOf rows) N i M3 d sg3 ∧ sg3.natAbs ≤ 1 ∧ M3 0 0 ≠ 0 ∧ σ3 = [some v1, some (.ref p), some (.int d), some (.int sg3), some (.int i), some (.ref ph), a6, a7, a8, a9, a10, a11])
        S3 (b := !decide (((i + t0 : Nat) : Int) = (i : Int))) (et_test (ei_ne (evH _ S3.eb) (ev_var rfl))) ?_ (fun hb2 H4 n4 kont => ?_) fun hb2 H4 n4 kont => ?_
      · rintro σ3 H3 ⟨xs3, L3, M3, sg3, S3, hp3, kd3, R3, I3, bs3, hm3, rfl⟩
        have hL3 : L3.length = N := R3.len
        have hx3 : xs3.length = N := by rw [kd3.length, List.length_map, hL3]
        obtain ⟨xh, hxh, kxh⟩ := dp_row kd3 (i := i) (by omega)
        have hdl : (L3.getD i []).length = N := R3.row i hi
        refine q_asgV S3 (ev_own hp3 (ev_var rfl) (ev_var rfl) hxh) fun H4 n4 => ?_
        refine s_forR2 (T := T) (g := 7) (lo := (i : Int) + 1) (n := (N : Int)) n4.st (ei_add (ev_var rfl) ev_c) (ev_is (ev_lenOwn (n4.ex.lst hp3) (ev_var rfl)) (by rw [hx3])) (by omega) (by omega)
          (fun t σ5 H5 => ∃ (Hb5 : Hp) (xs5 : List V) (a7 a8 a9 a10 a11 : Option V), Stt T Hx H Hb5 H5 ∧ Sub Hb2 Hb5 ∧ Hb5 p = none ∧ H5 p = some (.lst xs5) ∧ DpAll K Hb5 xs5 ((passL L3 i d t).map dL) ∧ t ≤ N - (i + 1) ∧ σ5 = [some v1, some (.ref p), some (.int d), some (.int sg3), some (.int i), some (.ref ph), some xh, a7, a8, a9, a10, a11]) ?_ ?_ ?_
        · intro H5 n5
          exact ⟨Hb2, xs3, a7, a8, a9, a10, a11, n5.st, Sub.refl _, pb3, n5.ex.lst (n4.ex.lst hp3), kd3, Nat.zero_le _, rfl⟩
        · rintro t σ5 H5 htt ⟨Hb5, xs5, b7, b8, b9, b10, b11, S5, sb5, pb5, hp5, kd5, _, rfl⟩
          have ht : t < N - (i + 1) := by omega
          have hat : i + 1 + t < N := by omega
          have eat : ((i : Int) + 1 + (t : Int)) = ((i + 1 + t : Nat) : Int) := by omega
          rw [eat]
          have hpl : (passL L3 i d t).length = N := by rw [K8.passL_len, hL3]
          have hx5 : xs5.length = N := by rw [kd5.length, List.length_map, hpl]
          have erow : (passL L3 i d t).getD (i + 1 + t) [] = L3.getD (i + 1 + t) [] := by rw [K8.passL_getD t _ (by omega), if_neg (by omega)]
          have hrow : (L3.getD (i + 1 + t) []).length = N := R3.row _ hat
          have kat : ∀ Hy, Sub H5 Hy → Dp K Hy (.ref p) (.list ((passL L3 i d t).map dL)) := fun Hy sy => Dp.sub sy _ _ (own_at S5 hp5 kd5)
          have eat5 : atI ((passL L3 i d t).map dL) ((i + 1 + t : Nat) : Int) = some (dL (L3.getD (i + 1 + t) [])) := by rw [← erow]; exact atI_row (by omega)
          refine q_asgV S5 (v := .int (at2 L3 (i + 1 + t) i)) (ei (ed_ixL (d := .int (at2 L3 (i + 1 + t) i)) (ed_ixL (d := dL (L3.getD (i + 1 + t) [])) (ed_var rfl (kat _ (Sub.refl _))) (ev_var rfl) eat5) (ev_var rfl) (atI_int (by omega)))) fun H6 n6 => ?_
          have kxh6 : Dp K H6 xh (dL (L3.getD i [])) := Dp.sub (sb5.trans n6.st.eb.sub) _ _ kxh
          have kat6 := kat H6 n6.ex.sub
          have eb : ∀ c, c < N → (at2 L3 (i + 1 + t) c).natAbs ≤ bdX := fun c hc => R3.bound (bX hi I3) (by omega) hat hc
          have hb0 : ∀ c, c < N → (at2 L3 i c).natAbs ≤ bdX := fun c hc => R3.bound (bX hi I3) (Nat.le_refl _) hi hc
          refine s_setRow (K := K) (ns := elimRow (L3.getD i []) (L3.getD (i + 1 + t) []) i d) (j := i + 1 + t) n6.st
            (en_is (en_lcAll (n := ((L3.getD (i + 1 + t) []).map PyData.int).length) (fun c => .int (((L3.getD (i + 1 + t) []).getD c 0 * (L3.getD i []).getD i 0 - (L3.getD (i + 1 + t) []).getD i 0 * (L3.getD i []).getD c 0).fdiv d))
              (it_zip (j := 10) (l := 11) (ds := (L3.getD (i + 1 + t) []).map PyData.int) (es := (L3.getD i []).map PyData.int) (ed_ixL (ed_var rfl kat6) (ev_var rfl) eat5) (ed_var rfl kxh6) (by rw [List.length_map, List.length_map, hrow, hdl])) (by rw [List.length_map]; omega) fun c σ2 Hy hc sy hS => ?_) ?_) (ev_var rfl) (ev_var rfl) p0 pb5 (n6.ex.lst hp5) (by omega) fun v7 Hb7 H7 S7 n7 pb7 kv7 => ?_
          · rw [List.length_map, hrow] at hc
            obtain ⟨va, vb, da, db, h1, h2, k1, k2, rfl⟩ := hS
            rw [List.getElem?_map, getD_some (by omega)] at h1 h2
            cases h1
            cases h2
            cases k1
            cases k2
            refine ⟨rfl, ed_int (ei_opC (C := fun _ j => j ≠ 0 ∧ j.natAbs.log2 < 9000) (g := fun i j => V.int (i.fdiv j)) (ei_sub (ei_opC (g := fun i j => V.int (i * j)) (ev_var rfl) (ei (ed_ixL (d := .int ((L3.getD i []).getD i 0)) (ed_var rfl (Dp.sub sy _ _ kxh6)) (ev_var rfl) (atI_int (by omega)))) (w2 (big _ (eb c hc)) (big _ (hb0 i hi))))
              (ei_opC (g := fun i j => V.int (i * j)) (ev_var rfl) (ev_var rfl) (w2 (big _ (eb i hi)) (big _ (hb0 c hc))))) (ev_var rfl) ⟨I3.d0, ?_⟩)⟩
            exact (Nat.log2_lt (fun z => I3.d0 (Int.natAbs_eq_zero.mp z))).mpr (big _ bd)
          · rw [List.length_map]
            exact elim_range (by rw [hrow, hdl])
          · refine ⟨Hb7, xs5.set (i + 1 + t) v7, _, _, _, _, _, S7, sb5.trans n7.sub, pb7, upd_same, ?_, by omega, rfl⟩
            have := DpAll.set kv7 (i + 1 + t) (n7.dps kd5)
            show DpAll K Hb7 _ (((passL L3 i d t).set (i + 1 + t) (elimRow (L3.getD i []) (L3.getD (i + 1 + t) []) i d)).map dL)
            rw [List.map_set]
            exact this
        · rintro σ5 H5 ⟨Hb5, xs5, b7, b8, b9, b10, b11, S5, sb5, pb5, hp5, kd5, _, rfl⟩
          rw [show ((N : Int) - ((i : Int) + 1)).toNat = N - (i + 1) by omega] at kd5
          have ev : at2 L3 i i = M3 0 0 := R3.val 0 0 (by omega) (by omega)
          refine s_asgV S5 (v := .int (M3 0 0)) (ev_is ((ei (ed_ixL (d := .int (at2 L3 i i)) (ed_var rfl (Dp.sub sb5 _ _ kxh)) (ev_var rfl) (atI_int (by omega)))).mono S5.eb) (by rw [ev])) fun H6 n6 => ?_
          exact ⟨Hb5, xs5, passL L3 i d (N - (i + 1)), _, M3 0 0, sg3, _, _, _, _, _, _, _, _, n6.st, pb5, n6.ex.lst hp5, kd5, R3.step hi, I3.step hi hm3, bX hi I3 0 0, bs3, rfl⟩
      · have ht1 : t0 ≠ 0 := by intro z; rw [z] at hb2; simp at hb2
        have hk1 : i + t0 < N := by omega
        obtain ⟨xa, hxa, kxa⟩ := dp_row kd3 (i := i) (by omega)
        obtain ⟨xb, hxb, kxb⟩ := dp_row kd3 (i := i + t0) (by omega)
        have hp4 := n4.ex.lst hp3
        refine s_tup3V (K := K) n4.st (ev_own hp4 (ev_var rfl) (evH _ n4.st.eb) hxb) (ev_own hp4 (ev_var rfl) (ev_var rfl) hxa) (ev_neg (ev_var rfl)) fun H5 n5 => ?_
        refine gs_set (j := i) n5.st (ev_var rfl) (ev_var rfl) p0 pb3 (n5.ex.lst hp4) (by omega) fun H6 S6 e6 => ?_
        refine gs_set (j := i + t0) S6 (ev_var rfl) (evH _ S6.eb) p0 pb3 upd_same (by rw [List.length_set]; omega) fun H7 S7 e7 => ?_
        refine ⟨_, [], rfl, rfl, kont _ _ ⟨(xs.set i xb).set (i + t0) xa, swapL L i (i + t0), _, -sg, S7, upd_same, ?_, R.swap hk1 ht1, I.swap (by omega) ht1, by omega, ?_, rfl⟩⟩
        · unfold K8.swapL
          rw [List.map_set, List.map_set]
          exact DpAll.set kxa _ (DpAll.set kxb _ kd3)
        · show M (K8.sw2 0 t0 0) 0 ≠ 0
          unfold K8.sw2
          rw [if_pos rfl]
          exact hm0
      · have ht1 : t0 = 0 := by
          have : ((i + t0 : Nat) : Int) = (i : Int) := by simpa using hb2
          omega
        subst ht1
        exact kont _ _ ⟨xs, L, M, sg, n4.st, n4.ex.lst hp3, kd3, R, I, bs, hm0, rfl⟩
  · rintro σ' H' ⟨Hb', xs, L, M, d, sg, a4, a5, a6, a7, a8, a9, a10, a11, S, pb', hp', kd', R, I, bd, bs, rfl⟩
    rw [Int.toNat_natCast] at I
    refine s_ret S (ed_is (ed_int (ei_opC (g := fun i j => V.int (i * j)) (ev_var rfl) (ev_var rfl) (w2 (big_of (Nat.lt_of_le_of_lt bs (by decide +kernel))) (big _ bd)))) ?_) q
    rw [I.end_]
end
end KW

/-! text K8W5 -/
set_option Elab.async false
set_option linter.all false
set_option maxRecDepth 100000
set_option maxHeartbeats 4000000
namespace KW
open PySem PySem.Spec PyProof.Rows L2 StX
open K8 (trim rests divided monics dsteps facsOf matOf derivL derivFrom intOps natMul padRow rowsOf syl gdiscD)
theorem natMul_int (x : Int) : ∀ n : Nat, natMul intOps x n = (n : Int) * x
  | 0 => by show (0 : Int) = _; simp
  | n + 1 => by
    show natMul intOps x n + x = _
    rw [natMul_int x n, Int.natCast_succ, Int.add_mul, Int.one_mul]
theorem derivFrom_range : ∀ (xs : List Int) (i : Nat), derivFrom intOps i xs = (List.range xs.length).map fun j => ((i + j : Nat) : Int) * xs.getD j 0
  | [], _ => rfl
  | x :: xs, i => by
    unfold K8.derivFrom
    rw [derivFrom_range xs (i + 1), natMul_int, List.length_cons, List.range_succ_eq_map, List.map_cons, List.map_map]
    congr 1
    apply List.map_congr_left
    intro j _
    show ((i + 1 + j : Nat) : Int) * xs.getD j 0 = ((i + (j + 1) : Nat) : Int) * (x :: xs).getD (j + 1) 0
    rw [show i + 1 + j = i + (j + 1) by omega]
    rfl
theorem deriv_range (g : List Int) : ((List.range g.length).map fun j => ((j : Nat) : Int) * g.getD j 0).drop 1 = derivL intOps g := by
  cases g with
  | nil => rfl
  | cons x xs =>
    unfold K8.derivL
    rw [List.length_cons, List.range_succ_eq_map, List.map_cons, List.map_map]
    show List.map _ _ = derivFrom intOps 1 xs
    rw [derivFrom_range]
    apply List.map_congr_left
    intro j _
    show ((j + 1 : Nat) : Int) * (x :: xs).getD (j + 1) 0 = ((1 + j : Nat) : Int) * xs.getD j 0
    rw [Nat.add_comm 1 j]
    rfl
theorem derivL_monic {h : List Int} (h1 : 1 ≤ h.length) : ∃ r, derivL intOps (h ++ [1]) = r ++ [(h.length : Int)] ∧ r.length = h.length - 1 := by
  cases h with
  | nil => simp at h1
  | cons x xs =>
    refine ⟨derivFrom intOps 1 xs, ?_, by rw [K8.derivFrom_len]; rfl⟩
    show derivFrom intOps 1 (xs ++ [1]) = _
    rw [derivFrom_range, derivFrom_range, List.length_append, List.length_singleton, List.range_succ, List.map_append]
    congr 1
    · apply List.map_congr_left
      intro j hj
      have := List.mem_range.mp hj
      congr 1
      rw [List.getD_eq_getElem?_getD, List.getD_eq_getElem?_getD, List.getElem?_append_left this]
    · show [((1 + xs.length : Nat) : Int) * (xs ++ [1]).getD xs.length 0] = [_]
      rw [List.getD_eq_getElem?_getD, List.getElem?_append_right (Nat.le_refl _), Nat.sub_self]
      show [((1 + xs.length : Nat) : Int) * 1] = _
      rw [Int.mul_one, List.length_cons, Nat.add_comm]
theorem derivL_mem {g : List Int} {B : Nat} (hg : g.length ≤ 8) (h : ∀ x, x ∈ g → x.natAbs ≤ B) : ∀ x, x ∈ derivL intOps g → x.natAbs ≤ 8 * B := by
  intro x hx
  rw [← deriv_range] at hx
  obtain ⟨j, hj, rfl⟩ := List.mem_map.mp (List.mem_of_mem_drop hx)
  have hj := List.mem_range.mp hj
  have := h _ (List.mem_of_getElem? (getD_some hj))
  rw [Int.natAbs_mul]
  exact Nat.mul_le_mul (by rw [Int.natAbs_natCast]; omega) this
section
variable {P : Program} {w : World} {K : PySem.W.Frag} {mg : Str → Option Value} {base : Heap} {T : Tb}
/-! ### derivative_in -/
abbrev N_derivative_in : List Str := ["polynomial", "place", "number"]
theorem sc_derivative_in : FnScope N_derivative_in ["polynomial"] (defScope (topS 21)) := ⟨rfl, rfl, rfl, by decide +kernel, rfl, by decide +kernel, by decide +kernel⟩
abbrev spDeriv (K : PySem.W.Frag) (T : Tb) : Sp := spR K T 1 fun ds r => ∃ h : List Int, ds = [dT (h ++ [1])] ∧ 1 ≤ h.length ∧ h.length ≤ 7 ∧ (∀ x, x ∈ h → x.natAbs ≤ 10 ^ 7) ∧ r = dT (derivL intOps (h ++ [1]))
theorem cutD_1 (ns : List Int) : cutD (ns.map PyData.int) (some 1) none = (ns.drop 1).map PyData.int := by
  unfold cutD
  rw [HT.sIx_none, show HT.sIx (ns.map PyData.int).length 0 (some 1) = min 1 (ns.map PyData.int).length from HT.sIx_nat _ 0 1, List.map_drop]
  cases ns with
  | nil => rfl
  | cons x xs =>
    rw [show min 1 (List.map PyData.int (x :: xs)).length = 1 by simp]
    rw [List.take_of_length_le]
    rw [List.length_drop]
    exact Nat.le_refl _
theorem df_deriv (B : Bi K mg) (D_without_zeros : Df P w K mg base 1 "without_zeros" ["numbers"] (spTrim K T)) (h : Has K mg "derivative_in" 21) : Df P w K mg base 2 "derivative_in" ["polynomial"] (spDeriv K T) := by
  refine h.df sc_derivative_in (fun vs H Q E h => h.1) (fun _ _ _ _ _ _ us hl => match us, hl with | [_], _ => rfl) (fun f cdv A outer s H vs Q E hr h => ?_)
  have nd := sc_derivative_in.nd
  refine ⟨_, PSs.nox (pss_one (ps_ret (pe_callD D_without_zeros hr (by decide) rfl (pa_cons (pe_slice (slK (K := K) rfl) (pe_lc (own := [("place", 1), ("number", 2)]) (g := (gTup K 2 (gCons (gName 1) (gCons (gName 2) gNil)))) rfl nd (pi_enumT rfl B.enumerate (pa_cons (pv 0) pa_nil)) (blkOk_by (own := [("place", 1), ("number", 2)]) (N := N_derivative_in) (sc := defScope (topS 21)) (by decide +kernel)) (fun _ _ _ _ _ => (pg_tup rfl (pgs_cons (pg_name (i := 1) nd rfl (by first | exact Or.inl rfl | exact Or.inr rfl)) (pgs_cons (pg_name (i := 2) nd rfl (by first | exact Or.inl rfl | exact Or.inr rfl)) pgs_nil)))) (fun _ _ _ _ _ => pts_nil) (fun _ _ _ _ _ => (pe_op op_mulW (pv 1) (pv 2)))) (po_some pe_int) po_none) pa_nil)))), ?_⟩
  obtain ⟨v1, Hx, d1, r, rfl, ht, ex, k1, ⟨g, e, hg1, hg7, hb, rfl⟩, q⟩ := sp1 h
  cases e
  have hl : (g ++ [1]).length = g.length + 1 := by simp
  refine s_ret (.start ex) (ed_is (ed_call (d := dT (trim (derivL intOps (g ++ [1])))) (ea_cons (ed_is (ed_new (en_is (en_sl (ds := ((List.range (g ++ [1]).length).map fun j => ((j : Nat) : Int) * (g ++ [1]).getD j 0).map PyData.int) (ed_new (en_is (en_lcAll (fun j => .int (((j : Nat) : Int) * (g ++ [1]).getD j 0)) (it_enumT (j := 1) (l := 2) (ed_var rfl k1)) (by rw [List.length_map]; omega) fun i σ2 Hy hi sb hS => ?_) ?_)) (eo_some ev_c) eo_none) (cutD_1 _))) (by rw [deriv_range])) ea_nil) ⟨derivL intOps (g ++ [1]), rfl, ?_, rfl⟩) ?_) q
  · obtain ⟨v, d, h1, h2, rfl⟩ := hS
    rw [List.length_map] at hi
    rw [List.getElem?_map, getD_some hi] at h1
    cases h1
    cases h2
    refine ⟨rfl, ed_int (ei_opC (g := fun i j => V.int (i * j)) (ev_var rfl) (ev_var rfl) (w2 (big_of ?_) (big_of ?_)))⟩
    · rw [Int.natAbs_natCast]
      exact Nat.lt_of_lt_of_le (by omega : i < 100) (by decide +kernel)
    · have hx := List.mem_of_getElem? (getD_some hi)
      rcases List.mem_append.mp hx with z | z
      · exact Nat.lt_of_le_of_lt (hb _ z) (by decide +kernel)
      · rw [List.mem_singleton.mp z]; decide +kernel
  · rw [List.length_map, List.map_map]; rfl
  · unfold K8.derivL
    rw [K8.derivFrom_len, List.length_drop]
    omega
  · obtain ⟨r, e, hr⟩ := derivL_monic hg1
    rw [e, K8.trim_last (by omega)]
/-! ### resultant_in -/
abbrev N_resultant_in : List Str := ["one", "other", "first", "second", "width", "upper", "lower", "ahead"]
theorem sc_resultant_in : FnScope N_resultant_in ["one", "other"] (defScope (topS 25)) := ⟨rfl, rfl, rfl, by decide +kernel, rfl, by decide +kernel, by decide +kernel⟩
abbrev spRes (K : PySem.W.Frag) (T : Tb) : Sp := spR K T 2 fun ds r => ∃ (g g' : List Int), ds = [dT g, dT g'] ∧ 2 ≤ g.length ∧ g.length ≤ 7 ∧ g'.length + 1 = g.length ∧ (∀ x, x ∈ g → x.natAbs ≤ 10 ^ 8) ∧ (∀ x, x ∈ g' → x.natAbs ≤ 10 ^ 8) ∧ r = dI (K8.det (g.length - 1 + (g.length - 1 - 1)) (matOf (syl intOps g g')))
theorem pad_mem {g : List Int} {wd a : Nat} {x : Int} (h : x ∈ padRow intOps g wd a) : x ∈ g ∨ x = 0 := by
  unfold K8.padRow at h
  rcases List.mem_append.mp h with z | z
  · exact .inr (List.eq_of_mem_replicate z)
  · rcases List.mem_append.mp z with z | z
    · exact .inl (List.mem_reverse.mp z)
    · exact .inr (List.eq_of_mem_replicate z)
theorem matOf_bound {M : List (List Int)} {B : Nat} (h : ∀ r, r ∈ M → ∀ x, x ∈ r → x.natAbs ≤ B) (i j : Nat) : (matOf M i j).natAbs ≤ B := by
  unfold K8.matOf
  by_cases hi : i < M.length
  · rw [List.getD_eq_getElem?_getD (l := M), List.getElem?_eq_getElem hi]
    show (M[i].getD j 0).natAbs ≤ B
    by_cases hj : j < M[i].length
    · exact h _ (List.getElem_mem hi) _ (List.mem_of_getElem? (getD_some hj))
    · rw [List.getD_eq_getElem?_getD, List.getElem?_eq_none (by omega)]; exact Nat.zero_le _
  · rw [List.getD_eq_getElem?_getD (l := M), List.getElem?_eq_none (by omega)]
    exact Nat.zero_le _
theorem df_res (B : Bi K mg) (D_determinant_in : Df P w K mg base 1 "determinant_in" ["rows"] (spDet K T)) (D_moved_row : Df P w K mg base 1 "moved_row" ["polynomial", "ahead", "width"] (spMoved K T)) (h : Has K mg "resultant_in" 25) : Df P w K mg base 2 "resultant_in" ["one", "other"] (spRes K T) := by
  refine h.df sc_resultant_in (fun vs H Q E h => h.1) (fun _ _ _ _ _ _ us hl => match us, hl with | [_, _], _ => rfl) (fun f cdv A outer s H vs Q E hr h => ?_)
  have nd := sc_resultant_in.nd
  refine ⟨_, PSs.nox (pss_cons (ps_par (i := 2) (j := 3) rfl nd rfl rfl (by decide) rfl rfl (pa_cons (pe_op op_sub (pe_callB (lenK (K := K) rfl) (by rfl) B.len boot_len (pa_cons (pv 0) pa_nil)) pe_int) (pa_cons (pe_op op_sub (pe_callB (lenK (K := K) rfl) (by rfl) B.len boot_len (pa_cons (pv 1) pa_nil)) pe_int) pa_nil)) (by rfl)) (pss_cons (ps_set (i := 4) nd rfl (by first | exact Or.inl rfl | exact Or.inr rfl) (pe_op op_add (pv 2) (pv 3))) (pss_cons (ps_setLc (i := 5) (own := [("ahead", 7)]) (g := (gName 7)) rfl nd rfl rfl (sw_true rfl rfl rfl (by decide +kernel)) (pi_range1 rfl B.range (pa_cons (pv 3) pa_nil)) (blkOk_by (own := [("ahead", 7)]) (N := N_resultant_in) (sc := defScope (topS 25)) (by decide +kernel)) (fun _ _ _ _ _ => (pg_name (i := 7) nd rfl (by first | exact Or.inl rfl | exact Or.inr rfl))) (fun _ _ _ _ _ => pts_nil) (fun _ _ _ _ _ => (pe_callD D_moved_row hr (by decide) rfl (pa_cons (pv 0) (pa_cons (pv 7) (pa_cons (pv 4) pa_nil)))))) (pss_cons (ps_setLc (i := 6) (own := [("ahead", 7)]) (g := (gName 7)) rfl nd rfl rfl (sw_true rfl rfl rfl (by decide +kernel)) (pi_range1 rfl B.range (pa_cons (pv 2) pa_nil)) (blkOk_by (own := [("ahead", 7)]) (N := N_resultant_in) (sc := defScope (topS 25)) (by decide +kernel)) (fun _ _ _ _ _ => (pg_name (i := 7) nd rfl (by first | exact Or.inl rfl | exact Or.inr rfl))) (fun _ _ _ _ _ => pts_nil) (fun _ _ _ _ _ => (pe_callD D_moved_row hr (by decide) rfl (pa_cons (pv 1) (pa_cons (pv 7) (pa_cons (pv 4) pa_nil)))))) (pss_one (ps_ret (pe_callD D_determinant_in hr (by decide) rfl (pa_cons (pe_lst (pa_starK (K := K) rfl (pv 5) (pa_starK (K := K) rfl (pv 6) pa_nil))) pa_nil)))))))), ?_⟩
  obtain ⟨v1, v2, Hx, d1, d2, r, rfl, ht, ex, k1, k2, ⟨g, g', e, hg2, hg7, hgl, bg, bg', rfl⟩, q⟩ := sp2 h
  cases e
  obtain ⟨n, hn⟩ : ∃ n, g.length = n + 2 := ⟨g.length - 2, by omega⟩
  have hn' : g'.length = n + 1 := by omega
  have hv1 : EvD K T (tVar 0) (L2.start N_resultant_in [v1, v2]) Hx (dT g) := ed_var rfl k1
  have hv2 : EvD K T (tVar 1) (L2.start N_resultant_in [v1, v2]) Hx (dT g') := ed_var rfl k2
  refine q_par (K := K) (d1 := dI ((n + 1 : Nat) : Int)) (d2 := dI (n : Nat)) (.start ex) (ea_cons (ed_int (ev_is (ei_sub (ei_len (.inr hv1)) ev_c) (by rw [List.length_map, hn]; congr 1; omega))) (ea_cons (ed_int (ev_is (ei_sub (ei_len (.inr hv2)) ev_c) (by rw [List.length_map, hn']; congr 1; omega))) ea_nil)) fun v w' Hb1 H1 n1 kv kw => ?_
  cases kv
  cases kw
  refine q_asgV n1.st (v := .int ((n + 1 + n : Nat) : Int)) (ev_is (ei_add (ev_var rfl) (ev_var rfl)) (by congr 1)) fun H2 n2 => ?_
  have row : ∀ (i m : Nat) (c : List Int) (v : V) (σ : L2.St) (Hb : Hp), σ[i]? = some (some v) → Dp K Hb v (dT c) → σ[4]? = some (some (.int ((n + 1 + n : Nat) : Int))) → σ.length = 8 → m + c.length ≤ n + 1 + n + 1 → i < 7 → m ≤ 7 → ∀ (k : Nat), σ[k]? = some (some (.int (m : Nat))) → k < 7 →
      EvN K T (tLc (iRng1 (tCons (tVar k) tNil)) (gName 7) tYes (tCall (spMoved K T) [] L2.E0 (tCons (tVar i) (tCons (tVar 7) (tCons (tVar 4) tNil)))) [7]) σ Hb ((rowsOf intOps c (n + 1 + n) m).map dL) := by
    intro i m c v σ Hb hi kc h4 hl hm hi7 hm7 k hk hk7
    refine en_is (en_lcAll (n := (m : Int).toNat) (fun a => dL (padRow intOps c (n + 1 + n) a)) (it_r1 (j := 7) (ev_var hk) (by omega)) (by omega) fun a σ2 Hy ha sb hS => ?_) ?_
    · obtain rfl := hS
      have hw : wipe σ [7] = σ.set 7 none := rfl
      rw [Int.toNat_natCast] at ha
      have g1 : ((wipe σ [7]).set 7 (some (.int (0 + (a : Int)))))[i]? = some (some v) := by rw [hw, List.set_set, List.getElem?_set_ne (by omega)]; exact hi
      have g2 : ((wipe σ [7]).set 7 (some (.int (0 + (a : Int)))))[4]? = some (some (.int ((n + 1 + n : Nat) : Int))) := by rw [hw, List.set_set, List.getElem?_set_ne (by omega)]; exact h4
      have g3 : ((wipe σ [7]).set 7 (some (.int (0 + (a : Int)))))[7]? = some (some (.int (a : Nat))) := by rw [List.getElem?_set_self (by rw [hw, List.length_set, hl]; decide), Int.zero_add]
      refine ⟨by rw [hw]; show ((σ.set 7 none).set 7 _).set 7 none = _; rw [List.set_set, List.set_set], ed_call (ea_cons (ed_var g1 (Dp.sub sb _ _ kc)) (ea_cons (ed_vari g3) (ea_cons (ed_vari g2) ea_nil))) ⟨c, a, n + 1 + n, rfl, by omega, by omega, rfl⟩⟩
    · rw [Int.toNat_natCast]
      unfold K8.rowsOf
      rw [List.map_map]
      rfl
  refine q_asg (K := K) n2.st (ed_new (row 0 n g v1 _ _ rfl (n1.dp k1) rfl rfl (by omega) (by decide) (by omega) 3 rfl (by decide))) fun vu Hb3 H3 n3 ku => ?_
  refine q_asg (K := K) n3.st (ed_new (row 1 (n + 1) g' v2 _ _ rfl (n3.dp (n1.dp k2)) rfl rfl (by omega) (by decide) (by omega) 2 rfl (by decide))) fun vl Hb4 H4 n4 kl => ?_
  have esyl : syl intOps g g' = rowsOf intOps g (n + 1 + n) n ++ rowsOf intOps g' (n + 1 + n) (n + 1) := by
    unfold K8.syl
    rw [hn, hn', show n + 2 - 1 = n + 1 by omega, show n + 1 - 1 = n by omega]
  have hrow : ∀ r, r ∈ syl intOps g g' → ∃ c a, (c = g ∨ c = g') ∧ a + c.length ≤ n + 1 + n + 1 - 0 ∧ a + c.length ≤ n + 1 + n + 0 + 1 ∧ r = padRow intOps c (n + 1 + n) a ∧ a + c.length ≤ n + 1 + n := fun r hr => by
    rw [esyl] at hr
    rcases List.mem_append.mp hr with z | z
    · unfold K8.rowsOf at z
      obtain ⟨a, ha, rfl⟩ := List.mem_map.mp z
      have := List.mem_range.mp ha
      exact ⟨g, a, .inl rfl, by omega, by omega, rfl, by omega⟩
    · unfold K8.rowsOf at z
      obtain ⟨a, ha, rfl⟩ := List.mem_map.mp z
      have := List.mem_range.mp ha
      exact ⟨g', a, .inr rfl, by omega, by omega, rfl, by omega⟩
  refine s_ret n4.st (ed_is (ed_call (ea_cons (ed_new (en_lst (ea_is (ea_star (.inl (ed_var rfl (n4.dp ku))) (ea_star (.inl (ed_var rfl kl)) ea_nil)) (by rw [List.append_nil, ← List.map_append, ← esyl])) ?_)) ea_nil) ⟨syl intOps g g', n + 1 + n, rfl, by omega, ?_, fun r hr => ?_, matOf_bound fun r hr x hx => ?_, rfl⟩) ?_) q
  · rw [List.length_map, esyl, List.length_append]
    unfold K8.rowsOf
    rw [List.length_map, List.length_map, List.length_range, List.length_range]
    omega
  · rw [esyl, List.length_append]
    unfold K8.rowsOf
    rw [List.length_map, List.length_map, List.length_range, List.length_range]
    omega
  · obtain ⟨c, a, hc, _, _, rfl, h3⟩ := hrow r hr
    exact K8.padRow_len h3
  · obtain ⟨c, a, hc, _, _, rfl, _⟩ := hrow r hr
    rcases pad_mem hx with z | rfl
    · rcases hc with rfl | rfl
      · exact bg _ z
      · exact bg' _ z
    · exact Nat.zero_le _
  · rw [hn, show n + 2 - 1 = n + 1 by omega, show n + 1 - 1 = n by omega]
/-! ### discriminant_in -/
abbrev N_discriminant_in : List Str := ["polynomial", "degree", "found"]
theorem sc_discriminant_in : FnScope N_discriminant_in ["polynomial"] (defScope (topS 26)) := ⟨rfl, rfl, rfl, by decide +kernel, rfl, by decide +kernel, by decide +kernel⟩
abbrev spDisc (K : PySem.W.Frag) (T : Tb) : Sp := spR K T 1 fun ds r => ∃ h : List Int, ds = [dT (h ++ [1])] ∧ 1 ≤ h.length ∧ h.length ≤ 6 ∧ (∀ x, x ∈ h → x.natAbs ≤ 10 ^ 7) ∧ r = dI (gdiscD intOps (h ++ [1]))
theorem df_disc (B : Bi K mg) (D_resultant_in : Df P w K mg base 2 "resultant_in" ["one", "other"] (spRes K T)) (D_derivative_in : Df P w K mg base 2 "derivative_in" ["polynomial"] (spDeriv K T)) (h : Has K mg "discriminant_in" 26) : Df P w K mg base 3 "discriminant_in" ["polynomial"] (spDisc K T) := by
  refine h.df sc_discriminant_in (fun vs H Q E h => h.1) (fun _ _ _ _ _ _ us hl => match us, hl with | [_], _ => rfl) (fun f cdv A outer s H vs Q E hr h => ?_)
  have nd := sc_discriminant_in.nd
  refine ⟨_, PSs.nox (pss_cons (ps_set (i := 1) nd rfl (by first | exact Or.inl rfl | exact Or.inr rfl) (pe_op op_sub (pe_callB (lenK (K := K) rfl) (by rfl) B.len boot_len (pa_cons (pv 0) pa_nil)) pe_int)) (pss_cons (ps_set (i := 2) nd rfl (by first | exact Or.inl rfl | exact Or.inr rfl) (pe_op op_fdivW (pe_callD D_resultant_in hr (by decide) rfl (pa_cons (pv 0) (pa_cons (pe_callD D_derivative_in hr (by decide) rfl (pa_cons (pv 0) pa_nil)) pa_nil))) (pe_ix (ixT (K := K) rfl) (pv 0) (pe_un un_neg pe_int) (fun _ _ => rfl)))) (pss_one (ps_ret (pe_ifExp (pt_cmpR op_eq (pe_op op_mod (pe_op op_fdivW (pe_op op_mulW (pv 1) (pe_op op_sub (pv 1) pe_int)) pe_int) pe_int) pe_int (nomark _)) (pv 2) (pe_un un_neg (pv 2))))))), ?_⟩
  obtain ⟨v1, Hx, d1, r, rfl, ht, ex, k1, ⟨g, e, hg1, hg6, hb, rfl⟩, q⟩ := sp1 h
  cases e
  have hv1 : EvD K T (tVar 0) (L2.start N_discriminant_in [v1]) Hx (dT (g ++ [1])) := ed_var rfl k1
  have hl : (g ++ [1]).length = g.length + 1 := by simp
  have hb' : ∀ x, x ∈ g ++ [1] → x.natAbs ≤ 10 ^ 7 := fun x hx => by
    rcases List.mem_append.mp hx with z | z
    · exact hb x z
    · rw [List.mem_singleton.mp z]; decide
  have hd := derivL_mem (by omega) hb'
  obtain ⟨dr, edr, hdr⟩ := derivL_monic hg1
  obtain ⟨X, hX⟩ : ∃ X, X = K8.det ((g ++ [1]).length - 1 + ((g ++ [1]).length - 1 - 1)) (matOf (syl intOps (g ++ [1]) (derivL intOps (g ++ [1])))) := ⟨_, rfl⟩
  refine q_asgV (.start ex) (v := .int (g.length : Int)) ((ev_is (ei_sub (ei_len (.inr hv1)) ev_c) (by rw [List.length_map, hl]; congr 1; omega)).mono ex) fun H1 n1 => ?_
  have c1 : (derivL intOps (g ++ [1])).length + 1 = (g ++ [1]).length := by rw [edr, List.length_append, hl, hdr, List.length_singleton]; omega
  have c2 : ∀ x, x ∈ g ++ [1] → x.natAbs ≤ 10 ^ 8 := fun x hx => by have := hb' x hx; omega
  have c3 : ∀ x, x ∈ derivL intOps (g ++ [1]) → x.natAbs ≤ 10 ^ 8 := fun x hx => by have := hd x hx; omega
  have hv2 : EvD K T (tVar 0) [some v1, some (.int (g.length : Int)), none] Hx (dT (g ++ [1])) := ed_var rfl k1
  refine q_asgV n1.st (v := .int X) ((ev_is (ei_opC (i := X) (j := 1) (g := fun i j => V.int (i / j)) (ei (ed_call (d := dI X) (ea_cons hv2 (ea_cons (ed_call (d := dT (derivL intOps (g ++ [1]))) (ea_cons hv2 ea_nil) ⟨g, rfl, hg1, by omega, hb, rfl⟩) ea_nil)) ⟨g ++ [1], derivL intOps (g ++ [1]), rfl, by omega, by omega, c1, c2, c3, by rw [hX]⟩)) (ei (ed_ixT (d := dI 1) hv2 (ev_neg ev_c) (by rw [List.map_append]; exact atI_last _ _))) ⟨by decide, by decide +kernel⟩) (by rw [Int.ediv_one])).mono n1.st.eb) fun H2 n2 => ?_
  refine s_ret n2.st (ed_is (d := dI (if g.length * (g.length - 1) / 2 % 2 = 0 then X else -X)) (ed_if (b := decide (g.length * (g.length - 1) / 2 % 2 = 0)) ?_ (fun hc => ?_) fun hc => ?_) ?_) q
  · refine et_is (et_test (ei_eq (i := ((g.length * (g.length - 1) / 2 % 2 : Nat) : Int)) (j := 0) (ev_is (ei_opC (g := fun i j => V.int (i % j)) (ei_opC (g := fun i j => V.int (i / j)) (ei_opC (g := fun i j => V.int (i * j)) (ev_var rfl) (ei_sub (ev_var rfl) ev_c) (w2 (big_of ?_) (big_of ?_))) ev_c ⟨by decide, by decide +kernel⟩) ev_c (by decide)) ?_) ev_c)) ?_
    · rw [Int.natAbs_natCast]; exact Nat.lt_of_lt_of_le (by omega : g.length < 100) (by decide +kernel)
    · exact Nat.lt_of_lt_of_le (by omega : ((g.length : Int) - 1).natAbs < 100) (by decide +kernel)
    · congr 1
      rw [show ((g.length : Int) - 1) = ((g.length - 1 : Nat) : Int) by omega, ← Int.natCast_mul]
      omega
    · rw [decide_eq_decide]; omega
  · rw [if_pos (of_decide_eq_true hc)]
    exact ed_vari rfl
  · rw [if_neg (of_decide_eq_false hc)]
    exact ed_int (ev_neg (ev_var rfl))
  · rw [K8.gdiscD_det (cr := g.reverse) (by rw [List.reverse_append]; rfl) (by omega), ← hX]
    unfold K8.signed
    rw [hl, Nat.add_sub_cancel]
    congr 1
    split
    · rfl
    · show -X = 0 - X
      omega
end
end KW

/-! text K8W6 -/
set_option Elab.async false
set_option linter.all false
set_option maxRecDepth 100000
set_option maxHeartbeats 4000000
namespace KW
open PySem PySem.Spec PyProof.Rows L2 StX
open K8 (trim rests divided monics dsteps facsOf mons divLoop subAt)
theorem mons_len (p : Nat) : ∀ d b, b ∈ mons p d → b.length = d ∧ ∀ x, x ∈ b → 0 ≤ x ∧ x < p
  | 0, b, h => by
    have : b = [] := List.mem_singleton.mp h
    rw [this]
    exact ⟨rfl, fun x hx => absurd hx (by simp)⟩
  | d + 1, b, h => by
    obtain ⟨c, hc, hb⟩ := List.mem_flatMap.mp h
    obtain ⟨r, hr, rfl⟩ := List.mem_map.mp hb
    obtain ⟨h1, h2⟩ := mons_len p d c hc
    have hr := List.mem_range.mp hr
    refine ⟨by simp [h1], fun x hx => ?_⟩
    rcases List.mem_append.mp hx with z | z
    · exact h2 x z
    · rw [List.mem_singleton.mp z]; omega
theorem mons_count (p : Nat) : ∀ d, (mons p d).length = p ^ d
  | 0 => rfl
  | d + 1 => by
    have h : ∀ l : List (List Int), (l.flatMap fun b => (List.range p).map fun r : Nat => b ++ [(r : Int)]).length = l.length * p := fun l => by
      induction l with
      | nil => simp
      | cons x xs ih => rw [List.flatMap_cons, List.length_append, ih, List.length_map, List.length_range, List.length_cons, Nat.succ_mul, Nat.add_comm]
    show (List.flatMap _ _).length = _
    rw [h, mons_count p d, Nat.pow_succ]
theorem pre2_mons (p d : Nat) : pre2 (fun _ => p) (fun a b => dT ((mons p d).getD a [] ++ [(b : Int)])) (mons p d).length = (mons p (d + 1)).map dT := by
  have h : ∀ l : List (List Int), pre2 (fun _ => p) (fun a b => dT (l.getD a [] ++ [(b : Int)])) l.length = (l.flatMap fun b => (List.range p).map fun r : Nat => b ++ [(r : Int)]).map dT := fun l => by
    unfold pre2
    have e : l = (List.range l.length).map fun a => l.getD a [] := by
      apply List.ext_getElem
      · simp
      · intro i h1 h2
        simp [List.getD_eq_getElem?_getD, List.getElem?_eq_getElem h1]
    conv => rhs; rw [e]
    rw [List.map_flatMap, List.flatMap_map]
    congr 1
    funext a
    rw [List.map_map]
    rfl
  exact h _
section
variable {P : Program} {w : World} {K : PySem.W.Frag} {mg : Str → Option Value} {base : Heap} {T : Tb}
/-! ### monic_of_degree -/
abbrev N_monic_of_degree : List Str := ["prime", "degree", "found", "turn", "begun", "rest"]
theorem sc_monic_of_degree : FnScope N_monic_of_degree ["prime", "degree"] (defScope (topS 29)) := ⟨rfl, rfl, rfl, by decide +kernel, rfl, by decide +kernel, by decide +kernel⟩
abbrev spMon (K : PySem.W.Frag) (T : Tb) : Sp := spR K T 2 fun ds r => ∃ p d : Nat, ds = [dI p, dI d] ∧ IsP p ∧ d ≤ 8 ∧ p ^ d ≤ 400 ∧ r = .list ((monics p d).map dT)
theorem df_mon (B : Bi K mg) (h : Has K mg "monic_of_degree" 29) : Df P w K mg base 1 "monic_of_degree" ["prime", "degree"] (spMon K T) := by
  refine h.df sc_monic_of_degree (fun vs H Q E h => h.1) (fun _ _ _ _ _ _ us hl => match us, hl with | [_, _], _ => rfl) (fun f cdv A outer s H vs Q E hr h => ?_)
  have nd := sc_monic_of_degree.nd
  refine ⟨_, PSs.nox (pss_cons (ps_set (i := 2) nd rfl (by first | exact Or.inl rfl | exact Or.inr rfl) (pe_lst (pa_cons (pe_tup pa_nil) pa_nil))) (pss_cons (ps_for PassesOwn.never rfl (pi_range1 rfl B.range (pa_cons (pv 1) pa_nil)) (pg_name (i := 3) nd rfl (by first | exact Or.inl rfl | exact Or.inr rfl)) (pss_one (ps_setLc2 (i := 2) (own := [("begun", 4), ("rest", 5)]) (g := (gName 4)) (vs1 := [5]) rfl nd rfl rfl (sw_true rfl rfl rfl (by decide +kernel)) (pi_list (pv 2)) (blkOk_by (own := [("begun", 4), ("rest", 5)]) (N := N_monic_of_degree) (sc := defScope (topS 29)) (by decide +kernel)) (by decide) (fun _ _ _ _ _ => (pg_name (i := 4) nd rfl (by first | exact Or.inl rfl | exact Or.inr rfl))) (fun _ _ _ _ _ => pts_nil) (fun _ _ _ _ _ => (pi_range1 rfl B.range (pa_cons (pv 0) pa_nil))) (fun _ _ _ _ _ => (pg_name (i := 5) nd rfl (by first | exact Or.inl rfl | exact Or.inr rfl))) (fun _ _ _ _ _ => pts_nil) (fun _ _ _ _ _ => (pe_tup (pa_starK (K := K) rfl (pv 4) (pa_cons (pv 5) pa_nil))))))) (pss_one (ps_ret (pe_lc (own := [("begun", 4)]) (g := (gName 4)) rfl nd (pi_list (pv 2)) (blkOk_by (own := [("begun", 4)]) (N := N_monic_of_degree) (sc := defScope (topS 29)) (by decide +kernel)) (fun _ _ _ _ _ => (pg_name (i := 4) nd rfl (by first | exact Or.inl rfl | exact Or.inr rfl))) (fun _ _ _ _ _ => pts_nil) (fun _ _ _ _ _ => (pe_tup (pa_starK (K := K) rfl (pv 4) (pa_cons pe_int pa_nil))))))))), ?_⟩
  obtain ⟨v1, v2, Hx, d1, d2, r, rfl, ht, ex, k1, k2, ⟨p, d, e, hp, hd, hpd, rfl⟩, q⟩ := sp2 h
  cases e
  cases k1
  cases k2
  have hp2 := hp.lo
  have hp7 := hp.hi
  refine q_asg (K := K) (d := .list ((mons p 0).map dT)) (.start ex) (ed_new (en_lst (ea_cons (ed_tup ea_nil (by decide)) ea_nil) (Nat.le_of_ble_eq_true rfl))) fun v Hb1 H1 n1 kv => ?_
  refine s_forR1 (T := T) (g := 3) (n := (d : Int)) n1.st (ev_var rfl) (by omega) (fun i σ' H' => ∃ (Hb' : Hp) (v : V) (a3 a4 a5 : Option V), Stt T Hx H Hb' H' ∧ Dp K Hb' v (.list ((mons p i).map dT)) ∧ i ≤ d ∧ σ' = [some (.int p), some (.int d), some v, a3, a4, a5]) ?_ ?_ ?_
  · intro H2 n2
    exact ⟨Hb1, v, none, none, none, n2.st, kv, Nat.zero_le _, rfl⟩
  · rintro i σ' H' hi ⟨Hb', v', a3, a4, a5, S, kv', _, rfl⟩
    have hi : i < d := by omega
    have hpi : p ^ i ≤ 400 := Nat.le_trans (Nat.pow_le_pow_right (by omega) (by omega)) hpd
    have hml : (mons p i).length ≤ 400 := by rw [mons_count]; exact hpi
    refine s_asg (K := K) (d := .list ((mons p (i + 1)).map dT)) S (ed_new (en_is (en_lc2 (n := ((mons p i).map dT).length) (fun _ => p) (fun a b => dT ((mons p i).getD a [] ++ [(b : Int)])) (it_list (j := 4) (ed_var rfl kv')) (by rw [List.length_map]; omega) (fun _ _ => by omega) fun a σ2 Hy ha sb hS => ?_) (by rw [List.length_map]; exact pre2_mons p i))) fun w' Hb2 H2 n2 kw => ?_
    · obtain ⟨vb, db, h1, h2, rfl⟩ := hS
      rw [List.length_map] at ha
      rw [List.getElem?_map, List.getElem?_eq_getElem ha] at h1
      cases h1
      have eg : (mons p i).getD a [] = (mons p i)[a] := by rw [List.getD_eq_getElem?_getD, List.getElem?_eq_getElem ha]; rfl
      have hl := (mons_len p i _ (List.getElem_mem ha)).1
      refine ⟨rfl, SInt 5 0, it_r1 (n := (p : Int)) (ev_var rfl) (by omega), fun b σ3 Hz hb sz hS => ⟨?_, ?_⟩⟩
      · obtain rfl := hS; rfl
      · obtain rfl := hS
        rw [eg]
        refine ed_is (ed_tup (ea_star (.inr (ed_var rfl (Dp.sub sz _ _ h2))) (ea_cons (ed_vari (n := (b : Int)) (by rw [Int.zero_add]; rfl)) ea_nil)) (by rw [List.length_append, List.length_map, hl]; simp only [List.length_singleton]; omega)) ?_
        show PyData.tuple _ = PyData.tuple _
        rw [List.map_append]
        rfl
    · exact ⟨Hb2, w', _, _, _, n2.st, kw, hi, rfl⟩
  · rintro σ' H' ⟨Hb', v', a3, a4, a5, S, kv', _, rfl⟩
    rw [Int.toNat_natCast] at kv'
    have hml : (mons p d).length ≤ 400 := by rw [mons_count]; exact hpd
    refine s_ret S (ed_new (en_is (en_lcM (j := 4) (fun x => match x with | .tuple ds => .tuple (ds ++ [.int 1]) | y => y) (it_list (ed_var rfl kv')) (by rw [List.length_map]; omega) fun x hx v Hy sb hv => ⟨rfl, ?_⟩) ?_)) q
    · obtain ⟨b, hb, rfl⟩ := List.mem_map.mp hx
      have hl := (mons_len p d _ hb).1
      exact ed_tup (ea_star (.inr (ed_var rfl hv)) (ea_cons (ed_int ev_c) ea_nil)) (by rw [List.length_append, List.length_map, hl]; simp only [List.length_singleton]; omega)
    · unfold K8.monics
      rw [List.map_map, List.map_map]
      apply List.map_congr_left
      intro b _
      show PyData.tuple _ = PyData.tuple _
      rw [List.map_append]
      rfl
/-! ### divisor_steps -/
abbrev N_divisor_steps : List Str := ["prime", "polynomial", "divisor", "many", "left", "quotient", "rest"]
theorem sc_divisor_steps : FnScope N_divisor_steps ["prime", "polynomial", "divisor"] (defScope (topS 30)) := ⟨rfl, rfl, rfl, by decide +kernel, rfl, by decide +kernel, by decide +kernel⟩
theorem trim_len : ∀ l : List Int, (trim l).length ≤ l.length := fun l => by
  induction l with
  | nil => exact Nat.le_refl _
  | cons x xs ih =>
    unfold trim
    cases e : trim xs with
    | nil => by_cases hx : x = 0 <;> simp [hx]
    | cons y ys => rw [e] at ih; simp only [List.length_cons] at ih ⊢; omega
theorem divLoop_len (F : List Int) (s : Nat) : ∀ (k : Nat) (q l : List Int), (divLoop F s k q l).1.length = q.length ∧ (divLoop F s k q l).2.length = l.length
  | 0, _, _ => ⟨rfl, rfl⟩
  | k + 1, q, l => by
    unfold K8.divLoop
    obtain ⟨h1, h2⟩ := divLoop_len F s k (q.set k (l.getD (k + s) 0)) (subAt l k (l.getD (k + s) 0) F)
    rw [h1, h2, List.length_set, K8.subAt_len]
    exact ⟨rfl, rfl⟩
theorem divided_len (g F : List Int) : (divided g F).1.length ≤ g.length - (F.length - 1) ∧ (divided g F).2.length ≤ g.length := by
  unfold K8.divided
  obtain ⟨h1, h2⟩ := divLoop_len F (F.length - 1) (g.length - (F.length - 1)) (List.replicate (g.length - (F.length - 1)) 0) g
  have t1 := trim_len (divLoop F (F.length - 1) (g.length - (F.length - 1)) (List.replicate (g.length - (F.length - 1)) 0) g).1
  have t2 := trim_len (divLoop F (F.length - 1) (g.length - (F.length - 1)) (List.replicate (g.length - (F.length - 1)) 0) g).2
  rw [h1, List.length_replicate] at t1
  rw [h2] at t2
  exact ⟨t1, t2⟩
theorem rests_small {p : Nat} (hp : IsP p) (g : List Int) : ∀ x, x ∈ rests p g → x.natAbs ≤ 7 := fun x hx => by
  obtain ⟨y, _, rfl⟩ := List.mem_map.mp (K8.trim_sub hx)
  have := hp.lo
  have := hp.hi
  have h1 := Int.emod_nonneg y (b := (p : Int)) (by omega)
  have h2 := Int.emod_lt_of_pos y (show (0 : Int) < (p : Int) by omega)
  omega
abbrev spSteps (K : PySem.W.Frag) (T : Tb) : Sp := spR K T 3 fun ds r => ∃ (p : Nat) (g F : List Int), ds = [dI p, dT g, dT F] ∧ IsP p ∧ g.length ≤ 20 ∧ 2 ≤ F.length ∧ F.length ≤ 20 ∧ (∀ x, x ∈ g → x.natAbs ≤ 7) ∧ (∀ x, x ∈ F → x.natAbs ≤ 7) ∧ r = .tuple [dI (dsteps p F g.length g).1, dT (dsteps p F g.length g).2]
theorem df_steps (B : Bi K mg) (D_rests_in : Df P w K mg base 2 "rests_in" ["prime", "polynomial"] (spRests K T)) (D_divided_in : Df P w K mg base 2 "divided_in" ["polynomial", "monic"] (spDiv K T)) (h : Has K mg "divisor_steps" 30) : Df P w K mg base 3 "divisor_steps" ["prime", "polynomial", "divisor"] (spSteps K T) := by
  refine h.df sc_divisor_steps (fun vs H Q E h => h.1) (fun _ _ _ _ _ _ us hl => match us, hl with | [_, _, _], _ => rfl) (fun f cdv A outer s H vs Q E hr h => ?_)
  have nd := sc_divisor_steps.nd
  refine ⟨_, PSs.nox (pss_cons (ps_par (i := 3) (j := 4) rfl nd rfl rfl (by decide) rfl rfl (pa_cons pe_int (pa_cons (pv 1) pa_nil)) (by rfl)) (pss_cons (ps_asg (pe_callD D_divided_in hr (by decide) rfl (pa_cons (pv 4) (pa_cons (pv 2) pa_nil))) (pg_tup rfl (pgs_cons (pg_name (i := 5) nd rfl (by first | exact Or.inl rfl | exact Or.inr rfl)) (pgs_cons (pg_name (i := 6) nd rfl (by first | exact Or.inl rfl | exact Or.inr rfl)) pgs_nil)))) (pss_cons (ps_while PassesOwn.never (PW.pt (pw_and (pt_cmpR op_ge (pe_callB (lenK (K := K) rfl) (by rfl) B.len boot_len (pa_cons (pv 4) pa_nil)) (pe_callB (lenK (K := K) rfl) (by rfl) B.len boot_len (pa_cons (pv 2) pa_nil)) (nomark _)) (pw_and1 (pt_cmpR (eqDK (K := K) rfl hr.units) (pe_callD D_rests_in hr (by decide) rfl (pa_cons (pv 0) (pa_cons (pv 6) pa_nil))) (pe_tup pa_nil) (nomark _))))) (pss_cons (ps_par (i := 3) (j := 4) rfl nd rfl rfl (by decide) rfl rfl (pa_cons (pe_op op_add (pv 3) pe_int) (pa_cons (pe_callD D_rests_in hr (by decide) rfl (pa_cons (pv 0) (pa_cons (pv 5) pa_nil))) pa_nil)) (by rfl)) (pss_one (ps_asg (pe_callD D_divided_in hr (by decide) rfl (pa_cons (pv 4) (pa_cons (pv 2) pa_nil))) (pg_tup rfl (pgs_cons (pg_name (i := 5) nd rfl (by first | exact Or.inl rfl | exact Or.inr rfl)) (pgs_cons (pg_name (i := 6) nd rfl (by first | exact Or.inl rfl | exact Or.inr rfl)) pgs_nil))))))) (pss_one (ps_ret (pe_tup (pa_cons (pv 3) (pa_cons (pv 4) pa_nil)))))))), ?_⟩
  obtain ⟨v1, v2, v3, Hx, d1, d2, d3, r, rfl, ht, ex, k1, k2, k3, ⟨p, g, F, e, hp, hg, hF2, hF, bg, bF, rfl⟩, q⟩ := sp3 h
  cases e
  cases k1
  have hp0 : (0 : Int) < (p : Int) := by have := hp.lo; omega
  refine q_par (K := K) (d1 := dI 0) (d2 := dT g) (.start ex) (ea_cons (ed_int ev_c) (ea_cons (ed_var rfl k2) ea_nil)) fun v w' Hb1 H1 n1 kv kw => ?_
  cases kv
  refine q_tup (K := K) (ds := [dT (divided g F).1, dT (divided g F).2]) n1.st (ed_call (ea_cons (ed_var rfl kw) (ea_cons (ed_var rfl (n1.dp k3)) ea_nil)) ⟨g, F, rfl, hg, by omega, hF, bg, bF, rfl⟩) rfl fun vs Hb2 H2 n2 kk => ?_
  obtain ⟨vq, vr, rfl, kq, kr⟩ := dp2 kk
  refine gs2 ?_
  refine q_while (T := T) (fun m σ' H' => ∃ (Hb' : Hp) (mn : Int) (l : List Int) (vl vq vr : V), Stt T Hx H Hb' H' ∧ Dp K Hb' v3 (dT F) ∧ Dp K Hb' vl (dT l) ∧ Dp K Hb' vq (dT (divided l F).1) ∧ Dp K Hb' vr (dT (divided l F).2) ∧ l.length ≤ m ∧ m ≤ 20 ∧ (∀ x, x ∈ l → x.natAbs ≤ 7) ∧ mn + (dsteps p F m l).1 = (dsteps p F g.length g).1 ∧ (dsteps p F m l).2 = (dsteps p F g.length g).2 ∧
      σ' = [some (.int p), some v2, some v3, some (.int mn), some vl, some vq, some vr]) g.length ⟨Hb2, 0, g, w', vq, vr, n2.st, n2.dp (n1.dp k3), n2.dp kw, kq, kr, Nat.le_refl _, hg, bg, by rw [Int.zero_add], rfl, rfl⟩ ?_
  rintro m σ' H' ⟨Hb', mn, l, vl, vq, vr, S, kF, kl, kq, kr, hlm, hm, bl, e1, e2, rfl⟩
  have hdl := divided_len l F
  have hl : EvD K T (tVar 4) [some (.int p), some v2, some v3, some (.int mn), some vl, some vq, some vr] Hb' (dT l) := ed_var rfl kl
  have hF' : EvD K T (tVar 2) [some (.int p), some v2, some v3, some (.int mn), some vl, some vq, some vr] Hb' (dT F) := ed_var rfl kF
  have hr' : EvD K T (tVar 6) [some (.int p), some v2, some v3, some (.int mn), some vl, some vq, some vr] Hb' (dT (divided l F).2) := ed_var rfl kr
  have rl := rests_len p (divided l F).2
  refine ⟨decide (F.length ≤ l.length) && decide (rests p (divided l F).2 = []), S.e0.tabs, (et_and (et_test (ev_is (ei_op0 (g := fun i j => V.bl (decide (j ≤ i))) (ei_len (.inr hl)) (ei_len (.inr hF'))) ?_)) fun _ => et_test (ev_is (ed_eqD (d2 := dT []) (ed_call (d := dT (rests p (divided l F).2)) (ea_cons (ed_vari rfl) (ea_cons hr' ea_nil)) ⟨p, _, .inl rfl, hp0, by omega, rfl⟩) (ed_tup ea_nil (by decide)) (shT _ (by omega)) (shT _ (by decide))) (by rw [eqv_T]))).mono S.eb, fun hb H3 e3 => ?_, fun hb H3 e3 => ?_⟩
  · rw [List.length_map, List.length_map]
    congr 1
    rw [decide_eq_decide]
    omega
  · rw [Bool.and_eq_true] at hb
    have h1 := of_decide_eq_true hb.1
    have h2 := of_decide_eq_true hb.2
    obtain ⟨m', rfl⟩ : ∃ m', m = m' + 1 := ⟨m - 1, by omega⟩
    have ed : dsteps p F (m' + 1) l = ((dsteps p F m' (rests p (divided l F).1)).1 + 1, (dsteps p F m' (rests p (divided l F).1)).2) := by
      show (if _ then _ else _) = _
      rw [if_pos ⟨h1, h2⟩]
    rw [ed] at e1 e2
    have S3 := S.keep e3
    have rq := rests_len p (divided l F).1
    refine q_par (K := K) (d1 := dI (mn + 1)) (d2 := dT (rests p (divided l F).1)) S3 (ea_cons (ed_int (ei_add (ev_var rfl) ev_c)) (ea_cons (ed_call (ea_cons (ed_vari rfl) (ea_cons (ed_var rfl kq) ea_nil)) ⟨p, _, .inl rfl, hp0, by omega, rfl⟩) ea_nil)) fun va vb Hb4 H4 n4 ka kb => ?_
    cases ka
    refine s_tup (K := K) (ds := [dT (divided (rests p (divided l F).1) F).1, dT (divided (rests p (divided l F).1) F).2]) n4.st (ed_call (ea_cons (ed_var rfl kb) (ea_cons (ed_var rfl (n4.dp kF)) ea_nil)) ⟨_, F, rfl, by omega, by omega, hF, rests_small hp _, bF, rfl⟩) rfl fun vs Hb5 H5 n5 kk => ?_
    obtain ⟨vq', vr', rfl, kq', kr'⟩ := dp2 kk
    exact gs2 ⟨m', by omega, Hb5, mn + 1, rests p (divided l F).1, vb, vq', vr', n5.st, n5.dp (n4.dp kF), n5.dp kb, kq', kr', by omega, by omega, rests_small hp _, by rw [← e1]; omega, e2, rfl⟩
  · have ed : dsteps p F m l = (0, l) := by
      cases m with
      | zero => rfl
      | succ m' =>
        show (if _ then _ else _) = _
        rw [if_neg]
        rintro ⟨h1, h2⟩
        rw [decide_eq_true h1, decide_eq_true h2] at hb
        cases hb
    rw [ed] at e1 e2
    refine s_ret (S.keep e3) (ed_is (ed_tup (ea_cons (ed_vari rfl) (ea_cons hl ea_nil)) (Nat.le_of_ble_eq_true rfl)) ?_) q
    rw [← e1, ← e2]
    show PyData.tuple [PyData.int mn, _] = PyData.tuple [PyData.int (mn + 0), _]
    rw [Int.add_zero]
end
end KW

/-! text K8W7 -/
set_option Elab.async false
set_option linter.all false
set_option maxRecDepth 100000
set_option maxHeartbeats 4000000
namespace KW
open PySem PySem.Spec PyProof.Rows L2 StX
open K8 (trim rests divided monics dsteps facsOf gdiscD intOps)
def facs (p : Nat) (g : List Int) : List (List Int × Int) := sortF (facsOf p (g.map (· % (p : Int)) ++ [1]))
def irrL (l : List (List Int × Int)) : Bool := decide (l.length = 1) && decide ((l.getD 0 ([], 0)).2 = 1)
def lowIn (p d : Nat) : PyData := match (K8.mons p d).find? (fun b => irrL (facs p b)) with
  | some b => dT (b ++ [1])
  | none => .none
/-- the polynomial g ++ [1] is one that the law may hand in -/
structure OkG (g : List Int) : Prop where
  lo : 1 ≤ g.length
  hi : g.length ≤ 6
  bd : ∀ x, x ∈ g → x.natAbs ≤ 10 ^ 7
theorem OkG.okP {g : List Int} (h : OkG g) : OkP (g ++ [1]) := by
  refine ⟨by have := h.hi; simp; omega, fun x hx => ?_, g, 1, rfl, by decide⟩
  rcases List.mem_append.mp hx with z | z
  · have := h.bd x z
    have e : (10 : Int) ^ 60 = ((10 ^ 60 : Nat) : Int) := by decide +kernel
    rw [e]
    have : (10 : Nat) ^ 7 < 10 ^ 60 := by decide +kernel
    omega
  · rw [List.mem_singleton.mp z]; exact ⟨by decide +kernel, by decide +kernel⟩
section
variable {P : Program} {w : World} {K : PySem.W.Frag} {mg : Str → Option Value} {base : Heap} {T : Tb}
abbrev spFactors (K : PySem.W.Frag) (T : Tb) : Sp := spR K T 2 fun ds r => ∃ (p : Nat) (g : List Int), ds = [dI p, dT (g ++ [1])] ∧ IsP p ∧ OkG g ∧ r = .list ((facs p g).map encP)
theorem atI_pair (l : List (List Int × Int)) (h : l.length = 1) : atI (l.map encP) 0 = some (encP (l.getD 0 ([], 0))) := by
  obtain ⟨x, rfl⟩ := List.length_eq_one_iff.mp h
  rfl
/-! ### is_irreducible_in -/
abbrev N_is_irreducible_in : List Str := ["prime", "polynomial", "found"]
theorem sc_is_irreducible_in : FnScope N_is_irreducible_in ["prime", "polynomial"] (defScope (topS 32)) := ⟨rfl, rfl, rfl, by decide +kernel, rfl, by decide +kernel, by decide +kernel⟩
abbrev spIrr (K : PySem.W.Frag) (T : Tb) : Sp := spR K T 2 fun ds r => ∃ (p : Nat) (g : List Int), ds = [dI p, dT (g ++ [1])] ∧ IsP p ∧ OkG g ∧ r = .bool (irrL (facs p g))
theorem df_irr (B : Bi K mg) (D_factors_in : Df P w K mg base 6 "factors_in" ["prime", "polynomial"] (spFactors K T)) (h : Has K mg "is_irreducible_in" 32) : Df P w K mg base 7 "is_irreducible_in" ["prime", "polynomial"] (spIrr K T) := by
  refine h.df sc_is_irreducible_in (fun vs H Q E h => h.1) (fun _ _ _ _ _ _ us hl => match us, hl with | [_, _], _ => rfl) (fun f cdv A outer s H vs Q E hr h => ?_)
  have nd := sc_is_irreducible_in.nd
  refine ⟨_, PSs.nox (pss_cons (ps_set (i := 2) nd rfl (by first | exact Or.inl rfl | exact Or.inr rfl) (pe_callD D_factors_in hr (by decide) rfl (pa_cons (pv 0) (pa_cons (pv 1) pa_nil)))) (pss_one (ps_ret (pe_and (pe_cmpR op_eq (pe_callB (lenK (K := K) rfl) (by rfl) B.len boot_len (pa_cons (pv 2) pa_nil)) pe_int (nomark _)) (pe_one (pe_cmpR op_eq (pe_ix (ixT (K := K) rfl) (pe_ix (ixL (K := K) rfl) (pv 2) pe_int (fun _ _ => rfl)) pe_int (fun _ _ => rfl)) pe_int (nomark _))))))), ?_⟩
  obtain ⟨v1, v2, Hx, d1, d2, r, rfl, ht, ex, k1, k2, ⟨p, g, e, hp, hg, rfl⟩, q⟩ := sp2 h
  cases e
  cases k1
  refine q_asg (K := K) (.start ex) (ed_call (ea_cons (ed_vari rfl) (ea_cons (ed_var rfl k2) ea_nil)) ⟨p, g, rfl, hp, hg, rfl⟩) fun v Hb1 H1 n1 kv => ?_
  have hv : EvD K T (tVar 2) [some (.int p), some v2, some v] Hb1 (.list ((facs p g).map encP)) := ed_var rfl kv
  refine s_ret n1.st (ed_bool (ev_andV (b := decide ((facs p g).length = 1)) (ev_is (ei_eq (ei_len (.inl hv)) ev_c) ?_) fun h1 => ei_eq (ei (ed_ixT (d := dI ((facs p g).getD 0 ([], 0)).2) (ed_ixL hv ev_c (atI_pair _ (of_decide_eq_true h1))) ev_c rfl)) ev_c)) q
  rw [List.length_map]
  congr 1
  rw [decide_eq_decide]
  omega
/-! ### the guards -/
abbrev N_require_not_divided : List Str := ["prime", "polynomial"]
theorem sc_require_not_divided : FnScope N_require_not_divided ["prime", "polynomial"] (defScope (topS 34)) := ⟨rfl, rfl, rfl, by decide +kernel, rfl, by decide +kernel, by decide +kernel⟩
abbrev spNotDiv (K : PySem.W.Frag) (T : Tb) : Sp := spR K T 2 fun ds r => ∃ (p : Nat) (g : List Int), ds = [dI p, dT (g ++ [1])] ∧ IsP p ∧ OkG g ∧ r = .none
theorem df_notDiv (B : Bi K mg) (D_rests_in : Df P w K mg base 2 "rests_in" ["prime", "polynomial"] (spRests K T)) (h : Has K mg "require_not_divided" 34) : Df P w K mg base 3 "require_not_divided" ["prime", "polynomial"] (spNotDiv K T) := by
  refine h.df sc_require_not_divided (fun vs H Q E h => h.1) (fun _ _ _ _ _ _ us hl => match us, hl with | [_, _], _ => rfl) (fun f cdv A outer s H vs Q E hr h => ?_)
  have nd := sc_require_not_divided.nd
  refine ⟨_, PSs.nox (pss_one (ps_if (pt_cmpR (eqDK (K := K) rfl hr.units) (pe_callD D_rests_in hr (by decide) rfl (pa_cons (pv 0) (pa_cons (pv 1) pa_nil))) (pe_tup pa_nil) (nomark _)) (pss_one ps_never) pss_nil)), ?_⟩
  obtain ⟨v1, v2, Hx, d1, d2, r, rfl, ht, ex, k1, k2, ⟨p, g, e, hp, hg, rfl⟩, q⟩ := sp2 h
  cases e
  cases k1
  have hl : (g ++ [1]).length ≤ 7 := by have := hg.hi; simp; omega
  have hp2 := hp.lo
  refine s_pass (.start ex) ((et_test (ev_is (ed_eqD (d2 := dT []) (ed_call (d := dT (rests p (g ++ [1]))) (ea_cons (ed_vari rfl) (ea_cons (ed_var rfl k2) ea_nil)) ⟨p, _, .inl rfl, by omega, by omega, rfl⟩) (ed_tup ea_nil (by decide)) (shT _ (by have := rests_len p (g ++ [1]); omega)) (shT _ (by decide))) ?_)).mono ex) fun H1 n1 => q_none n1.st q
  rw [eqv_T, rests_monic hp2, decide_eq_false (by simp)]
abbrev N_require_degree : List Str := ["polynomial"]
theorem sc_require_degree : FnScope N_require_degree ["polynomial"] (defScope (topS 35)) := ⟨rfl, rfl, rfl, by decide +kernel, rfl, by decide +kernel, by decide +kernel⟩
abbrev spReqD (K : PySem.W.Frag) (T : Tb) : Sp := spR K T 1 fun ds r => ∃ g : List Int, ds = [dT (g ++ [1])] ∧ OkG g ∧ r = .none
theorem df_reqD (B : Bi K mg) (D_require_polynomial : Df P w K mg base 4 "require_polynomial" ["polynomial"] (spReqG K T)) (h : Has K mg "require_degree" 35) : Df P w K mg base 5 "require_degree" ["polynomial"] (spReqD K T) := by
  refine h.df sc_require_degree (fun vs H Q E h => h.1) (fun _ _ _ _ _ _ us hl => match us, hl with | [_], _ => rfl) (fun f cdv A outer s H vs Q E hr h => ?_)
  have nd := sc_require_degree.nd
  refine ⟨_, PSs.nox (pss_cons (ps_expr (pe_callD D_require_polynomial hr (by decide) rfl (pa_cons (pv 0) pa_nil))) (pss_one (ps_if (pt_cmpR op_lt (pe_callB (lenK (K := K) rfl) (by rfl) B.len boot_len (pa_cons (pv 0) pa_nil)) pe_int (nomark _)) (pss_one ps_never) pss_nil))), ?_⟩
  obtain ⟨v1, Hx, d1, r, rfl, ht, ex, k1, ⟨g, e, hg, rfl⟩, q⟩ := sp1 h
  cases e
  have hv : EvD K T (tVar 0) (L2.start N_require_degree [v1]) Hx (dT (g ++ [1])) := ed_var rfl k1
  refine q_drop (K := K) (d := .none) (.start ex) (ed_call (ea_cons hv ea_nil) ⟨_, rfl, hg.okP, rfl⟩) fun H1 n1 => ?_
  refine s_pass n1.st ((et_test (ev_is (ei_op0 (g := fun i j => V.bl (decide (i < j))) (ei_len (.inr hv)) ev_c) ?_)).mono n1.st.eb) fun H2 n2 => q_none n2.st q
  have := hg.lo
  rw [List.length_map, List.length_append, List.length_singleton, decide_eq_false (by omega)]
abbrev N_discriminant : List Str := ["polynomial"]
theorem sc_discriminant : FnScope N_discriminant ["polynomial"] (defScope (topS 36)) := ⟨rfl, rfl, rfl, by decide +kernel, rfl, by decide +kernel, by decide +kernel⟩
abbrev spDiscr (K : PySem.W.Frag) (T : Tb) : Sp := spR K T 1 fun ds r => ∃ g : List Int, ds = [dT (g ++ [1])] ∧ OkG g ∧ r = dI (gdiscD intOps (g ++ [1]))
theorem df_discr (B : Bi K mg) (D_require_degree : Df P w K mg base 5 "require_degree" ["polynomial"] (spReqD K T)) (D_discriminant_in : Df P w K mg base 3 "discriminant_in" ["polynomial"] (spDisc K T)) (h : Has K mg "discriminant" 36) : Df P w K mg base 6 "discriminant" ["polynomial"] (spDiscr K T) := by
  refine h.df sc_discriminant (fun vs H Q E h => h.1) (fun _ _ _ _ _ _ us hl => match us, hl with | [_], _ => rfl) (fun f cdv A outer s H vs Q E hr h => ?_)
  have nd := sc_discriminant.nd
  refine ⟨_, PSs.nox (pss_cons (ps_expr (pe_callD D_require_degree hr (by decide) rfl (pa_cons (pv 0) pa_nil))) (pss_one (ps_ret (pe_callD D_discriminant_in hr (by decide) rfl (pa_cons (pv 0) pa_nil))))), ?_⟩
  obtain ⟨v1, Hx, d1, r, rfl, ht, ex, k1, ⟨g, e, hg, rfl⟩, q⟩ := sp1 h
  cases e
  have hv : EvD K T (tVar 0) (L2.start N_discriminant [v1]) Hx (dT (g ++ [1])) := ed_var rfl k1
  refine q_drop (K := K) (d := .none) (.start ex) (ed_call (ea_cons hv ea_nil) ⟨_, rfl, hg, rfl⟩) fun H1 n1 => ?_
  exact s_ret n1.st (ed_call (ea_cons hv ea_nil) ⟨g, rfl, hg.lo, hg.hi, hg.bd, rfl⟩) q
abbrev N_require_modulo : List Str := ["prime", "polynomial"]
theorem sc_require_modulo : FnScope N_require_modulo ["prime", "polynomial"] (defScope (topS 37)) := ⟨rfl, rfl, rfl, by decide +kernel, rfl, by decide +kernel, by decide +kernel⟩
theorem df_reqM (B : Bi K mg) (D_require_prime : Df P w K mg base 3 "require_prime" ["prime"] (spReqP K T)) (D_require_polynomial : Df P w K mg base 4 "require_polynomial" ["polynomial"] (spReqG K T)) (D_require_not_divided : Df P w K mg base 3 "require_not_divided" ["prime", "polynomial"] (spNotDiv K T)) (h : Has K mg "require_modulo" 37) : Df P w K mg base 5 "require_modulo" ["prime", "polynomial"] (spNotDiv K T) := by
  refine h.df sc_require_modulo (fun vs H Q E h => h.1) (fun _ _ _ _ _ _ us hl => match us, hl with | [_, _], _ => rfl) (fun f cdv A outer s H vs Q E hr h => ?_)
  have nd := sc_require_modulo.nd
  refine ⟨_, PSs.nox (pss_cons (ps_expr (pe_callD D_require_prime hr (by decide) rfl (pa_cons (pv 0) pa_nil))) (pss_cons (ps_expr (pe_callD D_require_polynomial hr (by decide) rfl (pa_cons (pv 1) pa_nil))) (pss_one (ps_expr (pe_callD D_require_not_divided hr (by decide) rfl (pa_cons (pv 0) (pa_cons (pv 1) pa_nil))))))), ?_⟩
  obtain ⟨v1, v2, Hx, d1, d2, r, rfl, ht, ex, k1, k2, ⟨p, g, e, hp, hg, rfl⟩, q⟩ := sp2 h
  cases e
  cases k1
  have hv : EvD K T (tVar 1) (L2.start N_require_modulo [.int p, v2]) Hx (dT (g ++ [1])) := ed_var rfl k2
  refine q_drop (K := K) (d := .none) (.start ex) (ed_call (ea_cons (ed_vari rfl) ea_nil) ⟨_, rfl, hp, rfl⟩) fun H1 n1 => ?_
  refine q_drop (K := K) (d := .none) n1.st (ed_call (ea_cons hv ea_nil) ⟨_, rfl, hg.okP, rfl⟩) fun H2 n2 => ?_
  exact s_drop (K := K) (d := .none) n2.st (ed_call (ea_cons (ed_vari rfl) (ea_cons hv ea_nil)) ⟨p, g, rfl, hp, hg, rfl⟩) fun H3 n3 => q_none n3.st q
abbrev N_factors_modulo : List Str := ["prime", "polynomial"]
theorem sc_factors_modulo : FnScope N_factors_modulo ["prime", "polynomial"] (defScope (topS 38)) := ⟨rfl, rfl, rfl, by decide +kernel, rfl, by decide +kernel, by decide +kernel⟩
abbrev spFacM (K : PySem.W.Frag) (T : Tb) : Sp := spR K T 2 fun ds r => ∃ (p : Nat) (g : List Int), ds = [dI p, dT (g ++ [1])] ∧ IsP p ∧ OkG g ∧ r = .tuple ((facs p g).map encP)
theorem df_facM (B : Bi K mg) (D_require_modulo : Df P w K mg base 5 "require_modulo" ["prime", "polynomial"] (spNotDiv K T)) (D_factors_in : Df P w K mg base 6 "factors_in" ["prime", "polynomial"] (spFactors K T)) (h : Has K mg "factors_modulo" 38) : Df P w K mg base 7 "factors_modulo" ["prime", "polynomial"] (spFacM K T) := by
  refine h.df sc_factors_modulo (fun vs H Q E h => h.1) (fun _ _ _ _ _ _ us hl => match us, hl with | [_, _], _ => rfl) (fun f cdv A outer s H vs Q E hr h => ?_)
  have nd := sc_factors_modulo.nd
  refine ⟨_, PSs.nox (pss_cons (ps_expr (pe_callD D_require_modulo hr (by decide) rfl (pa_cons (pv 0) (pa_cons (pv 1) pa_nil)))) (pss_one (ps_ret (pe_callTy (tupK (K := K) rfl) (by rfl) B.tuple boot_tuple (pa_cons (pe_callD D_factors_in hr (by decide) rfl (pa_cons (pv 0) (pa_cons (pv 1) pa_nil))) pa_nil))))), ?_⟩
  obtain ⟨v1, v2, Hx, d1, d2, r, rfl, ht, ex, k1, k2, ⟨p, g, e, hp, hg, rfl⟩, q⟩ := sp2 h
  cases e
  cases k1
  have hv : EvD K T (tVar 1) (L2.start N_factors_modulo [.int p, v2]) Hx (dT (g ++ [1])) := ed_var rfl k2
  refine q_drop (K := K) (d := .none) (.start ex) (ed_call (ea_cons (ed_vari rfl) (ea_cons hv ea_nil)) ⟨p, g, rfl, hp, hg, rfl⟩) fun H1 n1 => ?_
  exact s_ret n1.st (ed_tupL (ed_call (ea_cons (ed_vari rfl) (ea_cons hv ea_nil)) ⟨p, g, rfl, hp, hg, rfl⟩)) q
abbrev N_is_irreducible_modulo : List Str := ["prime", "polynomial"]
theorem sc_is_irreducible_modulo : FnScope N_is_irreducible_modulo ["prime", "polynomial"] (defScope (topS 39)) := ⟨rfl, rfl, rfl, by decide +kernel, rfl, by decide +kernel, by decide +kernel⟩
theorem df_irrM (B : Bi K mg) (D_require_modulo : Df P w K mg base 5 "require_modulo" ["prime", "polynomial"] (spNotDiv K T)) (D_is_irreducible_in : Df P w K mg base 7 "is_irreducible_in" ["prime", "polynomial"] (spIrr K T)) (h : Has K mg "is_irreducible_modulo" 39) : Df P w K mg base 8 "is_irreducible_modulo" ["prime", "polynomial"] (spIrr K T) := by
  refine h.df sc_is_irreducible_modulo (fun vs H Q E h => h.1) (fun _ _ _ _ _ _ us hl => match us, hl with | [_, _], _ => rfl) (fun f cdv A outer s H vs Q E hr h => ?_)
  have nd := sc_is_irreducible_modulo.nd
  refine ⟨_, PSs.nox (pss_cons (ps_expr (pe_callD D_require_modulo hr (by decide) rfl (pa_cons (pv 0) (pa_cons (pv 1) pa_nil)))) (pss_one (ps_ret (pe_callD D_is_irreducible_in hr (by decide) rfl (pa_cons (pv 0) (pa_cons (pv 1) pa_nil)))))), ?_⟩
  obtain ⟨v1, v2, Hx, d1, d2, r, rfl, ht, ex, k1, k2, ⟨p, g, e, hp, hg, rfl⟩, q⟩ := sp2 h
  cases e
  cases k1
  have hv : EvD K T (tVar 1) (L2.start N_is_irreducible_modulo [.int p, v2]) Hx (dT (g ++ [1])) := ed_var rfl k2
  refine q_drop (K := K) (d := .none) (.start ex) (ed_call (ea_cons (ed_vari rfl) (ea_cons hv ea_nil)) ⟨p, g, rfl, hp, hg, rfl⟩) fun H1 n1 => ?_
  exact s_ret n1.st (ed_call (ea_cons (ed_vari rfl) (ea_cons hv ea_nil)) ⟨p, g, rfl, hp, hg, rfl⟩) q
/-! ### least_low -/
abbrev spLow (K : PySem.W.Frag) (T : Tb) : Sp := spR K T 2 fun ds r => ∃ p d : Nat, ds = [dI p, dI d] ∧ IsP p ∧ 1 ≤ d ∧ d ≤ 6 ∧ p ^ d ≤ 64 ∧ r = lowIn p d
abbrev N_least_low : List Str := ["prime", "size"]
theorem sc_least_low : FnScope N_least_low ["prime", "size"] (defScope (topS 40)) := ⟨rfl, rfl, rfl, by decide +kernel, rfl, by decide +kernel, by decide +kernel⟩
theorem df_low (B : Bi K mg) (D_require_prime : Df P w K mg base 3 "require_prime" ["prime"] (spReqP K T)) (D_is_integer : Df P w K mg base 2 "is_integer" ["value"] (spInteger K T)) (D_power_of : Df P w K mg base 1 "power_of" ["base", "count"] (spPow K T)) (D_least_low_in : Df P w K mg base 10 "least_low_in" ["prime", "size"] (spLow K T)) (h : Has K mg "least_low" 40) : Df P w K mg base 11 "least_low" ["prime", "size"] (spLow K T) := by
  refine h.df sc_least_low (fun vs H Q E h => h.1) (fun _ _ _ _ _ _ us hl => match us, hl with | [_, _], _ => rfl) (fun f cdv A outer s H vs Q E hr h => ?_)
  have nd := sc_least_low.nd
  refine ⟨_, PSs.nox (pss_cons (ps_expr (pe_callD D_require_prime hr (by decide) rfl (pa_cons (pv 0) pa_nil))) (pss_cons (ps_if (PW.pt (pw_or (pt_not (pt_val (pe_callD D_is_integer hr (by decide) rfl (pa_cons (pv 1) pa_nil)))) (pw_or1 (pt_cmpR op_lt (pv 1) pe_int (nomark _))))) (pss_one ps_never) pss_nil) (pss_cons (ps_if (pt_cmpR op_gt (pv 1) (pe_gint rfl B.mostLow) (nomark _)) (pss_one ps_never) pss_nil) (pss_cons (ps_if (pt_cmpR op_gt (pe_callD D_power_of hr (by decide) rfl (pa_cons (pv 0) (pa_cons (pv 1) pa_nil))) (pe_gint rfl B.mostResidues) (nomark _)) (pss_one ps_never) pss_nil) (pss_one (ps_ret (pe_callD D_least_low_in hr (by decide) rfl (pa_cons (pv 0) (pa_cons (pv 1) pa_nil))))))))), ?_⟩
  obtain ⟨v1, v2, Hx, d1, d2, r, rfl, ht, ex, k1, k2, ⟨p, d, e, hp, hd1, hd6, hpd, rfl⟩, q⟩ := sp2 h
  cases e
  cases k1
  cases k2
  have hp2 := hp.lo
  have hp7 := hp.hi
  refine q_drop (K := K) (d := .none) (.start ex) (ed_call (ea_cons (ed_vari rfl) ea_nil) ⟨_, rfl, hp, rfl⟩) fun H1 n1 => ?_
  refine q_pass n1.st ((et_is (et_or (b := false) (c := false) (et_is (et_not (et_B (eb (ed_call (ea_cons (ed_vari rfl) ea_nil) ⟨_, rfl, rfl⟩)))) ?_) fun _ => et_test (ev_is (ei_op0 (g := fun i j => V.bl (decide (i < j))) (ev_var rfl) ev_c) ?_)) rfl).mono n1.st.eb) fun H2 n2 => ?_
  · have : (6 : Int) < 10 ^ 60 := by decide +kernel
    rw [decide_eq_true (by omega)]; rfl
  · rw [decide_eq_false (by omega)]
  refine q_pass n2.st ((et_test (ev_is (ei_op0 (g := fun i j => V.bl (decide (j < i))) (ev_var rfl) ev_c) ?_)).mono n2.st.eb) fun H3 n3 => ?_
  · rw [decide_eq_false (by omega)]
  refine q_pass n3.st ((et_test (ev_is (ei_op0 (g := fun i j => V.bl (decide (j < i))) (ei (ed_call (d := dI ((p ^ d : Nat) : Int)) (ea_cons (ed_vari rfl) (ea_cons (ed_vari rfl) ea_nil)) ⟨p, d, rfl, by omega, by omega, hd6, rfl⟩)) ev_c) ?_)).mono n3.st.eb) fun H4 n4 => ?_
  · rw [decide_eq_false (by omega)]
  exact s_ret n4.st (ed_call (ea_cons (ed_vari rfl) (ea_cons (ed_vari rfl) ea_nil)) ⟨p, d, rfl, hp, hd1, hd6, hpd, rfl⟩) q
end
end KW

/-! text K8W8 -/
set_option Elab.async false
set_option linter.all false
set_option maxRecDepth 100000
set_option maxHeartbeats 4000000
namespace KW
open PySem PySem.Spec PyProof.Rows L2 StX
open K8 (trim rests divided monics subAt lprod prodL modSub ldivLoop ldivided ltimes ltimesN raisedN lraised)
def sqLoop (q : Int) : Nat → Int → Int → Int → Int
  | 0, f, _, _ => f
  | n + 1, f, h, l => if 0 < l then sqLoop q n (if l % 2 = 1 then f * h % q else f) (h * h % q) (l / 2) else f
theorem modSub_len (p a : Int) : ∀ (F l : List Int) (k : Nat), (modSub p a l k F).length = l.length
  | [], _, _ => rfl
  | m :: ms, l, k => by
    unfold K8.modSub
    rw [modSub_len p a ms, List.length_set]
theorem modSub_mem {p a : Int} (hp : 0 < p) {M : Nat} (hM : p ≤ (M : Int)) : ∀ (F l : List Int) (k : Nat), (∀ x, x ∈ l → x.natAbs ≤ M) → ∀ x, x ∈ modSub p a l k F → x.natAbs ≤ M
  | [], _, _, h => h
  | m :: ms, l, k, h => by
    unfold K8.modSub
    refine modSub_mem hp hM ms _ _ fun x hx => ?_
    rcases List.mem_or_eq_of_mem_set hx with z | z
    · exact h x z
    · rw [z]
      have h1 := Int.emod_nonneg (l.getD k 0 - a * m) (b := p) (by omega)
      have h2 := Int.emod_lt_of_pos (l.getD k 0 - a * m) hp
      omega
theorem drop_cons {F : List Int} {t : Nat} (ht : t < F.length) : F.drop t = F.getD t 0 :: F.drop (t + 1) := by
  rw [List.drop_eq_getElem_cons ht, List.getD_eq_getElem?_getD, List.getElem?_eq_getElem ht]; rfl
theorem cutD_init (ns : List Int) : cutD (ns.map PyData.int) none (some (-1)) = (ns.dropLast).map PyData.int := by
  unfold cutD
  rw [HT.sIx_none, List.drop_zero, Nat.sub_zero]
  have e : HT.sIx (ns.map PyData.int).length (ns.map PyData.int).length (some (-1)) = ns.length - 1 := by
    rw [List.length_map]
    have e2 : HT.sIx ns.length ns.length (some (-1)) = ((-1 : Int) + (ns.length : Int)).toNat := rfl
    rw [e2]
    omega
  rw [e, List.dropLast_eq_take, List.map_take]
theorem len_small {n : Nat} (h : n ≤ 100) : ((n : Nat) : Int).natAbs < 2 ^ 9000 := big_of (Nat.lt_of_le_of_lt (show ((n : Nat) : Int).natAbs ≤ 100 by omega) (by decide +kernel))
theorem sm_of {x : Int} {n : Nat} (h : x.natAbs ≤ n) (hn : n ≤ 10 ^ 200 := by decide +kernel) : x.natAbs < 2 ^ 9000 := big_of (Nat.lt_of_le_of_lt (Nat.le_trans h hn) (by decide +kernel))
section
variable {P : Program} {w : World} {K : PySem.W.Frag} {mg : Str → Option Value} {base : Heap} {T : Tb}
/-! ### _law_trimmed -/
abbrev N_law_trimmed : List Str := ["_law_numbers", "_law_size"]
theorem sc_law_trimmed : FnScope N_law_trimmed ["_law_numbers"] (defScope (topS 47)) := ⟨rfl, rfl, rfl, by decide +kernel, rfl, by decide +kernel, by decide +kernel⟩
theorem df_ltrim (B : Bi K mg) (h : Has K mg "_law_trimmed" 47) : Df P w K mg base 1 "_law_trimmed" ["_law_numbers"] (spTrim K T) := by
  refine h.df sc_law_trimmed (fun vs H Q E h => h.1) (fun _ _ _ _ _ _ us hl => match us, hl with | [_], _ => rfl) (fun f cdv A outer s H vs Q E hr h => ?_)
  have nd := sc_law_trimmed.nd
  refine ⟨_, PSs.nox (pss_cons (ps_set (i := 1) nd rfl (by first | exact Or.inl rfl | exact Or.inr rfl) (pe_callB (lenK (K := K) rfl) (by rfl) B.len boot_len (pa_cons (pv 0) pa_nil))) (pss_cons (ps_while PassesOwn.never (PW.pt (pw_and (pt_cmpR op_gt (pv 1) pe_int (nomark _)) (pw_and1 (pt_cmpR op_eq (pe_ix (ixL (K := K) rfl) (pv 0) (pe_op op_sub (pv 1) pe_int) (fun _ _ => rfl)) pe_int (nomark _))))) (pss_one (ps_set (i := 1) nd rfl (by first | exact Or.inl rfl | exact Or.inr rfl) (pe_op op_sub (pv 1) pe_int)))) (pss_one (ps_ret (pe_callTy (tupK (K := K) rfl) (by rfl) B.tuple boot_tuple (pa_cons (pe_slice (slK (K := K) rfl) (pv 0) po_none (po_some (pv 1))) pa_nil)))))), ?_⟩
  obtain ⟨v1, Hx, d1, r, rfl, ht, ex, k1, ⟨g, e, hg, rfl⟩, q⟩ := sp1 h
  cases e
  refine q_asgV (.start ex) ((ei_len (.inl (ed_var rfl k1))).mono ex) fun H1 n1 => ?_
  refine q_while (T := T) (fun m σ' H' => Ex T H H' ∧ σ' = [some v1, some (.int (m : Nat))] ∧ m ≤ g.length ∧ trim (g.take m) = trim g) g.length ⟨n1.ex, by rw [List.length_map]; rfl, Nat.le_refl _, by rw [List.take_length]⟩ ?_
  rintro m σ' H' ⟨e, rfl, hm, htr⟩
  have S : Stt T Hx H Hx H' := (Stt.start ex).keep e
  have hv : EvD K T (tVar 0) [some v1, some (.int (m : Nat))] Hx (dL g) := ed_var rfl k1
  have fin : (m = 0 ∨ ∃ x, g[m - 1]? = some x ∧ x ≠ 0) → ∀ H1, Ex T H' H1 → tRet (tCB (rTupS K) (tCons (tSl (rSlL K) (tVar 0) tNoPart (tPart (tVar 1))) tNil)) { nx := fun x H' => Q V.non H', rt := Q } [some v1, some (.int (m : Nat))] H1 := fun hx H1 e1 => by
    refine s_ret (S.keep e1) (ed_is (ed_tupL (ed_new (en_is (en_sl hv eo_none (eo_some (ev_var rfl))) (cutD_take g m)))) ?_) q
    rw [← htr]
    rcases hx with rfl | ⟨x, h1, h2⟩
    · rfl
    · cases m with
      | zero => rfl
      | succ m =>
        show PyData.tuple _ = PyData.tuple _
        rw [trim_done (m := m) h1 h2]
  have t1 : Ev T (tOp (rI0 fun i j => V.bl (decide (j < i))) (tVar 1) (tC (.int 0))) [some v1, some (.int (m : Nat))] Hx (.bl (decide ((0 : Int) < (m : Int)))) := ei_op0 (g := fun i j => V.bl (decide (j < i))) (ev_var rfl) ev_c
  cases m with
  | zero => exact ⟨_, e.tabs, (et_and (c := false) (et_test t1) fun h => absurd h (by decide)).mono S.eb, fun h => absurd h (by decide), fun _ => fin (.inl rfl)⟩
  | succ m =>
    obtain ⟨x, hx⟩ : ∃ x, g[m]? = some x := ⟨g[m], List.getElem?_eq_getElem (by omega)⟩
    have t2 : Ev T _ [some v1, some (.int ((m + 1 : Nat) : Int))] Hx (.bl (decide (x = 0))) := ei_eq (ei (ed_ixL (K := K) hv (ei_sub (ev_var (i := 1) rfl) ev_c) (d := .int x) (by rw [show (((m + 1 : Nat) : Int) - 1) = (m : Int) by omega]; exact atI_ints hx))) ev_c
    refine ⟨_, e.tabs, (et_is (et_and (et_test t1) fun _ => et_test t2) (by rw [decide_eq_true (by omega)]; exact Bool.true_and _)).mono S.eb, fun h H1 e1 => ?_, fun h => fin (.inr ⟨x, hx, of_decide_eq_false h⟩)⟩
    have h0 := of_decide_eq_true h
    subst h0
    refine s_asgV (S.keep e1) (ei_sub (ev_var (i := 1) rfl) ev_c) fun H2 n2 => ⟨m, Nat.lt_succ_self _, (e.trans e1).trans n2.ex, ?_, by omega, by rw [← trim_take hx]; exact htr⟩
    show [some v1, some (V.int (((m + 1 : Nat) : Int) - 1))] = _
    rw [show (((m + 1 : Nat) : Int) - 1) = (m : Int) by omega]
/-! ### _law_rests -/
abbrev N_law_rests : List Str := ["_law_p", "_law_g", "_law_entry"]
theorem sc_law_rests : FnScope N_law_rests ["_law_p", "_law_g"] (defScope (topS 49)) := ⟨rfl, rfl, rfl, by decide +kernel, rfl, by decide +kernel, by decide +kernel⟩
abbrev spLRests (K : PySem.W.Frag) (T : Tb) : Sp := spR K T 2 fun ds r => ∃ (p : Int) (g : List Int), ds = [dI p, dT g] ∧ 0 < p ∧ g.length ≤ 1000 ∧ r = dT (rests p g)
theorem df_lrests (B : Bi K mg) (D_law_trimmed : Df P w K mg base 1 "_law_trimmed" ["_law_numbers"] (spTrim K T)) (h : Has K mg "_law_rests" 49) : Df P w K mg base 2 "_law_rests" ["_law_p", "_law_g"] (spLRests K T) := by
  refine h.df sc_law_rests (fun vs H Q E h => h.1) (fun _ _ _ _ _ _ us hl => match us, hl with | [_, _], _ => rfl) (fun f cdv A outer s H vs Q E hr h => ?_)
  have nd := sc_law_rests.nd
  refine ⟨_, PSs.nox (pss_one (ps_ret (pe_callD D_law_trimmed hr (by decide) rfl (pa_cons (pe_lc (own := [("_law_entry", 2)]) (g := (gName 2)) rfl nd (pi_tup (pv 1)) (blkOk_by (own := [("_law_entry", 2)]) (N := N_law_rests) (sc := defScope (topS 49)) (by decide +kernel)) (fun _ _ _ _ _ => (pg_name (i := 2) nd rfl (by first | exact Or.inl rfl | exact Or.inr rfl))) (fun _ _ _ _ _ => pts_nil) (fun _ _ _ _ _ => (pe_op op_mod (pv 2) (pv 0)))) pa_nil)))), ?_⟩
  obtain ⟨v1, v2, Hx, d1, d2, r, rfl, ht, ex, k1, k2, ⟨p, g, e, hp, hg, rfl⟩, q⟩ := sp2 h
  cases e
  cases k1
  exact s_ret (.start ex) (ed_call (ea_cons (ed_new (en_lcI (j := 2) (ns := g) (· % p) (it_tup (ed_var rfl k2)) (by omega) fun x hx Hy sb => ⟨rfl, ed_int (ei_opC (g := fun i j => V.int (i % j)) (ev_var rfl) (ev_var rfl) hp)⟩)) ea_nil) ⟨_, rfl, by rw [List.length_map]; omega, rfl⟩) q
/-! ### _law_poly_product -/
abbrev N_law_poly_product : List Str := ["_law_one", "_law_other", "_law_found", "_law_at", "_law_entry", "_law_to", "_law_more"]
theorem sc_law_poly_product : FnScope N_law_poly_product ["_law_one", "_law_other"] (defScope (topS 48)) := ⟨rfl, rfl, rfl, by decide +kernel, rfl, by decide +kernel, by decide +kernel⟩
theorem prodL_len (F : List Int) : ∀ (xs l : List Int) (k : Nat), (prodL F l k xs).length = l.length
  | [], _, _ => rfl
  | x :: xs, l, k => by
    unfold K8.prodL
    rw [prodL_len F xs, K8.subAt_len]
abbrev spProd (K : PySem.W.Frag) (T : Tb) : Sp := spR K T 2 fun ds r => ∃ a b : List Int, ds = [dT a, dT b] ∧ a.length ≤ 20 ∧ b.length ≤ 20 ∧ (∀ x, x ∈ a → x.natAbs ≤ 7) ∧ (∀ x, x ∈ b → x.natAbs ≤ 7) ∧ r = dT (lprod a b)
theorem df_lprod (B : Bi K mg) (D_law_trimmed : Df P w K mg base 1 "_law_trimmed" ["_law_numbers"] (spTrim K T)) (h : Has K mg "_law_poly_product" 48) : Df P w K mg base 2 "_law_poly_product" ["_law_one", "_law_other"] (spProd K T) := by
  refine h.df sc_law_poly_product (fun vs H Q E h => h.1) (fun _ _ _ _ _ _ us hl => match us, hl with | [_, _], _ => rfl) (fun f cdv A outer s H vs Q E hr h => ?_)
  have nd := sc_law_poly_product.nd
  refine ⟨_, PSs.nox (pss_cons (ps_set (i := 2) nd rfl (by first | exact Or.inl rfl | exact Or.inr rfl) (pe_op op_rep (pe_lst (pa_cons pe_int pa_nil)) (pe_op op_add (pe_op op_add (pe_callB (lenK (K := K) rfl) (by rfl) B.len boot_len (pa_cons (pv 0) pa_nil)) (pe_callB (lenK (K := K) rfl) (by rfl) B.len boot_len (pa_cons (pv 1) pa_nil))) pe_int))) (pss_cons (ps_for PassesOwn.never rfl (pi_enumT rfl B.enumerate (pa_cons (pv 0) pa_nil)) (pg_tup rfl (pgs_cons (pg_name (i := 3) nd rfl (by first | exact Or.inl rfl | exact Or.inr rfl)) (pgs_cons (pg_name (i := 4) nd rfl (by first | exact Or.inl rfl | exact Or.inr rfl)) pgs_nil))) (pss_one (ps_for PassesOwn.never rfl (pi_enumT rfl B.enumerate (pa_cons (pv 1) pa_nil)) (pg_tup rfl (pgs_cons (pg_name (i := 5) nd rfl (by first | exact Or.inl rfl | exact Or.inr rfl)) (pgs_cons (pg_name (i := 6) nd rfl (by first | exact Or.inl rfl | exact Or.inr rfl)) pgs_nil))) (pss_one (ps_asg (pe_op op_add (pe_ix (ixL (K := K) rfl) (pv 2) (pe_op op_add (pv 3) (pv 5)) (fun _ _ => rfl)) (pe_op op_mulW (pv 4) (pv 6))) (pg_sub (pv 2) (pe_op op_add (pv 3) (pv 5)) set_list)))))) (pss_one (ps_ret (pe_callD D_law_trimmed hr (by decide) rfl (pa_cons (pv 2) pa_nil)))))), ?_⟩
  obtain ⟨v1, v2, Hx, d1, d2, r, rfl, ht, ex, k1, k2, ⟨a, b, e, ha, hb, ba, bb, rfl⟩, q⟩ := sp2 h
  cases e
  have hv1 : EvD K T (tVar 0) (L2.start N_law_poly_product [v1, v2]) Hx (dT a) := ed_var rfl k1
  have hv2 : EvD K T (tVar 1) (L2.start N_law_poly_product [v1, v2]) Hx (dT b) := ed_var rfl k2
  obtain ⟨n, hn⟩ : ∃ n, n = a.length + b.length + 1 := ⟨_, rfl⟩
  refine q_newI (K := K) (ns := List.replicate n 0) (.start ex) (en_is (en_rep (ds := [.int 0]) (i := (n : Int)) (en_lst (ea_cons (ed_int ev_c) ea_nil) (Nat.le_of_ble_eq_true rfl)) ((ev_is (ei_add (ei_add (ei_len (.inr hv1)) (ei_len (.inr hv2))) ev_c) (by rw [List.length_map, List.length_map, hn]; congr 1)).mono ex) (by omega) (by simp; omega)) (by rw [Int.toNat_natCast]; exact rep_flat n)) fun p' Hb1 H1 pn n1 p0 pb hp => ?_
  refine s_for (K := K) n1.st (it_enumT (K := K) (j := 3) (l := 4) (ed_var rfl (n1.dp k1))) sen_mono (fun Bs t σ' Hb' H' => Hb' = Bs ∧ Sub Hb1 Bs ∧ Bs p' = none ∧ Stt T Hx H Bs H' ∧ ∃ (l : List Int) (a3 a4 a5 a6 : Option V), σ' = [some v1, some v2, some (.ref p'), a3, a4, a5, a6] ∧ t ≤ a.length ∧ l.length = n ∧ H' p' = some (.lst (l.map V.int)) ∧ prodL b l t (a.drop t) = prodL b (List.replicate n 0) 0 a) ?_ ?_ ?_ ?_
  · intro Bs H5 n5
    exact ⟨rfl, n5.sub, n5.no pb hp, n5.st, List.replicate n 0, none, none, none, none, rfl, Nat.zero_le _, List.length_replicate, n5.ex.lst hp, rfl⟩
  · rintro Bs t σ' Hb' H' ⟨rfl, sb, _, S', _⟩
    exact ⟨S', Sub.refl _, S'.eb⟩
  · rintro Bs t σ' Hb' H' ht ⟨rfl, sb, pb', S', l, a3, a4, a5, a6, rfl, ht', hl, hp', hpr⟩ σ2 Hb6 H6 n6 ⟨v, d, hd, kv, rfl⟩
    rw [List.length_map] at ht
    rw [List.getElem?_map, getD_some ht] at hd
    cases hd
    cases kv
    have bx : (a.getD t 0).natAbs ≤ 7 := ba _ (List.mem_of_getElem? (getD_some ht))
    have S6 : Stt T Hx H Hb' H6 := S'.keep n6.ex
    have hp6 := n6.ex.lst hp'
    refine s_for (K := K) S6 (it_enumT (K := K) (j := 5) (l := 6) (ed_var rfl (Dp.sub sb _ _ (n1.dp k2)))) sen_mono (fun Bs2 u σ' Hb7 H7 => Hb7 = Bs2 ∧ Sub Hb' Bs2 ∧ Bs2 p' = none ∧ Stt T Hx H Bs2 H7 ∧ Ex T Hb' H7 ∧ ∃ (l' : List Int) (a5 a6 : Option V), σ' = [some v1, some v2, some (.ref p'), some (.int t), some (.int (a.getD t 0)), a5, a6] ∧ u ≤ b.length ∧ l'.length = n ∧ H7 p' = some (.lst (l'.map V.int)) ∧ subAt l' (t + u) (-(a.getD t 0)) (b.drop u) = subAt l t (-(a.getD t 0)) b) ?_ ?_ ?_ ?_
    · intro Bs2 H7 n7
      exact ⟨rfl, n7.sub, n7.no pb' hp6, n7.st, S6.eb.trans n7.ex, l, a5, a6, rfl, Nat.zero_le _, hl, n7.ex.lst hp6, rfl⟩
    · rintro Bs2 u σ' Hb7 H7 ⟨rfl, sb2, _, S7, _⟩
      exact ⟨S7, Sub.refl _, S7.eb⟩
    · rintro Bs2 u σ' Hb7 H7 hu ⟨rfl, sb2, pb2, S7, e7, l', a5, a6, rfl, hu', hl', hp7, hsub⟩ σ2 Hb8 H8 n8 ⟨v, d, hd, kv, rfl⟩
      rw [List.length_map] at hu
      rw [List.getElem?_map, getD_some hu] at hd
      cases hd
      cases kv
      have by' : (b.getD u 0).natAbs ≤ 7 := bb _ (List.mem_of_getElem? (getD_some hu))
      have htu : t + u < l'.length := by omega
      have S8 := S7.keep n8.ex
      have hp8 := n8.ex.lst hp7
      have eidx : Ev T (tOp (rI0 fun i j => V.int (i + j)) (tVar 3) (tVar 5)) ((([some v1, some v2, some (V.ref p'), some (.int t), some (.int (a.getD t 0)), a5, a6] : L2.St).set 5 (some (.int (u : Nat)))).set 6 (some (.int (b.getD u 0)))) H8 (.int ((t + u : Nat) : Int)) := ev_is (ei_add (ev_var rfl) (ev_var rfl)) (by rw [Int.natCast_add])
      refine s_setV S8 (j := t + u) (v := .int (l'.getD (t + u) 0 + a.getD t 0 * b.getD u 0)) (ei_add (ev_own hp8 (ev_var rfl) eidx (map_get htu)) (ei_opC (g := fun i j => V.int (i * j)) (ev_var rfl) (ev_var rfl) (w2 (sm_of bx) (sm_of by')))) (ev_var rfl) eidx p0 pb2 hp8 (by rw [List.length_map]; exact htu) fun H9 S9 e9 => ?_
      rw [set_map] at S9 ⊢
      have p8 : Hb' p' = none := pb'
      refine ⟨Hb7, rfl, sb2, pb2, S9, (e7.trans (n8.ex.trans e9)).mut p8 ((n8.ex.trans e9).lst hp7), _, _, _, rfl, hu, by rw [List.length_set]; exact hl', upd_same, ?_⟩
      rw [← hsub, drop_cons hu]
      show subAt _ _ _ _ = subAt (l'.set (t + u) (l'.getD (t + u) 0 - -(a.getD t 0) * b.getD u 0)) (t + u + 1) _ _
      rw [Int.neg_mul, Int.sub_neg]
      rfl
    · rintro Bs2 σ' Hb7 H7 ⟨rfl, sb2, pb2, S7, e7, l', a5, a6, rfl, hu', hl', hp7, hsub⟩
      rw [List.length_map, List.drop_length] at hsub
      have hsub : l' = subAt l t (-(a.getD t 0)) b := hsub
      subst hsub
      refine ⟨Hb', rfl, sb, pb', S6.at S7 e7, _, _, _, _, _, rfl, ht, by rw [K8.subAt_len]; exact hl, hp7, ?_⟩
      rw [← hpr, drop_cons ht]
      rfl
  · rintro Bs σ' Hb' H' ⟨rfl, sb, pb', S', l, a3, a4, a5, a6, rfl, ht', hl, hp', hpr⟩
    rw [List.length_map, List.drop_length] at hpr
    have hpr : l = prodL b (List.replicate n 0) 0 a := hpr
    obtain ⟨Hb3, S3, s3, kq⟩ := own_dp (K := K) S' p0 hp' (.of_ints l)
    refine s_ret S3 (ed_is (ed_call (ea_cons (ed_var rfl kq) ea_nil) ⟨l, rfl, by omega, rfl⟩) ?_) q
    rw [hpr, hn]
    rfl
end
end KW

/-! text K8W9 -/
set_option Elab.async false
set_option linter.all false
set_option maxRecDepth 100000
set_option maxHeartbeats 4000000
namespace KW
open PySem PySem.Spec PyProof.Rows L2 StX
open K8 (trim rests divided monics subAt lprod prodL modSub ldivLoop ldivided ltimes ltimesN raisedN lraised)
theorem ldiv_mem {p : Int} (hp : 0 < p) (hp7 : p ≤ 7) (F : List Int) (s : Nat) : ∀ (n : Nat) (f l : List Int), (∀ x, x ∈ f → x.natAbs ≤ 7) → (∀ x, x ∈ l → x.natAbs ≤ 7) → (∀ x, x ∈ (ldivLoop p F s n f l).1 → x.natAbs ≤ 7) ∧ (∀ x, x ∈ (ldivLoop p F s n f l).2 → x.natAbs ≤ 7)
  | 0, f, l, hf, hl => ⟨hf, hl⟩
  | n + 1, f, l, hf, hl => by
    unfold K8.ldivLoop
    split
    · refine ldiv_mem hp hp7 F s n _ _ (fun x hx => ?_) fun x hx => modSub_mem hp (M := 7) hp7 F l _ hl x (List.dropLast_subset _ hx)
      rcases List.mem_append.mp hx with z | z
      · exact hf x z
      · rw [List.mem_singleton.mp z]
        have h1 := Int.emod_nonneg (l.getD (l.length - 1) 0) (b := p) (by omega)
        have h2 := Int.emod_lt_of_pos (l.getD (l.length - 1) 0) hp
        omega
    · exact ⟨hf, hl⟩
theorem ldiv_len {p : Int} (F : List Int) (s : Nat) : ∀ (n : Nat) (f l : List Int), (ldivLoop p F s n f l).1.length ≤ f.length + (l.length - s) ∧ (ldivLoop p F s n f l).2.length ≤ l.length
  | 0, f, l => ⟨Nat.le_add_right _ _, Nat.le_refl _⟩
  | n + 1, f, l => by
    unfold K8.ldivLoop
    dsimp only
    split
    · rename_i h
      obtain ⟨h1, h2⟩ := ldiv_len (p := p) F s n (f ++ [l.getD (l.length - 1) 0 % p]) ((modSub p (l.getD (l.length - 1) 0 % p) l (l.length - 1 - s) F).dropLast)
      rw [List.length_dropLast, modSub_len] at h1 h2
      rw [List.length_append, List.length_singleton] at h1
      exact ⟨by omega, by omega⟩
    · exact ⟨Nat.le_add_right _ _, Nat.le_refl _⟩
theorem ldivided_ok {p : Int} (hp : 0 < p) (hp7 : p ≤ 7) {g F : List Int} (hg : ∀ x, x ∈ g → x.natAbs ≤ 7) : (∀ x, x ∈ (ldivided p g F).1 → x.natAbs ≤ 7) ∧ (∀ x, x ∈ (ldivided p g F).2 → x.natAbs ≤ 7) ∧ (ldivided p g F).1.length ≤ g.length - (F.length - 1) ∧ (ldivided p g F).2.length ≤ g.length := by
  unfold K8.ldivided
  dsimp only
  obtain ⟨h1, h2⟩ := ldiv_mem hp hp7 F (F.length - 1) g.length [] g (fun x hx => absurd hx (by simp)) hg
  obtain ⟨h3, h4⟩ := ldiv_len (p := p) F (F.length - 1) g.length [] g
  refine ⟨fun x hx => h1 x (List.mem_reverse.mp (K8.trim_sub hx)), fun x hx => h2 x (K8.trim_sub hx), ?_, ?_⟩
  · have := trim_len (ldivLoop p F (F.length - 1) g.length [] g).1.reverse
    rw [List.length_reverse] at this
    rw [List.length_nil] at h3
    omega
  · have := trim_len (ldivLoop p F (F.length - 1) g.length [] g).2
    omega
section
variable {P : Program} {w : World} {K : PySem.W.Frag} {mg : Str → Option Value} {base : Heap} {T : Tb}
/-! ### _law_divided -/
abbrev N_law_divided : List Str := ["_law_p", "_law_one", "_law_other", "_law_left", "_law_size", "_law_found", "_law_head", "_law_at", "_law_place"]
theorem sc_law_divided : FnScope N_law_divided ["_law_p", "_law_one", "_law_other"] (defScope (topS 50)) := ⟨rfl, rfl, rfl, by decide +kernel, rfl, by decide +kernel, by decide +kernel⟩
abbrev spLDiv (K : PySem.W.Frag) (T : Tb) : Sp := spR K T 3 fun ds r => ∃ (p : Int) (g F : List Int), ds = [dI p, dT g, dT F] ∧ 0 < p ∧ p ≤ 7 ∧ g.length ≤ 50 ∧ 1 ≤ F.length ∧ F.length ≤ 20 ∧ (∀ x, x ∈ g → x.natAbs ≤ 7) ∧ (∀ x, x ∈ F → x.natAbs ≤ 7) ∧ r = .tuple [dT (ldivided p g F).1, dT (ldivided p g F).2]
theorem df_ldiv (B : Bi K mg) (D_law_trimmed : Df P w K mg base 1 "_law_trimmed" ["_law_numbers"] (spTrim K T)) (h : Has K mg "_law_divided" 50) : Df P w K mg base 2 "_law_divided" ["_law_p", "_law_one", "_law_other"] (spLDiv K T) := by
  refine h.df sc_law_divided (fun vs H Q E h => h.1) (fun _ _ _ _ _ _ us hl => match us, hl with | [_, _, _], _ => rfl) (fun f cdv A outer s H vs Q E hr h => ?_)
  have nd := sc_law_divided.nd
  refine ⟨_, PSs.nox (pss_cons (ps_par3 (i := 3) (j := 4) (l := 5) rfl nd rfl rfl rfl (by decide) (by decide) (by decide) rfl rfl rfl (pa_cons (pe_callTy (listK (K := K) rfl) (by rfl) B.list boot_list (pa_cons (pv 1) pa_nil)) (pa_cons (pe_op op_sub (pe_callB (lenK (K := K) rfl) (by rfl) B.len boot_len (pa_cons (pv 2) pa_nil)) pe_int) (pa_cons (pe_lst pa_nil) pa_nil))) (by rfl)) (pss_cons (ps_while PassesOwn.never (pt_cmpR op_gt (pe_callB (lenK (K := K) rfl) (by rfl) B.len boot_len (pa_cons (pv 3) pa_nil)) (pv 4) (nomark _)) (pss_cons (ps_set (i := 6) nd rfl (by first | exact Or.inl rfl | exact Or.inr rfl) (pe_op op_mod (pe_ix (ixL (K := K) rfl) (pv 3) (pe_un un_neg pe_int) (fun _ _ => rfl)) (pv 0))) (pss_cons (ps_expr (pe_bm PySem.F.plainAttrs_list PySem.F.slot_list_append PySem.F.type_list_append mt_append (pv 5) (pa_cons (pv 6) pa_nil))) (pss_cons (ps_for PassesOwn.never rfl (pi_range1 rfl B.range (pa_cons (pe_op op_add (pv 4) pe_int) pa_nil)) (pg_name (i := 7) nd rfl (by first | exact Or.inl rfl | exact Or.inr rfl)) (pss_cons (ps_set (i := 8) nd rfl (by first | exact Or.inl rfl | exact Or.inr rfl) (pe_op op_add (pe_op op_sub (pe_op op_sub (pe_callB (lenK (K := K) rfl) (by rfl) B.len boot_len (pa_cons (pv 3) pa_nil)) pe_int) (pv 4)) (pv 7))) (pss_one (ps_asg (pe_op op_mod (pe_op op_sub (pe_ix (ixL (K := K) rfl) (pv 3) (pv 8) (fun _ _ => rfl)) (pe_op op_mulW (pv 6) (pe_ix (ixT (K := K) rfl) (pv 2) (pv 7) (fun _ _ => rfl)))) (pv 0)) (pg_sub (pv 3) (pv 8) set_list))))) (pss_one (ps_set (i := 3) nd rfl (by first | exact Or.inl rfl | exact Or.inr rfl) (pe_slice (slK (K := K) rfl) (pv 3) po_none (po_some (pe_un un_neg pe_int))))))))) (pss_one (ps_ret (pe_tup (pa_cons (pe_callD D_law_trimmed hr (by decide) rfl (pa_cons (pe_revL (pv 5)) pa_nil)) (pa_cons (pe_callD D_law_trimmed hr (by decide) rfl (pa_cons (pv 3) pa_nil)) pa_nil))))))), ?_⟩
  obtain ⟨v0, v1, v2, Hx, d0, d1, d2, r, rfl, ht, ex, k0, k1, k2, ⟨p, g, F, e, hp, hp7, hg, hF1, hF, bg, bF, rfl⟩, q⟩ := sp3 h
  cases e
  cases k0
  obtain ⟨s, hs⟩ : ∃ s, F.length = s + 1 := ⟨F.length - 1, by omega⟩
  have hv1 : EvD K T (tVar 1) (L2.start N_law_divided [.int p, v1, v2]) Hx (dT g) := ed_var rfl k1
  have hv2 : EvD K T (tVar 2) (L2.start N_law_divided [.int p, v1, v2]) Hx (dT F) := ed_var rfl k2
  refine q_par3NN (K := K) (v := .int (s : Int)) (es := []) (.start ex) (en_list (.inr hv1)) ((ev_is (ei_sub (ei_len (.inr hv2)) ev_c) (by rw [List.length_map, hs]; congr 1; omega)).mono ex) (en_lst ea_nil (by decide)) fun pl fl xs ys Hb1 H1 n1 pf p0 pb hpl kd f0 fb hfl kd2 => ?_
  obtain rfl := kd.ints
  cases kd2
  refine q_while (T := T) (fun m σ' H' => ∃ (Hb' : Hp) (pl : Addr) (ls fs : List Int) (a6 a7 a8 : Option V), Stt T Hx H Hb' H' ∧ Sub Hx Hb' ∧ pl ≠ fl ∧ H pl = none ∧ Hb' pl = none ∧ Hb' fl = none ∧ H' pl = some (.lst (ls.map V.int)) ∧ H' fl = some (.lst (fs.map V.int)) ∧ ls.length ≤ m ∧ fs.length + m ≤ 50 ∧ (∀ x, x ∈ ls → x.natAbs ≤ 7) ∧ ldivLoop p F s m fs ls = ldivLoop p F s g.length [] g ∧ σ' = [some (.int p), some v1, some v2, some (.ref pl), some (.int s), some (.ref fl), a6, a7, a8])
    g.length ⟨Hb1, pl, g, [], none, none, none, n1.st, n1.sub, pf, p0, pb, fb, hpl, hfl, Nat.le_refl _, by rw [List.length_nil]; omega, bg, rfl, rfl⟩ ?_
  rintro m σ' H' ⟨Hb', pl, ls, fs, a6, a7, a8, S, sx, pf, p0, pb, fb, hpl, hfl, hlm, hfm, bl, hD, rfl⟩
  refine ⟨decide ((s : Int) < (ls.length : Int)), S.e0.tabs, et_test (ev_is (ei_op0 (g := fun i j => V.bl (decide (j < i))) (ev_lenOwn hpl (ev_var rfl)) (ev_var rfl)) (by rw [List.length_map])), fun hb H3 e3 => ?_, fun hb H3 e3 => ?_⟩
  · have hsl : s < ls.length := by have := of_decide_eq_true hb; omega
    obtain ⟨m', rfl⟩ : ∃ m', m = m' + 1 := ⟨m - 1, by omega⟩
    have S3 := S.keep e3
    obtain ⟨a, ha⟩ : ∃ a, a = ls.getD (ls.length - 1) 0 % p := ⟨_, rfl⟩
    have ba : a.natAbs ≤ 7 := by
      rw [ha]
      have h1 := Int.emod_nonneg (ls.getD (ls.length - 1) 0) (b := p) (by omega)
      have h2 := Int.emod_lt_of_pos (ls.getD (ls.length - 1) 0) hp
      omega
    have atl : atI (ls.map PyData.int) (-1) = some (.int (ls.getD (ls.length - 1) 0)) := by
      obtain ⟨h0, x, rfl⟩ : ∃ h0 x, ls = h0 ++ [x] := ⟨ls.dropLast, ls.getLast (by intro z; rw [z] at hsl; simp at hsl), (List.dropLast_concat_getLast _).symm⟩
      rw [List.map_append]
      have e1 : (h0 ++ [x]).getD ((h0 ++ [x]).length - 1) 0 = x := by
        rw [List.getD_eq_getElem?_getD, List.length_append, List.length_singleton, Nat.add_sub_cancel, List.getElem?_append_right (Nat.le_refl _), Nat.sub_self]; rfl
      rw [e1]
      exact atI_last _ _
    refine q_asgV S3 (v := .int a) (ev_is (ei_opC (g := fun i j => V.int (i % j)) (ei (ed_ixL (K := K) (d := .int (ls.getD (ls.length - 1) 0)) (ed_var rfl (own_atI (e3.lst hpl))) (ev_neg ev_c) atl)) (ev_var rfl) hp) (by rw [ha])) fun H4 n4 => ?_
    refine q_appV n4.st (ev_var rfl) (ev_var rfl) f0 fb (n4.ex.lst (e3.lst hfl)) (by rw [List.length_map]; omega) fun H5 S5 e5 => ?_
    have efs : fs.map V.int ++ [V.int a] = (fs ++ [a]).map V.int := by rw [List.map_append]; rfl
    rw [efs] at S5 ⊢
    have hpl5 : (upd H5 fl (.lst ((fs ++ [a]).map V.int))) pl = some (.lst (ls.map V.int)) := by
      rw [upd_ne pf]
      exact e5.lst (n4.ex.lst (e3.lst hpl))
    obtain ⟨k0, hk0⟩ : ∃ k0, k0 = ls.length - 1 - s := ⟨_, rfl⟩
    refine s_forR1 (T := T) (g := 7) (n := (s : Int) + 1) S5 (ei_add (ev_var rfl) ev_c) (by omega) (fun t σ' H' => Stt T Hx H Hb' H' ∧ ∃ (l' : List Int) (a7 a8 : Option V), σ' = [some (.int p), some v1, some v2, some (.ref pl), some (.int s), some (.ref fl), some (.int a), a7, a8] ∧ t ≤ F.length ∧ l'.length = ls.length ∧ (∀ x, x ∈ l' → x.natAbs ≤ 7) ∧ H' pl = some (.lst (l'.map V.int)) ∧ H' fl = some (.lst ((fs ++ [a]).map V.int)) ∧ modSub p a l' (k0 + t) (F.drop t) = modSub p a ls k0 F) ?_ ?_ ?_
    · intro H6 n6
      exact ⟨n6.st, ls, a7, a8, rfl, Nat.zero_le _, rfl, bl, n6.ex.lst hpl5, n6.ex.lst upd_same, rfl⟩
    · rintro t σ' H' ht ⟨S6, l', b7, b8, rfl, ht', hl', bl', hp6, hf6, hsub⟩
      have ht : t < F.length := by omega
      have hkt : k0 + t < l'.length := by omega
      refine q_asgV S6 (v := .int ((k0 + t : Nat) : Int)) (ev_is (ei_add (ei_sub (ei_sub (ev_is (ev_lenOwn hp6 (ev_var rfl)) (by rw [List.length_map])) ev_c) (ev_var rfl)) (ev_var rfl)) (by congr 1; omega)) fun H7 n7 => ?_
      have bx : (F.getD t 0).natAbs ≤ 7 := bF _ (List.mem_of_getElem? (getD_some ht))
      have hp7' := n7.ex.lst hp6
      refine s_setV n7.st (j := k0 + t) (v := .int ((l'.getD (k0 + t) 0 - a * F.getD t 0) % p)) (ei_opC (g := fun i j => V.int (i % j)) (ei_sub (ev_own hp7' (ev_var rfl) (ev_var rfl) (map_get hkt)) (ei_opC (g := fun i j => V.int (i * j)) (ev_var rfl) ((ei (ed_ixT (K := K) (d := .int (F.getD t 0)) (ed_var rfl (Dp.sub sx _ _ k2)) (ev_var rfl) (atI_int ht))).mono n7.st.eb) (w2 (sm_of ba) (sm_of bx)))) (ev_var rfl) hp) (ev_var rfl) (ev_var rfl) p0 pb hp7' (by rw [List.length_map]; exact hkt) fun H8 S8 e8 => ?_
      rw [set_map] at S8 ⊢
      refine ⟨S8, _, _, _, rfl, by omega, by rw [List.length_set]; exact hl', ?_, upd_same, ?_, ?_⟩
      · intro x hx
        rcases List.mem_or_eq_of_mem_set hx with z | z
        · exact bl' x z
        · rw [z]
          have h1 := Int.emod_nonneg (l'.getD (k0 + t) 0 - a * F.getD t 0) (b := p) (by omega)
          have h2 := Int.emod_lt_of_pos (l'.getD (k0 + t) 0 - a * F.getD t 0) hp
          omega
      · rw [upd_ne (Ne.symm pf)]
        exact e8.lst (n7.ex.lst hf6)
      · rw [← hsub, drop_cons ht]
        rfl
    · rintro σ' H' ⟨S6, l', b7, b8, rfl, ht', hl', bl', hp6, hf6, hsub⟩
      rw [show ((s : Int) + 1).toNat = F.length by omega, List.drop_length] at hsub
      have hsub : l' = modSub p a ls k0 F := hsub
      subst hsub
      refine s_newI (K := K) (ns := (modSub p a ls k0 F).dropLast) S6 (en_is (en_sl (ed_var rfl (own_atI hp6)) eo_none (eo_some (ev_neg ev_c))) (cutD_init _)) fun pn Hb7 H7 pnn n7 pn0 pnb hpn => ?_
      refine ⟨m', Nat.lt_succ_self _, Hb7, pn, (modSub p a ls k0 F).dropLast, fs ++ [a], _, _, _, n7.st, sx.trans n7.sub, (fun z => by rw [z, hf6] at pnn; cases pnn), pn0, pnb, n7.no fb hf6, hpn, n7.ex.lst hf6, ?_, ?_, ?_, ?_, rfl⟩
      · rw [List.length_dropLast, hl']; omega
      · rw [List.length_append, List.length_singleton]; omega
      · exact fun x hx => bl' x (List.dropLast_subset _ hx)
      · rw [← hD]
        show _ = (if s < ls.length then _ else _)
        rw [if_pos hsl, hk0, ha]
  · have hsl : ¬ s < ls.length := by have := of_decide_eq_false hb; omega
    have eD : ldivLoop p F s m fs ls = (fs, ls) := by
      cases m with
      | zero => rfl
      | succ m' =>
        show (if s < ls.length then _ else _) = _
        rw [if_neg hsl]
    rw [eD] at hD
    obtain ⟨Hb3, S3, s3, kq⟩ := own_dp (K := K) (S.keep e3) f0 (e3.lst hfl) (.of_ints fs)
    obtain ⟨Hb4, S4, s4, kp⟩ := own_dp (K := K) S3 p0 (e3.lst hpl) (.of_ints ls)
    refine s_ret S4 (ed_is (ed_tup (ea_cons (ed_call (ea_cons (ed_new (en_is (en_revL (ed_var rfl (Dp.sub s4 _ _ kq))) (by rw [← List.map_reverse]))) ea_nil) ⟨fs.reverse, rfl, by rw [List.length_reverse]; omega, rfl⟩) (ea_cons (ed_call (ea_cons (ed_var rfl kp) ea_nil) ⟨ls, rfl, by omega, rfl⟩) ea_nil)) (Nat.le_of_ble_eq_true rfl)) ?_) q
    unfold K8.ldivided
    rw [show F.length - 1 = s by omega, ← hD]
end
end KW

/-! text K8W10 -/
set_option Elab.async false
set_option linter.all false
set_option maxRecDepth 100000
set_option maxHeartbeats 4000000
namespace KW
open PySem PySem.Spec PyProof.Rows L2 StX
open K8 (trim rests divided monics mons subAt lprod prodL modSub ldivLoop ldivided ltimes ltimesN raisedN lraised)
theorem ldiv_low {p : Int} (F : List Int) (s : Nat) : ∀ (n : Nat) (f l : List Int), l.length ≤ n → (ldivLoop p F s n f l).2.length ≤ s
  | 0, f, l, h => by show l.length ≤ s; omega
  | n + 1, f, l, h => by
    unfold K8.ldivLoop
    dsimp only
    split
    · refine ldiv_low F s n _ _ ?_
      rw [List.length_dropLast, modSub_len]
      omega
    · show l.length ≤ s
      omega
theorem ldivided_low {p : Int} (g F : List Int) : (ldivided p g F).2.length ≤ F.length - 1 := by
  unfold K8.ldivided
  dsimp only
  exact Nat.le_trans (trim_len _) (ldiv_low F _ _ _ _ (Nat.le_refl _))
theorem lprod_len (a b : List Int) : (lprod a b).length ≤ a.length + b.length + 1 := by
  unfold K8.lprod
  have := trim_len (prodL b (List.replicate (a.length + b.length + 1) 0) 0 a)
  rw [prodL_len, List.length_replicate] at this
  exact this
section
variable {K : PySem.W.Frag} {T : Tb} {σ : L2.St} {Hx H0 Hb H H' : Hp} {ta tb te : TE} {v : V} {D : Ends} {ds : List PyData}
/-- xs.extend(new list) -/
theorem s_ext {p : Addr} {xs : List V} (S : Stt T Hx H0 Hb H) (ho : Ev T ta σ H (.ref p)) (h : EvN K T te σ Hb ds) (h0 : H0 p = none) (hb : Hb p = none) (hp : H p = some (.lst xs)) (hz : xs.length + ds.length < 100000)
    (k : ∀ ys Hb1 H1, Stt T Hx H0 Hb1 (upd H1 p (.lst (xs ++ ys))) → Nxt T Hx H0 Hb H Hb1 H1 → Hb1 p = none → DpAll K Hb1 ys ds → D.nx σ (upd H1 p (.lst (xs ++ ys)))) : tDrop (tBM K "list" rExtend ta (tCons te tNil)) D σ H :=
  ho H S.e0.refl _ fun H1 e1 => ⟨Or.inl ⟨rfl, _, .inl (.inl (e1.lst hp))⟩, h H1 (S.eb.trans e1) _ fun q ys H2 hq e2 hy kd => by
    obtain ⟨n, a, b⟩ := new_nxt (xs := ys) (S.keep e1) hq e2
    have n2 := (Nxt.keep S e1).trans n
    have hp2 := (e1.trans e2).lst hp
    exact ⟨p, q, xs, ys, rfl, rfl, hp2, hy, Nat.le_of_lt (sz_lt (by rw [kd.length]; exact hz)), k ys _ H2 (n2.st.mut h0 (n2.no hb hp) hp2) n2 (n2.no hb hp) kd⟩⟩
end
section
variable {P : Program} {w : World} {K : PySem.W.Frag} {mg : Str → Option Value} {base : Heap} {T : Tb}
/-! ### _law_undone -/
abbrev N_law_undone : List Str := ["_law_p", "_law_number", "_law_one"]
theorem sc_law_undone : FnScope N_law_undone ["_law_p", "_law_number"] (defScope (topS 52)) := ⟨rfl, rfl, rfl, by decide +kernel, rfl, by decide +kernel, by decide +kernel⟩
abbrev spLUndone (K : PySem.W.Frag) (T : Tb) : Sp := spR K T 2 fun ds r => ∃ p : Nat, ds = [dI p, dI 1] ∧ IsP p ∧ r = dI 1
theorem df_lundone (B : Bi K mg) (h : Has K mg "_law_undone" 52) : Df P w K mg base 1 "_law_undone" ["_law_p", "_law_number"] (spLUndone K T) := by
  refine h.df sc_law_undone (fun vs H Q E h => h.1) (fun _ _ _ _ _ _ us hl => match us, hl with | [_, _], _ => rfl) (fun f cdv A outer s H vs Q E hr h => ?_)
  have nd := sc_law_undone.nd
  refine ⟨_, PSs.nox (pss_one (ps_ret (pe_ix (ixL (K := K) rfl) (pe_lc (own := [("_law_one", 2)]) (g := (gName 2)) rfl nd (pi_range2 rfl B.range (pa_cons pe_int (pa_cons (pv 0) pa_nil))) (blkOk_by (own := [("_law_one", 2)]) (N := N_law_undone) (sc := defScope (topS 52)) (by decide +kernel)) (fun _ _ _ _ _ => (pg_name (i := 2) nd rfl (by first | exact Or.inl rfl | exact Or.inr rfl))) (fun _ _ _ _ _ => (pts_one (pt_cmpR op_eq (pe_op op_mod (pe_op op_mulW (pv 2) (pv 1)) (pv 0)) pe_int (nomark _)))) (fun _ _ _ _ _ => (pv 2))) pe_int (fun _ _ => rfl)))), ?_⟩
  obtain ⟨v1, v2, Hx, d1, d2, r, rfl, ht, ex, k1, k2, ⟨p, e, hp, rfl⟩, q⟩ := sp2 h
  cases e
  cases k1
  cases k2
  have hp2 := hp.lo
  have hp7 := hp.hi
  refine s_ret (.start ex) (ed_ixL (ds := [.int 1]) (ed_new (en_is (en_lc (n := ((p : Int) - 1).toNat) (fun i => decide ((1 + (i : Int)) * 1 % (p : Int) = 1)) (fun i => .int (1 + (i : Int))) (it_r2 (j := 2) ev_c (ev_var rfl) (by decide) (by omega)) (by omega) fun i σ2 Hy hi sb hS => ?_) ?_)) ev_c rfl) q
  · obtain rfl := hS
    exact ⟨rfl, et_test (ei_eq (ei_opC (g := fun i j => V.int (i % j)) (ei_opC (g := fun i j => V.int (i * j)) (ev_var rfl) (ev_var rfl) (w2 (sm_of (n := 100) (by omega)) (sm_of (n := 1) (by decide)))) (ev_var rfl) (show (0 : Int) < (p : Int) by omega)) ev_c), fun _ => ed_vari rfl⟩
  · rcases hp with rfl | rfl | rfl | rfl <;> rfl
/-! ### _law_is_square -/
abbrev N_law_is_square : List Str := ["_law_q", "_law_number", "_law_found", "_law_here", "_law_left"]
theorem sc_law_is_square : FnScope N_law_is_square ["_law_q", "_law_number"] (defScope (topS 46)) := ⟨rfl, rfl, rfl, by decide +kernel, rfl, by decide +kernel, by decide +kernel⟩
abbrev spSq (K : PySem.W.Frag) (T : Tb) : Sp := spR K T 2 fun ds r => ∃ (q : Nat) (n : Int), ds = [dI q, dI n] ∧ IsP q ∧ r = .bool (decide (sqLoop q 3 1 (n % (q : Int)) (((q : Int) - 1) / 2) = 1))
theorem df_lsq (B : Bi K mg) (h : Has K mg "_law_is_square" 46) : Df P w K mg base 1 "_law_is_square" ["_law_q", "_law_number"] (spSq K T) := by
  refine h.df sc_law_is_square (fun vs H Q E h => h.1) (fun _ _ _ _ _ _ us hl => match us, hl with | [_, _], _ => rfl) (fun f cdv A outer s H vs Q E hr h => ?_)
  have nd := sc_law_is_square.nd
  refine ⟨_, PSs.nox (pss_cons (ps_par3 (i := 2) (j := 3) (l := 4) rfl nd rfl rfl rfl (by decide) (by decide) (by decide) rfl rfl rfl (pa_cons pe_int (pa_cons (pe_op op_mod (pv 1) (pv 0)) (pa_cons (pe_op op_fdivW (pe_op op_sub (pv 0) pe_int) pe_int) pa_nil))) (by rfl)) (pss_cons (ps_while PassesOwn.never (pt_cmpR op_gt (pv 4) pe_int (nomark _)) (pss_cons (ps_if (pt_cmpR op_eq (pe_op op_mod (pv 4) pe_int) pe_int (nomark _)) (pss_one (ps_set (i := 2) nd rfl (by first | exact Or.inl rfl | exact Or.inr rfl) (pe_op op_mod (pe_op op_mulW (pv 2) (pv 3)) (pv 0)))) pss_nil) (pss_one (ps_par (i := 3) (j := 4) rfl nd rfl rfl (by decide) rfl rfl (pa_cons (pe_op op_mod (pe_op op_mulW (pv 3) (pv 3)) (pv 0)) (pa_cons (pe_op op_fdivW (pv 4) pe_int) pa_nil)) (by rfl))))) (pss_one (ps_ret (pe_cmpR op_eq (pv 2) pe_int (nomark _)))))), ?_⟩
  obtain ⟨v1, v2, Hx, d1, d2, r, rfl, ht, ex, k1, k2, ⟨p, n, e, hp, rfl⟩, q⟩ := sp2 h
  cases e
  cases k1
  cases k2
  have hp2 := hp.lo
  have hp7 := hp.hi
  have hp0 : (0 : Int) < (p : Int) := by omega
  have md : ∀ x : Int, (x % (p : Int)).natAbs ≤ 7 := fun x => by
    have h1 := Int.emod_nonneg x (b := (p : Int)) (by omega)
    have h2 := Int.emod_lt_of_pos x hp0
    omega
  refine q_par3 (K := K) (d1 := dI 1) (d2 := dI (n % (p : Int))) (d3 := dI (((p : Int) - 1) / 2)) (.start ex) (ea_cons (ed_int ev_c) (ea_cons (ed_int (ei_opC (g := fun i j => V.int (i % j)) (ev_var rfl) (ev_var rfl) hp0)) (ea_cons (ed_int (ei_opC (g := fun i j => V.int (i / j)) (ei_sub (ev_var rfl) ev_c) ev_c ⟨by decide, by decide +kernel⟩)) ea_nil))) fun v w x Hb1 H1 n1 a1 a2 a3 => ?_
  cases a1
  cases a2
  cases a3
  refine q_while (T := T) (fun m σ' H' => Ex T H H' ∧ ∃ f h l : Int, σ' = [some (.int p), some (.int n), some (.int f), some (.int h), some (.int l)] ∧ f.natAbs ≤ 7 ∧ h.natAbs ≤ 7 ∧ l ≤ m ∧ sqLoop p m f h l = sqLoop p 3 1 (n % (p : Int)) (((p : Int) - 1) / 2)) 3 ⟨n1.ex, 1, n % (p : Int), _, rfl, by decide, md n, by omega, rfl⟩ ?_
  rintro m σ' H' ⟨e, f, h, l, rfl, bf, bh, hl, hs⟩
  have S : Stt T Hx H Hx H' := (Stt.start ex).keep e
  refine ⟨decide ((0 : Int) < l), e.tabs, et_test (ei_op0 (g := fun i j => V.bl (decide (j < i))) (ev_var rfl) ev_c), fun hb H2 e2 => ?_, fun hb H2 e2 => ?_⟩
  · have hl0 : 0 < l := of_decide_eq_true hb
    obtain ⟨m', rfl⟩ : ∃ m', m = m' + 1 := ⟨m - 1, by omega⟩
    have hs' : sqLoop p m' (if l % 2 = 1 then f * h % (p : Int) else f) (h * h % (p : Int)) (l / 2) = sqLoop p 3 1 (n % (p : Int)) (((p : Int) - 1) / 2) := by
      rw [← hs]
      show _ = (if 0 < l then _ else _)
      rw [if_pos hl0]
    refine q_ifJ (fun σ' H' => Ex T H H' ∧ σ' = [some (.int p), some (.int n), some (.int (if l % 2 = 1 then f * h % (p : Int) else f)), some (.int h), some (.int l)]) (S.keep e2) (b := decide (l % 2 = 1)) (et_test (ei_eq (ei_opC (g := fun i j => V.int (i % j)) (ev_var rfl) ev_c (by decide)) ev_c)) ?_ (fun hc H3 n3 kont => ?_) fun hc H3 n3 kont => ?_
    · rintro σ3 H3 ⟨e3, rfl⟩
      refine s_par (K := K) (d1 := dI (h * h % (p : Int))) (d2 := dI (l / 2)) ((Stt.start ex).keep e3) (ea_cons (ed_int (ei_opC (g := fun i j => V.int (i % j)) (ei_opC (g := fun i j => V.int (i * j)) (ev_var rfl) (ev_var rfl) (w2 (sm_of bh) (sm_of bh))) (ev_var rfl) hp0)) (ea_cons (ed_int (ei_opC (g := fun i j => V.int (i / j)) (ev_var rfl) ev_c ⟨by decide, by decide +kernel⟩)) ea_nil)) fun va vb Hb4 H4 n4 ka kb => ?_
      cases ka
      cases kb
      refine ⟨m', Nat.lt_succ_self _, e3.trans n4.ex, _, _, _, rfl, ?_, md _, by omega, hs'⟩
      split
      · exact md _
      · exact bf
    · rw [if_pos (of_decide_eq_true hc)] at *
      exact s_asgV n3.st (ei_opC (g := fun i j => V.int (i % j)) (ei_opC (g := fun i j => V.int (i * j)) (ev_var rfl) (ev_var rfl) (w2 (sm_of bf) (sm_of bh))) (ev_var rfl) hp0) fun H4 n4 => kont _ _ ⟨(e.trans e2).trans (n3.ex.trans n4.ex), rfl⟩
    · rw [if_neg (of_decide_eq_false hc)] at *
      exact kont _ _ ⟨(e.trans e2).trans n3.ex, rfl⟩
  · have hl0 : ¬ 0 < l := of_decide_eq_false hb
    have hs' : f = sqLoop p 3 1 (n % (p : Int)) (((p : Int) - 1) / 2) := by
      rw [← hs]
      cases m with
      | zero => rfl
      | succ m' =>
        show _ = (if 0 < l then _ else _)
        rw [if_neg hl0]
    exact s_ret (S.keep e2) (ed_is (ed_bool (ei_eq (ev_var rfl) ev_c)) (by rw [← hs'])) q
/-! ### _law_times_low_rest, _law_raised -/
abbrev N_law_times_low_rest : List Str := ["_law_p", "_law_one", "_law_other", "_law_low"]
theorem sc_law_times_low_rest : FnScope N_law_times_low_rest ["_law_p", "_law_one", "_law_other", "_law_low"] (defScope (topS 56)) := ⟨rfl, rfl, rfl, by decide +kernel, rfl, by decide +kernel, by decide +kernel⟩
abbrev spTimes (K : PySem.W.Frag) (T : Tb) : Sp := spR K T 4 fun ds r => ∃ (p : Nat) (a b low : List Int), ds = [dI p, dT a, dT b, dT low] ∧ IsP p ∧ a.length ≤ 20 ∧ b.length ≤ 20 ∧ 1 ≤ low.length ∧ low.length ≤ 20 ∧ (∀ x, x ∈ a → x.natAbs ≤ 7) ∧ (∀ x, x ∈ b → x.natAbs ≤ 7) ∧ (∀ x, x ∈ low → x.natAbs ≤ 7) ∧ r = dT (ltimes p a b low)
theorem df_ltimes (B : Bi K mg) (D_law_divided : Df P w K mg base 2 "_law_divided" ["_law_p", "_law_one", "_law_other"] (spLDiv K T)) (D_law_rests : Df P w K mg base 2 "_law_rests" ["_law_p", "_law_g"] (spLRests K T)) (D_law_poly_product : Df P w K mg base 2 "_law_poly_product" ["_law_one", "_law_other"] (spProd K T)) (h : Has K mg "_law_times_low_rest" 56) : Df P w K mg base 3 "_law_times_low_rest" ["_law_p", "_law_one", "_law_other", "_law_low"] (spTimes K T) := by
  refine h.df sc_law_times_low_rest (fun vs H Q E h => h.1) (fun _ _ _ _ _ _ us hl => match us, hl with | [_, _, _, _], _ => rfl) (fun f cdv A outer s H vs Q E hr h => ?_)
  have nd := sc_law_times_low_rest.nd
  refine ⟨_, PSs.nox (pss_one (ps_ret (pe_ix (ixT (K := K) rfl) (pe_callD D_law_divided hr (by decide) rfl (pa_cons (pv 0) (pa_cons (pe_callD D_law_rests hr (by decide) rfl (pa_cons (pv 0) (pa_cons (pe_callD D_law_poly_product hr (by decide) rfl (pa_cons (pv 1) (pa_cons (pv 2) pa_nil))) pa_nil))) (pa_cons (pv 3) pa_nil)))) pe_int (fun _ _ => rfl)))), ?_⟩
  obtain ⟨v1, v2, v3, v4, Hx, d1, d2, d3, d4, r, rfl, ht, ex, k1, k2, k3, k4, ⟨p, a, b, low, e, hp, ha, hb, hl1, hl, ba, bb, bl, rfl⟩, q⟩ := sp4 h
  cases e
  cases k1
  have hp2 := hp.lo
  have hp7 := hp.hi
  have l1 := lprod_len a b
  have l2 := rests_len p (lprod a b)
  exact s_ret (.start ex) (ed_ixT (ed_call (d := .tuple [dT (ldivided p (rests p (lprod a b)) low).1, dT (ldivided p (rests p (lprod a b)) low).2]) (ea_cons (ed_vari rfl) (ea_cons (ed_call (ea_cons (ed_vari rfl) (ea_cons (ed_call (ea_cons (ed_var rfl k2) (ea_cons (ed_var rfl k3) ea_nil)) ⟨a, b, rfl, ha, hb, ba, bb, rfl⟩) ea_nil)) ⟨p, lprod a b, rfl, by omega, by omega, rfl⟩) (ea_cons (ed_var rfl k4) ea_nil))) ⟨p, _, low, rfl, by omega, by omega, by omega, hl1, hl, rests_small hp _, bl, rfl⟩) ev_c rfl) q
abbrev N_law_raised : List Str := ["_law_p", "_law_low", "_law_times_done", "_law_found", "_law_turn", "_law_here", "_law_step"]
theorem sc_law_raised : FnScope N_law_raised ["_law_p", "_law_low", "_law_times_done"] (defScope (topS 57)) := ⟨rfl, rfl, rfl, by decide +kernel, rfl, by decide +kernel, by decide +kernel⟩
abbrev spRaised (K : PySem.W.Frag) (T : Tb) : Sp := spR K T 3 fun ds r => ∃ (p n : Nat) (low : List Int), ds = [dI p, dT low, dI n] ∧ IsP p ∧ n ≤ 100 ∧ 1 ≤ low.length ∧ low.length ≤ 20 ∧ (∀ x, x ∈ low → x.natAbs ≤ 7) ∧ r = dT (lraised p low n)
theorem ltimes_ok {p : Nat} (hp : IsP p) {a b low : List Int} (hl : low.length ≤ 20) : (ltimes p a b low).length ≤ 20 ∧ ∀ x, x ∈ ltimes p a b low → x.natAbs ≤ 7 := by
  have hp2 := hp.lo
  have hp7 := hp.hi
  unfold K8.ltimes
  have h1 := ldivided_low (p := (p : Int)) (rests p (lprod a b)) low
  have h2 := (ldivided_ok (p := (p : Int)) (by omega) (by omega) (g := rests p (lprod a b)) (F := low) (rests_small hp _)).2.1
  exact ⟨by omega, h2⟩
theorem ltimesN_add (p : Int) (f low : List Int) : ∀ (i : Nat) (here : List Int), ltimesN p f low (i + 1) here = ltimes p (ltimesN p f low i here) f low
  | 0, _ => rfl
  | i + 1, here => by
    show ltimesN p f low (i + 1) (ltimes p here f low) = _
    rw [ltimesN_add p f low i]
    rfl
theorem raisedN_add (p : Nat) (low : List Int) : ∀ (i : Nat) (f : List Int), raisedN p low (i + 1) f = ltimesN p (raisedN p low i f) low p [1]
  | 0, _ => rfl
  | i + 1, f => by
    show raisedN p low (i + 1) (ltimesN p f low p [1]) = _
    rw [raisedN_add p low i]
    rfl
theorem df_lraised (B : Bi K mg) (D_law_times_low_rest : Df P w K mg base 3 "_law_times_low_rest" ["_law_p", "_law_one", "_law_other", "_law_low"] (spTimes K T)) (D_law_divided : Df P w K mg base 2 "_law_divided" ["_law_p", "_law_one", "_law_other"] (spLDiv K T)) (h : Has K mg "_law_raised" 57) : Df P w K mg base 4 "_law_raised" ["_law_p", "_law_low", "_law_times_done"] (spRaised K T) := by
  refine h.df sc_law_raised (fun vs H Q E h => h.1) (fun _ _ _ _ _ _ us hl => match us, hl with | [_, _, _], _ => rfl) (fun f cdv A outer s H vs Q E hr h => ?_)
  have nd := sc_law_raised.nd
  refine ⟨_, PSs.nox (pss_cons (ps_set (i := 3) nd rfl (by first | exact Or.inl rfl | exact Or.inr rfl) (pe_ix (ixT (K := K) rfl) (pe_callD D_law_divided hr (by decide) rfl (pa_cons (pv 0) (pa_cons (pe_tup (pa_cons pe_int (pa_cons pe_int pa_nil))) (pa_cons (pv 1) pa_nil)))) pe_int (fun _ _ => rfl))) (pss_cons (ps_for PassesOwn.never rfl (pi_range1 rfl B.range (pa_cons (pv 2) pa_nil)) (pg_name (i := 4) nd rfl (by first | exact Or.inl rfl | exact Or.inr rfl)) (pss_cons (ps_set (i := 5) nd rfl (by first | exact Or.inl rfl | exact Or.inr rfl) (pe_tup (pa_cons pe_int pa_nil))) (pss_cons (ps_for PassesOwn.never rfl (pi_range1 rfl B.range (pa_cons (pv 0) pa_nil)) (pg_name (i := 6) nd rfl (by first | exact Or.inl rfl | exact Or.inr rfl)) (pss_one (ps_set (i := 5) nd rfl (by first | exact Or.inl rfl | exact Or.inr rfl) (pe_callD D_law_times_low_rest hr (by decide) rfl (pa_cons (pv 0) (pa_cons (pv 5) (pa_cons (pv 3) (pa_cons (pv 1) pa_nil)))))))) (pss_one (ps_set (i := 3) nd rfl (by first | exact Or.inl rfl | exact Or.inr rfl) (pv 5)))))) (pss_one (ps_ret (pv 3))))), ?_⟩
  obtain ⟨v1, v2, v3, Hx, d1, d2, d3, r, rfl, ht, ex, k1, k2, k3, ⟨p, n, low, e, hp, hn, hl1, hl, bl, rfl⟩, q⟩ := sp3 h
  cases e
  cases k1
  cases k3
  have hp2 := hp.lo
  have hp7 := hp.hi
  have b01 : ∀ x : Int, x ∈ [(0 : Int), 1] → x.natAbs ≤ 7 := fun x hx => by
    rcases List.mem_cons.mp hx with rfl | hx
    · decide
    · rw [List.mem_singleton.mp hx]; decide
  obtain ⟨_, o2, _, _⟩ := ldivided_ok (p := (p : Int)) (by omega) (by omega) (g := [0, 1]) (F := low) b01
  have o4 := ldivided_low (p := (p : Int)) [0, 1] low
  refine q_asg (K := K) (d := dT (ldivided p [0, 1] low).2) (.start ex) (ed_ixT (ed_call (d := .tuple [dT (ldivided p [0, 1] low).1, dT (ldivided p [0, 1] low).2]) (ea_cons (ed_vari rfl) (ea_cons (ed_tup (ea_cons (ed_int ev_c) (ea_cons (ed_int ev_c) ea_nil)) (by decide)) (ea_cons (ed_var rfl k2) ea_nil))) ⟨p, [0, 1], low, rfl, by omega, by omega, by decide, hl1, hl, b01, bl, rfl⟩) ev_c rfl) fun v Hb1 H1 n1 kv => ?_
  refine s_forR1 (T := T) (g := 4) (n := (n : Int)) n1.st (ev_var rfl) (by omega) (fun i σ' H' => ∃ (Hb' : Hp) (v : V) (a4 a5 a6 : Option V), Stt T Hx H Hb' H' ∧ Sub Hx Hb' ∧ Dp K Hb' v (dT (raisedN p low i (ldivided p [0, 1] low).2)) ∧ (raisedN p low i (ldivided p [0, 1] low).2).length ≤ 20 ∧ (∀ x, x ∈ raisedN p low i (ldivided p [0, 1] low).2 → x.natAbs ≤ 7) ∧ σ' = [some (.int p), some v2, some (.int n), some v, a4, a5, a6]) ?_ ?_ ?_
  · intro H2 n2
    exact ⟨Hb1, v, none, none, none, n2.st, n1.sub, kv, by show (ldivided p [0, 1] low).2.length ≤ 20; omega, o2, rfl⟩
  · rintro i σ' H' hi ⟨Hb', v, a4, a5, a6, S, sx, kv, hl', bl', rfl⟩
    obtain ⟨F, hF⟩ : ∃ F, F = raisedN p low i (ldivided p [0, 1] low).2 := ⟨_, rfl⟩
    rw [← hF] at kv hl' bl'
    refine q_asg (K := K) (d := dT [1]) S (ed_tup (ea_cons (ed_int ev_c) ea_nil) (by decide)) fun vh Hb2 H2 n2 kh => ?_
    refine s_forR1 (T := T) (g := 6) (n := (p : Int)) n2.st (ev_var rfl) (by omega) (fun j σ' H' => ∃ (Hb' : Hp) (vh : V) (a6 : Option V), Stt T Hx H Hb' H' ∧ Sub Hb2 Hb' ∧ Dp K Hb' vh (dT (ltimesN p F low j [1])) ∧ (ltimesN p F low j [1]).length ≤ 20 ∧ (∀ x, x ∈ ltimesN p F low j [1] → x.natAbs ≤ 7) ∧ σ' = [some (.int p), some v2, some (.int n), some v, some (.int i), some vh, a6]) ?_ ?_ ?_
    · intro H3 n3
      refine ⟨Hb2, vh, a6, n3.st, Sub.refl _, kh, (show (1 : Nat) ≤ 20 by decide), fun x hx => ?_, rfl⟩
      rw [List.mem_singleton.mp hx]; decide
    · rintro j σ' H' hj ⟨Hb3, vh', b6, S3, s3, kh', hlh, blh, rfl⟩
      obtain ⟨t1, t2⟩ := ltimes_ok hp (a := ltimesN p F low j [1]) (b := F) (low := low) hl
      refine s_asg (K := K) (d := dT (ltimesN p F low (j + 1) [1])) S3 (ed_call (ea_cons (ed_vari rfl) (ea_cons (ed_var rfl kh') (ea_cons (ed_var rfl (Dp.sub (n2.sub.trans s3) _ _ kv)) (ea_cons (ed_var rfl (Dp.sub ((sx.trans n2.sub).trans s3) _ _ k2)) ea_nil)))) ⟨p, _, F, low, rfl, hp, hlh, hl', hl1, hl, blh, bl', bl, by rw [ltimesN_add]⟩) fun vn Hb4 H4 n4 kn => ?_
      exact ⟨Hb4, vn, _, n4.st, s3.trans n4.sub, kn, by rw [ltimesN_add]; exact t1, by rw [ltimesN_add]; exact t2, rfl⟩
    · rintro σ' H' ⟨Hb3, vh', b6, S3, s3, kh', hlh, blh, rfl⟩
      rw [Int.toNat_natCast] at kh' hlh blh
      have er : raisedN p low (i + 1) (ldivided p [0, 1] low).2 = ltimesN p F low p [1] := by rw [raisedN_add, ← hF]
      refine s_asg (K := K) S3 (ed_var rfl kh') fun vn Hb4 H4 n4 kn => ?_
      exact ⟨Hb4, vn, _, _, _, n4.st, ((sx.trans n2.sub).trans s3).trans n4.sub, by rw [er]; exact kn, by rw [er]; exact hlh, by rw [er]; exact blh, rfl⟩
  · rintro σ' H' ⟨Hb', v, a4, a5, a6, S, sx, kv, hl', bl', rfl⟩
    rw [Int.toNat_natCast] at kv
    exact s_ret S (ed_var rfl kv) q
/-! ### _law_monics -/
abbrev N_law_monics : List Str := ["_law_p", "_law_size", "_law_found", "_law_turn", "_law_longer", "_law_one", "_law_entry"]
theorem sc_law_monics : FnScope N_law_monics ["_law_p", "_law_size"] (defScope (topS 51)) := ⟨rfl, rfl, rfl, by decide +kernel, rfl, by decide +kernel, by decide +kernel⟩
theorem df_lmon (B : Bi K mg) (h : Has K mg "_law_monics" 51) : Df P w K mg base 1 "_law_monics" ["_law_p", "_law_size"] (spMon K T) := by
  refine h.df sc_law_monics (fun vs H Q E h => h.1) (fun _ _ _ _ _ _ us hl => match us, hl with | [_, _], _ => rfl) (fun f cdv A outer s H vs Q E hr h => ?_)
  have nd := sc_law_monics.nd
  refine ⟨_, PSs.nox (pss_cons (ps_set (i := 2) nd rfl (by first | exact Or.inl rfl | exact Or.inr rfl) (pe_lst (pa_cons (pe_tup pa_nil) pa_nil))) (pss_cons (ps_for PassesOwn.never rfl (pi_range1 rfl B.range (pa_cons (pv 1) pa_nil)) (pg_name (i := 3) nd rfl (by first | exact Or.inl rfl | exact Or.inr rfl)) (pss_cons (ps_set (i := 4) nd rfl (by first | exact Or.inl rfl | exact Or.inr rfl) (pe_lst pa_nil)) (pss_cons (ps_for PassesOwn.never rfl (pi_list (pv 2)) (pg_name (i := 5) nd rfl (by first | exact Or.inl rfl | exact Or.inr rfl)) (pss_one (ps_expr (pe_bm PySem.F.plainAttrs_list PySem.F.slot_list_extend PySem.F.type_list_extend mt_extend (pv 4) (pa_cons (pe_lc (own := [("_law_entry", 6)]) (g := (gName 6)) rfl nd (pi_range1 rfl B.range (pa_cons (pv 0) pa_nil)) (blkOk_by (own := [("_law_entry", 6)]) (N := N_law_monics) (sc := defScope (topS 51)) (by decide +kernel)) (fun _ _ _ _ _ => (pg_name (i := 6) nd rfl (by first | exact Or.inl rfl | exact Or.inr rfl))) (fun _ _ _ _ _ => pts_nil) (fun _ _ _ _ _ => (pe_op (catK (K := K) rfl) (pv 5) (pe_tup (pa_cons (pv 6) pa_nil))))) pa_nil))))) (pss_one (ps_set (i := 2) nd rfl (by first | exact Or.inl rfl | exact Or.inr rfl) (pe_callTy (listK (K := K) rfl) (by rfl) B.list boot_list (pa_cons (pv 4) pa_nil))))))) (pss_one (ps_ret (pe_lc (own := [("_law_one", 5)]) (g := (gName 5)) rfl nd (pi_list (pv 2)) (blkOk_by (own := [("_law_one", 5)]) (N := N_law_monics) (sc := defScope (topS 51)) (by decide +kernel)) (fun _ _ _ _ _ => (pg_name (i := 5) nd rfl (by first | exact Or.inl rfl | exact Or.inr rfl))) (fun _ _ _ _ _ => pts_nil) (fun _ _ _ _ _ => (pe_op (catK (K := K) rfl) (pv 5) (pe_tup (pa_cons pe_int pa_nil))))))))), ?_⟩
  obtain ⟨v1, v2, Hx, d1, d2, r, rfl, ht, ex, k1, k2, ⟨p, d, e, hp, hd, hpd, rfl⟩, q⟩ := sp2 h
  cases e
  cases k1
  cases k2
  have hp2 := hp.lo
  have hp7 := hp.hi
  refine q_asg (K := K) (d := .list ((mons p 0).map dT)) (.start ex) (ed_new (en_lst (ea_cons (ed_tup ea_nil (by decide)) ea_nil) (Nat.le_of_ble_eq_true rfl))) fun v Hb1 H1 n1 kv => ?_
  refine s_forR1 (T := T) (g := 3) (n := (d : Int)) n1.st (ev_var rfl) (by omega) (fun i σ' H' => ∃ (Hb' : Hp) (v : V) (a3 a4 a5 a6 : Option V), Stt T Hx H Hb' H' ∧ Dp K Hb' v (.list ((mons p i).map dT)) ∧ i ≤ d ∧ σ' = [some (.int p), some (.int d), some v, a3, a4, a5, a6]) ?_ ?_ ?_
  · intro H2 n2
    exact ⟨Hb1, v, none, none, none, none, n2.st, kv, Nat.zero_le _, rfl⟩
  · rintro i σ' H' hi ⟨Hb', v', a3, a4, a5, a6, S, kv', _, rfl⟩
    have hi : i < d := by omega
    have hpi : p ^ i ≤ 400 := Nat.le_trans (Nat.pow_le_pow_right (by omega) (by omega)) hpd
    have hml : (mons p i).length ≤ 400 := by rw [mons_count]; exact hpi
    refine q_new (K := K) (ds := []) S (en_lst ea_nil (by decide)) fun pl xs Hb2 H2 n2 p0 pb hpl kd => ?_
    cases kd
    refine s_for (K := K) n2.st (it_list (K := K) (j := 5) (ed_var rfl (n2.dp kv'))) sat_mono (fun Bs t σ' Hb' H' => Sub Bs Hb' ∧ Ex T Bs H' ∧ Stt T Hx H Hb' H' ∧ Hb' pl = none ∧ ∃ (xs : List V) (a5 a6 : Option V), H' pl = some (.lst xs) ∧ DpAll K Hb' xs (pre2 (fun _ => p) (fun a b => dT ((mons p i).getD a [] ++ [(b : Int)])) t) ∧ t ≤ (mons p i).length ∧ σ' = [some (.int p), some (.int d), some v', some (.int i), some (.ref pl), a5, a6]) ?_ ?_ ?_ ?_
    · intro Bs H3 n3
      exact ⟨Sub.refl _, n3.st.eb, n3.st, n3.no pb hpl, [], a5, a6, n3.ex.lst hpl, .nil, Nat.zero_le _, rfl⟩
    · rintro Bs t σ' Hb3 H3 ⟨sb, eb, S3, _⟩
      exact ⟨S3, sb, eb⟩
    · rintro Bs t σ' Hb3 H3 ht ⟨sb, eb, S3, pb3, xs, b5, b6, hp3, kd3, _, rfl⟩ σ2 Hb4 H4 n4 ⟨vb, db, h1, h2, rfl⟩
      rw [List.length_map] at ht
      rw [List.getElem?_map, List.getElem?_eq_getElem ht] at h1
      cases h1
      have eg : (mons p i).getD t [] = (mons p i)[t] := by rw [List.getD_eq_getElem?_getD, List.getElem?_eq_getElem ht]; rfl
      have hl := (mons_len p i _ (List.getElem_mem ht)).1
      have hp4 := n4.ex.lst hp3
      have hxl : xs.length ≤ 10 * t := by rw [kd3.length]; exact pre2_len t fun _ _ => by omega
      refine s_ext (K := K) (ds := (List.range p).map fun b : Nat => dT ((mons p i).getD t [] ++ [(b : Int)])) n4.st (ev_var rfl) (en_is (en_lcAll (n := (p : Int).toNat) (fun b : Nat => dT ((mons p i).getD t [] ++ [(b : Int)])) (it_r1 (j := 6) (ev_var rfl) (by omega)) (by omega) fun b σ3 Hy hb sy hS => ?_) (by rw [Int.toNat_natCast])) p0 (n4.no pb3 hp3) hp4 (by rw [List.length_map, List.length_range]; omega) fun ys Hb5 H5 S5 n5 pb5 kd5 => ?_
      · obtain rfl := hS
        refine ⟨rfl, ?_⟩
        rw [eg]
        refine ed_is (ed_catA (ed_var rfl (Dp.sub sy _ _ h2)) (ed_tup (ea_cons (ed_vari (n := (b : Int)) (by rw [Int.zero_add]; rfl)) ea_nil) (Nat.le_of_ble_eq_true rfl)) (by rw [List.length_map, hl]; simp only [List.length_singleton]; omega)) ?_
        show PyData.tuple _ = PyData.tuple _
        rw [List.map_append]
        rfl
      · refine ⟨Hb5, sb.trans (n4.sub.trans n5.sub), ?_, S5, pb5, xs ++ ys, _, _, upd_same, ?_, ht, rfl⟩
        · refine (eb.trans (n4.ex.trans n5.ex)).mut ?_ (n5.ex.lst hp4)
          cases w : Bs pl with
          | none => rfl
          | some u =>
            have : ∃ ps, u = .tbl ps := by
              by_cases z : ∃ ps, u = .tbl ps
              · exact z
              · exact absurd (sb _ _ w fun ps y => z ⟨ps, y⟩) (by rw [pb3]; intro y; cases y)
            obtain ⟨ps, rfl⟩ := this
            obtain ⟨ps', y⟩ := eb.tb w
            rw [hp3] at y
            cases y
        · rw [pre2_succ]
          exact ((n5.dps (n4.dps kd3))).append kd5
    · rintro Bs σ' Hb3 H3 ⟨sb, eb, S3, pb3, xs, b5, b6, hp3, kd3, _, rfl⟩
      rw [List.length_map, pre2_mons] at kd3
      obtain ⟨Hb4, S4, s4, kq⟩ := own_dp (K := K) S3 p0 hp3 kd3
      refine s_asg (K := K) S4 (ed_new (en_list (.inl (ed_var rfl kq)))) fun vn Hb5 H5 n5 kn => ?_
      exact ⟨Hb5, vn, _, _, _, _, n5.st, kn, hi, rfl⟩
  · rintro σ' H' ⟨Hb', v', a3, a4, a5, a6, S, kv', _, rfl⟩
    rw [Int.toNat_natCast] at kv'
    have hml : (mons p d).length ≤ 400 := by rw [mons_count]; exact hpd
    refine s_ret S (ed_new (en_is (en_lcM (j := 5) (fun x => match x with | .tuple ds => .tuple (ds ++ [.int 1]) | y => y) (it_list (ed_var rfl kv')) (by rw [List.length_map]; omega) fun x hx v Hy sb hv => ⟨rfl, ?_⟩) ?_)) q
    · obtain ⟨b, hb, rfl⟩ := List.mem_map.mp hx
      have hl := (mons_len p d _ hb).1
      exact ed_catA (ed_var rfl hv) (ed_tup (ea_cons (ed_int ev_c) ea_nil) (Nat.le_of_ble_eq_true rfl)) (by rw [List.length_map, hl]; simp only [List.length_singleton]; omega)
    · unfold K8.monics
      rw [List.map_map, List.map_map]
      apply List.map_congr_left
      intro b _
      show PyData.tuple _ = PyData.tuple _
      rw [List.map_append]
      rfl
end
end KW

/-! text K8W11 -/
set_option Elab.async false
set_option linter.all false
set_option maxRecDepth 100000
set_option maxHeartbeats 4000000
namespace KW
open PySem PySem.Spec PyProof.Rows L2 StX
open K8 (trim rests divided monics mons dsteps fstep floop facsOf)
def lamName : Str := ((Str.ofString "factors_in" ++ Str.ofString ".<locals>.") ++ Str.ofString "<lambda>")
theorem dsteps_ok {p : Nat} (hp : IsP p) (F : List Int) : ∀ (n : Nat) (l : List Int), (∀ x, x ∈ l → x.natAbs ≤ 7) → (dsteps p F n l).2.length ≤ l.length ∧ (∀ x, x ∈ (dsteps p F n l).2 → x.natAbs ≤ 7) ∧ 0 ≤ (dsteps p F n l).1
  | 0, l, h => ⟨Nat.le_refl _, h, Int.le_refl _⟩
  | n + 1, l, h => by
    have e : dsteps p F (n + 1) l = if F.length ≤ l.length ∧ rests p (divided l F).2 = [] then ((dsteps p F n (rests p (divided l F).1)).1 + 1, (dsteps p F n (rests p (divided l F).1)).2) else (0, l) := rfl
    rw [e]
    split
    · obtain ⟨h1, h2, h3⟩ := dsteps_ok hp F n (rests p (divided l F).1) (rests_small hp _)
      have h4 := rests_len p (divided l F).1
      have h5 := (divided_len l F).1
      exact ⟨by show (dsteps p F n (rests p (divided l F).1)).2.length ≤ l.length; omega, h2, by show 0 ≤ (dsteps p F n (rests p (divided l F).1)).1 + 1; omega⟩
    · exact ⟨Nat.le_refl _, h, Int.le_refl _⟩
structure FOk (n : Nat) (st : K8.FSt) : Prop where
  len : st.1.length ≤ 7
  bd : ∀ x, x ∈ st.1 → x.natAbs ≤ 7
  num : st.2.length ≤ n
  prs : ∀ x, x ∈ st.2 → x.1.length ≤ 20
theorem FOk.step {p d n : Nat} {st : K8.FSt} {F : List Int} (hp : IsP p) (hF : F.length ≤ 20) (h : FOk n st) : FOk (n + 1) (fstep p d st F) := by
  have e : ∀ r : Int × List Int, r.2.length ≤ st.1.length → (∀ x, x ∈ r.2 → x.natAbs ≤ 7) → FOk (n + 1) (r.2, if 0 < r.1 then st.2 ++ [(F, r.1)] else st.2) := fun r h1 h2 => by
    refine ⟨Nat.le_trans h1 h.len, h2, ?_, fun x hx => ?_⟩
    · have := h.num
      show (if 0 < r.1 then st.2 ++ [(F, r.1)] else st.2).length ≤ n + 1
      split
      · rw [List.length_append, List.length_singleton]; omega
      · omega
    · have hx : x ∈ (if 0 < r.1 then st.2 ++ [(F, r.1)] else st.2) := hx
      split at hx
      · rcases List.mem_append.mp hx with z | z
        · exact h.prs x z
        · rw [List.mem_singleton.mp z]; exact hF
      · exact h.prs x hx
  unfold K8.fstep
  dsimp only
  split
  · obtain ⟨h1, h2, _⟩ := dsteps_ok hp F st.1.length st.1 h.bd
    exact e (dsteps p F st.1.length st.1) h1 h2
  · exact e (0, st.1) (Nat.le_refl _) h.bd
theorem foldl_take {α β : Type} (f : β → α → β) (b : β) {l : List α} {t : Nat} (ht : t < l.length) : (l.take (t + 1)).foldl f b = f ((l.take t).foldl f b) l[t] := by
  rw [List.take_add_one, List.getElem?_eq_getElem ht, List.foldl_append]
  rfl
section
variable {P : Program} {w : World} {K : PySem.W.Frag} {mg : Str → Option Value} {base : Heap} {T : Tb} {Pt : Addr}
/-! ### factors_in -/
abbrev N_factors_in : List Str := ["prime", "polynomial", "left", "found", "degree", "divisor", "many", "last"]
theorem sc_factors_in : FnScope N_factors_in ["prime", "polynomial"] (defScope (topS 31)) := ⟨rfl, rfl, rfl, by decide +kernel, rfl, by decide +kernel, by decide +kernel⟩
theorem df_fac (B : Bi K mg) (hT : (Pt, lamName) ∈ T) (hTu : ∀ p ∈ T, p.1 = Pt → p.2 = lamName) (D_monic_of_degree : Df P w K mg base 1 "monic_of_degree" ["prime", "degree"] (spMon K T)) (D_divisor_steps : Df P w K mg base 3 "divisor_steps" ["prime", "polynomial", "divisor"] (spSteps K T)) (D_monic_rests : Df P w K mg base 3 "monic_rests" ["prime", "polynomial"] (spMRests K T)) (h : HasC K mg base "factors_in" 31 Pt) : Df P w K mg base 6 "factors_in" ["prime", "polynomial"] (spFactors K T) := by
  refine h.df sc_factors_in (fun vs H Q E h => h.1) (fun _ _ _ _ _ _ us hl => match us, hl with | [_, _], _ => rfl) (fun f c A outer s H vs Q E TB hr h => ?_)
  have nd := sc_factors_in.nd
  refine ⟨_, PSs.nox (pss_cons (ps_par3 (i := 2) (j := 3) (l := 4) rfl nd rfl rfl rfl (by decide) (by decide) (by decide) rfl rfl rfl (pa_cons (pe_callD D_monic_rests hr (by decide) rfl (pa_cons (pv 0) (pa_cons (pv 1) pa_nil))) (pa_cons (pe_lst pa_nil) (pa_cons pe_int pa_nil))) (by rfl)) (pss_cons (ps_while PassesOwn.never (pt_cmpR op_le (pe_op op_mulW pe_int (pv 4)) (pe_op op_sub (pe_callB (lenK (K := K) rfl) (by rfl) B.len boot_len (pa_cons (pv 2) pa_nil)) pe_int) (nomark _)) (pss_cons (ps_for PassesOwn.never rfl (pi_list (pe_callD D_monic_of_degree hr (by decide) rfl (pa_cons (pv 0) (pa_cons (pv 4) pa_nil)))) (pg_name (i := 5) nd rfl (by first | exact Or.inl rfl | exact Or.inr rfl)) (pss_cons (ps_asg (pe_ifExp (pt_cmpR op_le (pe_op op_mulW pe_int (pv 4)) (pe_op op_sub (pe_callB (lenK (K := K) rfl) (by rfl) B.len boot_len (pa_cons (pv 2) pa_nil)) pe_int) (nomark _)) (pe_callD D_divisor_steps hr (by decide) rfl (pa_cons (pv 0) (pa_cons (pv 2) (pa_cons (pv 5) pa_nil)))) (pe_tup (pa_cons pe_int (pa_cons (pv 2) pa_nil)))) (pg_tup rfl (pgs_cons (pg_name (i := 6) nd rfl (by first | exact Or.inl rfl | exact Or.inr rfl)) (pgs_cons (pg_name (i := 2) nd rfl (by first | exact Or.inl rfl | exact Or.inr rfl)) pgs_nil)))) (pss_one (ps_if (pt_cmpR op_gt (pv 6) pe_int (nomark _)) (pss_one (ps_expr (pe_bm PySem.F.plainAttrs_list PySem.F.slot_list_append PySem.F.type_list_append mt_append (pv 3) (pa_cons (pe_tup (pa_cons (pv 5) (pa_cons (pv 6) pa_nil))) pa_nil)))) pss_nil)))) (pss_one (ps_aug (i := 4) nd rfl (by first | exact Or.inl rfl | exact Or.inr rfl) pe_int ip_add)))) (pss_cons (ps_set (i := 7) nd rfl (by first | exact Or.inl rfl | exact Or.inr rfl) (pe_ifExp (pt_cmpR op_gt (pe_callB (lenK (K := K) rfl) (by rfl) B.len boot_len (pa_cons (pv 2) pa_nil)) pe_int (nomark _)) (pe_lst (pa_cons (pe_tup (pa_cons (pv 2) (pa_cons pe_int pa_nil))) pa_nil)) (pe_lst pa_nil))) (pss_one (ps_ret (pe_sortLam (c := c) (P := Pt) hr rfl B.sorted B.len (pa_cons (pe_lst (pa_starK (K := K) rfl (pv 3) (pa_starK (K := K) rfl (pv 7) pa_nil))) pa_nil) TB rfl hT hTu rfl rfl rfl rfl rfl (by decide +kernel) rfl rfl (fun _ _ _ _ _ => rfl))))))), ?_⟩
  obtain ⟨v1, v2, Hx, d1, d2, r, rfl, ht, ex, k1, k2, ⟨p, g, e, hp, hg, rfl⟩, q⟩ := sp2 h
  cases e
  cases k1
  have hp2 := hp.lo
  have hp7 := hp.hi
  have hg6 := hg.hi
  have hg1 := hg.lo
  obtain ⟨l0, hl0⟩ : ∃ l0, l0 = g.map (· % (p : Int)) ++ [1] := ⟨_, rfl⟩
  have hl0l : l0.length = g.length + 1 := by rw [hl0]; simp
  have ok0 : FOk 0 (l0, []) := by
    refine ⟨by show l0.length ≤ 7; omega, fun x hx => ?_, Nat.le_refl _, fun x hx => absurd hx (by simp)⟩
    have hx : x ∈ l0 := hx
    rw [hl0] at hx
    rcases List.mem_append.mp hx with z | z
    · obtain ⟨y, _, rfl⟩ := List.mem_map.mp z
      have h1 := Int.emod_nonneg y (b := (p : Int)) (by omega)
      have h2 := Int.emod_lt_of_pos y (show (0 : Int) < (p : Int) by omega)
      omega
    · rw [List.mem_singleton.mp z]; decide
  refine q_par3DN (K := K) (d := dT l0) (es := []) (v := .int 1) (.start ex) (ed_call (ea_cons (ed_vari rfl) (ea_cons (ed_var rfl k2) ea_nil)) ⟨p, g, rfl, hp, by omega, by rw [hl0]⟩) (en_lst ea_nil (by decide)) ev_c fun vl fl xs Hb1 H1 n1 kl f0 fb hfl kd => ?_
  cases kd
  refine q_while (T := T) (fun m σ' H' => ∃ (Hb' : Hp) (st : K8.FSt) (vl : V) (xs : List V) (dg : Nat) (a5 a6 a7 : Option V), Stt T Hx H Hb' H' ∧ Hb' fl = none ∧ H' fl = some (.lst xs) ∧ DpAll K Hb' xs (st.2.map encP) ∧ Dp K Hb' vl (dT st.1) ∧ (1 ≤ dg ∧ dg + m = 5) ∧ FOk (1000 * dg) st ∧ floop p m dg st = floop p 4 1 (l0, []) ∧ σ' = [some (.int p), some v2, some vl, some (.ref fl), some (.int dg), a5, a6, a7]) 4 ⟨Hb1, (l0, []), vl, [], 1, none, none, none, n1.st, fb, hfl, .nil, kl, ⟨Nat.le_refl _, rfl⟩, ⟨ok0.len, ok0.bd, Nat.zero_le _, ok0.prs⟩, rfl, rfl⟩ ?_
  rintro m σ' H' ⟨Hb', st, vl, xs, dg, a5, a6, a7, S, fb, hfl, kd, kl, ⟨hdg1, hdm⟩, ok, hfp, rfl⟩
  have okl := ok.len
  have hvl : EvD K T (tVar 2) [some (.int p), some v2, some vl, some (.ref fl), some (.int dg), a5, a6, a7] Hb' (dT st.1) := ed_var rfl kl
  refine ⟨decide (2 * dg ≤ st.1.length - 1 ∧ 1 ≤ st.1.length), S.e0.tabs, (et_test (ev_is (ei_op0 (g := fun i j => V.bl (decide (i ≤ j))) (ei_opC (g := fun i j => V.int (i * j)) ev_c (ev_var rfl) (w2 (sm_of (x := (2 : Int)) (n := 2) (by decide)) (sm_of (n := 5) (by omega)))) (ei_sub (ei_len (.inr hvl)) ev_c)) ?_)).mono S.eb, fun hb H2 e2 => ?_, fun hb H2 e2 => ?_⟩
  · rw [List.length_map]
    congr 1
    rw [decide_eq_decide]
    omega
  · have hb' := of_decide_eq_true hb
    have hdg : 1 ≤ dg ∧ dg ≤ 3 := by omega
    obtain ⟨m', rfl⟩ : ∃ m', m = m' + 1 := ⟨m - 1, by omega⟩
    have hfp' : floop p m' (dg + 1) ((monics p dg).foldl (fstep p dg) st) = floop p 4 1 (l0, []) := by
      rw [← hfp]
      show _ = (if 2 * dg ≤ st.1.length - 1 then _ else _)
      rw [if_pos hb'.1]
    have hpd : p ^ dg ≤ 400 := by
      have h1 : p ^ dg ≤ 7 ^ dg := Nat.pow_le_pow_left hp7 _
      have h2 : 7 ^ dg ≤ 7 ^ 3 := Nat.pow_le_pow_right (by decide) hdg.2
      omega
    have hml : (monics p dg).length ≤ 400 := by
      unfold K8.monics
      rw [List.length_map, mons_count]
      exact hpd
    have hmf : ∀ F, F ∈ monics p dg → F.length = dg + 1 ∧ ∀ x, x ∈ F → x.natAbs ≤ 7 := fun F hF => by
      unfold K8.monics at hF
      obtain ⟨b, hb, rfl⟩ := List.mem_map.mp hF
      obtain ⟨h1, h2⟩ := mons_len p dg b hb
      refine ⟨by rw [List.length_append, h1]; rfl, fun x hx => ?_⟩
      rcases List.mem_append.mp hx with z | z
      · have := h2 x z; omega
      · rw [List.mem_singleton.mp z]; decide
    have S2 := S.keep e2
    refine s_for (K := K) S2 (it_list (K := K) (j := 5) (ds := (monics p dg).map dT) (ed_call (d := .list ((monics p dg).map dT)) (ea_cons (ed_vari rfl) (ea_cons (ed_vari rfl) ea_nil)) ⟨p, dg, rfl, hp, by omega, hpd, rfl⟩)) sat_mono
      (fun Bs t σ' Hb3 H3 => Sub Bs Hb3 ∧ Ex T Bs H3 ∧ Stt T Hx H Hb3 H3 ∧ Hb3 fl = none ∧ ∃ (st' : K8.FSt) (vl : V) (xs : List V) (a5 a6 a7 : Option V), st' = ((monics p dg).take t).foldl (fstep p dg) st ∧ H3 fl = some (.lst xs) ∧ DpAll K Hb3 xs (st'.2.map encP) ∧ Dp K Hb3 vl (dT st'.1) ∧ FOk (1000 * dg + t) st' ∧ t ≤ (monics p dg).length ∧ σ' = [some (.int p), some v2, some vl, some (.ref fl), some (.int dg), a5, a6, a7]) ?_ ?_ ?_ ?_
    · intro Bs H3 n3
      exact ⟨Sub.refl _, n3.st.eb, n3.st, n3.no fb (e2.lst hfl), st, vl, xs, a5, a6, a7, rfl, n3.ex.lst (e2.lst hfl), n3.dps kd, n3.dp kl, ok, Nat.zero_le _, rfl⟩
    · rintro Bs t σ' Hb3 H3 ⟨sb, eb, S3, _⟩
      exact ⟨S3, sb, eb⟩
    · rintro Bs t σ' Hb3 H3 ht ⟨sb, eb, S3, fb3, st', vl, xs, b5, b6, b7, hst, hfl3, kd3, kl3, ok3, _, rfl⟩ σ2 Hb4 H4 n4 ⟨vF, dF, h1, h2, rfl⟩
      rw [List.length_map] at ht
      rw [List.getElem?_map, List.getElem?_eq_getElem ht] at h1
      cases h1
      obtain ⟨F, hF⟩ : ∃ F, F = (monics p dg)[t] := ⟨_, rfl⟩
      have hFm : F ∈ monics p dg := by rw [hF]; exact List.getElem_mem ht
      obtain ⟨hFl, hFb⟩ := hmf F hFm
      rw [← hF] at h2
      have okl3 := ok3.len
      have step := foldl_take (fstep p dg) st ht
      rw [← hst, ← hF] at step
      obtain ⟨rr, hrr⟩ : ∃ rr : Int × List Int, rr = if 2 * dg ≤ st'.1.length - 1 then dsteps p F st'.1.length st'.1 else (0, st'.1) := ⟨_, rfl⟩
      have estep : fstep p dg st' F = (rr.2, if 0 < rr.1 then st'.2 ++ [(F, rr.1)] else st'.2) := by rw [hrr]; rfl
      have hvl4 : EvD K T (tVar 2) ([some (.int p), some v2, some vl, some (.ref fl), some (.int dg), some vF, b6, b7]) Hb4 (dT st'.1) := ed_var rfl (n4.dp kl3)
      refine q_tup (K := K) (ds := [dI rr.1, dT rr.2]) n4.st (ed_if (b := decide (2 * dg ≤ st'.1.length - 1 ∧ 1 ≤ st'.1.length)) (et_test (ev_is (ei_op0 (g := fun i j => V.bl (decide (i ≤ j))) (ei_opC (g := fun i j => V.int (i * j)) ev_c (ev_var rfl) (w2 (sm_of (x := (2 : Int)) (n := 2) (by decide)) (sm_of (n := 5) (by omega)))) (ei_sub (ei_len (.inr hvl4)) ev_c)) ?_)) (fun hc => ?_) fun hc => ?_) rfl fun vs Hb5 H5 n5 kk => ?_
      · rw [List.length_map]
        congr 1
        rw [decide_eq_decide]
        omega
      · rw [hrr, if_pos (of_decide_eq_true hc).1]
        exact ed_call (ea_cons (ed_vari rfl) (ea_cons hvl4 (ea_cons (ed_var rfl h2) ea_nil))) ⟨p, st'.1, F, rfl, hp, by omega, by omega, by omega, ok3.bd, hFb, rfl⟩
      · rw [hrr, if_neg (by have := of_decide_eq_false hc; omega)]
        exact ed_tup (ea_cons (ed_int ev_c) (ea_cons hvl4 ea_nil)) (Nat.le_of_ble_eq_true rfl)
      · obtain ⟨vm, vn, rfl, km, kn⟩ := dp2 kk
        cases km
        refine gs2 ?_
        have okn : FOk (1000 * dg + (t + 1)) (fstep p dg st' F) := by
          have := ok3.step (d := dg) (F := F) hp (by omega)
          rw [show 1000 * dg + t + 1 = 1000 * dg + (t + 1) by omega] at this
          exact this
        have hfl5 := n5.ex.lst (n4.ex.lst hfl3)
        have fb5 := n5.no (n4.no fb3 hfl3) (n4.ex.lst hfl3)
        have nBs : Bs fl = none := by
          cases w : Bs fl with
          | none => rfl
          | some u =>
            have : ∃ ps, u = .tbl ps := by
              by_cases z : ∃ ps, u = .tbl ps
              · exact z
              · exact absurd (sb _ _ w fun ps y => z ⟨ps, y⟩) (by rw [fb3]; intro y; cases y)
            obtain ⟨ps, rfl⟩ := this
            obtain ⟨ps', y⟩ := eb.tb w
            rw [hfl3] at y
            cases y
        refine s_if n5.st (b := decide (0 < rr.1)) (et_test (ei_op0 (g := fun i j => V.bl (decide (j < i))) (ev_var rfl) ev_c)) (fun hc H6 n6 => ?_) fun hc H6 n6 => ?_
        · have hc := of_decide_eq_true hc
          refine s_app (K := K) (d := encP (F, rr.1)) n6.st (ev_var rfl) (ed_tup (ea_cons (ed_var rfl (n5.dp h2)) (ea_cons (ed_vari rfl) ea_nil)) (Nat.le_of_ble_eq_true rfl)) f0 fb5 (n6.ex.lst hfl5) (by rw [kd3.length, List.length_map]; have := ok3.num; omega) fun v7 Hb7 H7 S7 n7 fb7 kv7 => ?_
          refine ⟨Hb7, sb.trans (n4.sub.trans (n5.sub.trans n7.sub)), (eb.trans (n4.ex.trans (n5.ex.trans (n6.ex.trans n7.ex)))).mut nBs (n7.ex.lst (n6.ex.lst hfl5)), S7, fb7, fstep p dg st' F, vn, xs ++ [v7], _, _, _, step.symm, upd_same, ?_, ?_, okn, ht, rfl⟩
          · rw [estep]
            show DpAll K Hb7 _ ((if 0 < rr.1 then st'.2 ++ [(F, rr.1)] else st'.2).map encP)
            rw [if_pos hc, List.map_append]
            exact (n7.dps (n5.dps (n4.dps kd3))).snoc kv7
          · rw [estep]
            exact n7.dp kn
        · have hc := of_decide_eq_false hc
          refine ⟨Hb5, sb.trans (n4.sub.trans n5.sub), eb.trans (n4.ex.trans (n5.ex.trans n6.ex)), n6.st, fb5, fstep p dg st' F, vn, xs, _, _, _, step.symm, n6.ex.lst hfl5, ?_, ?_, okn, ht, rfl⟩
          · rw [estep]
            show DpAll K Hb5 _ ((if 0 < rr.1 then st'.2 ++ [(F, rr.1)] else st'.2).map encP)
            rw [if_neg hc]
            exact n5.dps (n4.dps kd3)
          · rw [estep]
            exact kn
    · rintro Bs σ' Hb3 H3 ⟨sb, eb, S3, fb3, st', vl, xs, b5, b6, b7, hst, hfl3, kd3, kl3, ok3, _, rfl⟩
      rw [List.length_map, List.take_length] at hst
      refine s_aug S3 rfl ev_c fun H4 n4 => ⟨m', Nat.lt_succ_self _, Hb3, st', vl, xs, dg + 1, _, _, _, n4.st, fb3, n4.ex.lst hfl3, kd3, kl3, ⟨by omega, by omega⟩, ⟨ok3.len, ok3.bd, ?_, ok3.prs⟩, by rw [hst]; exact hfp', rfl⟩
      have := ok3.num
      rw [List.length_map] at this
      omega
  · have hb' : ¬ (2 * dg ≤ st.1.length - 1 ∧ 1 ≤ st.1.length) := of_decide_eq_false hb
    have eF : floop p m dg st = st := by
      cases m with
      | zero => rfl
      | succ m' =>
        show (if 2 * dg ≤ st.1.length - 1 then _ else _) = _
        rw [if_neg (by omega)]
    rw [eF] at hfp
    have S2 := S.keep e2
    refine q_asg (K := K) (d := .list ((if 1 < st.1.length then [(st.1, (1 : Int))] else []).map encP)) S2 (ed_if (b := decide (1 < st.1.length)) (et_test (ev_is (ei_op0 (g := fun i j => V.bl (decide (j < i))) (ei_len (.inr hvl)) ev_c) ?_)) (fun hc => ?_) fun hc => ?_) fun vz Hb3 H3 n3 kz => ?_
    · rw [List.length_map]
      congr 1
      rw [decide_eq_decide]
      omega
    · rw [if_pos (of_decide_eq_true hc)]
      exact ed_new (en_lst (ds := [encP (st.1, 1)]) (ea_cons (ed_tup (ea_cons hvl (ea_cons (ed_int ev_c) ea_nil)) (Nat.le_of_ble_eq_true rfl)) ea_nil) (Nat.le_of_ble_eq_true rfl))
    · rw [if_neg (of_decide_eq_false hc)]
      exact ed_new (en_lst ea_nil (by decide))
    · have fb3 := n3.no fb (e2.lst hfl)
      have hfl3 := n3.ex.lst (e2.lst hfl)
      obtain ⟨Hb4, S4, s4, kq⟩ := own_dp (K := K) n3.st f0 hfl3 (n3.dps kd)
      have hnum := ok.num
      have efin : facsOf p l0 = st.2 ++ (if 1 < st.1.length then [(st.1, (1 : Int))] else []) := by
        show (floop p 4 1 (l0, [])).2 ++ (if 1 < (floop p 4 1 (l0, [])).1.length then [((floop p 4 1 (l0, [])).1, 1)] else []) = _
        rw [← hfp]
      refine s_ret S4 (ed_is (ed_new (en_sortLam (prs := st.2 ++ (if 1 < st.1.length then [(st.1, (1 : Int))] else [])) (ed_new (en_lst (ea_is (ea_star (.inl (ed_var rfl kq)) (ea_star (.inl (ed_var rfl (Dp.sub s4 _ _ kz))) ea_nil)) (by rw [List.append_nil, List.map_append])) ?_)) fun pr hpr => ?_)) ?_) q
      · rw [List.length_map, List.length_append]
        split
        · rw [List.length_singleton]; omega
        · rw [List.length_nil]; omega
      · rcases List.mem_append.mp hpr with z | z
        · have := ok.prs pr z; omega
        · split at z
          · rw [List.mem_singleton.mp z]
            show st.1.length ≤ 1000
            omega
          · simp at z
      · unfold facs
        rw [← hl0, efin]
end
end KW

/-! text K8W12 -/
set_option Elab.async false
set_option linter.all false
set_option maxRecDepth 100000
set_option maxHeartbeats 4000000
namespace KW
open PySem PySem.Spec PyProof.Rows L2 StX
open K8 (trim rests divided monics mons)
def genName : Str := ((Str.ofString "least_low_in" ++ Str.ofString ".<locals>.") ++ Str.ofString "<genexpr>")
section
variable {P : Program} {w : World} {K : PySem.W.Frag} {mg : Str → Option Value} {base : Heap} {T : Tb} {Pl : Addr}
/-! ### least_low_in -/
abbrev N_least_low_in : List Str := ["prime", "size", "one"]
theorem sc_least_low_in : FnScope N_least_low_in ["prime", "size"] (defScope (topS 33)) := ⟨rfl, rfl, rfl, by decide +kernel, rfl, by decide +kernel, by decide +kernel⟩
theorem df_lowIn (B : Bi K mg) (hL : (Pl, genName) ∈ T) (hLu : ∀ p ∈ T, p.1 = Pl → p.2 = genName) (D_monic_of_degree : Df P w K mg base 1 "monic_of_degree" ["prime", "degree"] (spMon K T)) (D_is_irreducible_in : Df P w K mg base 7 "is_irreducible_in" ["prime", "polynomial"] (spIrr K T)) (h : HasC K mg base "least_low_in" 33 Pl) : Df P w K mg base 10 "least_low_in" ["prime", "size"] (spLow K T) := by
  refine h.df sc_least_low_in (fun vs H Q E h => h.1) (fun _ _ _ _ _ _ us hl => match us, hl with | [_, _], _ => rfl) (fun f c A outer s H vs Q E TB hr h => ?_)
  have nd := sc_least_low_in.nd
  refine ⟨_, PSs.nox (pss_one (ps_ret (pe_nextGen (k := 7) (c := c) (P := Pl) hr rfl B.next TB rfl hL hLu (pe_callD D_monic_of_degree hr (by decide) rfl (pa_cons (pv 0) (pa_cons (pv 1) pa_nil))) rfl rfl (by decide +kernel) rfl rfl rfl (free_ok (sc := defScope (topS 33)) (by decide +kernel)) rfl rfl (fun _ => rfl) (fun _ _ _ _ _ _ hr => (pt_val (pe_callD D_is_irreducible_in hr (by decide) rfl (pa_cons (pv 0) (pa_cons (pv 1) pa_nil)))))))), ?_⟩
  obtain ⟨v1, v2, Hx, d1, d2, r, rfl, ht, ex, k1, k2, ⟨p, d, e, hp, hd1, hd6, hpd, rfl⟩, q⟩ := sp2 h
  cases e
  cases k1
  cases k2
  have hp2 := hp.lo
  have hp7 := hp.hi
  have hmn : ∀ i, i < (mons p d).length → OkG ((mons p d).getD i []) := fun i hi => by
    have hm : (mons p d).getD i [] ∈ mons p d := by rw [List.getD_eq_getElem?_getD, List.getElem?_eq_getElem hi]; exact List.getElem_mem hi
    obtain ⟨h1, h2⟩ := mons_len p d _ hm
    exact ⟨by omega, by omega, fun x hx => by have := h2 x hx; omega⟩
  have hget : ∀ (i : Nat) (dd : PyData), ((monics p d).map dT)[i]? = some dd → i < (mons p d).length ∧ dd = dT ((mons p d).getD i [] ++ [1]) := fun i dd h => by
    unfold K8.monics at h
    rw [List.getElem?_map, List.getElem?_map] at h
    cases w : (mons p d)[i]? with
    | none => rw [w] at h; cases h
    | some x =>
      rw [w] at h
      cases h
      refine ⟨(List.getElem?_eq_some_iff.mp w).1, ?_⟩
      rw [List.getD_eq_getElem?_getD, w]
      rfl
  have hml : ((monics p d).map dT).length = (mons p d).length := by unfold K8.monics; rw [List.length_map, List.length_map]
  refine s_ret (.start ex) (ed_nextG (p := (p : Int)) (fun i => irrL (facs p ((mons p d).getD i []))) (ed_call (d := .list ((monics p d).map dT)) (ea_cons (ed_vari rfl) (ea_cons (ed_vari rfl) ea_nil)) ⟨p, d, rfl, hp, by omega, by omega, rfl⟩) rfl (fun i dd v Hy h1 h2 => ?_) (fun i dd h1 hb hlt => ?_) fun hall => ?_) q
  · obtain ⟨hi, rfl⟩ := hget i dd h1
    exact et_B (eb (ed_call (ea_cons (ed_vari rfl) (ea_cons (ed_var rfl h2) ea_nil)) ⟨p, _, rfl, hp, hmn i hi, rfl⟩))
  · obtain ⟨hi, rfl⟩ := hget i dd h1
    have hf : (mons p d).find? (fun b => irrL (facs p b)) = some ((mons p d).getD i []) := by
      rw [List.find?_eq_some_iff_getElem]
      refine ⟨hb, i, hi, ?_, fun j hj => ?_⟩
      · rw [List.getD_eq_getElem?_getD, List.getElem?_eq_getElem hi]; rfl
      · have := hlt j hj
        rw [List.getD_eq_getElem?_getD, List.getElem?_eq_getElem (by omega)] at this
        show (!irrL (facs p (mons p d)[j])) = true
        rw [show irrL (facs p (mons p d)[j]) = false from this]
        rfl
    unfold lowIn
    rw [hf]
  · have hf : (mons p d).find? (fun b => irrL (facs p b)) = none := by
      rw [List.find?_eq_none]
      intro x hx
      obtain ⟨j, hj, rfl⟩ := List.getElem_of_mem hx
      have := hall j (by rw [hml]; exact hj)
      rw [List.getD_eq_getElem?_getD, List.getElem?_eq_getElem hj] at this
      rw [show irrL (facs p (mons p d)[j]) = false from this]
      decide
    unfold lowIn
    rw [hf]
end
end KW

/-! text K8W13 -/
set_option Elab.async false
set_option linter.all false
set_option maxRecDepth 100000
set_option maxHeartbeats 4000000
namespace KW
open PySem PySem.Spec PyProof.Rows L2 StX
section
variable {K : PySem.W.Frag} {T : Tb} {σ : L2.St} {Hx H0 Hb H H' : Hp} {te : TE} {v : V} {D : Ends}
theorem s_retV (S : Stt T Hx H0 Hb H) (h : Ev T te σ H v) (k : ∀ H1, Nxt T Hx H0 Hb H Hb H1 → D.rt v H1) : tRet te D σ H := h H S.e0.refl _ fun H1 e1 => k H1 (.keep S e1)
end
/-- the dice: three whole numbers, at most n turns done -/
def DOk (p : Addr) (n : Nat) (H : Hp) : Prop := ∃ a b c : Int, H p = some (.lst [.int a, .int b, .int c]) ∧ 0 ≤ a ∧ a.natAbs ≤ 10 ^ 700 ∧ 0 ≤ b ∧ b ≤ 2 ^ 31 ∧ 0 ≤ c ∧ c ≤ n
theorem DOk.ex {T : Tb} {p : Addr} {n : Nat} {H H' : Hp} (h : DOk p n H) (e : Ex T H H') : DOk p n H' := by
  obtain ⟨a, b, c, h1, h2⟩ := h
  exact ⟨a, b, c, e.lst h1, h2⟩
theorem big_of7 {x : Int} (h : x.natAbs ≤ 10 ^ 700) : x.natAbs < 2 ^ 9000 := Nat.lt_of_le_of_lt h (by decide +kernel)
theorem hide_start {T : Tb} {p : Addr} {H : Hp} (t : LamX.Tabs T H) : Stt T (hide p H) (hide p H) (hide p H) H := ⟨ex_hide (.start t), ex_hide (.start t), fun h => .inl h⟩
theorem Ex.hid {T : Tb} {p : Addr} {Hb H H' : Hp} (e : Ex T Hb H) (hb : Hb p = none) (e2 : Ex T (hide p H) H') : Ex T Hb H' := ⟨fun a o h n => e2.keep a o (by rw [hide_ne (ne_of_none h hb)]; exact e.keep a o h n) n, e2.tabs, fun {a} z => by
  have h := e2.free z
  by_cases q : a = p
  · rw [q]; exact hb
  · rw [hide_ne q] at h; exact e.free h, fun {a ps} h => by
  obtain ⟨ps', q⟩ := e.tb h
  exact e2.tb (by rw [hide_ne (ne_of_none h hb)]; exact q)⟩
theorem DOk.up {p : Addr} {n m : Nat} {H : Hp} (h : DOk p n H) (hm : n ≤ m) : DOk p m H := by
  obtain ⟨a, b, c, h1, h2, h3, h4, h5, h6, h7⟩ := h
  exact ⟨a, b, c, h1, h2, h3, h4, h5, h6, by omega⟩
/-- an expression that rolls the dice at p (at most k times): a whole number of which P holds -/
def EvR (T : Tb) (p : Addr) (Hb : Hp) (n k : Nat) (te : TE) (σ : L2.St) (Pi : Int → Prop) : Prop := ∀ H, Ex T Hb H → DOk p n H → ∀ Q : VK, (∀ i H', Ex T Hb H' → DOk p (n + k) H' → Pi i → Q (.int i) H') → te σ H Q
section
variable {P : Program} {w : World} {K : PySem.W.Frag} {mg : Str → Option Value} {base : Heap} {T : Tb}
abbrev spRoll (T : Tb) : Sp := fun vs H Q _ => ∃ (p : Addr) (n : Nat) (size : Int), vs = [.ref p, .int size] ∧ LamX.Tabs T H ∧ DOk p n H ∧ n ≤ 100000 ∧ 0 < size ∧ size ≤ 10 ^ 8 ∧ ∀ i H', Ex T (hide p H) H' → DOk p (n + 1) H' → 0 ≤ i → i < size → Q (.int i) H'
/-! ### _law_roll -/
abbrev N_law_roll : List Str := ["_law_dice_here", "_law_total", "_law_size", "_law_drawn", "_law_one", "_law_two"]
theorem sc_law_roll : FnScope N_law_roll ["_law_dice_here", "_law_total"] (defScope (topS 43)) := ⟨rfl, rfl, rfl, by decide +kernel, rfl, by decide +kernel, by decide +kernel⟩
theorem df_roll (B : Bi K mg) (h : Has K mg "_law_roll" 43) : Df P w K mg base 1 "_law_roll" ["_law_dice_here", "_law_total"] (spRoll T) := by
  refine h.df sc_law_roll (fun vs H Q E h => by obtain ⟨_, _, _, rfl, _⟩ := h; rfl) (fun _ _ _ _ _ _ us hl => match us, hl with | [_, _], _ => rfl) (fun f cdv A outer s H vs Q E hr h => ?_)
  have nd := sc_law_roll.nd
  refine ⟨_, PSs.nox (pss_cons (ps_set (i := 2) nd rfl (by first | exact Or.inl rfl | exact Or.inr rfl) (pe_callTy call_int1 (by rfl) B.int boot_int (pa_cons (pv 1) pa_nil))) (pss_cons (ps_if (pt_cmpR op_gt (pe_ix (ixL (K := K) rfl) (pv 0) pe_int (fun _ _ => rfl)) pe_int (nomark _)) (pss_cons (ps_set (i := 3) nd rfl (by first | exact Or.inl rfl | exact Or.inr rfl) (pe_op op_mod (pe_ix (ixL (K := K) rfl) (pv 0) pe_int (fun _ _ => rfl)) (pv 2))) (pss_cons (ps_asg (pe_op op_fdivW (pe_ix (ixL (K := K) rfl) (pv 0) pe_int (fun _ _ => rfl)) (pv 2)) (pg_sub (pv 0) pe_int set_list)) (pss_one (ps_ret (pe_callTy call_int1 (by rfl) B.int boot_int (pa_cons (pv 3) pa_nil)))))) pss_nil) (pss_cons (ps_asg (pe_op op_add (pe_ix (ixL (K := K) rfl) (pv 0) pe_int (fun _ _ => rfl)) pe_int) (pg_sub (pv 0) pe_int set_list)) (pss_cons (ps_set (i := 4) nd rfl (by first | exact Or.inl rfl | exact Or.inr rfl) (pe_op op_mod (pe_op op_add (pe_ix (ixL (K := K) rfl) (pv 0) pe_int (fun _ _ => rfl)) (pe_op op_mulW pe_int (pe_ix (ixL (K := K) rfl) (pv 0) pe_int (fun _ _ => rfl)))) pe_int)) (pss_cons (ps_set (i := 5) nd rfl (by first | exact Or.inl rfl | exact Or.inr rfl) (pe_op op_add (pe_op op_mulW (pe_op op_mod (pe_op op_mulW (pv 4) (pv 4)) pe_int) (pv 4)) (pe_op op_mulW pe_int (pe_ix (ixL (K := K) rfl) (pv 0) pe_int (fun _ _ => rfl))))) (pss_cons (ps_set (i := 5) nd rfl (by first | exact Or.inl rfl | exact Or.inr rfl) (pe_op op_mod (pv 5) pe_int)) (pss_one (ps_ret (pe_callTy call_int1 (by rfl) B.int boot_int (pa_cons (pe_op op_mod (pe_op op_fdivW (pv 5) pe_int) (pv 2)) pa_nil)))))))))), ?_⟩
  obtain ⟨p, n, size, rfl, ht, ⟨a, b, c, hp, ha, ha7, hb, hb31, hc, hcn⟩, hn, hs0, hs8, q⟩ := h
  have S0 : Stt T (hide p H) (hide p H) (hide p H) H := hide_start ht
  have hs7 : size.natAbs ≤ 10 ^ 8 := by omega
  refine q_asgV S0 (v := .int size) (ei_int (ev_var rfl)) fun H1 n1 => ?_
  have hp1 := n1.ex.lst hp
  refine q_if n1.st (b := decide ((0 : Int) < a)) (et_test (ei_op0 (g := fun i j => V.bl (decide (j < i))) (ev_own (j := 0) hp1 (ev_var rfl) ev_c rfl) ev_c)) (fun hc0 H2 n2 => ?_) fun hc0 H2 n2 => ?_
  · have hp2 := n2.ex.lst hp1
    refine q_asgV n2.st (v := .int (a % size)) (ei_opC (g := fun i j => V.int (i % j)) (ev_own (j := 0) hp2 (ev_var rfl) ev_c rfl) (ev_var rfl) hs0) fun H3 n3 => ?_
    have hp3 := n3.ex.lst hp2
    refine q_setV n3.st (j := 0) (v := .int (a / size)) (ei_opC (g := fun i j => V.int (i / j)) (ev_own (j := 0) hp3 (ev_var rfl) ev_c rfl) (ev_var rfl) ⟨hs0, (Nat.log2_lt (by omega)).mpr (sm_of hs7)⟩) (ev_var rfl) ev_c hide_p hide_p hp3 (show 0 < 3 by decide) fun H4 S4 e4 => ?_
    refine s_retV S4 (ei_int (ev_var rfl)) fun H5 n5 => q _ _ n5.st.e0 ⟨a / size, b, c, n5.ex.lst upd_same, ?_, ?_, hb, hb31, hc, by omega⟩ (Int.emod_nonneg _ (by omega)) (Int.emod_lt_of_pos _ hs0)
    · exact Int.ediv_nonneg ha (by omega)
    · have h1 : 0 ≤ a / size := Int.ediv_nonneg ha (by omega)
      have h2 : a / size ≤ a := Int.ediv_le_self _ ha
      exact Nat.le_trans (by omega) ha7
  · have hp2 := n2.ex.lst hp1
    refine q_setV n2.st (j := 2) (v := .int (c + 1)) (ei_add (ev_own (j := 2) hp2 (ev_var rfl) ev_c rfl) ev_c) (ev_var rfl) ev_c hide_p hide_p hp2 (show 2 < 3 by decide) fun H3 S3 e3 => ?_
    have hp3 : (upd H3 p (.lst [.int a, .int b, .int (c + 1)])) p = some (.lst [.int a, .int b, .int (c + 1)]) := upd_same
    obtain ⟨o, ho⟩ : ∃ o : Int, o = (b + 1000393 * (c + 1)) % 2305843009213693951 := ⟨_, rfl⟩
    have bo : 0 ≤ o ∧ o < 2305843009213693951 := by rw [ho]; exact ⟨Int.emod_nonneg _ (by decide), Int.emod_lt_of_pos _ (by decide)⟩
    refine q_asgV S3 (v := .int o) (ev_is (ei_opC (g := fun i j => V.int (i % j)) (ei_add (ev_own (j := 1) hp3 (ev_var rfl) ev_c rfl) (ei_opC (g := fun i j => V.int (i * j)) ev_c (ev_own (j := 2) hp3 (ev_var rfl) ev_c rfl) (w2 (sm_of (n := 1000393) (by decide)) (sm_of (n := 100001) (by omega))))) ev_c (by decide)) (by rw [ho])) fun H4 n4 => ?_
    have hp4 := n4.ex.lst hp3
    have so : o.natAbs ≤ 2305843009213693951 := by omega
    obtain ⟨o2, ho2⟩ : ∃ o2 : Int, o2 = o * o % 2305843009213693921 := ⟨_, rfl⟩
    have bo2 : o2.natAbs ≤ 2305843009213693921 := by
      have h1 := Int.emod_nonneg (o * o) (b := 2305843009213693921) (by decide)
      have h2 := Int.emod_lt_of_pos (o * o) (b := 2305843009213693921) (by decide)
      omega
    refine q_asgV n4.st (v := .int (o2 * o + 9511 * (c + 1))) (ei_add (ei_opC (g := fun i j => V.int (i * j)) (ev_is (ei_opC (g := fun i j => V.int (i % j)) (ei_opC (g := fun i j => V.int (i * j)) (ev_var rfl) (ev_var rfl) (w2 (sm_of so) (sm_of so))) ev_c (by decide)) (by rw [ho2])) (ev_var rfl) (w2 (sm_of bo2) (sm_of so))) (ei_opC (g := fun i j => V.int (i * j)) ev_c (ev_own (j := 2) hp4 (ev_var rfl) ev_c rfl) (w2 (sm_of (n := 9511) (by decide)) (sm_of (n := 100001) (by omega))))) fun H5 n5 => ?_
    refine q_asgV n5.st (v := .int ((o2 * o + 9511 * (c + 1)) % 2305843009213693907)) (ei_opC (g := fun i j => V.int (i % j)) (ev_var rfl) ev_c (by decide)) fun H6 n6 => ?_
    refine s_retV n6.st (ei_int (ei_opC (g := fun i j => V.int (i % j)) (ei_opC (g := fun i j => V.int (i / j)) (ev_var rfl) ev_c ⟨by decide, by decide +kernel⟩) (ev_var rfl) hs0)) fun H7 n7 => q _ _ n7.st.e0 ⟨a, b, c + 1, n7.ex.lst (n6.ex.lst (n5.ex.lst hp4)), ha, ha7, hb, hb31, by omega, by omega⟩ (Int.emod_nonneg _ (by omega)) (Int.emod_lt_of_pos _ hs0)
theorem er_roll {p : Addr} {Hb : Hp} {n ix : Nat} {σ : L2.St} {tb : TE} {size : Int} {E : XK} (hb : Hb p = none) (hσ : σ[ix]? = some (some (.ref p))) (h : Ev T tb σ Hb (.int size)) (hn : n ≤ 100000) (h0 : 0 < size) (h8 : size ≤ 10 ^ 8) :
    EvR T p Hb n 1 (tCall (spRoll T) [] E (tCons (tVar ix) (tCons tb tNil))) σ (fun i => 0 ≤ i ∧ i < size) := fun H e d Q q =>
  ⟨_, hσ, h H e _ fun H2 e2 => ⟨p, n, size, rfl, e2.tabs, d.ex e2, hn, h0, h8, fun i H' ex' d' h1 h2 => q i H' ((e.trans e2).hid hb ex') d' ⟨h1, h2⟩⟩⟩
theorem er_sub {p : Addr} {Hb : Hp} {n k : Nat} {σ : L2.St} {ta tb : TE} {c : Int} {Pi Pj : Int → Prop} (h : EvR T p Hb n k ta σ Pi) (hc : Ev T tb σ Hb (.int c)) (hp : ∀ i, Pi i → Pj (i - c)) : EvR T p Hb n k (tOp rSub ta tb) σ Pj := fun H e d Q q =>
  h H e d _ fun i H' e' d' hi => hc H' e' _ fun H2 e2 => ⟨i, c, rfl, rfl, q _ H2 (e'.trans e2) (d'.ex e2) (hp i hi)⟩
theorem er_add {p : Addr} {Hb : Hp} {n k : Nat} {σ : L2.St} {ta tb : TE} {c : Int} {Pi Pj : Int → Prop} (hc : Ev T ta σ Hb (.int c)) (h : EvR T p Hb n k tb σ Pi) (hp : ∀ i, Pi i → Pj (c + i)) : EvR T p Hb n k (tOp rAdd ta tb) σ Pj := fun H e d Q q =>
  hc H e _ fun H2 e2 => h H2 (e.trans e2) (d.ex e2) _ fun i H' e' d' hi => ⟨c, i, rfl, rfl, q _ H' e' d' (hp i hi)⟩
/-! ### _law_one_of -/
abbrev spOneOf (T : Tb) : Sp := fun vs H Q _ => ∃ (p a : Addr) (n : Nat) (xs : List V), vs = [.ref p, .ref a] ∧ a ≠ p ∧ H a = some (.lst xs) ∧ 0 < xs.length ∧ xs.length ≤ 1000 ∧ LamX.Tabs T H ∧ DOk p n H ∧ n ≤ 100000 ∧ ∀ (i : Nat) (x : V) (H' : Hp), xs[i]? = some x → Ex T (hide p H) H' → DOk p (n + 1) H' → Q x H'
abbrev N_law_one_of : List Str := ["_law_dice_here", "_law_items"]
theorem sc_law_one_of : FnScope N_law_one_of ["_law_dice_here", "_law_items"] (defScope (topS 44)) := ⟨rfl, rfl, rfl, by decide +kernel, rfl, by decide +kernel, by decide +kernel⟩
theorem df_oneOf (B : Bi K mg) (D_law_roll : Df P w K mg base 1 "_law_roll" ["_law_dice_here", "_law_total"] (spRoll T)) (h : Has K mg "_law_one_of" 44) : Df P w K mg base 2 "_law_one_of" ["_law_dice_here", "_law_items"] (spOneOf T) := by
  refine h.df sc_law_one_of (fun vs H Q E h => by obtain ⟨_, _, _, _, rfl, _⟩ := h; rfl) (fun _ _ _ _ _ _ us hl => match us, hl with | [_, _], _ => rfl) (fun f cdv A outer s H vs Q E hr h => ?_)
  have nd := sc_law_one_of.nd
  refine ⟨_, PSs.nox (pss_one (ps_ret (pe_ix (ixL (K := K) rfl) (pv 1) (pe_callD D_law_roll hr (by decide) rfl (pa_cons (pv 0) (pa_cons (pe_callB (lenK (K := K) rfl) (by rfl) B.len boot_len (pa_cons (pv 1) pa_nil)) pa_nil))) (fun _ _ => rfl)))), ?_⟩
  obtain ⟨p, a, n, xs, rfl, hap, ha, hx0, hx, ht, hd, hn, q⟩ := h
  have hb : (hide p H) p = none := hide_p
  have ha' : (hide p H) a = some (.lst xs) := by rw [hide_ne hap]; exact ha
  have e0 : Ex T (hide p H) H := ex_hide (.start ht)
  show tRet (tOp (rIxL K) (tVar 1) (tCall (spRoll T) [] L2.E0 (tCons (tVar 0) (tCons (tCB (rLenS K) (tCons (tVar 1) tNil)) tNil)))) { nx := fun x H' => Q V.non H', rt := Q } (L2.start N_law_one_of [.ref p, .ref a]) H
  refine ⟨_, rfl, er_roll (size := (xs.length : Int)) (ix := 0) hb rfl (ev_lenOwn (K := K) ha' (ev_var rfl)) hn (by omega) (by omega) H e0 hd _ fun i H' e' d' hi => ?_⟩
  obtain ⟨j, rfl⟩ : ∃ j : Nat, i = (j : Int) := ⟨i.toNat, by omega⟩
  have hj : j < xs.length := by omega
  exact ⟨a, xs, (j : Int), xs[j], rfl, rfl, .inl (.inl (e'.lst ha')), atI_nat (List.getElem?_eq_getElem hj), q j xs[j] H' (List.getElem?_eq_getElem hj) e' d'⟩
/-! ### _law_digits_great -/
abbrev spDigits (T : Tb) : Sp := fun vs H Q _ => ∃ (p : Addr) (n : Nat) (m : Int), vs = [.ref p, .int m] ∧ LamX.Tabs T H ∧ DOk p n H ∧ n ≤ 99990 ∧ 12 ≤ m ∧ m ≤ 10 ^ 7 ∧ ∀ i H', Ex T (hide p H) H' → DOk p (n + 2) H' → -m ≤ i → i ≤ m → Q (.int i) H'
abbrev N_law_digits_great : List Str := ["_law_dice_here", "_law_most"]
theorem sc_law_digits_great : FnScope N_law_digits_great ["_law_dice_here", "_law_most"] (defScope (topS 45)) := ⟨rfl, rfl, rfl, by decide +kernel, rfl, by decide +kernel, by decide +kernel⟩
theorem df_digits (B : Bi K mg) (D_law_roll : Df P w K mg base 1 "_law_roll" ["_law_dice_here", "_law_total"] (spRoll T)) (h : Has K mg "_law_digits_great" 45) : Df P w K mg base 2 "_law_digits_great" ["_law_dice_here", "_law_most"] (spDigits T) := by
  refine h.df sc_law_digits_great (fun vs H Q E h => by obtain ⟨_, _, _, rfl, _⟩ := h; rfl) (fun _ _ _ _ _ _ us hl => match us, hl with | [_, _], _ => rfl) (fun f cdv A outer s H vs Q E hr h => ?_)
  have nd := sc_law_digits_great.nd
  refine ⟨_, PSs.nox (pss_cons (ps_if (pt_cmpR op_eq (pe_callD D_law_roll hr (by decide) rfl (pa_cons (pv 0) (pa_cons pe_int pa_nil))) pe_int (nomark _)) (pss_one (ps_ret (pe_op op_sub (pe_callD D_law_roll hr (by decide) rfl (pa_cons (pv 0) (pa_cons (pe_op op_add (pe_op op_mulW pe_int (pv 1)) pe_int) pa_nil))) (pv 1)))) pss_nil) (pss_one (ps_ret (pe_op op_sub (pe_callD D_law_roll hr (by decide) rfl (pa_cons (pv 0) (pa_cons pe_int pa_nil))) pe_int)))), ?_⟩
  obtain ⟨p, n, m, rfl, ht, hd, hn, hm12, hm7, q⟩ := h
  have hb : (hide p H) p = none := hide_p
  have e0 : Ex T (hide p H) H := ex_hide (.start ht)
  refine er_roll (T := T) (size := 4) (ix := 0) hb rfl ev_c (by omega) (by decide) (by decide) H e0 hd _ fun i H1 e1 d1 hi => ?_
  refine ⟨rfl, _, rfl, ?_⟩
  show (if _ = true then _ else _)
  split
  · refine er_sub (T := T) (Pj := fun i => -m ≤ i ∧ i ≤ m) (er_roll (T := T) (n := n + 1) (size := 2 * m + 1) (ix := 0) hb rfl (ei_add (ei_opC (g := fun i j => V.int (i * j)) ev_c (ev_var rfl) (w2 (sm_of (n := 2) (by decide)) (sm_of (n := 10 ^ 7) (by omega)))) ev_c) (by omega) (by omega) (by omega)) (ev_var rfl) (fun i hi => by omega) H1 e1 d1 _ fun i H2 e2 d2 hi => ?_
    exact q i H2 e2 d2 hi.1 hi.2
  · refine er_sub (T := T) (Pj := fun i => -m ≤ i ∧ i ≤ m) (er_roll (T := T) (n := n + 1) (size := 25) (ix := 0) hb rfl ev_c (by omega) (by decide) (by decide)) ev_c (fun i hi => by omega) H1 e1 d1 _ fun i H2 e2 d2 hi => ?_
    exact q i H2 e2 d2 hi.1 hi.2
end
end KW

/-! text K8W14 -/
set_option Elab.async false
set_option linter.all false
set_option maxRecDepth 100000
set_option maxHeartbeats 4000000
namespace KW
open PySem PySem.Spec PyProof.Rows L2 StX
section
variable {K : PySem.W.Frag} {T : Tb} {σ : L2.St} {Hx H0 Hb H H' : Hp} {te ta tb : TE} {v : V} {D : Ends}
theorem ev_sql {p : Addr} {xs : List V} {j : Nat} (hp : SqL K H p xs) (ha : Ev T ta σ H (.ref p)) (hb : Ev T tb σ H (.int (j : Int))) (e : xs[j]? = some v) : Ev T (tOp (rIxL K) ta tb) σ H v := fun H1 e1 Q q =>
  ha H1 e1 _ fun H2 e2 => hb H2 (e1.trans e2) _ fun H3 e3 => ⟨p, xs, j, v, rfl, rfl, (((e1.trans e2).trans e3).sub).sql hp, atI_nat e, q H3 (e2.trans e3)⟩
theorem ev_lenSql {p : Addr} {xs : List V} (hp : SqL K H p xs) (ha : Ev T ta σ H (.ref p)) : Ev T (tCB (rLenS K) (tCons ta tNil)) σ H (.int (xs.length : Int)) := fun H1 e1 Q q =>
  ha H1 e1 _ fun H2 e2 => ⟨p, xs, rfl, .inl (((e1.trans e2).sub).sql hp), q H2 e2⟩
end
section
variable {P : Program} {w : World} {K : PySem.W.Frag} {mg : Str → Option Value} {base : Heap} {T : Tb}
abbrev spDice (K : PySem.W.Frag) (T : Tb) : Sp := fun vs H Q _ => ∃ (a : Addr) (ns : List Int) (k : Int), vs = [.ref a, .int k] ∧ SqL K H a (ns.map V.int) ∧ LamX.Tabs T H ∧ 0 ≤ k ∧ k ≤ 2 ∧ ∀ p H', Ex T H H' → H p = none → DOk p 0 H' → Q (.ref p) H'
/-! ### _law_dice -/
abbrev N_law_dice : List Str := ["_law_script", "_law_at", "_law_cell", "_law_great", "_law_left", "_law_mixed"]
theorem sc_law_dice : FnScope N_law_dice ["_law_script", "_law_at"] (defScope (topS 42)) := ⟨rfl, rfl, rfl, by decide +kernel, rfl, by decide +kernel, by decide +kernel⟩
theorem df_dice (B : Bi K mg) (h : Has K mg "_law_dice" 42) : Df P w K mg base 1 "_law_dice" ["_law_script", "_law_at"] (spDice K T) := by
  refine h.df sc_law_dice (fun vs H Q E h => by obtain ⟨_, _, _, rfl, _⟩ := h; rfl) (fun _ _ _ _ _ _ us hl => match us, hl with | [_, _], _ => rfl) (fun f cdv A outer s H vs Q E hr h => ?_)
  have nd := sc_law_dice.nd
  refine ⟨_, PSs.nox (pss_cons (ps_set (i := 2) nd rfl (by first | exact Or.inl rfl | exact Or.inr rfl) (pe_op op_add (pe_op op_mulW pe_int (pv 1)) pe_int)) (pss_cons (ps_if (pt_cmpR op_lt (pv 1) (pe_callB (lenK (K := K) rfl) (by rfl) B.len boot_len (pa_cons (pv 0) pa_nil)) (nomark _)) (pss_one (ps_set (i := 2) nd rfl (by first | exact Or.inl rfl | exact Or.inr rfl) (pe_ix (ixL (K := K) rfl) (pv 0) (pv 1) (fun _ _ => rfl)))) pss_nil) (pss_cons (ps_set (i := 3) nd rfl (by first | exact Or.inl rfl | exact Or.inr rfl) (pe_op op_mod (pe_callTy call_int1 (by rfl) B.int boot_int (pa_cons (pe_callB call_abs (by rfl) B.abs (by decide +kernel) (pa_cons (pv 2) pa_nil)) pa_nil)) (pe_op op_powX (pe_op op_powX pe_int pe_int) pe_int))) (pss_cons (ps_set (i := 4) nd rfl (by first | exact Or.inl rfl | exact Or.inr rfl) (pe_op op_fdivW (pv 3) (pe_op op_powX pe_int pe_int))) (pss_cons (ps_set (i := 5) nd rfl (by first | exact Or.inl rfl | exact Or.inr rfl) (pe_op op_add (pe_op op_add (pe_op op_add (pe_op op_mulW (pe_op op_mod (pv 3) pe_int) pe_int) (pe_op op_mulW pe_int (pv 1))) (pe_op op_mulW pe_int (pe_callTy call_int1 (by rfl) B.int boot_int (pa_cons (pe_cmpR op_lt (pv 2) pe_int (nomark _)) pa_nil)))) pe_int)) (pss_one (ps_ret (pe_lst (pa_cons (pv 4) (pa_cons (pe_op op_mod (pv 5) pe_int) (pa_cons pe_int pa_nil))))))))))), ?_⟩
  obtain ⟨a, ns, k, rfl, ha, ht, hk0, hk2, q⟩ := h
  have S0 : Stt T H H H H := ⟨.start ht, .start ht, fun h => .inl h⟩
  refine q_asgV S0 (v := .int (107 * k + 53)) (ei_add (ei_opC (g := fun i j => V.int (i * j)) ev_c (ev_var rfl) (w2 (sm_of (n := 107) (by decide)) (sm_of (n := 2) (by omega)))) ev_c) fun H1 n1 => ?_
  have ha1 := n1.ex.sub.sql ha
  refine q_ifJ (fun σ' H' => Ex T H H' ∧ ∃ cell : Int, σ' = [some (.ref a), some (.int k), some (.int cell), none, none, none]) n1.st (b := decide (k < (ns.length : Int))) (et_test (ei_op0 (g := fun i j => V.bl (decide (i < j))) (ev_var rfl) (ev_is (ev_lenSql (K := K) ha1 (ev_var rfl)) (by rw [List.length_map])))) ?_ (fun hc H2 n2 kont => ?_) fun hc H2 n2 kont => ?_
  · rintro σ' H2 ⟨e2, cell, rfl⟩
    have S2 : Stt T H H H H2 := ⟨e2, e2, fun h => .inl h⟩
    obtain ⟨gr, hgr⟩ : ∃ gr : Int, gr = (if cell < 0 then -cell else cell) % ((10 : Int) ^ (60 : Int).toNat) ^ (10 : Int).toNat := ⟨_, rfl⟩
    have bgr : 0 ≤ gr ∧ gr < ((10 : Int) ^ (60 : Int).toNat) ^ (10 : Int).toNat := by rw [hgr]; exact ⟨Int.emod_nonneg _ (by decide +kernel), Int.emod_lt_of_pos _ (by decide +kernel)⟩
    have b7 : gr.natAbs ≤ 10 ^ 700 := by
      have h1 : ((10 : Int) ^ (60 : Int).toNat) ^ (10 : Int).toNat ≤ ((10 ^ 700 : Nat) : Int) := by decide +kernel
      omega
    refine q_asgV S2 (v := .int gr) (ev_is (ei_opC (g := fun i j => V.int (i % j)) (ei_int (ei_abs (ev_var rfl))) (ei_opC (g := fun i j => V.int (i ^ j.toNat)) (ei_opC (g := fun i j => V.int (i ^ j.toNat)) ev_c ev_c (by decide +kernel)) ev_c (by decide +kernel)) (by decide +kernel)) (by rw [hgr])) fun H3 n3 => ?_
    refine q_asgV n3.st (v := .int (gr / (10 : Int) ^ (18 : Int).toNat)) (ei_opC (g := fun i j => V.int (i / j)) (ev_var rfl) (ei_opC (g := fun i j => V.int (i ^ j.toNat)) ev_c ev_c (by decide +kernel)) ⟨by decide +kernel, by decide +kernel⟩) fun H4 n4 => ?_
    have bg2 : 0 ≤ gr / (10 : Int) ^ (18 : Int).toNat ∧ (gr / (10 : Int) ^ (18 : Int).toNat).natAbs ≤ 10 ^ 700 := by
      have h1 : 0 ≤ gr / (10 : Int) ^ (18 : Int).toNat := Int.ediv_nonneg bgr.1 (by decide +kernel)
      have h2 : gr / (10 : Int) ^ (18 : Int).toNat ≤ gr := Int.ediv_le_self _ bgr.1
      exact ⟨h1, Nat.le_trans (by omega) b7⟩
    obtain ⟨gl, hgl⟩ : ∃ gl : Int, gl = gr / (10 : Int) ^ (18 : Int).toNat := ⟨_, rfl⟩
    rw [← hgl] at bg2 ⊢
    obtain ⟨r1, hr1⟩ : ∃ r1 : Int, r1 = gr % 2147482589 := ⟨_, rfl⟩
    have br1 : r1.natAbs ≤ 2147482589 := by
      have h1 := Int.emod_nonneg gr (b := 2147482589) (by decide)
      have h2 := Int.emod_lt_of_pos gr (b := 2147482589) (by decide)
      omega
    refine q_asgV n4.st (v := .int (r1 * 60589 + 3559 * k + 97 * (if decide (cell < 0) = true then 1 else 0) + 131)) (ei_add (ei_add (ei_add (ei_opC (g := fun i j => V.int (i * j)) (ev_is (ei_opC (g := fun i j => V.int (i % j)) (ev_var rfl) ev_c (by decide)) (by rw [hr1])) ev_c (w2 (sm_of br1) (sm_of (n := 60589) (by decide)))) (ei_opC (g := fun i j => V.int (i * j)) ev_c (ev_var rfl) (w2 (sm_of (n := 3559) (by decide)) (sm_of (n := 2) (by omega))))) (ei_opC (g := fun i j => V.int (i * j)) ev_c (ei_intB (ei_op0 (g := fun i j => V.bl (decide (i < j))) (ev_var rfl) ev_c)) (w2 (sm_of (n := 97) (by decide)) (sm_of (n := 1) (by split <;> decide))))) ev_c) fun H5 n5 => ?_
    obtain ⟨mx, hmx⟩ : ∃ mx : Int, mx = r1 * 60589 + 3559 * k + 97 * (if decide (cell < 0) = true then 1 else 0) + 131 := ⟨_, rfl⟩
    rw [← hmx]
    have bm : 0 ≤ mx % 2147482577 ∧ mx % 2147482577 < 2147482577 := ⟨Int.emod_nonneg _ (by decide), Int.emod_lt_of_pos _ (by decide)⟩
    refine en_lst (K := K) (T := T) (ds := [gl, mx % 2147482577, 0].map PyData.int) (ea_cons (ed_int (ev_var rfl)) (ea_cons (ed_int (ei_opC (g := fun i j => V.int (i % j)) (ev_var rfl) ev_c (by decide))) (ea_cons (ed_int ev_c) ea_nil))) (Nat.le_of_ble_eq_true rfl) H5 (.start n5.ex.tabs) _ fun l xs H6 hl e6 h6 kd => ?_
    rw [kd.ints] at h6
    refine q l H6 (((e2.trans (n3.ex.trans (n4.ex.trans n5.ex))).trans e6)) ((e2.trans (n3.ex.trans (n4.ex.trans n5.ex))).free hl) ⟨_, _, _, h6, bg2.1, bg2.2, bm.1, by omega, by decide, by decide⟩
  · have hk : k.toNat < (ns.map V.int).length := by rw [List.length_map]; have := of_decide_eq_true hc; omega
    have hkk : k = (k.toNat : Int) := by omega
    have ha2 := n2.ex.sub.sql ha1
    refine s_asgV n2.st (v := (ns.map V.int)[k.toNat]) (ev_sql (K := K) (j := k.toNat) ha2 (ev_var rfl) (ev_is (ev_var rfl) (by rw [← hkk])) (List.getElem?_eq_getElem hk)) fun H3 n3 => ?_
    exact kont _ _ ⟨n1.ex.trans (n2.ex.trans n3.ex), ns[k.toNat]'(by rw [List.length_map] at hk; exact hk), by rw [List.getElem_map]; rfl⟩
  · exact kont _ _ ⟨n1.ex.trans n2.ex, _, rfl⟩
end
end KW

/-! text K8Own5 -/
set_option Elab.async false
set_option linter.all false
set_option maxRecDepth 100000
set_option maxHeartbeats 4000000
/-! A dict of the def's own, its keys tuples. -/
namespace KW
open PySem PySem.Spec PyProof.Rows L2 StX
section
variable {K : PySem.W.Frag} {T : Tb} {σ : L2.St} {Hx H0 Hb H H' H1 : Hp} {te td ty tx tv : TE} {v z : V} {D : Ends} {p b : Addr} {kvs : List (List L2.Key × V)} {k : List L2.Key}
/-- a dict, as it is or locked -/
def IsDic (u : HO) : Prop := (∃ kvs, u = .dT kvs) ∨ ∃ o kvs, u = .frz o (.dT kvs)
theorem IsDic.tbl {u : HO} (h : IsDic u) : ∀ ps, u ≠ .tbl ps := fun ps e => by
  rcases h with ⟨_, rfl⟩ | ⟨_, _, rfl⟩ <;> cases e
theorem tabs_updD {u o : HO} (hu : IsDic u) (h : H p = some u) (t : LamX.Tabs T H) : LamX.Tabs T (upd H p o) := fun q hq => by
  obtain ⟨ps, h1, h2, h3⟩ := t q hq
  refine ⟨ps, by rw [upd_ne (ne_of h1 h (by rcases hu with ⟨_, rfl⟩ | ⟨_, _, rfl⟩ <;> (intro z; cases z)))]; exact h1, h2, fun pos cv hc => ?_⟩
  obtain ⟨c, e1, e2⟩ := h3 pos cv hc
  exact ⟨c, e1, by rw [upd_ne (ne_of e2 h (by unfold LamX.CodeO; rcases hu with ⟨_, rfl⟩ | ⟨_, _, rfl⟩ <;> (intro z; cases z)))]; exact e2⟩
theorem Ex.mutD {o u : HO} (e : Ex T H H') (h : H p = none) (hu : IsDic u) (h' : H' p = some u) : Ex T H (upd H' p o) :=
  ⟨fun a u ha n => by rw [upd_ne (ne_of_none ha h)]; exact e.1 a u ha n, tabs_updD hu h' e.2, fun {a} z => by
    by_cases q : a = p
    · rw [q, upd_same] at z; cases z
    · rw [upd_ne q] at z; exact e.3 z, fun {a ps} z => by
    obtain ⟨ps', q⟩ := e.tb z
    exact ⟨ps', by rw [upd_ne (ne_of_none z h)]; exact q⟩⟩
theorem Stt.mutD (S : Stt T Hx H0 Hb H) {o u : HO} (h0 : H0 p = none) (hb : Hb p = none) (hu : IsDic u) (h : H p = some u) : Stt T Hx H0 Hb (upd H p o) := ⟨S.e0.mutD h0 hu h, S.eb.mutD hb hu h, S.in_⟩
theorem Ex.dic {u : HO} (e : Ex T H H') (hu : IsDic u) (h : H p = some u) : H' p = some u := e.1 _ _ h hu.tbl
/-- d.get(y, x) -/
theorem ev_dget2 (hp : H p = some (.dT kvs)) (hb : H b = some (.tup (k.map kV))) (hd : Ev T td σ H (.ref p)) (hy : Ev T ty σ H (.ref b)) (hx : Ev T tx σ H z) : Ev T (tDGet2 td ty tx) σ H ((valV kvs k).getD z) := fun H1 e1 Q q =>
  hd H1 e1 _ fun H2 e2 => ⟨p, rfl, .inr ⟨kvs, .inl ((e1.trans e2).dic (.inl ⟨_, rfl⟩) hp)⟩, hy H2 (e1.trans e2) _ fun H3 e3 => hx H3 (e1.trans (e2.trans e3)) _ fun H4 e4 =>
    ⟨_, .t ((e1.trans (e2.trans (e3.trans e4))).dic (.inl ⟨_, rfl⟩) hp) ((e1.trans (e2.trans (e3.trans e4))).tup hb), q H4 (e2.trans (e3.trans e4))⟩⟩
theorem ev_dget (hp : H p = some (.dT kvs)) (hb : H b = some (.tup (k.map kV))) (hv : valV kvs k = some v) (hd : Ev T td σ H (.ref p)) (hy : Ev T ty σ H (.ref b)) : Ev T (tDGet td ty) σ H v := fun H1 e1 Q q =>
  hd H1 e1 _ fun H2 e2 => hy H2 (e1.trans e2) _ fun H3 e3 => ⟨p, v, rfl, hv ▸ .t ((e1.trans (e2.trans e3)).dic (.inl ⟨_, rfl⟩) hp) ((e1.trans (e2.trans e3)).tup hb), q H3 (e2.trans e3)⟩
/-- d[y] = v -/
theorem s_dput (S : Stt T Hx H0 Hb H) (h0 : H0 p = none) (hbp : Hb p = none) (hp : H p = some (.dT kvs)) (hb : H b = some (.tup (k.map kV))) (hl : kvs.length < 100000) (hv : Ev T tv σ H v) (hd : Ev T td σ H (.ref p)) (hy : Ev T ty σ H (.ref b))
    (q : ∀ H1, H1 p = some (.dT kvs) → Nxt T Hx H0 Hb H Hb H1 → Stt T Hx H0 Hb (upd H1 p (.dT (putK kvs k v))) → D.nx σ (upd H1 p (.dT (putK kvs k v)))) : sDPut td ty tv D σ H :=
  hv H S.e0.refl _ fun H1 e1 => hd H1 e1 _ fun H2 e2 => hy H2 (e1.trans e2) _ fun H3 e3 => by
    have e := e1.trans (e2.trans e3)
    have hp3 := e.dic (.inl ⟨_, rfl⟩) hp
    exact ⟨p, _, rfl, .t hp3 (e.tup hb) (sz_lt hl), q H3 hp3 (.keep S e) ((S.keep e).mutD h0 hbp (.inl ⟨_, rfl⟩) hp3)⟩
theorem q_dnew {i : Nat} {tz : TS} (S : Stt T Hx H0 Hb H) (k : ∀ p, H p = none → Nxt T Hx H0 Hb H Hb (upd H p (.dT [])) → H0 p = none → Hb p = none → tz D (σ.set i (some (.ref p))) (upd H p (.dT []))) : tSeq (tAsg tDNewT (gName i)) tz D σ H := fun p hp =>
  k p hp (.keep S (S.e0.refl.new hp)) (S.e0.free hp) (S.eb.free hp)
end
end KW

/-! text K8Own6 -/
set_option Elab.async false
set_option linter.all false
set_option maxRecDepth 100000
set_option maxHeartbeats 4000000
/-! A comprehension over the keys of a dict of the def's own. -/
namespace KW
open PySem PySem.Spec PyProof.Rows L2 StX
section
variable {K : PySem.W.Frag} {T : Tb} {σ : L2.St} {H : Hp} {te td : TE} {p : Addr} {kvs : List (List L2.Key × V)}
theorem hide_upd {p : Addr} {o : HO} : hide p (upd H p o) = hide p H := by
  funext a; unfold hide upd; split <;> rfl
theorem lc_keys {j : Nat} {vs : List Nat} (f : List L2.Key → PyData) (hp : H p = some (.dT kvs)) (t : LamX.Tabs T H) (hn : kvs.length ≤ 50000) (hd : Ev T td σ (hide p H) (.ref p)) (hw : ∀ v, wipe ((wipe σ vs).set j (some v)) vs = wipe σ vs)
    (hb : ∀ q k Hx, Hx q = some (.tup (k.map kV)) → EvD K T te ((wipe σ vs).set j (some (.ref q))) Hx (f k)) {Q : VK}
    (q : ∀ l xs H', H l = none → Ex T (hide p H) H' → H' p = some (.dT kvs) → H' l = some (.lst xs) → DpAll K (hide l (hide p H')) xs (kvs.map fun x => f x.1) → Q (.ref l) H') :
    tLockE (tLc (iKeys td) (gName j) tYes te vs) σ H Q := by
  refine ⟨p, .dT kvs, hp, trivial, fun od => ?_⟩
  have hu : IsDic (.frz od (.dT kvs)) := .inr ⟨_, _, rfl⟩
  have eL : Ex T (hide p H) (upd H p (.frz od (.dT kvs))) := (ex_hide (.start t)).mutD hide_p (.inl ⟨_, rfl⟩) hp
  refine hd _ eL _ fun H1 e1 => ⟨p, od, rfl, .inr ⟨kvs, e1.dic hu upd_same, ?_⟩⟩
  have h1p := e1.dic hu upd_same
  intro Dl hDl
  have hDp : Dl ≠ p := by intro z; rw [z, h1p] at hDl; cases hDl
  have hD0 : H Dl = none := by have := e1.free hDl; rwa [upd_ne hDp] at this
  let Pv : Nat → Hp → Prop := fun i H3 => Ex T H1 H3 ∧ ∃ xs, H3 Dl = some (.lst xs) ∧ DpAll K (hide Dl (hide p H3)) xs ((kvs.take i).map fun x => f x.1)
  refine ⟨fun i m H3 => m = kvs.length - i ∧ i ≤ kvs.length ∧ Pv i H3, ⟨kvs.length, by simp, Nat.zero_le _, e1.refl.new hDl, [], upd_same, .nil⟩, ?_⟩
  rintro i m H3 ⟨rfl, hle, e13, xs, hx, kx⟩
  have h3p := e13.dic hu h1p
  by_cases hlt : i < kvs.length
  · refine .inr ⟨⟨h3p, hlt⟩, Pv (i + 1), fun H' p' => ⟨kvs.length - (i + 1), by omega, rfl, hlt, p'⟩, fun x H4 hy => ?_⟩
    obtain ⟨rfl, k, v, a, hk, rfl, ha⟩ := hy
    refine ⟨hw _, ?_⟩
    have hax : a ≠ Dl := ne_of ha hx (by intro z; cases z)
    have hap : a ≠ p := ne_of ha h3p (by intro z; cases z)
    have ha2 : hide Dl (hide p H4) a = some (.tup (k.map kV)) := by rw [hide_ne hax, hide_ne hap]; exact ha
    refine yes_ok ?_
    rw [if_pos rfl]
    refine hb a k _ ha2 H4 (ex_hide (ex_hide e13.refl)) _ fun y H7 e67 ky => ?_
    have hx7 := e67.lst hx
    have hxl : xs.length ≤ i := by
      rw [kx.length, List.length_map, List.length_take]
      omega
    have hD1 : H1 Dl = none := hDl
    refine ⟨xs, hx7, sz_lt (by omega), (e13.trans e67).mut hD1 hx7, xs ++ [y], upd_same, ?_⟩
    have et : (kvs.take (i + 1)).map (fun x => f x.1) = (kvs.take i).map (fun x => f x.1) ++ [f k] := by
      rw [List.take_succ, hk]; simp
    rw [et]
    have s1 : Sub (hide Dl (hide p H4)) (hide Dl (hide p (upd H7 Dl (.lst (xs ++ [y]))))) := by
      have s0 : Sub (hide Dl (hide p H4)) (hide Dl (hide p H7)) := hide_mono (hide_mono e67.sub)
      intro a o h n
      have h2 := s0 a o h n
      unfold hide at h2 ⊢
      split at h2
      · cases h2
      · rename_i c
        rw [if_neg c]
        split at h2
        · cases h2
        · rename_i c2
          rw [if_neg c2, upd_ne c]; exact h2
    have s2 : Sub (rest (hide Dl (hide p H4)) H4 H7) (hide Dl (hide p (upd H7 Dl (.lst (xs ++ [y]))))) := by
      intro a o h n
      by_cases c1 : a = Dl
      · subst c1
        rw [rest_neg (by rw [hide_p, hx]; simp)] at h; cases h
      · by_cases c2 : a = p
        · subst c2
          rw [rest_neg (by rw [hide_ne c1, hide_p, h3p]; simp)] at h; cases h
        · rw [hide_ne c1, hide_ne c2, upd_ne c1]
          exact rest_le a o h n
    exact (DpAll.sub s1 _ _ kx).snoc (Dp.sub s2 _ _ ky)
  · have hin : i = kvs.length := by omega
    subst hin
    refine .inl ⟨⟨h3p, Nat.le_refl _⟩, h3p, q Dl xs _ hD0 ((eL.trans (e1.trans e13)).mutD hide_p hu h3p) upd_same (by rw [upd_ne hDp]; exact hx) ?_⟩
    rw [hide_upd]
    rw [List.take_length] at kx
    exact kx
end
end KW

/-! text K8Own7 -/
set_option Elab.async false
set_option linter.all false
set_option maxRecDepth 100000
set_option maxHeartbeats 4000000
/-! The dict's mirror. -/
namespace KW
open PySem PySem.Spec PyProof.Rows L2 StX
abbrev toK (k : List Int) : List L2.Key := k.map Sum.inl
abbrev toD (acc : List (List Int × Int)) : List (List L2.Key × V) := acc.map fun x => (toK x.1, V.int x.2)
theorem toK_v (k : List Int) : (toK k).map kV = k.map V.int := by
  rw [List.map_map]; rfl
theorem toK_inj : ∀ {a b : List Int}, toK a = toK b → a = b
  | [], [], _ => rfl
  | [], _ :: _, h => by cases h
  | _ :: _, [], h => by cases h
  | x :: a, y :: b, h => by
    have h1 := List.cons.inj h
    rw [Sum.inl.inj h1.1, toK_inj h1.2]
theorem dput_keys (k : List Int) (v : Int) : ∀ acc : List (List Int × Int), ∀ x, x ∈ (K8.dput k v acc).map (·.1) → x = k ∨ x ∈ acc.map (·.1)
  | [], x, h => by simpa [K8.dput] using h
  | (k', v') :: r, x, h => by
    unfold K8.dput at h
    split at h
    · exact .inr (by simpa using h)
    · rcases List.mem_cons.mp (show x ∈ k' :: (K8.dput k v r).map (·.1) from h) with h | h
      · exact .inr (h ▸ List.mem_cons_self ..)
      · rcases dput_keys k v r x h with h | h
        · exact .inl h
        · exact .inr (List.mem_cons_of_mem _ h)
theorem dput_nodup (k : List Int) (v : Int) : ∀ acc : List (List Int × Int), (acc.map (·.1)).Nodup → ((K8.dput k v acc).map (·.1)).Nodup
  | [], _ => by simp [K8.dput]
  | (k', v') :: r, h => by
    unfold K8.dput
    have h2 := List.nodup_cons.mp (by simpa using h : (k' :: r.map (·.1)).Nodup)
    split
    · simpa using h
    · rename_i hk
      show (k' :: (K8.dput k v r).map (·.1)).Nodup
      refine List.nodup_cons.mpr ⟨fun z => ?_, dput_nodup k v r h2.2⟩
      rcases dput_keys k v r k' z with z | z
      · exact hk z
      · exact h2.1 z
theorem valV_toD (k : List Int) (d : Int) : ∀ acc : List (List Int × Int), (valV (toD acc) (toK k)).getD (V.int d) = V.int (K8.dgetD k d acc)
  | [] => rfl
  | (k', v') :: r => by
    unfold K8.dgetD
    have ih := valV_toD k d r
    unfold valV at ih ⊢
    by_cases h : k' = k
    · subst h
      simp [toD]
    · have h' : ¬ toK k' = toK k := fun z => h (toK_inj z)
      rw [if_neg h]
      simp only [toD, List.map_cons, List.find?_cons, decide_eq_false h']
      exact ih
theorem any_toD (k : List Int) (acc : List (List Int × Int)) : ((toD acc).any fun kv => decide (kv.1 = toK k)) = acc.any fun x => decide (x.1 = k) := by
  induction acc with
  | nil => rfl
  | cons x r ih =>
    simp only [toD, List.map_cons, List.any_cons] at ih ⊢
    rw [ih]
    congr 1
    exact decide_eq_decide.mpr ⟨toK_inj, fun z => by rw [z]⟩
theorem put_toD (k : List Int) (v : Int) : ∀ acc : List (List Int × Int), (acc.map (·.1)).Nodup → putK (toD acc) (toK k) (V.int v) = toD (K8.dput k v acc)
  | [], _ => rfl
  | (k', v') :: r, h => by
    have h2 := List.nodup_cons.mp (by simpa using h : (k' :: r.map (·.1)).Nodup)
    have ih := put_toD k v r h2.2
    unfold putK at ih ⊢
    rw [any_toD] at ih ⊢
    unfold K8.dput
    by_cases q : k' = k
    · subst q
      simp only [List.any_cons, decide_true, Bool.true_or, if_true]
      show (if toK k' = toK k' then _ else _) :: _ = (toK k', V.int v) :: toD r
      rw [if_pos rfl]
      congr 1
      unfold toD
      rw [List.map_map]
      refine List.map_congr_left fun x hx => ?_
      show (if toK x.1 = toK k' then _ else _) = _
      rw [if_neg fun z => h2.1 (by rw [← toK_inj z]; exact List.mem_map_of_mem hx)]
    · rw [if_neg q]
      have q' : ¬ toK k' = toK k := fun z => q (toK_inj z)
      simp only [List.any_cons, decide_eq_false q, Bool.false_or]
      split
      · rename_i c
        rw [if_pos c] at ih
        show (if toK k' = toK k then _ else _) :: _ = (toK k', V.int v') :: toD (K8.dput k v r)
        rw [if_neg q', ← ih]
      · rename_i c
        rw [if_neg c] at ih
        show (toK k', V.int v') :: (toD r ++ _) = (toK k', V.int v') :: toD (K8.dput k v r)
        rw [← ih]
theorem gath_nodup (l : List (List Int × Int)) : ((K8.gath l).map (·.1)).Nodup := by
  unfold K8.gath
  suffices ∀ (l acc : List (List Int × Int)), (acc.map (·.1)).Nodup → ((l.foldl (fun acc x => K8.dput x.1 (K8.dgetD x.1 0 acc + x.2) acc) acc).map (·.1)).Nodup from this l [] (by simp)
  intro l
  induction l with
  | nil => exact fun acc h => h
  | cons x r ih => exact fun acc h => ih _ (dput_nodup _ _ _ h)
theorem dput_len (k : List Int) (v : Int) : ∀ acc : List (List Int × Int), (K8.dput k v acc).length ≤ acc.length + 1
  | [] => by simp [K8.dput]
  | (k', v') :: r => by
    unfold K8.dput
    split
    · simp
    · have := dput_len k v r
      simp only [List.length_cons]; omega
end KW

/-! text K8W15 -/
set_option Elab.async false
set_option linter.all false
set_option maxRecDepth 100000
set_option maxHeartbeats 4000000
namespace KW
open PySem PySem.Spec PyProof.Rows L2 StX
theorem gath_len (l : List (List Int × Int)) : (K8.gath l).length ≤ l.length := by
  unfold K8.gath
  suffices ∀ (l acc : List (List Int × Int)), (l.foldl (fun acc x => K8.dput x.1 (K8.dgetD x.1 0 acc + x.2) acc) acc).length ≤ acc.length + l.length from Nat.le_trans (this l []) (by simp)
  intro l
  induction l with
  | nil => exact fun acc => Nat.le_refl _
  | cons x r ih => exact fun acc => Nat.le_trans (ih _) (by have := dput_len x.1 (K8.dgetD x.1 0 acc + x.2) acc; simp only [List.length_cons]; omega)
theorem val_mem : ∀ {acc : List (List Int × Int)}, (acc.map (·.1)).Nodup → ∀ {x : List Int × Int}, x ∈ acc → valV (toD acc) (toK x.1) = some (.int x.2)
  | (k', v') :: r, h, x, hx => by
    have h2 := List.nodup_cons.mp (by simpa using h : (k' :: r.map (·.1)).Nodup)
    unfold valV
    rcases List.mem_cons.mp hx with rfl | hx
    · simp [toD]
    · have q : ¬ toK k' = toK x.1 := fun z => h2.1 (by rw [toK_inj z]; exact List.mem_map_of_mem hx)
      simp only [toD, List.map_cons, List.find?_cons, decide_eq_false q]
      exact val_mem h2.2 hx
/-- what the law sorts: the size and the key -/
def szD (k : List Int) : PyData := .tuple [.int k.length, dT k]
def kD : L2.Key → PyData
  | .inl i => .int i
  | .inr x => .str x
theorem dp_keys {K : PySem.W.Frag} {H : Hp} : ∀ ks : List L2.Key, DpAll K H (ks.map kV) (ks.map kD)
  | [] => .nil
  | .inl i :: r => .cons (.int i) (dp_keys r)
  | .inr x :: r => .cons (.str x) (dp_keys r)
section
variable {P : Program} {w : World} {K : PySem.W.Frag} {mg : Str → Option Value} {base : Heap} {T : Tb}
/-! ### _law_gathered -/
abbrev spGath (K : PySem.W.Frag) (T : Tb) : Sp := fun vs H Q _ => ∃ (v : V) (l : List (List Int × Int)), vs = [v] ∧ LamX.Tabs T H ∧ Dp K H v (.list (l.map encP)) ∧ l.length ≤ 10000 ∧ (∀ x, x ∈ l → x.1.length ≤ 1000) ∧
  ∀ (v' : V) (H' : Hp), Ex T H H' → Dp K H' v' (.tuple ((sortF (K8.gath l)).map encP)) → Q v' H'
abbrev N_law_gathered : List Str := ["_law_pairs", "_law_found", "_law_one", "_law_many", "_law_some", "_law_size"]
theorem sc_law_gathered : FnScope N_law_gathered ["_law_pairs"] (defScope (topS 54)) := ⟨rfl, rfl, rfl, by decide +kernel, rfl, by decide +kernel, by decide +kernel⟩
theorem df_gath (B : Bi K mg) (h : Has K mg "_law_gathered" 54) : Df P w K mg base 1 "_law_gathered" ["_law_pairs"] (spGath K T) := by
  refine h.df sc_law_gathered (fun vs H Q E h => by obtain ⟨_, _, rfl, _⟩ := h; rfl) (fun _ _ _ _ _ _ us hl => match us, hl with | [_], _ => rfl) (fun f cdv A outer s H vs Q E hr h => ?_)
  have nd := sc_law_gathered.nd
  refine ⟨_, PSs.nox (pss_cons (ps_set (i := 1) nd rfl (by first | exact Or.inl rfl | exact Or.inr rfl) pe_dnewT) (pss_cons (ps_for PassesOwn.never rfl (pi_list (pv 0)) (pg_tup rfl (pgs_cons (pg_name (i := 2) nd rfl (by first | exact Or.inl rfl | exact Or.inr rfl)) (pgs_cons (pg_name (i := 3) nd rfl (by first | exact Or.inl rfl | exact Or.inr rfl)) pgs_nil))) (pss_one (ps_dput (hu_of hr) (pv 1) (pv 2) (pe_op op_add (pe_dget2 (hu_of hr) (pv 1) (pv 2) pe_int ⟨rfl, rfl, rfl, rfl⟩) (pv 3)) (by rfl)))) (pss_cons (ps_set (i := 4) nd rfl (by first | exact Or.inl rfl | exact Or.inr rfl) (pe_callB (sortDK (K := K) rfl hr.units) (by rfl) B.sorted (by decide +kernel) (pa_cons (pe_lock (pe_lc (own := [("_law_one", 2)]) (g := (gName 2)) rfl nd (pi_keys (pv 1)) (blkOk_by (own := [("_law_one", 2)]) (N := N_law_gathered) (sc := defScope (topS 54)) (by decide +kernel)) (fun _ _ _ _ _ => (pg_name (i := 2) nd rfl (by first | exact Or.inl rfl | exact Or.inr rfl))) (fun _ _ _ _ _ => pts_nil) (fun _ _ _ _ _ => (pe_tup (pa_cons (pe_callB (lenK (K := K) rfl) (by rfl) B.len boot_len (pa_cons (pv 2) pa_nil)) (pa_cons (pv 2) pa_nil)))))) pa_nil))) (pss_one (ps_ret (pe_callTy (tupK (K := K) rfl) (by rfl) B.tuple boot_tuple (pa_cons (pe_lc (own := [("_law_size", 5), ("_law_one", 2)]) (g := (gTup K 2 (gCons (gName 5) (gCons (gName 2) gNil)))) rfl nd (pi_list (pv 4)) (blkOk_by (own := [("_law_size", 5), ("_law_one", 2)]) (N := N_law_gathered) (sc := defScope (topS 54)) (by decide +kernel)) (fun _ _ _ _ _ => (pg_tup rfl (pgs_cons (pg_name (i := 5) nd rfl (by first | exact Or.inl rfl | exact Or.inr rfl)) (pgs_cons (pg_name (i := 2) nd rfl (by first | exact Or.inl rfl | exact Or.inr rfl)) pgs_nil)))) (fun _ _ _ _ _ => pts_nil) (fun _ _ _ _ _ => (pe_tup (pa_cons (pv 2) (pa_cons (pe_dget (hu_of hr) (pv 1) (pv 2) (fun _ _ => rfl)) pa_nil))))) pa_nil))))))), ?_⟩
  obtain ⟨v, l, rfl, ht, kv, hl, hk1, q⟩ := h
  have S0 : Stt T H H H H := ⟨.start ht, .start ht, fun h => .inl h⟩
  refine q_dnew S0 fun p hp n1 h0 hb => ?_
  have hpr : ∀ (i : Nat) (d : PyData), (l.map encP)[i]? = some d → ∃ d1 d2, d = .tuple [d1, d2] := fun i d hd => by
    rw [List.getElem?_map] at hd
    obtain ⟨x, _, rfl⟩ := Option.map_eq_some_iff.mp hd
    exact ⟨_, _, rfl⟩
  let G : Nat → List (List Int × Int) := fun i => K8.gath (l.take i)
  refine s_for (K := K) n1.st (it_listP (K := K) (j := 2) (l := 3) (ed_var rfl kv) hpr) spr_mono (fun Bs t σ' Hb' H' => Hb' = Bs ∧ Sub H Bs ∧ Bs p = none ∧ Stt T H H Bs H' ∧ H' p = some (.dT (toD (G t))) ∧ ∃ (a2 a3 : Option V), σ' = [some v, some (.ref p), a2, a3, none, none]) ?_ ?_ ?_ ?_
  · intro Bs H2 n2
    exact ⟨rfl, n2.sub, n2.hid p hb (by rw [upd_same]; intro z; cases z), n2.st, n2.ex.dic (.inl ⟨_, rfl⟩) upd_same, none, none, rfl⟩
  · rintro Bs i σ' Hb' H' ⟨rfl, a, b, c, d⟩
    exact ⟨c, Sub.refl _, c.eb⟩
  · rintro Bs i σ' Hb' H' hi ⟨rfl, sb, bp, S1, hp1, a2, a3, rfl⟩ σ2 Hb2 H2 n2 ⟨v2, v3, d1, d2, hd, k1, k2, rfl⟩
    rw [List.length_map] at hi
    rw [List.getElem?_map, List.getElem?_eq_getElem hi] at hd
    obtain ⟨h1, h2⟩ : d1 = dT (l[i]'hi).1 ∧ d2 = .int (l[i]'hi).2 := by
      have := Option.some.inj hd
      unfold encP at this
      cases this
      exact ⟨rfl, rfl⟩
    subst h1 h2
    obtain ⟨x, hx⟩ : ∃ x, x = l[i]'hi := ⟨_, rfl⟩
    rw [← hx] at k1 k2
    obtain ⟨a, xs, rfl, ha, kx⟩ := Dp.tuple_invS k1
    rw [kx.ints] at ha
    have ha2 : H2 a = some (.tup ((toK x.1).map kV)) := by rw [toK_v]; exact n2.st.eb.tup ha
    have e3 := Dp.int_inv k2
    subst e3
    have S2 := S1.keep n2.ex
    have hp2 := n2.ex.dic (.inl ⟨_, rfl⟩) hp1
    have eG : G (i + 1) = K8.dput x.1 (K8.dgetD x.1 0 (G i) + x.2) (G i) := by
      show K8.gath (l.take (i + 1)) = _
      unfold G K8.gath
      rw [List.take_succ, List.getElem?_eq_getElem hi, ← hx, Option.toList_some, List.foldl_append]
      rfl
    have hlen : (G i).length ≤ i := Nat.le_trans (gath_len _) (by rw [List.length_take]; omega)
    refine s_dput S2 h0 bp hp2 ha2 (by rw [List.length_map]; omega) (v := .int (K8.dgetD x.1 0 (G i) + x.2)) (ei_add (ev_is (ev_dget2 hp2 ha2 (ev_var rfl) (ev_var rfl) ev_c) (valV_toD x.1 0 (G i))) (ev_var rfl)) (ev_var rfl) (ev_var rfl) fun H3 h3 n3 S3 => ⟨Hb', rfl, sb, bp, S3, ?_, _, _, rfl⟩
    rw [upd_same, put_toD _ _ _ (gath_nodup _), eG]
  · rintro Bs σ' Hb' H' ⟨rfl, sb, bp, S1, hp1, a2, a3, rfl⟩
    rw [List.length_map, show G l.length = K8.gath l by unfold G; rw [List.take_length]] at hp1
    refine lc_keys (K := K) (T := T) (j := 2) (f := fun k => .tuple [.int k.length, .tuple (k.map kD)]) hp1 S1.e0.tabs (by rw [List.length_map]; have := gath_len l; omega) (ev_var rfl) (fun _ => rfl) (fun a k Hy ha => ?_) fun pl xs H4 hl0 e4 hp4 hx4 kx => ?_
    · exact ed_tup (ea_cons (ed_int (ev_is (ei_len (.inr (ed_var rfl (.tup ha (dp_keys k))))) (by rw [List.length_map]))) (ea_cons (ed_var rfl (.tup ha (dp_keys k))) ea_nil)) (Nat.le_of_ble_eq_true rfl)
    · obtain ⟨G0, hG0⟩ : ∃ G0, G0 = K8.gath l := ⟨_, rfl⟩
      have nd0 : (G0.map (·.1)).Nodup := by rw [hG0]; exact gath_nodup l
      have hlen0 : G0.length ≤ 10000 := by rw [hG0]; have := gath_len l; omega
      rw [← hG0] at hp4 kx
      have eds : ((toD G0).map fun x => PyData.tuple [.int x.1.length, .tuple (x.1.map kD)]) = G0.map keyP := by
        unfold toD
        rw [List.map_map]
        refine List.map_congr_left fun x _ => ?_
        show PyData.tuple [.int ((toK x.1).length : Int), .tuple ((toK x.1).map kD)] = keyP x
        unfold toK
        rw [List.length_map, List.map_map]
        rfl
      rw [eds] at kx
      have key_al : ∀ d, d ∈ G0.map keyP → ∀ d', d' ∈ G0.map keyP → PySem.W.alike d d' = true := fun d h1 d' h2 => by
        obtain ⟨p1, _, rfl⟩ := List.mem_map.mp h1
        obtain ⟨p2, _, rfl⟩ := List.mem_map.mp h2
        show (true && (PySem.W.alikeAll _ _ && true)) = true
        rw [PySem.W.alike_ints]
        rfl
      have tb4 := e4.tabs
      refine ⟨pl, xs, G0.map keyP, rfl, .inl (.inl hx4), (DpAll.sub (hide_le.trans hide_le) _ _ kx).kit, kx.length, key_al, .inl fun d h1 => ?_, fun d h1 => ?_, fun sl hsl => ?_⟩
      · obtain ⟨p1, _, rfl⟩ := List.mem_map.mp h1
        exact ⟨_, _, rfl⟩
      · obtain ⟨p1, _, rfl⟩ := List.mem_map.mp h1
        have e2 : (keyP p1).depth = 2 := by
          show PyData.depth (.tuple [.int _, .tuple (p1.1.map .int)]) = 2
          simp [PyData.depth, PyData.depthAll, PySem.W.depth_ints]
        rw [e2]; decide
      · have h1 := dp_pairs (K := K) (H := hide pl (hide p H4)) (zs := (xs.zip (G0.map keyP)).mergeSort (PySem.W.dataLe false fun b => b.2)) fun z hz => dp_zip kx z ((List.mergeSort_perm _ _).mem_iff.mp hz)
        have h2 : ((xs.zip (G0.map keyP)).mergeSort (PySem.W.dataLe false fun b => b.2)).map (·.2) = (G0.map keyP).mergeSort (PySem.W.dataLe false id) := sort_snd kx.length id
        have h3 : (G0.map keyP).mergeSort (PySem.W.dataLe false id) = (sortF G0).map keyP := by
          unfold sortF
          refine (List.map_mergeSort (r := PySem.W.dataLe false keyP) (s := PySem.W.dataLe false id) (f := keyP) (l := G0) fun a _ b _ => ?_).symm
          rw [PySem.W.dataLe_eq, PySem.W.dataLe_eq]
          rfl
        rw [h2, h3] at h1
        obtain ⟨L, hL⟩ : ∃ L, L = sortF G0 := ⟨_, rfl⟩
        have hLm : ∀ x, x ∈ L → x ∈ G0 := fun x hx => by
          rw [hL] at hx
          exact (List.mergeSort_perm _ _).mem_iff.mp hx
        have hLl : L.length = G0.length := by rw [hL]; exact List.length_mergeSort _
        rw [← hL] at h1
        obtain ⟨zs, hzs⟩ : ∃ zs, zs = ((xs.zip (G0.map keyP)).mergeSort (PySem.W.dataLe false fun b => b.2)).map (·.1) := ⟨_, rfl⟩
        rw [← hzs] at h1
        rw [← hzs]
        have e4h : Ex T H H4 := S1.e0.hid h0 e4
        have e5 : Ex T H (upd H4 sl (.lst zs)) := e4h.new hsl
        have hsp : p ≠ sl := fun z => by rw [← z, hp4] at hsl; cases hsl
        have hp5 : (upd H4 sl (.lst zs)) p = some (.dT (toD G0)) := by rw [upd_ne hsp]; exact hp4
        have k5 : DpAll K (upd H4 sl (.lst zs)) zs (L.map keyP) := DpAll.sub (sub_upd (hide_le.trans hide_le) (by
          by_cases w : sl = pl
          · rw [w]; exact hide_p
          · rw [hide_ne w]
            by_cases w2 : sl = p
            · rw [w2]; exact hide_p
            · rw [hide_ne w2]; exact hsl)) _ _ h1
        have ksl : Dp K (upd H4 sl (.lst zs)) (.ref sl) (.list (L.map keyP)) := .lst upd_same k5
        refine ed_tupL (K := K) (T := T) (ds := L.map encP) (ed_new (en_is (en_lcAll (n := (L.map keyP).length) (fun i => encP (L.getD i ([], 0))) (it_listP (K := K) (j := 5) (l := 2) (ed_var rfl ksl) fun i d hd => ?_) (by rw [List.length_map]; omega) fun i σ2 Hy hi sb hS => ?_) ?_)) (upd H4 sl (.lst zs)) (.start e5.tabs) _ fun v6 H6 e6 k6 => q v6 H6 (e5.trans e6) ?_
        · rw [List.getElem?_map] at hd
          obtain ⟨x, _, rfl⟩ := Option.map_eq_some_iff.mp hd
          exact ⟨_, _, rfl⟩
        · obtain ⟨vs, vo, d1, d2, hd, k1, k2, rfl⟩ := hS
          rw [List.length_map] at hi
          rw [List.getElem?_map, List.getElem?_eq_getElem hi] at hd
          obtain ⟨x, hx⟩ : ∃ x, x = L[i]'hi := ⟨_, rfl⟩
          rw [← hx] at hd
          have hxm : x ∈ G0 := hLm x (by rw [hx]; exact List.getElem_mem hi)
          have eg : L.getD i ([], 0) = x := by rw [List.getD_eq_getElem?_getD, List.getElem?_eq_getElem hi, hx]; rfl
          obtain ⟨g1, g2⟩ : d1 = dI x.1.length ∧ d2 = dT x.1 := by
            have := Option.some.inj hd
            unfold keyP at this
            cases this
            exact ⟨rfl, rfl⟩
          subst g1 g2
          obtain ⟨a, ys, rfl, ha, ky⟩ := Dp.tuple_invS k2
          have ha2 : Hy a = some (.tup ((toK x.1).map kV)) := by rw [toK_v, ← ky.ints]; exact ha
          have hpy : Hy p = some (.dT (toD G0)) := sb p _ hp5 (by intro ps z; cases z)
          refine ⟨rfl, ?_⟩
          rw [eg]
          exact ed_tup (ea_cons (ed_var rfl k2) (ea_cons (ed_int (ev_dget hpy ha2 (val_mem nd0 hxm) (ev_var rfl) (ev_var rfl))) ea_nil)) (Nat.le_of_ble_eq_true rfl)
        · rw [List.length_map]
          refine List.ext_getElem (by simp) fun i h1 h2 => ?_
          rw [List.length_map] at h2
          simp [List.getElem_map, List.getD_eq_getElem?_getD, List.getElem?_eq_getElem h2]
        · rw [hL, hG0] at k6
          exact Dp.sub rest_le _ _ k6
end
end KW

/-! text K8W16 -/
set_option Elab.async false
set_option linter.all false
set_option maxRecDepth 100000
set_option maxHeartbeats 4000000
namespace KW
open PySem PySem.Spec PyProof.Rows L2 StX
open K8 (trim rests monics mons ldivided lsteps lfstep lfloop lfound)
/-- a datum told at the whole heap -/
def EvW (K : PySem.W.Frag) (T : Tb) (te : TE) (σ : L2.St) (H : Hp) (d : PyData) : Prop := ∀ H1, Ex T H H1 → ∀ Q : VK, (∀ v H2, Ex T H1 H2 → Dp K H2 v d → Q v H2) → te σ H1 Q
section
variable {K : PySem.W.Frag} {T : Tb} {σ : L2.St} {H : Hp} {ta tb te : TE} {d : PyData} {ds : List PyData} {i : Int}
theorem ew_ixT (ha : EvW K T ta σ H (.tuple ds)) (hb : Ev T tb σ H (.int i)) (e : atI ds i = some d) : EvW K T (tOp (rIxT K) ta tb) σ H d := fun H1 e1 Q q =>
  ha H1 e1 _ fun x H2 e2 k2 => hb H2 (e1.trans e2) _ fun H3 e3 => by
    obtain ⟨a, xs, rfl, hs, hd⟩ := Dp.tuple_inv (Dp.sub e3.sub _ _ k2)
    obtain ⟨v, h1, h2⟩ := atI_dp hd e
    exact ⟨a, xs, i, v, rfl, rfl, hs, h1, q v H3 (e2.trans e3) h2⟩
theorem ew_len (h : EvW K T ta σ H (.tuple ds)) : Ev T (tCB (rLenS K) (tCons ta tNil)) σ H (.int (ds.length : Int)) := fun H1 e Q q =>
  h H1 e _ fun v H2 e2 k2 => by
    obtain ⟨a, xs, rfl, hs, hd⟩ := Dp.tuple_inv k2
    exact ⟨a, xs, rfl, .inr hs, by rw [hd.length]; exact q H2 e2⟩
theorem ew_int (h : EvW K T te σ H (.int i)) : Ev T te σ H (.int i) := fun H1 e Q q => h H1 e _ fun v H2 e2 k => by rw [Dp.int_inv k]; exact q H2 e2
end
/-! ### what the law's own steps do to sizes -/
theorem lsteps_ok {p : Nat} (hp : IsP p) (F : List Int) : ∀ (n : Nat) (l : List Int) (m : Int), (∀ x, x ∈ l → x.natAbs ≤ 7) → (lsteps p F n l m).1.length ≤ l.length ∧ ∀ x, x ∈ (lsteps p F n l m).1 → x.natAbs ≤ 7
  | 0, l, m, h => ⟨Nat.le_refl _, h⟩
  | n + 1, l, m, h => by
    unfold K8.lsteps
    have hp2 := hp.lo
    have hp7 := hp.hi
    split
    · obtain ⟨o1, _, o3, _⟩ := ldivided_ok (p := (p : Int)) (by omega) (by omega) (F := F) h
      obtain ⟨h1, h2⟩ := lsteps_ok hp F n (ldivided p l F).1 (m + 1) o1
      exact ⟨by omega, h2⟩
    · exact ⟨Nat.le_refl _, h⟩
theorem FOk.lstep {p n : Nat} {st : K8.FSt} {F : List Int} (hp : IsP p) (hF : F.length ≤ 20) (h : FOk n st) : FOk (n + 1) (lfstep p st F) := by
  obtain ⟨h1, h2⟩ := lsteps_ok hp F st.1.length st.1 0 h.bd
  unfold K8.lfstep
  dsimp only
  refine ⟨Nat.le_trans h1 h.len, h2, ?_, fun x hx => ?_⟩
  · have := h.num
    show (if 0 < (lsteps p F st.1.length st.1 0).2 then st.2 ++ [(F, (lsteps p F st.1.length st.1 0).2)] else st.2).length ≤ n + 1
    split
    · rw [List.length_append, List.length_singleton]; omega
    · omega
  · have hx : x ∈ (if 0 < (lsteps p F st.1.length st.1 0).2 then st.2 ++ [(F, (lsteps p F st.1.length st.1 0).2)] else st.2) := hx
    split at hx
    · rcases List.mem_append.mp hx with z | z
      · exact h.prs x z
      · rw [List.mem_singleton.mp z]; exact hF
    · exact h.prs x hx
theorem mods_id {p : Nat} {b : List Int} (h : ∀ x, x ∈ b → 0 ≤ x ∧ x < (p : Int)) : b.map (· % (p : Int)) = b := by
  conv => rhs; rw [← List.map_id b]
  refine List.map_congr_left fun x hx => ?_
  obtain ⟨h1, h2⟩ := h x hx
  exact Int.emod_eq_of_lt h1 h2
section
variable {P : Program} {w : World} {K : PySem.W.Frag} {mg : Str → Option Value} {base : Heap} {T : Tb}
/-! ### _law_factors -/
abbrev spLFac (K : PySem.W.Frag) (T : Tb) : Sp := fun vs H Q _ => ∃ (v1 v2 : V) (p d : Nat) (b : List Int), vs = [v1, v2] ∧ LamX.Tabs T H ∧ Dp K H v1 (dI p) ∧ Dp K H v2 (dT (b ++ [1])) ∧ IsP p ∧ b ∈ mons p d ∧ 1 ≤ d ∧ d ≤ 6 ∧
  ∀ v H', Ex T H H' → Dp K H' v (.tuple ((sortF (K8.gath (lfound p (b ++ [1])))).map encP)) → Q v H'
abbrev N_law_factors : List Str := ["_law_p", "_law_g", "_law_left", "_law_turn", "_law_found", "_law_size", "_law_one", "_law_many", "_law_apart", "_law_entry"]
theorem sc_law_factors : FnScope N_law_factors ["_law_p", "_law_g"] (defScope (topS 53)) := ⟨rfl, rfl, rfl, by decide +kernel, rfl, by decide +kernel, by decide +kernel⟩
theorem df_lfac (B : Bi K mg) (D_law_gathered : Df P w K mg base 1 "_law_gathered" ["_law_pairs"] (spGath K T)) (D_law_monics : Df P w K mg base 1 "_law_monics" ["_law_p", "_law_size"] (spMon K T)) (D_law_divided : Df P w K mg base 2 "_law_divided" ["_law_p", "_law_one", "_law_other"] (spLDiv K T)) (D_law_undone : Df P w K mg base 1 "_law_undone" ["_law_p", "_law_number"] (spLUndone K T)) (D_law_rests : Df P w K mg base 2 "_law_rests" ["_law_p", "_law_g"] (spLRests K T)) (h : Has K mg "_law_factors" 53) : Df P w K mg base 3 "_law_factors" ["_law_p", "_law_g"] (spLFac K T) := by
  refine h.df sc_law_factors (fun vs H Q E h => by obtain ⟨_, _, _, _, _, rfl, _⟩ := h; rfl) (fun _ _ _ _ _ _ us hl => match us, hl with | [_, _], _ => rfl) (fun f cdv A outer s H vs Q E hr h => ?_)
  have nd := sc_law_factors.nd
  refine ⟨_, PSs.nox (pss_cons (ps_set (i := 2) nd rfl (by first | exact Or.inl rfl | exact Or.inr rfl) (pe_callD D_law_rests hr (by decide) rfl (pa_cons (pv 0) (pa_cons (pv 1) pa_nil)))) (pss_cons (ps_set (i := 3) nd rfl (by first | exact Or.inl rfl | exact Or.inr rfl) (pe_callD D_law_undone hr (by decide) rfl (pa_cons (pv 0) (pa_cons (pe_ix (ixT (K := K) rfl) (pv 2) (pe_un un_neg pe_int) (fun _ _ => rfl)) pa_nil)))) (pss_cons (ps_par3 (i := 2) (j := 4) (l := 5) rfl nd rfl rfl rfl (by decide) (by decide) (by decide) rfl rfl rfl (pa_cons (pe_callTy (tupK (K := K) rfl) (by rfl) B.tuple boot_tuple (pa_cons (pe_lc (own := [("_law_entry", 9)]) (g := (gName 9)) rfl nd (pi_tup (pv 2)) (blkOk_by (own := [("_law_entry", 9)]) (N := N_law_factors) (sc := defScope (topS 53)) (by decide +kernel)) (fun _ _ _ _ _ => (pg_name (i := 9) nd rfl (by first | exact Or.inl rfl | exact Or.inr rfl))) (fun _ _ _ _ _ => pts_nil) (fun _ _ _ _ _ => (pe_op op_mod (pe_op op_mulW (pv 9) (pv 3)) (pv 0)))) pa_nil)) (pa_cons (pe_lst pa_nil) (pa_cons pe_int pa_nil))) (by rfl)) (pss_cons (ps_while PassesOwn.never (pt_cmpR op_le (pe_op op_mulW pe_int (pv 5)) (pe_op op_sub (pe_callB (lenK (K := K) rfl) (by rfl) B.len boot_len (pa_cons (pv 2) pa_nil)) pe_int) (nomark _)) (pss_cons (ps_for PassesOwn.never rfl (pi_list (pe_callD D_law_monics hr (by decide) rfl (pa_cons (pv 0) (pa_cons (pv 5) pa_nil)))) (pg_name (i := 6) nd rfl (by first | exact Or.inl rfl | exact Or.inr rfl)) (pss_cons (ps_par (i := 7) (j := 8) rfl nd rfl rfl (by decide) rfl rfl (pa_cons pe_int (pa_cons (pe_callD D_law_divided hr (by decide) rfl (pa_cons (pv 0) (pa_cons (pv 2) (pa_cons (pv 6) pa_nil)))) pa_nil)) (by rfl)) (pss_cons (ps_while PassesOwn.never (PW.pt (pw_and (pt_cmpR (eqDK (K := K) rfl hr.units) (pe_ix (ixT (K := K) rfl) (pv 8) pe_int (fun _ _ => rfl)) (pe_tup pa_nil) (nomark _)) (pw_and1 (pt_cmpR op_gt (pe_callB (lenK (K := K) rfl) (by rfl) B.len boot_len (pa_cons (pv 2) pa_nil)) (pv 5) (nomark _))))) (pss_cons (ps_par (i := 2) (j := 7) rfl nd rfl rfl (by decide) rfl rfl (pa_cons (pe_ix (ixT (K := K) rfl) (pv 8) pe_int (fun _ _ => rfl)) (pa_cons (pe_op op_add (pv 7) pe_int) pa_nil)) (by rfl)) (pss_one (ps_set (i := 8) nd rfl (by first | exact Or.inl rfl | exact Or.inr rfl) (pe_callD D_law_divided hr (by decide) rfl (pa_cons (pv 0) (pa_cons (pv 2) (pa_cons (pv 6) pa_nil)))))))) (pss_one (ps_if (pt_cmpR op_gt (pv 7) pe_int (nomark _)) (pss_one (ps_expr (pe_bm PySem.F.plainAttrs_list PySem.F.slot_list_append PySem.F.type_list_append mt_append (pv 4) (pa_cons (pe_tup (pa_cons (pv 6) (pa_cons (pv 7) pa_nil))) pa_nil)))) pss_nil))))) (pss_one (ps_set (i := 5) nd rfl (by first | exact Or.inl rfl | exact Or.inr rfl) (pe_op op_add (pv 5) pe_int))))) (pss_cons (ps_if (pt_cmpR op_gt (pe_callB (lenK (K := K) rfl) (by rfl) B.len boot_len (pa_cons (pv 2) pa_nil)) pe_int (nomark _)) (pss_one (ps_expr (pe_bm PySem.F.plainAttrs_list PySem.F.slot_list_append PySem.F.type_list_append mt_append (pv 4) (pa_cons (pe_tup (pa_cons (pv 2) (pa_cons pe_int pa_nil))) pa_nil)))) pss_nil) (pss_one (ps_ret (pe_callD D_law_gathered hr (by decide) rfl (pa_cons (pv 4) pa_nil))))))))), ?_⟩
  obtain ⟨v1, v2, p, d, b, rfl, ht, k1, k2, hp, hb, hd1, hd6, q⟩ := h
  cases k1
  have hp2 := hp.lo
  have hp7 := hp.hi
  obtain ⟨hbl, hbb⟩ := mons_len p d b hb
  have ex : Ex T H H := .start ht
  have hrb : rests p (b ++ [1]) = b ++ [1] := by rw [rests_monic hp2, mods_id hbb]
  obtain ⟨g, hg⟩ : ∃ g, g = b ++ [1] := ⟨_, rfl⟩
  rw [← hg] at k2 q hrb
  have hgl : g.length = d + 1 := by rw [hg, List.length_append, hbl]; rfl
  have hgb : ∀ x, x ∈ g → 0 ≤ x ∧ x < (p : Int) := fun x hx => by
    rw [hg] at hx
    rcases List.mem_append.mp hx with z | z
    · exact hbb x z
    · rw [List.mem_singleton.mp z]; omega
  have hgs : ∀ x, x ∈ g → x.natAbs ≤ 7 := fun x hx => by have := hgb x hx; omega
  refine q_asg (K := K) (d := dT g) (.start ex) (ed_is (ed_call (ea_cons (ed_vari rfl) (ea_cons (ed_var rfl k2) ea_nil)) ⟨p, g, rfl, by omega, by omega, rfl⟩) (by rw [hrb])) fun v3 Hb1 H1 n1 k3 => ?_
  refine q_asg (K := K) (d := dI 1) n1.st (ed_call (ea_cons (ed_vari rfl) (ea_cons (ed_ixT (d := dI 1) (ed_var rfl k3) (ev_neg ev_c) ?_) ea_nil)) ⟨p, rfl, hp, rfl⟩) fun v4 Hb2 H2 n2 k4 => ?_
  · rw [hg, List.map_append]
    exact atI_last _ _
  cases k4
  refine q_par3DN (K := K) (d := dT g) (es := []) (v := .int 1) n2.st (ed_is (ed_tupL (ed_new (en_lcI (ns := g) (fun x => x * 1 % (p : Int)) (it_tup (j := 9) (ed_var rfl (n2.dp k3))) (by omega) fun x hx Hy sb => ⟨rfl, ?_⟩))) ?_) (en_lst ea_nil (by decide)) ev_c fun vl fl xs Hb3 H3 n3 kl f0 fb hfl kd => ?_
  · have := hgs x hx
    exact ed_int (ei_opC (g := fun i j => V.int (i % j)) (ei_opC (g := fun i j => V.int (i * j)) (ev_var rfl) (ev_var rfl) (w2 (sm_of this) (sm_of (n := 1) (by decide)))) (ev_var rfl) (show (0 : Int) < (p : Int) by omega))
  · congr 2
    conv => rhs; rw [← List.map_id g]
    refine List.map_congr_left fun x hx => ?_
    obtain ⟨h1, h2⟩ := hgb x hx
    rw [Int.mul_one]
    exact Int.emod_eq_of_lt h1 h2
  cases kd
  have ok0 : FOk 0 (g, []) := ⟨by show g.length ≤ 7; omega, hgs, Nat.le_refl _, fun x hx => absurd hx (by simp)⟩
  refine q_while (T := T) (fun m σ' H' => ∃ (Hb' : Hp) (st : K8.FSt) (vl : V) (xs : List V) (dg : Nat) (a6 a7 a8 a9 : Option V), Stt T H H Hb' H' ∧ Hb' fl = none ∧ H' fl = some (.lst xs) ∧ DpAll K Hb' xs (st.2.map encP) ∧ Dp K Hb' vl (dT st.1) ∧ (1 ≤ dg ∧ dg + m = 5) ∧ FOk (1000 * dg) st ∧ lfloop p m dg st = lfloop p 4 1 (g, []) ∧ σ' = [some (.int p), some v2, some vl, some (.int 1), some (.ref fl), some (.int dg), a6, a7, a8, a9]) 4 ⟨Hb3, (g, []), vl, [], 1, none, none, none, none, n3.st, fb, hfl, .nil, kl, ⟨Nat.le_refl _, rfl⟩, ⟨ok0.len, ok0.bd, Nat.zero_le _, ok0.prs⟩, rfl, rfl⟩ ?_
  rintro m σ' H' ⟨Hb', st, vl, xs, dg, a6, a7, a8, a9, S, fb, hfl, kd, kl, ⟨hdg1, hdm⟩, ok, hfp, rfl⟩
  have okl := ok.len
  have hvl : EvD K T (tVar 2) [some (.int p), some v2, some vl, some (.int 1), some (.ref fl), some (.int dg), a6, a7, a8, a9] Hb' (dT st.1) := ed_var rfl kl
  refine ⟨decide (2 * dg ≤ st.1.length - 1 ∧ 1 ≤ st.1.length), S.e0.tabs, (et_test (ev_is (ei_op0 (g := fun i j => V.bl (decide (i ≤ j))) (ei_opC (g := fun i j => V.int (i * j)) ev_c (ev_var rfl) (w2 (sm_of (x := (2 : Int)) (n := 2) (by decide)) (sm_of (n := 5) (by omega)))) (ei_sub (ei_len (.inr hvl)) ev_c)) ?_)).mono S.eb, fun hb H2 e2 => ?_, fun hb H2 e2 => ?_⟩
  · rw [List.length_map]
    congr 1
    rw [decide_eq_decide]
    omega
  · have hb' := of_decide_eq_true hb
    have hdg : 1 ≤ dg ∧ dg ≤ 3 := by omega
    obtain ⟨m', rfl⟩ : ∃ m', m = m' + 1 := ⟨m - 1, by omega⟩
    have hfp' : lfloop p m' (dg + 1) ((monics p dg).foldl (lfstep p) st) = lfloop p 4 1 (g, []) := by
      rw [← hfp]
      show _ = (if 2 * dg ≤ st.1.length - 1 then _ else _)
      rw [if_pos hb'.1]
    have hpd : p ^ dg ≤ 400 := by
      have h1 : p ^ dg ≤ 7 ^ dg := Nat.pow_le_pow_left hp7 _
      have h2 : 7 ^ dg ≤ 7 ^ 3 := Nat.pow_le_pow_right (by decide) hdg.2
      omega
    have hml : (monics p dg).length ≤ 400 := by
      unfold K8.monics
      rw [List.length_map, mons_count]
      exact hpd
    have hmf : ∀ F, F ∈ monics p dg → F.length = dg + 1 ∧ ∀ x, x ∈ F → x.natAbs ≤ 7 := fun F hF => by
      unfold K8.monics at hF
      obtain ⟨b, hb, rfl⟩ := List.mem_map.mp hF
      obtain ⟨h1, h2⟩ := mons_len p dg b hb
      refine ⟨by rw [List.length_append, h1]; rfl, fun x hx => ?_⟩
      rcases List.mem_append.mp hx with z | z
      · have := h2 x z; omega
      · rw [List.mem_singleton.mp z]; decide
    have S2 := S.keep e2
    refine s_for (K := K) S2 (it_list (K := K) (j := 6) (ds := (monics p dg).map dT) (ed_call (d := .list ((monics p dg).map dT)) (ea_cons (ed_vari rfl) (ea_cons (ed_vari rfl) ea_nil)) ⟨p, dg, rfl, hp, by omega, hpd, rfl⟩)) sat_mono
      (fun Bs t σ' Hb3 H3 => Sub Bs Hb3 ∧ Ex T Bs H3 ∧ Stt T H H Hb3 H3 ∧ Hb3 fl = none ∧ ∃ (st' : K8.FSt) (vl : V) (xs : List V) (a6 a7 a8 a9 : Option V), st' = ((monics p dg).take t).foldl (lfstep p) st ∧ H3 fl = some (.lst xs) ∧ DpAll K Hb3 xs (st'.2.map encP) ∧ Dp K Hb3 vl (dT st'.1) ∧ FOk (1000 * dg + t) st' ∧ t ≤ (monics p dg).length ∧ σ' = [some (.int p), some v2, some vl, some (.int 1), some (.ref fl), some (.int dg), a6, a7, a8, a9]) ?_ ?_ ?_ ?_
    · intro Bs H3 n3
      exact ⟨Sub.refl _, n3.st.eb, n3.st, n3.no fb (e2.lst hfl), st, vl, xs, a6, a7, a8, a9, rfl, n3.ex.lst (e2.lst hfl), n3.dps kd, n3.dp kl, ok, Nat.zero_le _, rfl⟩
    · rintro Bs t σ' Hb3 H3 ⟨sb, eb, S3, _⟩
      exact ⟨S3, sb, eb⟩
    · rintro Bs t σ' Hb3 H3 ht ⟨sb, eb, S3, fb3, st', vl, xs, b6, b7, b8, b9, hst, hfl3, kd3, kl3, ok3, _, rfl⟩ σ2 Hb4 H4 n4 ⟨vF, dF, h1, h2, rfl⟩
      rw [List.length_map] at ht
      rw [List.getElem?_map, List.getElem?_eq_getElem ht] at h1
      cases h1
      obtain ⟨F, hF⟩ : ∃ F, F = (monics p dg)[t] := ⟨_, rfl⟩
      have hFm : F ∈ monics p dg := by rw [hF]; exact List.getElem_mem ht
      obtain ⟨hFl, hFb⟩ := hmf F hFm
      rw [← hF] at h2
      have okl3 := ok3.len
      have step := foldl_take (lfstep p) st ht
      rw [← hst, ← hF] at step
      have estep : lfstep p st' F = ((lsteps p F st'.1.length st'.1 0).1, if 0 < (lsteps p F st'.1.length st'.1 0).2 then st'.2 ++ [(F, (lsteps p F st'.1.length st'.1 0).2)] else st'.2) := rfl
      have nBs : Bs fl = none := by
        cases w : Bs fl with
        | none => rfl
        | some u =>
          have : ∃ ps, u = .tbl ps := by
            by_cases z : ∃ ps, u = .tbl ps
            · exact z
            · exact absurd (sb _ _ w fun ps y => z ⟨ps, y⟩) (by rw [fb3]; intro y; cases y)
          obtain ⟨ps, rfl⟩ := this
          obtain ⟨ps', y⟩ := eb.tb w
          rw [hfl3] at y
          cases y
      have fb4 := n4.no fb3 hfl3
      have hfl4 := n4.ex.lst hfl3
      have okn : FOk (1000 * dg + (t + 1)) (lfstep p st' F) := by
        have := ok3.lstep (F := F) hp (by omega)
        rw [show 1000 * dg + t + 1 = 1000 * dg + (t + 1) by omega] at this
        exact this
      refine q_par (K := K) (d1 := dI 0) (d2 := .tuple [dT (ldivided p st'.1 F).1, dT (ldivided p st'.1 F).2]) n4.st (ea_cons (ed_int ev_c) (ea_cons (ed_call (ea_cons (ed_vari rfl) (ea_cons (ed_var rfl (n4.dp kl3)) (ea_cons (ed_var rfl h2) ea_nil))) ⟨p, st'.1, F, rfl, by omega, by omega, by omega, by omega, by omega, ok3.bd, hFb, rfl⟩) ea_nil)) fun vm va Hb5 H5 n5 km ka => ?_
      cases km
      have fb5 := n5.no fb4 hfl4
      have hfl5 := n5.ex.lst hfl4
      obtain ⟨rr, hrr⟩ : ∃ rr, rr = lsteps p F st'.1.length st'.1 0 := ⟨_, rfl⟩
      rw [← hrr] at estep
      refine q_while (T := T) (fun m σ' H' => ∃ (Hb' : Hp) (l : List Int) (k : Int) (vl va : V), Stt T H H Hb' H' ∧ Sub Hb5 Hb' ∧ Ex T H5 H' ∧ Hb' fl = none ∧ Dp K Hb' vl (dT l) ∧ Dp K Hb' va (.tuple [dT (ldivided p l F).1, dT (ldivided p l F).2]) ∧ l.length ≤ m ∧ l.length ≤ 7 ∧ (∀ x, x ∈ l → x.natAbs ≤ 7) ∧ lsteps p F m l k = rr ∧ σ' = [some (.int p), some v2, some vl, some (.int 1), some (.ref fl), some (.int dg), some vF, some (.int k), some va, b9]) st'.1.length ⟨Hb5, st'.1, 0, vl, va, n5.st, Sub.refl _, n5.ex.refl, fb5, n5.dp (n4.dp kl3), ka, Nat.le_refl _, okl3, ok3.bd, hrr.symm, rfl⟩ ?_
      rintro m σ' H6 ⟨Hb6, l, k, vl6, va6, S6, s6, e56, fb6, kl6, ka6, hlm, hl7, hlb, hls, rfl⟩
      obtain ⟨o1, o2, o3, o4⟩ := ldivided_ok (p := (p : Int)) (by omega) (by omega) (g := l) (F := F) hlb
      have hva6 : EvD K T (tVar 8) [some (.int p), some v2, some vl6, some (.int 1), some (.ref fl), some (.int dg), some vF, some (.int k), some va6, b9] Hb6 (.tuple [dT (ldivided p l F).1, dT (ldivided p l F).2]) := ed_var rfl ka6
      have hvl6 : EvD K T (tVar 2) [some (.int p), some v2, some vl6, some (.int 1), some (.ref fl), some (.int dg), some vF, some (.int k), some va6, b9] Hb6 (dT l) := ed_var rfl kl6
      refine ⟨decide ((ldivided p l F).2 = []) && decide (dg < l.length), S6.e0.tabs, (et_and (et_test (ev_is (ed_eqD (d2 := dT []) (ed_ixT hva6 ev_c rfl) (ed_tup ea_nil (by decide)) (shT _ (by omega)) (shT _ (by decide))) (by rw [eqv_T]))) fun _ => et_test (ev_is (ei_op0 (g := fun i j => V.bl (decide (j < i))) (ei_len (.inr hvl6)) (ev_var rfl)) ?_)).mono S6.eb, fun hc H7 e7 => ?_, fun hc H7 e7 => ?_⟩
      · rw [List.length_map]
        congr 1
        rw [decide_eq_decide]
        omega
      · have hc := Bool.and_eq_true_iff.mp hc
        have hc1 := of_decide_eq_true hc.1
        have hc2 := of_decide_eq_true hc.2
        obtain ⟨m', rfl⟩ : ∃ m', m = m' + 1 := ⟨m - 1, by omega⟩
        have hls' : lsteps p F m' (ldivided p l F).1 (k + 1) = rr := by
          rw [← hls]
          show _ = (if _ then _ else _)
          rw [if_pos ⟨hc1, by omega⟩]
        refine q_par (K := K) (d1 := dT (ldivided p l F).1) (d2 := dI (k + 1)) (S6.keep e7) (ea_cons (ed_ixT hva6 ev_c rfl) (ea_cons (ed_int (ei_add (ev_var rfl) ev_c)) ea_nil)) fun vn vk Hb8 H8 n8 kn kk => ?_
        cases kk
        refine s_asg (K := K) (d := .tuple [dT (ldivided p (ldivided p l F).1 F).1, dT (ldivided p (ldivided p l F).1 F).2]) n8.st (ed_call (ea_cons (ed_vari rfl) (ea_cons (ed_var rfl kn) (ea_cons (ed_var rfl (n8.dp (Dp.sub s6 _ _ (n5.dp h2)))) ea_nil))) ⟨p, _, F, rfl, by omega, by omega, by omega, by omega, by omega, o1, hFb, rfl⟩) fun v9 Hb9 H9 n9 k9 => ?_
        have hfl6 := e56.lst hfl5
        exact ⟨m', Nat.lt_succ_self _, Hb9, _, _, _, _, n9.st, s6.trans (n8.sub.trans n9.sub), e56.trans (e7.trans (n8.ex.trans n9.ex)), n9.no (n8.no fb6 (e7.lst hfl6)) (n8.ex.lst (e7.lst hfl6)), n9.dp kn, k9, by omega, by omega, o1, hls', rfl⟩
      · have hrk : (l, k) = rr := by
          rw [← hls]
          cases m with
          | zero => rfl
          | succ m' =>
            show _ = (if _ then _ else _)
            rw [if_neg]
            rintro ⟨z1, z2⟩
            rw [decide_eq_true z1, decide_eq_true (by omega)] at hc
            cases hc
        have e1 : l = rr.1 := by rw [← hrk]
        have e2' : k = rr.2 := by rw [← hrk]
        have hfl6 := e56.lst hfl5
        have S7 := S6.keep e7
        have hfl7 := e7.lst hfl6
        have sb7 : Sub Bs Hb6 := sb.trans (n4.sub.trans (n5.sub.trans s6))
        have eb7 : Ex T Bs H7 := eb.trans (n4.ex.trans (n5.ex.trans (e56.trans e7)))
        refine s_if S7 (b := decide (0 < k)) (et_test (ei_op0 (g := fun i j => V.bl (decide (j < i))) (ev_var rfl) ev_c)) (fun hc H8 n8 => ?_) fun hc H8 n8 => ?_
        · have hc := of_decide_eq_true hc
          refine s_app (K := K) (d := encP (F, k)) n8.st (ev_var rfl) (ed_tup (ea_cons (ed_var rfl (Dp.sub s6 _ _ (n5.dp h2))) (ea_cons (ed_vari rfl) ea_nil)) (Nat.le_of_ble_eq_true rfl)) f0 fb6 (n8.ex.lst hfl7) (by rw [kd3.length, List.length_map]; have := ok3.num; omega) fun v9 Hb9 H9 S9 n9 fb9 kv9 => ?_
          refine ⟨Hb9, sb7.trans n9.sub, (eb7.trans (n8.ex.trans n9.ex)).mut nBs (n9.ex.lst (n8.ex.lst hfl7)), S9, fb9, lfstep p st' F, vl6, xs ++ [v9], _, _, _, _, step.symm, upd_same, ?_, ?_, okn, ht, rfl⟩
          · rw [estep]
            show DpAll K Hb9 _ ((if 0 < rr.2 then st'.2 ++ [(F, rr.2)] else st'.2).map encP)
            rw [← e2', if_pos hc, List.map_append]
            exact (n9.dps (DpAll.sub s6 _ _ (n5.dps (n4.dps kd3)))).snoc kv9
          · rw [estep, ← e1]
            exact n9.dp kl6
        · have hc := of_decide_eq_false hc
          refine ⟨Hb6, sb7, eb7.trans n8.ex, n8.st, fb6, lfstep p st' F, vl6, xs, _, _, _, _, step.symm, n8.ex.lst hfl7, ?_, ?_, okn, ht, rfl⟩
          · rw [estep]
            show DpAll K Hb6 _ ((if 0 < rr.2 then st'.2 ++ [(F, rr.2)] else st'.2).map encP)
            rw [← e2', if_neg hc]
            exact DpAll.sub s6 _ _ (n5.dps (n4.dps kd3))
          · rw [estep, ← e1]
            exact kl6
    · rintro Bs σ' Hb3 H3 ⟨sb, eb, S3, fb3, st', vl, xs, b6, b7, b8, b9, hst, hfl3, kd3, kl3, ok3, _, rfl⟩
      rw [List.length_map, List.take_length] at hst
      refine s_asgV S3 (v := .int ((dg : Int) + 1)) (ei_add (ev_var rfl) ev_c) fun H4 n4 => ⟨m', Nat.lt_succ_self _, Hb3, st', vl, xs, dg + 1, _, _, _, _, n4.st, fb3, n4.ex.lst hfl3, kd3, kl3, ⟨by omega, by omega⟩, ⟨ok3.len, ok3.bd, ?_, ok3.prs⟩, by rw [hst]; exact hfp', rfl⟩
      have := ok3.num
      rw [List.length_map] at this
      omega
  · have hb' : ¬ (2 * dg ≤ st.1.length - 1 ∧ 1 ≤ st.1.length) := of_decide_eq_false hb
    have eF : lfloop p m dg st = st := by
      cases m with
      | zero => rfl
      | succ m' =>
        show (if 2 * dg ≤ st.1.length - 1 then _ else _) = _
        rw [if_neg (by omega)]
    rw [eF] at hfp
    have efin : lfound p g = if 1 < st.1.length then st.2 ++ [(st.1, (1 : Int))] else st.2 := by
      show (if 1 < (lfloop p 4 1 (g, [])).1.length then (lfloop p 4 1 (g, [])).2 ++ [((lfloop p 4 1 (g, [])).1, 1)] else (lfloop p 4 1 (g, [])).2) = _
      rw [← hfp]
    have hnum := ok.num
    have S2 := S.keep e2
    have hfl2 := e2.lst hfl
    refine q_ifJ (fun σ' H' => ∃ (Hb' : Hp) (xs : List V) (a9 : Option V), Stt T H H Hb' H' ∧ H' fl = some (.lst xs) ∧ DpAll K Hb' xs ((lfound p g).map encP) ∧ σ' = [some (.int p), some v2, some vl, some (.int 1), some (.ref fl), some (.int dg), a6, a7, a8, a9]) S2 (b := decide (1 < st.1.length)) (et_test (ev_is ((ei_op0 (g := fun i j => V.bl (decide (j < i))) (ei_len (.inr hvl)) ev_c).mono S2.eb) ?_)) ?_ (fun hc H3 n3 kont => ?_) fun hc H3 n3 kont => ?_
    · rw [List.length_map]
      congr 1
      rw [decide_eq_decide]
      omega
    · rintro σ' H3 ⟨Hb3, xs3, b9, S3, hfl3, kd3, rfl⟩
      refine ⟨_, rfl, _, lfound p g, rfl, S3.e0.tabs, own_at S3 hfl3 kd3, ?_, fun x hx => ?_, fun v' H4 e4 k4 => q v' H4 (S3.e0.trans e4) k4⟩
      · rw [efin]
        split
        · rw [List.length_append, List.length_singleton]; omega
        · omega
      · rw [efin] at hx
        split at hx
        · rcases List.mem_append.mp hx with z | z
          · have := ok.prs x z; omega
          · rw [List.mem_singleton.mp z]
            show st.1.length ≤ 1000
            omega
        · have := ok.prs x hx; omega
    · have hc := of_decide_eq_true hc
      refine s_app (K := K) (d := encP (st.1, 1)) n3.st (ev_var rfl) (ed_tup (ea_cons hvl (ea_cons (ed_int ev_c) ea_nil)) (Nat.le_of_ble_eq_true rfl)) f0 fb (n3.ex.lst hfl2) (by rw [kd.length, List.length_map]; omega) fun v9 Hb9 H9 S9 n9 fb9 kv9 => kont _ _ ⟨Hb9, xs ++ [v9], a9, S9, upd_same, ?_, rfl⟩
      rw [efin, if_pos hc, List.map_append]
      exact (n9.dps kd).snoc kv9
    · have hc := of_decide_eq_false hc
      refine kont _ _ ⟨Hb', xs, a9, n3.st, n3.ex.lst hfl2, ?_, rfl⟩
      rw [efin, if_neg hc]
      exact kd
end
end KW

/-! text K8W17 -/
set_option Elab.async false
set_option linter.all false
set_option maxRecDepth 100000
set_option maxHeartbeats 4000000
namespace KW
open PySem PySem.Spec PyProof.Rows L2 StX
open K8 (facsOf gdiscD intOps degs isPlus)
/-! ### plain -/
theorem filter_getG {α β : Type} (L : List α) (z : α) (p : α → Bool) (φ : α → β) : ((List.range L.length).filter (fun i => p (L.getD i z))).map (fun i => φ (L.getD i z)) = (L.filter p).map φ := by
  have get_mapG : (List.range L.length).map (fun i => L.getD i z) = L := by
    apply List.ext_getElem
    · simp
    · intro i h1 h2
      simp [List.getElem_map, List.getD_eq_getElem?_getD, List.getElem?_eq_getElem h2]
  conv => rhs; rw [← get_mapG]
  rw [List.filter_map, List.map_map]
  rfl
theorem all_getG {α β : Type} (L : List α) (z : α) (φ : α → β) : (List.range L.length).map (fun i => φ (L.getD i z)) = L.map φ := by
  have := filter_getG L z (fun _ => true) φ
  rw [List.filter_eq_self.mpr fun _ _ => rfl, List.filter_eq_self.mpr fun _ _ => rfl] at this
  exact this
theorem degs_sum : ∀ L : List (List Int × Int), (L.map fun x => x.2 * ((x.1.length : Int) - 1)).sum = degs L
  | [] => rfl
  | x :: r => by
    rw [List.map_cons, List.sum_cons, degs_sum r]
    rfl
theorem degs_perm {L M : List (List Int × Int)} (h : L.Perm M) : degs L = degs M := by
  induction h with
  | nil => rfl
  | cons x _ ih => show _ + degs _ = _ + degs _; rw [ih]
  | swap x y l => show _ + (_ + degs l) = _ + (_ + degs l); omega
  | trans _ _ a b => exact a.trans b
theorem degs_bound : ∀ L : List (List Int × Int), (∀ x, x ∈ L → 1 ≤ x.2 ∧ ∃ f, x.1 = f ++ [1] ∧ 1 ≤ f.length) → (L.length : Int) ≤ degs L ∧ ∀ x, x ∈ L → x.2 ≤ degs L ∧ (x.1.length : Int) - 1 ≤ degs L ∧ 2 ≤ x.1.length
  | [], _ => ⟨Int.le_refl _, fun x hx => absurd hx (by simp)⟩
  | x :: r, h => by
    obtain ⟨h0, h1⟩ := degs_bound r fun y hy => h y (List.mem_cons_of_mem _ hy)
    obtain ⟨a1, f, a2, a3⟩ := h x (List.mem_cons_self ..)
    have hl : x.1.length = f.length + 1 := by rw [a2, List.length_append]; rfl
    have e : degs (x :: r) = x.2 * ((x.1.length : Int) - 1) + degs r := rfl
    have hb1 : x.2 ≤ x.2 * ((x.1.length : Int) - 1) := by
      have := Int.mul_le_mul_of_nonneg_left (show (1 : Int) ≤ (x.1.length : Int) - 1 by omega) (show 0 ≤ x.2 by omega)
      rw [Int.mul_one] at this
      exact this
    have hb2 : (x.1.length : Int) - 1 ≤ x.2 * ((x.1.length : Int) - 1) := by
      have := Int.mul_le_mul_of_nonneg_right a1 (show 0 ≤ (x.1.length : Int) - 1 by omega)
      rw [Int.one_mul] at this
      exact this
    refine ⟨by rw [List.length_cons]; omega, fun y hy => ?_⟩
    rcases List.mem_cons.mp hy with rfl | hy
    · exact ⟨by omega, by omega, by omega⟩
    · obtain ⟨b1, b2, b3⟩ := h1 y hy
      exact ⟨by omega, by omega, b3⟩
theorem sq_plus {p : Nat} (hp : p = 3 ∨ p = 5 ∨ p = 7) (v : Int) : decide (sqLoop p 3 1 (v % (p : Int)) (((p : Int) - 1) / 2) = 1) = isPlus p v := by
  have h0 : (0 : Int) < (p : Int) := by omega
  have h1 := Int.emod_nonneg v (b := (p : Int)) (by omega)
  have h2 := Int.emod_lt_of_pos v h0
  obtain ⟨r, hr⟩ : ∃ r : Nat, v % (p : Int) = (r : Int) := ⟨(v % (p : Int)).toNat, by omega⟩
  have hrp : r < p := by omega
  rw [hr]
  rcases hp with rfl | rfl | rfl
  · have e : isPlus 3 v = decide ((r : Int) = 1) := by
      show (v % 3 == 1) = _
      rw [show v % 3 = (r : Int) from hr]
      rfl
    rw [e]
    revert r
    intro r _ hr _
    match r, hr with
    | 0, _ => decide
    | 1, _ => decide
    | 2, _ => decide
  · have e : isPlus 5 v = ((r : Int) == 1 || (r : Int) == 4) := by
      show (v % 5 == 1 || v % 5 == 4) = _
      rw [show v % 5 = (r : Int) from hr]
    rw [e]
    match r, hrp with
    | 0, _ => decide
    | 1, _ => decide
    | 2, _ => decide
    | 3, _ => decide
    | 4, _ => decide
  · have e : isPlus 7 v = ((r : Int) == 1 || (r : Int) == 2 || (r : Int) == 4) := by
      show (v % 7 == 1 || v % 7 == 2 || v % 7 == 4) = _
      rw [show v % 7 = (r : Int) from hr]
    rw [e]
    match r, hrp with
    | 0, _ => decide
    | 1, _ => decide
    | 2, _ => decide
    | 3, _ => decide
    | 4, _ => decide
    | 5, _ => decide
    | 6, _ => decide
/-- what the count asks of the discriminant and the factors -/
theorem count_facts {p : Nat} (hp : IsP p) {g : List Int} (hg : g.length ≤ K8.top p) :
    (∀ x, x ∈ facs p g → 1 ≤ x.2 ∧ ∃ f, x.1 = f ++ [1] ∧ 1 ≤ f.length) ∧ degs (facs p g) = (g.length : Int) ∧
    (gdiscD intOps (g ++ [1]) % (p : Int) = 0 ↔ ∃ x, x ∈ facs p g ∧ 1 < x.2) ∧
    (gdiscD intOps (g ++ [1]) % (p : Int) ≠ 0 → ((((g.length : Int) - ((facs p g).length : Int)) % 2 = 0) ↔ isPlus p (gdiscD intOps (g ++ [1])) = true)) := by
  obtain ⟨h1, h2, h3, h4⟩ := K8.count_law hp hg
  have pm : (facs p g).Perm (facsOf p (g.map (· % (p : Int)) ++ [1])) := List.mergeSort_perm _ _
  refine ⟨fun x hx => h1 x (pm.mem_iff.mp hx), by rw [degs_perm pm]; exact h2, ?_, by rw [pm.length_eq]; exact h4⟩
  exact h3.trans ⟨fun ⟨x, a, b⟩ => ⟨x, pm.mem_iff.mpr a, b⟩, fun ⟨x, a, b⟩ => ⟨x, pm.mem_iff.mp a, b⟩⟩
section
variable {P : Program} {w : World} {K : PySem.W.Frag} {mg : Str → Option Value} {base : Heap} {T : Tb}
theorem er_digits {p : Addr} {Hb : Hp} {n ix : Nat} {σ : L2.St} {tb : TE} {m : Int} {E : XK} (hb : Hb p = none) (hσ : σ[ix]? = some (some (.ref p))) (h : Ev T tb σ Hb (.int m)) (hn : n ≤ 99990) (h0 : 12 ≤ m) (h7 : m ≤ 10 ^ 7) :
    EvR T p Hb n 2 (tCall (spDigits T) [] E (tCons (tVar ix) (tCons tb tNil))) σ (fun i => -m ≤ i ∧ i ≤ m) := fun H e d Q q =>
  ⟨_, hσ, h H e _ fun H2 e2 => ⟨p, n, m, rfl, e2.tabs, d.ex e2, hn, h0, h7, fun i H' ex' d' h1 h2 => q i H' ((e.trans e2).hid hb ex') d' ⟨h1, h2⟩⟩⟩
theorem DOk.ne {p l : Addr} {n : Nat} {H : Hp} (d : DOk p n H) (h : H l = none) : l ≠ p := by
  obtain ⟨a, b, c, h1, _⟩ := d
  intro z
  rw [z, h1] at h
  cases h
theorem DOk.upd {p l : Addr} {n : Nat} {H : Hp} {o : HO} (d : DOk p n H) (h : l ≠ p) : DOk p n (upd H l o) := by
  obtain ⟨a, b, c, h1, h2⟩ := d
  exact ⟨a, b, c, by rw [upd_ne (Ne.symm h)]; exact h1, h2⟩
/-- [roll for at in range(n)] -/
theorem lc_roll {pd : Addr} {B H : Hp} {k sz j : Nat} {σ : L2.St} {tn te : TE} {vs : List Nat} {Pi : Int → Prop} (hb : B pd = none) (e : Ex T B H) (d : DOk pd k H) (hn : Ev T tn σ B (.int (sz : Int))) (hs : sz ≤ 100) (hw : ∀ v, wipe ((wipe σ vs).set j (some v)) vs = wipe σ vs)
    (ht : ∀ (i : Nat) (Hb : Hp), i < sz → Hb pd = none → EvR T pd Hb (k + 2 * i) 2 te ((wipe σ vs).set j (some (.int (i : Int)))) Pi) {Q : VK}
    (q : ∀ (l : Addr) (xs : List Int) (H' : Hp), Ex T B H' → DOk pd (k + 2 * sz) H' → l ≠ pd → H' l = some (.lst (xs.map V.int)) → xs.length = sz → (∀ x, x ∈ xs → Pi x) → Q (.ref l) H') :
    tLc (iRng1 (tCons tn tNil)) (gName j) tYes te vs σ H Q := by
  refine hn H e _ fun H1 e1 => ⟨(sz : Int), rfl, by omega, by omega, fun Dl hDl => ?_⟩
  have d1 := d.ex e1
  have hDp : Dl ≠ pd := d1.ne hDl
  have eB1 := e.trans e1
  have BDl : B Dl = none := eB1.free hDl
  let Pv : Nat → Hp → Prop := fun i H3 => Ex T B H3 ∧ DOk pd (k + 2 * i) H3 ∧ ∃ xs : List Int, H3 Dl = some (.lst (xs.map V.int)) ∧ xs.length = i ∧ ∀ x, x ∈ xs → Pi x
  refine ⟨fun i m H3 => m = sz - i ∧ i ≤ sz ∧ Pv i H3, ⟨sz, by simp, Nat.zero_le _, eB1.new hDl, d1.upd hDp, [], upd_same, rfl, fun x hx => absurd hx (by simp)⟩, ?_⟩
  rintro i m H3 ⟨rfl, hle, e3, d3, xs, hx, hxl, hP⟩
  by_cases hlt : i < sz
  · refine .inr ⟨(show i < ((sz : Int)).toNat by omega), Pv (i + 1), fun H' p' => ⟨sz - (i + 1), by omega, rfl, hlt, p'⟩, fun x H4 hy => ?_⟩
    obtain ⟨ex', eH⟩ := hy
    rw [ex', eH]
    refine ⟨hw _, yes_ok ?_⟩
    rw [if_pos rfl]
    have hh := ht i (hide pd H3) hlt hide_p H3 (ex_hide (.start e3.tabs)) d3
    rw [← Int.zero_add (i : Int)] at hh
    refine hh _ fun r H4 e4 d4 hr => ?_
    have hx4 : H4 Dl = some (.lst (xs.map V.int)) := e4.lst (by rw [hide_ne hDp]; exact hx)
    refine ⟨_, hx4, sz_lt (by rw [List.length_map]; omega), (e3.hid hb e4).mut BDl hx4, ?_, xs ++ [r], by rw [upd_same, List.map_append]; rfl, by rw [List.length_append, hxl]; rfl, fun x hx => ?_⟩
    · have : DOk pd (k + 2 * (i + 1)) H4 := d4.up (by omega)
      exact this.upd hDp
    · rcases List.mem_append.mp hx with z | z
      · exact hP x z
      · rw [List.mem_singleton.mp z]; exact hr
  · have hin : i = sz := by omega
    subst hin
    exact .inl ⟨(show ((i : Int)).toNat ≤ i by omega), q Dl xs H3 e3 d3 hDp hx hxl hP⟩
theorem q_asgR {p : Addr} {Hb H : Hp} {n k j : Nat} {σ : L2.St} {te : TE} {Pi : Int → Prop} {tz : TS} {D : Ends} (h : EvR T p Hb n k te σ Pi) (e : Ex T Hb H) (d : DOk p n H) (q : ∀ i H', Ex T Hb H' → DOk p (n + k) H' → Pi i → tz D (σ.set j (some (.int i))) H') : tSeq (tAsg te (gName j)) tz D σ H := h H e d _ q
theorem q_unf {H : Hp} {j : Nat} {σ : L2.St} {te : TE} {tz : TS} {D : Ends} (h : te σ H fun v H' => tz D (σ.set j (some v)) H') : tSeq (tAsg te (gName j)) tz D σ H := h
theorem op_unf {H : Hp} {σ : L2.St} {ta tb : TE} {r : R2} {Q : VK} (h : ta σ H fun x H1 => tb σ H1 fun y H2 => r x y H2 Q) : tOp r ta tb σ H Q := h
theorem cb1_unf {H : Hp} {σ : L2.St} {te : TE} {r : List V → Hp → VK → Prop} {Q : VK} (h : te σ H fun v H1 => r [v] H1 Q) : tCB r (tCons te tNil) σ H Q := h
/-! ### _law_count_right -/
abbrev spCount (T : Tb) : Sp := fun vs H Q _ => ∃ (p : Addr) (n : Nat), vs = [.ref p] ∧ LamX.Tabs T H ∧ DOk p n H ∧ n ≤ 50000 ∧ ∀ H', Ex T (hide p H) H' → DOk p (n + 20) H' → Q (.bl true) H'
abbrev N_law_count_right : List Str := ["_law_dice_here", "_law_p", "_law_size", "_law_g", "_law_number", "_law_told", "_law_is_even", "_law_at", "_law_one", "_law_many"]
theorem sc_law_count_right : FnScope N_law_count_right ["_law_dice_here"] (defScope (topS 55)) := ⟨rfl, rfl, rfl, by decide +kernel, rfl, by decide +kernel, by decide +kernel⟩
theorem df_count (B : Bi K mg) (D_law_is_square : Df P w K mg base 1 "_law_is_square" ["_law_q", "_law_number"] (spSq K T)) (D_factors_modulo : Df P w K mg base 7 "factors_modulo" ["prime", "polynomial"] (spFacM K T)) (D_discriminant : Df P w K mg base 6 "discriminant" ["polynomial"] (spDiscr K T))
    (D_law_digits_great : Df P w K mg base 2 "_law_digits_great" ["_law_dice_here", "_law_most"] (spDigits T)) (D_law_roll : Df P w K mg base 1 "_law_roll" ["_law_dice_here", "_law_total"] (spRoll T)) (D_law_one_of : Df P w K mg base 2 "_law_one_of" ["_law_dice_here", "_law_items"] (spOneOf T)) (h : Has K mg "_law_count_right" 55) : Df P w K mg base 8 "_law_count_right" ["_law_dice_here"] (spCount T) := by
  refine h.df sc_law_count_right (fun vs H Q E h => by obtain ⟨_, _, rfl, _⟩ := h; rfl) (fun _ _ _ _ _ _ us hl => match us, hl with | [_], _ => rfl) (fun f cdv A outer s H vs Q E hr h => ?_)
  have nd := sc_law_count_right.nd
  refine ⟨_, PSs.nox (pss_cons (ps_set (i := 1) nd rfl (by first | exact Or.inl rfl | exact Or.inr rfl) (pe_callD D_law_one_of hr (by decide) rfl (pa_cons (pv 0) (pa_cons (pe_lst (pa_cons pe_int (pa_cons pe_int (pa_cons pe_int (pa_cons pe_int pa_nil))))) pa_nil)))) (pss_cons (ps_set (i := 2) nd rfl (by first | exact Or.inl rfl | exact Or.inr rfl) (pe_op op_add pe_int (pe_callD D_law_roll hr (by decide) rfl (pa_cons (pv 0) (pa_cons (pe_ifExp (pt_cmpR op_lt (pv 1) pe_int (nomark _)) pe_int pe_int) pa_nil))))) (pss_cons (ps_set (i := 3) nd rfl (by first | exact Or.inl rfl | exact Or.inr rfl) (pe_op (catK (K := K) rfl) (pe_callTy (tupK (K := K) rfl) (by rfl) B.tuple boot_tuple (pa_cons (pe_lc (own := [("_law_at", 7)]) (g := (gName 7)) rfl nd (pi_range1 rfl B.range (pa_cons (pv 2) pa_nil)) (blkOk_by (own := [("_law_at", 7)]) (N := N_law_count_right) (sc := defScope (topS 55)) (by decide +kernel)) (fun _ _ _ _ _ => (pg_name (i := 7) nd rfl (by first | exact Or.inl rfl | exact Or.inr rfl))) (fun _ _ _ _ _ => pts_nil) (fun _ _ _ _ _ => (pe_callD D_law_digits_great hr (by decide) rfl (pa_cons (pv 0) (pa_cons (pe_op op_powX pe_int pe_int) pa_nil))))) pa_nil)) (pe_tup (pa_cons pe_int pa_nil)))) (pss_cons (ps_par (i := 4) (j := 5) rfl nd rfl rfl (by decide) rfl rfl (pa_cons (pe_callD D_discriminant hr (by decide) rfl (pa_cons (pv 3) pa_nil)) (pa_cons (pe_callD D_factors_modulo hr (by decide) rfl (pa_cons (pv 1) (pa_cons (pv 3) pa_nil))) pa_nil)) (by rfl)) (pss_cons (ps_if (pt_cmpR op_ne (pe_cmpR op_eq (pe_op op_mod (pv 4) (pv 1)) pe_int (nomark _)) (pe_cmpR (neDK (K := K) rfl hr.units) (pe_lc (own := [("_law_one", 8), ("_law_many", 9)]) (g := (gTup K 2 (gCons (gName 8) (gCons (gName 9) gNil)))) rfl nd (pi_tup (pv 5)) (blkOk_by (own := [("_law_one", 8), ("_law_many", 9)]) (N := N_law_count_right) (sc := defScope (topS 55)) (by decide +kernel)) (fun _ _ _ _ _ => (pg_tup rfl (pgs_cons (pg_name (i := 8) nd rfl (by first | exact Or.inl rfl | exact Or.inr rfl)) (pgs_cons (pg_name (i := 9) nd rfl (by first | exact Or.inl rfl | exact Or.inr rfl)) pgs_nil)))) (fun _ _ _ _ _ => (pts_one (pt_cmpR op_gt (pv 9) pe_int (nomark _)))) (fun _ _ _ _ _ => pe_int)) (pe_lst pa_nil) (nomark _)) (nomark _)) (pss_one (ps_ret pe_bl)) pss_nil) (pss_cons (ps_if (pt_cmpR op_ne (pe_callB (sumK (K := K) rfl rfl) (by rfl) B.sum (by decide +kernel) (pa_cons (pe_lc (own := [("_law_one", 8), ("_law_many", 9)]) (g := (gTup K 2 (gCons (gName 8) (gCons (gName 9) gNil)))) rfl nd (pi_tup (pv 5)) (blkOk_by (own := [("_law_one", 8), ("_law_many", 9)]) (N := N_law_count_right) (sc := defScope (topS 55)) (by decide +kernel)) (fun _ _ _ _ _ => (pg_tup rfl (pgs_cons (pg_name (i := 8) nd rfl (by first | exact Or.inl rfl | exact Or.inr rfl)) (pgs_cons (pg_name (i := 9) nd rfl (by first | exact Or.inl rfl | exact Or.inr rfl)) pgs_nil)))) (fun _ _ _ _ _ => pts_nil) (fun _ _ _ _ _ => (pe_op op_mulW (pv 9) (pe_op op_sub (pe_callB (lenK (K := K) rfl) (by rfl) B.len boot_len (pa_cons (pv 8) pa_nil)) pe_int)))) pa_nil)) (pv 2) (nomark _)) (pss_one (ps_ret pe_bl)) pss_nil) (pss_cons (ps_if (pt_cmpR op_eq (pe_op op_mod (pv 4) (pv 1)) pe_int (nomark _)) (pss_one (ps_ret pe_bl)) pss_nil) (pss_cons (ps_set (i := 6) nd rfl (by first | exact Or.inl rfl | exact Or.inr rfl) (pe_cmpR op_eq (pe_op op_mod (pe_op op_sub (pv 2) (pe_callB (lenK (K := K) rfl) (by rfl) B.len boot_len (pa_cons (pv 5) pa_nil))) pe_int) pe_int (nomark _))) (pss_one (ps_ret (pe_ifExp (pt_cmpR op_eq (pv 1) pe_int (nomark _)) (pe_cmpR op_eq (pv 6) (pe_cmpR op_eq (pe_op op_mod (pv 4) pe_int) pe_int (nomark _)) (nomark _)) (pe_cmpR op_eq (pv 6) (pe_callD D_law_is_square hr (by decide) rfl (pa_cons (pv 1) (pa_cons (pv 4) pa_nil))) (nomark _))))))))))))), ?_⟩
  obtain ⟨pd, n, rfl, ht, hd, hn, q⟩ := h
  obtain ⟨B0, hB0⟩ : ∃ B0, B0 = hide pd H := ⟨_, rfl⟩
  rw [← hB0] at q
  have hb : B0 pd = none := by rw [hB0]; exact hide_p
  have e0 : Ex T B0 H := by rw [hB0]; exact ex_hide (.start ht)
  -- the prime
  refine ⟨_, rfl, en_lst (K := K) (T := T) (ds := [2, 3, 5, 7].map PyData.int) (ea_cons (ed_int ev_c) (ea_cons (ed_int ev_c) (ea_cons (ed_int ev_c) (ea_cons (ed_int ev_c) ea_nil)))) (Nat.le_of_ble_eq_true rfl) H (.start ht) _ fun a xs H1 ha e1 h1 kd => ?_⟩
  rw [kd.ints] at h1
  refine ⟨pd, a, n, _, rfl, hd.ne ha, h1, by decide, by decide, e1.tabs, hd.ex e1, by omega, fun i x H2 hx ex2 d2 => ?_⟩
  obtain ⟨p, hp, rfl⟩ : ∃ p : Nat, IsP p ∧ x = .int p := by
    match i, hx with
    | 0, hx => cases hx; exact ⟨2, .inl rfl, rfl⟩
    | 1, hx => cases hx; exact ⟨3, .inr (.inl rfl), rfl⟩
    | 2, hx => cases hx; exact ⟨5, .inr (.inr (.inl rfl)), rfl⟩
    | 3, hx => cases hx; exact ⟨7, .inr (.inr (.inr rfl)), rfl⟩
    | i + 4, hx => exact absurd hx (by simp)
  have e2 : Ex T B0 H2 := (e0.trans e1).hid hb ex2
  have hp2 := hp.lo
  have hp7 := hp.hi
  have htop : (K8.top p = 6 ∨ K8.top p = 4) := by unfold K8.top; split <;> simp
  -- the degree
  refine q_asgR (er_add (T := T) (c := 1) (Pj := fun i => 1 ≤ i ∧ i ≤ (K8.top p : Int)) ev_c (er_roll (T := T) (σ := [some (.ref pd), some (.int p), none, none, none, none, none, none, none, none]) (n := n + 1) (size := (K8.top p : Int)) (ix := 0) hb rfl (ei (K := K) (ed_if (b := decide ((p : Int) < 7)) (et_test (ei_op0 (g := fun i j => V.bl (decide (i < j))) (ev_var (i := 1) rfl) ev_c)) (fun hc => ed_is (ed_int (ev_c (v := .int 6))) ?_) fun hc => ed_is (ed_int (ev_c (v := .int 4))) ?_)) (by omega) (by omega) (by omega)) (fun i hi => by omega)) e2 d2 fun i H3 e3 d3 hi => ?_
  · have := of_decide_eq_true hc
    unfold K8.top
    rw [if_neg (by omega)]
    rfl
  · have := of_decide_eq_false hc
    unfold K8.top
    rw [if_pos (by omega)]
    rfl
  obtain ⟨sz, rfl⟩ : ∃ sz : Nat, i = (sz : Int) := ⟨i.toNat, by omega⟩
  -- the polynomial
  refine q_unf (op_unf (cb1_unf (lc_roll (T := T) (k := n + 2) (sz := sz) (j := 7) (Pi := fun i => -(10 ^ 6) ≤ i ∧ i ≤ 10 ^ 6) hb e3 (d3.up (by omega)) (ev_var rfl) (by omega) (fun v => rfl) (fun i Hb hi hbp => er_digits (T := T) (m := 10 ^ 6) (ix := 0) hbp rfl (ei_opC (g := fun i j => V.int (i ^ j.toNat)) ev_c ev_c (by decide +kernel)) (by omega) (by decide) (by decide)) fun l xs H4 e4 d4 hlp hl4 hxl hxb => ?_)))
  refine ⟨l, _, rfl, .inl ⟨.inl (.inl hl4), fun t ht4 => ?_⟩⟩
  have htp := d4.ne ht4
  obtain ⟨H5, hH5⟩ : ∃ H5, H5 = upd H4 t (.tup (xs.map V.int)) := ⟨_, rfl⟩
  rw [← hH5]
  have e5 : Ex T B0 H5 := by rw [hH5]; exact e4.new ht4
  have d5 : DOk pd (n + 20) H5 := by rw [hH5]; exact (d4.up (by omega)).upd htp
  have kt : Dp K H5 (.ref t) (dT xs) := .tup (by rw [hH5, upd_same]) (.of_ints xs)
  have S5 : Stt T H5 H5 H5 H5 := ⟨.start e5.tabs, .start e5.tabs, fun h => .inl h⟩
  refine ed_catA (K := K) (T := T) (σ := [some (.ref pd), some (.int p), some (.int sz), none, none, none, none, none, none, none]) (H := H5) (ta := tC (.ref t)) (tb := tTup (tCons (tC (.int 1)) tNil)) (ds := xs.map PyData.int) (es := [.int 1]) (ed_of ev_c kt) (ed_tup (ea_cons (ed_int ev_c) ea_nil) (Nat.le_of_ble_eq_true rfl)) (by rw [List.length_map]; simp; omega) H5 S5.eb _ fun vg H6 e6 k6 => ?_
  have n6 := S5.step e6
  obtain ⟨Hb6, hHb6⟩ : ∃ Hb6, Hb6 = rest H5 H5 H6 := ⟨_, rfl⟩
  rw [← hHb6] at k6 n6
  have k6 : Dp K Hb6 vg (dT (xs ++ [1])) := by
    unfold dT
    rw [List.map_append]
    exact k6
  have okg : OkG xs := ⟨by omega, by omega, fun x hx => by have := hxb x hx; omega⟩
  obtain ⟨c1, c2, c3, c4⟩ := count_facts hp (g := xs) (by omega)
  obtain ⟨D, hD⟩ : ∃ D, D = gdiscD intOps (xs ++ [1]) := ⟨_, rfl⟩
  obtain ⟨L, hL⟩ : ∃ L, L = facs p xs := ⟨_, rfl⟩
  rw [← hL, ← hD] at c3 c4
  rw [← hL] at c1 c2
  obtain ⟨b1, b2⟩ := degs_bound L c1
  rw [c2] at b1 b2
  refine q_par (K := K) (d1 := dI D) (d2 := .tuple (L.map encP)) n6.st (ea_cons (ed_call (ea_cons (ed_var rfl k6) ea_nil) ⟨xs, rfl, okg, by rw [hD]⟩) (ea_cons (ed_call (ea_cons (ed_vari rfl) (ea_cons (ed_var rfl k6) ea_nil)) ⟨p, xs, rfl, hp, okg, by rw [hL]⟩) ea_nil)) fun vD vL Hb7 H7 n7 kD kL => ?_
  cases kD
  have hpr : ∀ (i : Nat) (d : PyData), (L.map encP)[i]? = some d → ∃ d1 d2, d = .tuple [d1, d2] := fun i d hd => by
    rw [List.getElem?_map] at hd
    obtain ⟨x, _, rfl⟩ := Option.map_eq_some_iff.mp hd
    exact ⟨_, _, rfl⟩
  have item : ∀ {i : Nat} {d1 d2 : PyData}, i < (L.map encP).length → (L.map encP)[i]? = some (.tuple [d1, d2]) → L.getD i ([], 0) ∈ L ∧ d1 = dT (L.getD i ([], 0)).1 ∧ d2 = dI (L.getD i ([], 0)).2 := fun {i d1 d2} hi hd => by
    rw [List.length_map] at hi
    rw [List.getElem?_map, List.getElem?_eq_getElem hi] at hd
    have eg : L.getD i ([], 0) = L[i] := by rw [List.getD_eq_getElem?_getD, List.getElem?_eq_getElem hi]; rfl
    have := Option.some.inj hd
    unfold encP at this
    cases this
    rw [eg]
    exact ⟨List.getElem_mem hi, rfl, rfl⟩
  have hLl : L.length ≤ 1000 := by omega
  obtain ⟨ones, hones⟩ : ∃ ones : List Int, ones = (L.filter fun x => decide (1 < x.2)).map fun _ => 1 := ⟨_, rfl⟩
  have honl : ones.length ≤ 1000 := by
    rw [hones, List.length_map]
    exact Nat.le_trans (List.length_filter_le _ _) hLl
  refine q_pass n7.st (et_test (ev_is (eb_ne (b := decide (D % (p : Int) = 0)) (ei_eq (ei_opC (g := fun i j => V.int (i % j)) (ev_var rfl) (ev_var rfl) (show (0 : Int) < (p : Int) by omega)) ev_c) (ed_neD (K := K) (d1 := dL ones) (d2 := dL []) (ed_new (en_is (en_lc (n := (L.map encP).length) (fun i => decide (1 < (L.getD i ([], 0)).2)) (fun _ => .int 1) (it_tupP (K := K) (j := 8) (l := 9) (ed_var rfl (Dp.sub n7.st.eb.sub _ _ kL)) hpr) (by rw [List.length_map]; omega) fun i σ2 Hy hi sb hS => ?_) ?_)) (ed_new (en_lst ea_nil (by decide))) (shL _ (by omega)) (shL _ (by decide)))) ?_)) fun H8 n8 => ?_
  · obtain ⟨vo, vm, d1, d2, hd, k1, k2, rfl⟩ := hS
    obtain ⟨hm, rfl, rfl⟩ := item hi hd
    cases k2
    exact ⟨rfl, et_test (ei_op0 (g := fun i j => V.bl (decide (j < i))) (ev_var rfl) ev_c), fun _ => ed_int ev_c⟩
  · rw [hones, List.map_map, List.length_map]
    exact filter_getG L ([], 0) (fun x => decide (1 < x.2)) fun _ => PyData.int 1
  · rw [eqv_L]
    have e1 : ones = [] ↔ ¬ ∃ x, x ∈ L ∧ 1 < x.2 := by
      rw [hones, List.map_eq_nil_iff, List.filter_eq_nil_iff]
      simp
    by_cases z : D % (p : Int) = 0
    · rw [decide_eq_true z, decide_eq_false (fun w => e1.mp w (c3.mp z))]; rfl
    · rw [decide_eq_false z, decide_eq_true (e1.mpr fun w => z (c3.mpr w))]; rfl
  refine q_pass n8.st (et_test (ev_is (ei_ne (i := degs L) (ev_is (ei_sum (K := K) (ns := L.map fun x => x.2 * ((x.1.length : Int) - 1)) (ed_new (en_is (en_lcAll (n := (L.map encP).length) (fun i => .int ((L.getD i ([], 0)).2 * (((L.getD i ([], 0)).1.length : Int) - 1))) (it_tupP (K := K) (j := 8) (l := 9) (ed_var rfl (Dp.sub n8.st.eb.sub _ _ kL)) hpr) (by rw [List.length_map]; omega) fun i σ2 Hy hi sb hS => ?_) ?_))) (by rw [degs_sum])) (ev_var rfl)) (by rw [c2, hxl, decide_eq_true rfl]; rfl))) fun H9 n9 => ?_
  · obtain ⟨vo, vm, d1, d2, hd, k1, k2, rfl⟩ := hS
    obtain ⟨hm, rfl, rfl⟩ := item hi hd
    cases k2
    obtain ⟨z1, z2, z3⟩ := b2 _ hm
    obtain ⟨z4, _⟩ := c1 _ hm
    exact ⟨rfl, ed_int (ei_opC (g := fun i j => V.int (i * j)) (ev_var rfl) (ei_sub (ev_is (ei_len (.inr (ed_var rfl k1))) (by rw [List.length_map])) ev_c) (w2 (sm_of (n := 6) (by omega)) (sm_of (n := 6) (by omega))))⟩
  · rw [List.map_map, List.length_map]
    exact all_getG L ([], 0) fun x => PyData.int (x.2 * ((x.1.length : Int) - 1))
  have eL : EvD K T (tVar 5) [some (.ref pd), some (.int p), some (.int sz), some vg, some (.int D), some vL, none, none, none, none] H9 (.tuple (L.map encP)) := ed_var rfl (Dp.sub n9.st.eb.sub _ _ kL)
  have fin : ∀ H', Ex T H5 H' → Q (.bl true) H' := fun H' e' => q H' (e5.trans e') (d5.ex e')
  refine q_if n9.st (b := decide (D % (p : Int) = 0)) (et_test (ei_eq (ei_opC (g := fun i j => V.int (i % j)) (ev_var rfl) (ev_var rfl) (show (0 : Int) < (p : Int) by omega)) ev_c)) (fun hc H10 n10 => ?_) fun hc H10 n10 => ?_
  · exact s_retV n10.st ev_c fun H11 n11 => fin _ n11.st.e0
  · have hc := of_decide_eq_false hc
    have c5 := c4 hc
    refine q_asgV n10.st (v := .bl (decide (((sz : Int) - (L.length : Int)) % 2 = 0))) ((ei_eq (ei_opC (g := fun i j => V.int (i % j)) (ei_sub (ev_var rfl) (ev_is (ei_len (.inr eL)) (by rw [List.length_map]))) ev_c (by decide)) ev_c).mono n10.ex) fun H11 n11 => ?_
    refine s_retV n11.st (v := .bl true) (eb (K := K) (ed_if (b := decide ((p : Int) = 2)) (et_test (ei_eq (ev_var rfl) ev_c)) (fun h2 => ed_bool (ev_is (eb_eq (ev_var rfl) (ei_eq (ei_opC (g := fun i j => V.int (i % j)) (ev_var rfl) ev_c (by decide)) ev_c)) ?_)) fun h2 => ed_bool (ev_is (eb_eq (ev_var rfl) (eb (ed_call (d := .bool _) (ea_cons (ed_vari rfl) (ea_cons (ed_vari rfl) ea_nil)) ⟨p, D, rfl, hp, rfl⟩))) ?_))) fun H12 n12 => fin _ n12.st.e0
    · have h2 : p = 2 := by have := of_decide_eq_true h2; omega
      subst h2
      rw [hxl] at c5
      have e : isPlus 2 D = decide (D % 8 = 1) := rfl
      rw [e, decide_eq_true_iff] at c5
      rw [decide_eq_decide.mpr c5, beq_self_eq_true]
    · have h2 := of_decide_eq_false h2
      have h3 : p = 3 ∨ p = 5 ∨ p = 7 := by
        rcases hp with rfl | z
        · exact absurd rfl h2
        · exact z
      rw [hxl] at c5
      rw [sq_plus h3 D]
      by_cases z : isPlus p D = true
      · rw [z, decide_eq_true (c5.mpr z)]; rfl
      · rw [decide_eq_false (fun w => z (c5.mp w)), show isPlus p D = false by simpa using z]; rfl
end
end KW

/-! text K8W18 -/
set_option Elab.async false
set_option linter.all false
set_option maxRecDepth 100000
set_option maxHeartbeats 4000000
namespace KW
open PySem PySem.Spec PyProof.Rows L2 StX
open K8 (facsOf mons monics lowF lowRight lexL irrL' lraised lfound gath pairsL)
/-! ### plain -/
theorem lexLt_eq : ∀ a b : List Int, HT.lexLt a b = lexL a b
  | [], [] => rfl
  | [], _ :: _ => rfl
  | _ :: _, [] => rfl
  | x :: xs, y :: ys => by
    unfold HT.lexLt K8.lexL
    rw [lexLt_eq xs ys]
theorem irr_sort (l : List (List Int × Int)) : irrL (sortF l) = irrL' l := by
  have pm : (sortF l).Perm l := List.mergeSort_perm _ _
  unfold irrL K8.irrL'
  rw [pm.length_eq]
  by_cases h : l.length = 1
  · obtain ⟨x, rfl⟩ := List.length_eq_one_iff.mp h
    rw [List.perm_singleton.mp pm]
  · rw [decide_eq_false h, Bool.false_and, Bool.false_and]
theorem lowIn_eq (p d : Nat) : lowIn p d = match lowF p d with
    | some b => dT (b ++ [1])
    | none => .none := by
  unfold lowIn K8.lowF
  have e : (fun b => irrL (facs p b)) = fun b => irrL' (facsOf p (b.map (· % (p : Int)) ++ [1])) := by
    funext b
    exact irr_sort _
  rw [e]
  all_goals (cases (mons p d).find? (fun b => irrL' (facsOf p (b.map (· % (p : Int)) ++ [1]))) <;> rfl)
theorem pairs_ok : ∀ x : Nat × Nat, x ∈ pairsL → IsP x.1 ∧ 1 ≤ x.2 ∧ x.2 ≤ 6 ∧ x.1 ^ x.2 ≤ 64 := by
  unfold IsP
  decide +kernel
theorem ltimesN_len {p : Int} {f low : List Int} : ∀ (n : Nat) (here : List Int), (K8.ltimesN p f low n here).length ≤ max here.length low.length
  | 0, here => Nat.le_max_left ..
  | n + 1, here => by
    have h1 := ltimesN_len (p := p) (f := f) (low := low) n (K8.ltimes p here f low)
    have h2 : (K8.ltimes p here f low).length ≤ low.length - 1 := ldivided_low _ _
    show (K8.ltimesN p f low n (K8.ltimes p here f low)).length ≤ _
    omega
theorem raisedN_len {p : Nat} {low : List Int} : ∀ (n : Nat) (f : List Int), (K8.raisedN p low n f).length ≤ max f.length (max 1 low.length)
  | 0, f => Nat.le_max_left ..
  | n + 1, f => by
    have h1 := raisedN_len (p := p) (low := low) n (K8.ltimesN p f low p [1])
    have h2 := ltimesN_len (p := (p : Int)) (f := f) (low := low) p [1]
    rw [List.length_singleton] at h2
    show (K8.raisedN p low n (K8.ltimesN p f low p [1])).length ≤ _
    omega
theorem lraised_len {p : Nat} {low : List Int} (n : Nat) : (lraised p low n).length ≤ max 1 low.length := by
  have h1 := raisedN_len (p := p) (low := low) n (K8.ldivided p [0, 1] low).2
  have h2 := ldivided_low (p := (p : Int)) [0, 1] low
  unfold K8.lraised
  omega
structure LowF (p d : Nat) (b : List Int) : Prop where
  low : lowIn p d = dT (b ++ [1])
  mem : b ∈ mons p d
  irr : irrL (facs p b) = true
  one : d = 1 → b ++ [1] = [0, 1]
  rest : d ≠ 1 → lraised p (b ++ [1]) d = [0, 1] ∧ (∀ i, i < d - 1 → ¬ (d % (i + 1) = 0 ∧ lraised p (b ++ [1]) (i + 1) = [0, 1])) ∧ ∀ x, x ∈ monics p d → lexL x (b ++ [1]) = true → irrL' (gath (lfound p x)) = false
theorem low_facts {p d : Nat} (h : (p, d) ∈ pairsL) : ∃ b, LowF p d b := by
  have h1 := List.all_eq_true.mp K8.lowRight_all (p, d) h
  have h2 : lowRight p d = true := h1
  unfold K8.lowRight at h2
  cases q : lowF p d with
  | none => rw [q] at h2; cases h2
  | some b =>
    rw [q] at h2
    dsimp only at h2
    have q' : (mons p d).find? (fun b => irrL' (facsOf p (b.map (· % (p : Int)) ++ [1]))) = some b := q
    have hm := List.mem_of_find?_eq_some q'
    have hi := List.find?_some q'
    refine ⟨b, by rw [lowIn_eq, q], hm, (irr_sort _).trans hi, fun hd => ?_, fun hd => ?_⟩
    · rw [if_pos hd] at h2
      exact of_decide_eq_true h2
    · rw [if_neg hd] at h2
      simp only [Bool.and_eq_true] at h2
      obtain ⟨⟨⟨⟨a1, a2⟩, a3⟩, a4⟩, a5⟩ := h2
      refine ⟨of_decide_eq_true a3, fun i hi' => ?_, fun x hx hl => ?_⟩
      · have := List.all_eq_true.mp a4 i (List.mem_range.mpr hi')
        rintro ⟨z1, z2⟩
        rw [decide_eq_true z1, decide_eq_true z2] at this
        cases this
      · have := List.all_eq_true.mp a5 x (List.mem_filter.mpr ⟨hx, hl⟩)
        simpa using this
section
variable {P : Program} {w : World} {K : PySem.W.Frag} {mg : Str → Option Value} {base : Heap} {T : Tb}
theorem ew_fac {σ : L2.St} {H : Hp} {tr : TA} {E : XK} {p d : Nat} {b : List Int} (h : EvA K T tr σ H [dI p, dT (b ++ [1])]) (hp : IsP p) (hb : b ∈ mons p d) (h1 : 1 ≤ d) (h6 : d ≤ 6) : EvW K T (tCall (spLFac K T) [] E tr) σ H (.tuple ((sortF (K8.gath (lfound p (b ++ [1])))).map encP)) := fun H1 e Q q =>
  h H1 e _ fun vs H2 e2 k2 => by
    obtain ⟨v1, v2, rfl, a, c⟩ := dp2 k2
    exact ⟨v1, v2, p, d, b, rfl, e2.tabs, Dp.sub rest_le _ _ a, Dp.sub rest_le _ _ c, hp, hb, h1, h6, fun v H' e3 k => q v H' (e2.trans e3) k⟩
/-! ### _law_low_right -/
abbrev spLowRight (K : PySem.W.Frag) (T : Tb) : Sp := spR K T 2 fun ds r => ∃ p d : Nat, ds = [dI p, dI d] ∧ (p, d) ∈ pairsL ∧ r = .bool true
abbrev N_law_low_right : List Str := ["_law_p", "_law_size", "_law_low", "_law_lesser", "_law_ahead", "_law_one"]
theorem sc_law_low_right : FnScope N_law_low_right ["_law_p", "_law_size"] (defScope (topS 58)) := ⟨rfl, rfl, rfl, by decide +kernel, rfl, by decide +kernel, by decide +kernel⟩
theorem df_lowR (B : Bi K mg) (D_law_factors : Df P w K mg base 3 "_law_factors" ["_law_p", "_law_g"] (spLFac K T)) (D_law_monics : Df P w K mg base 1 "_law_monics" ["_law_p", "_law_size"] (spMon K T)) (D_law_raised : Df P w K mg base 4 "_law_raised" ["_law_p", "_law_low", "_law_times_done"] (spRaised K T)) (D_is_irreducible_modulo : Df P w K mg base 8 "is_irreducible_modulo" ["prime", "polynomial"] (spIrr K T)) (D_least_low : Df P w K mg base 11 "least_low" ["prime", "size"] (spLow K T)) (h : Has K mg "_law_low_right" 58) : Df P w K mg base 12 "_law_low_right" ["_law_p", "_law_size"] (spLowRight K T) := by
  refine h.df sc_law_low_right (fun vs H Q E h => h.1) (fun _ _ _ _ _ _ us hl => match us, hl with | [_, _], _ => rfl) (fun f cdv A outer s H vs Q E hr h => ?_)
  have nd := sc_law_low_right.nd
  refine ⟨_, PSs.nox (pss_cons (ps_set (i := 2) nd rfl (by first | exact Or.inl rfl | exact Or.inr rfl) (pe_callD D_least_low hr (by decide) rfl (pa_cons (pv 0) (pa_cons (pv 1) pa_nil)))) (pss_cons (ps_if (pt_cmpR op_eq (pv 1) pe_int (nomark _)) (pss_one (ps_ret (pe_cmpR (eqDK (K := K) rfl hr.units) (pv 2) (pe_tup (pa_cons pe_int (pa_cons pe_int pa_nil))) (nomark _)))) pss_nil) (pss_cons (ps_if (PW.pt (pw_or (pt_cmpR op_ne (pe_callB (lenK (K := K) rfl) (by rfl) B.len boot_len (pa_cons (pv 2) pa_nil)) (pe_op op_add (pv 1) pe_int) (nomark _)) (pw_or (pt_cmpR op_ne (pe_ix (ixT (K := K) rfl) (pv 2) (pe_un un_neg pe_int) (fun _ _ => rfl)) pe_int (nomark _)) (pw_or1 (pt_not (pt_val (pe_callD D_is_irreducible_modulo hr (by decide) rfl (pa_cons (pv 0) (pa_cons (pv 2) pa_nil))))))))) (pss_one (ps_ret pe_bl)) pss_nil) (pss_cons (ps_if (pt_cmpR (neDK (K := K) rfl hr.units) (pe_callD D_law_raised hr (by decide) rfl (pa_cons (pv 0) (pa_cons (pv 2) (pa_cons (pv 1) pa_nil)))) (pe_tup (pa_cons pe_int (pa_cons pe_int pa_nil))) (nomark _)) (pss_one (ps_ret pe_bl)) pss_nil) (pss_cons (ps_for PassesOwn.never rfl (pi_range2 rfl B.range (pa_cons pe_int (pa_cons (pv 1) pa_nil))) (pg_name (i := 3) nd rfl (by first | exact Or.inl rfl | exact Or.inr rfl)) (pss_one (ps_if (PW.pt (pw_and (pt_cmpR op_eq (pe_op op_mod (pv 1) (pv 3)) pe_int (nomark _)) (pw_and1 (pt_cmpR (eqDK (K := K) rfl hr.units) (pe_callD D_law_raised hr (by decide) rfl (pa_cons (pv 0) (pa_cons (pv 2) (pa_cons (pv 3) pa_nil)))) (pe_tup (pa_cons pe_int (pa_cons pe_int pa_nil))) (nomark _))))) (pss_one (ps_ret pe_bl)) pss_nil))) (pss_cons (ps_setLc (i := 4) (own := [("_law_one", 5)]) (g := (gName 5)) rfl nd rfl rfl (sw_true rfl rfl rfl (by decide +kernel)) (pi_list (pe_callD D_law_monics hr (by decide) rfl (pa_cons (pv 0) (pa_cons (pv 1) pa_nil)))) (blkOk_by (own := [("_law_one", 5)]) (N := N_law_low_right) (sc := defScope (topS 58)) (by decide +kernel)) (fun _ _ _ _ _ => (pg_name (i := 5) nd rfl (by first | exact Or.inl rfl | exact Or.inr rfl))) (fun _ _ _ _ _ => (pts_one (pt_cmpR (ltTK (K := K) rfl hr.units0) (pv 5) (pv 2) (nomark _)))) (fun _ _ _ _ _ => (pv 5))) (pss_one (ps_ret (pe_cmpR (eqDK (K := K) rfl hr.units) (pe_lc (own := [("_law_one", 5)]) (g := (gName 5)) rfl nd (pi_list (pv 4)) (blkOk_by (own := [("_law_one", 5)]) (N := N_law_low_right) (sc := defScope (topS 58)) (by decide +kernel)) (fun _ _ _ _ _ => (pg_name (i := 5) nd rfl (by first | exact Or.inl rfl | exact Or.inr rfl))) (fun _ _ _ _ _ => (pts_one (PW.pt (pw_and (pt_cmpR op_eq (pe_callB (lenK (K := K) rfl) (by rfl) B.len boot_len (pa_cons (pe_callD D_law_factors hr (by decide) rfl (pa_cons (pv 0) (pa_cons (pv 5) pa_nil))) pa_nil)) pe_int (nomark _)) (pw_and1 (pt_cmpR op_eq (pe_ix (ixT (K := K) rfl) (pe_ix (ixT (K := K) rfl) (pe_callD D_law_factors hr (by decide) rfl (pa_cons (pv 0) (pa_cons (pv 5) pa_nil))) pe_int (fun _ _ => rfl)) pe_int (fun _ _ => rfl)) pe_int (nomark _))))))) (fun _ _ _ _ _ => (pv 5))) (pe_lst pa_nil) (nomark _)))))))))), ?_⟩
  obtain ⟨v1, v2, Hx, d1, d2, r, rfl, ht, ex, k1, k2, ⟨p, d, e, hpr, rfl⟩, q⟩ := sp2 h
  cases e
  cases k1
  cases k2
  obtain ⟨hp, hd1, hd6, hpd⟩ := pairs_ok (p, d) hpr
  dsimp only at hp hd1 hd6 hpd
  have hp2 := hp.lo
  have hp7 := hp.hi
  obtain ⟨b, F⟩ := low_facts hpr
  obtain ⟨hbl, hbb⟩ := mons_len p d b F.mem
  have okb : OkG b := ⟨by omega, by omega, fun x hx => by have := hbb x hx; omega⟩
  obtain ⟨low, hlow⟩ : ∃ low, low = b ++ [1] := ⟨_, rfl⟩
  have hlowl : low.length = d + 1 := by rw [hlow, List.length_append, hbl]; rfl
  have hlowb : ∀ x, x ∈ low → x.natAbs ≤ 7 := fun x hx => by
    rw [hlow] at hx
    rcases List.mem_append.mp hx with z | z
    · have := hbb x z; omega
    · rw [List.mem_singleton.mp z]; decide
  refine q_asg (K := K) (d := dT low) (.start ex) (ed_call (ea_cons (ed_vari rfl) (ea_cons (ed_vari rfl) ea_nil)) ⟨p, d, rfl, hp, hd1, hd6, hpd, by rw [F.low, hlow]⟩) fun vl Hb1 H1 n1 kl => ?_
  have hv : EvD K T (tVar 2) [some (.int p), some (.int d), some vl, none, none, none] Hb1 (dT low) := ed_var rfl kl
  refine q_if n1.st (b := decide ((d : Int) = 1)) (et_test (ei_eq (ev_var rfl) ev_c)) (fun hc H2 n2 => ?_) fun hc H2 n2 => ?_
  · have hc : d = 1 := by have := of_decide_eq_true hc; omega
    refine s_ret n2.st (ed_bool (ev_is (ed_eqD (d2 := dT [0, 1]) hv (ed_tup (ea_cons (ed_int ev_c) (ea_cons (ed_int ev_c) ea_nil)) (Nat.le_of_ble_eq_true rfl)) (shT _ (by omega)) (shT _ (by decide))) ?_)) q
    rw [eqv_T, hlow, decide_eq_true (F.one hc)]
  · have hc : d ≠ 1 := by have := of_decide_eq_false hc; omega
    obtain ⟨r1, r2, r3⟩ := F.rest hc
    rw [← hlow] at r1 r2 r3
    refine q_pass n2.st ((et_is (et_or (b := false) (c := false) (et_test (ev_is (ei_ne (ei_len (.inr hv)) (ei_add (ev_var rfl) ev_c)) ?_)) fun _ => et_is (et_or (b := false) (c := false) (et_test (ev_is (ei_ne (i := 1) (ei (ed_ixT hv (ev_neg ev_c) (d := .int 1) ?_)) ev_c) rfl)) fun _ => et_is (et_not (et_B (b := true) (eb (ed_call (d := .bool true) (ea_cons (ed_vari rfl) (ea_cons hv ea_nil)) ⟨p, b, by rw [hlow], hp, okb, by rw [F.irr]⟩)))) rfl) rfl) rfl).mono n2.st.eb) fun H3 n3 => ?_
    · rw [List.length_map, hlowl, decide_eq_true (by omega)]; rfl
    · rw [hlow, List.map_append]
      exact atI_last _ _
    refine q_pass n3.st ((et_test (ev_is (ed_neD (d1 := dT (lraised p low d)) (d2 := dT [0, 1]) (ed_call (ea_cons (ed_vari rfl) (ea_cons hv (ea_cons (ed_vari rfl) ea_nil))) ⟨p, d, low, rfl, hp, by omega, by omega, by omega, hlowb, rfl⟩) (ed_tup (ea_cons (ed_int ev_c) (ea_cons (ed_int ev_c) ea_nil)) (Nat.le_of_ble_eq_true rfl)) (shT _ (by rw [r1]; decide)) (shT _ (by decide))) ?_)).mono n3.st.eb) fun H4 n4 => ?_
    · rw [eqv_T, r1]; rfl
    refine s_forR2 (T := T) (g := 3) (lo := 1) (n := (d : Int)) n4.st ev_c (ev_var rfl) (by decide) (by omega) (fun i σ' H' => Stt T Hx H Hb1 H' ∧ ∃ a3, σ' = [some (.int p), some (.int d), some vl, a3, none, none]) ?_ ?_ ?_
    · intro H5 n5
      exact ⟨n5.st, none, rfl⟩
    · rintro i σ' H5 hi ⟨S5, a3, rfl⟩
      have hid : i < d - 1 := by omega
      have hr2 := r2 i hid
      have hv5 : EvD K T (tVar 2) [some (.int p), some (.int d), some vl, some (.int (1 + (i : Int))), none, none] Hb1 (dT low) := ed_var rfl kl
      refine s_pass S5 (EvT.mono S5.eb (et_is (et_and (et_test (ei_eq (ei_opC (g := fun i j => V.int (i % j)) (ev_var rfl) (ev_var rfl) (show (0 : Int) < 1 + (i : Int) by omega)) ev_c)) fun _ => et_test (ev_is (ed_eqD (d1 := dT (lraised p low (i + 1))) (d2 := dT [0, 1]) (ed_call (ea_cons (ed_vari rfl) (ea_cons hv5 (ea_cons (ed_vari rfl) ea_nil))) ⟨p, i + 1, low, ?_, hp, by omega, by omega, by omega, hlowb, rfl⟩) (ed_tup (ea_cons (ed_int ev_c) (ea_cons (ed_int ev_c) ea_nil)) (Nat.le_of_ble_eq_true rfl)) (shT _ ?_) (shT _ (by decide))) (by rw [eqv_T]))) ?_)) fun H6 n6 => ⟨n6.st, _, rfl⟩
      · rw [show ((i + 1 : Nat) : Int) = 1 + (i : Int) by omega]
      · have := lraised_len (p := p) (low := low) (i + 1)
        omega
      · by_cases z : d % (i + 1) = 0
        · have z2 : ¬ lraised p low (i + 1) = [0, 1] := fun w => hr2 ⟨z, w⟩
          rw [decide_eq_false z2, Bool.and_false]
        · rw [decide_eq_false, Bool.false_and]
          rw [show (1 + (i : Int)) = ((i + 1 : Nat) : Int) by omega]
          omega
    · rintro σ' H5 ⟨S5, a3, rfl⟩
      obtain ⟨A, hA⟩ : ∃ A, A = (monics p d).filter fun x => lexL x low := ⟨_, rfl⟩
      have hml : (monics p d).length ≤ 64 := by
        unfold K8.monics
        rw [List.length_map, mons_count]
        exact hpd
      have hAl : A.length ≤ 64 := by rw [hA]; exact Nat.le_trans (List.length_filter_le _ _) hml
      have getm : ∀ {L : List (List Int)} {i : Nat} {dd : PyData}, i < (L.map dT).length → (L.map dT)[i]? = some dd → L.getD i [] ∈ L ∧ dd = dT (L.getD i []) := fun {L i dd} hi hd => by
        rw [List.length_map] at hi
        rw [List.getElem?_map, List.getElem?_eq_getElem hi] at hd
        have eg : L.getD i [] = L[i] := by rw [List.getD_eq_getElem?_getD, List.getElem?_eq_getElem hi]; rfl
        rw [eg]
        exact ⟨List.getElem_mem hi, (Option.some.inj hd).symm⟩
      refine q_asg (K := K) (d := .list (A.map dT)) S5 (ed_new (en_is (en_lc (n := ((monics p d).map dT).length) (fun i => lexL ((monics p d).getD i []) low) (fun i => dT ((monics p d).getD i [])) (it_list (j := 5) (ed_call (d := .list ((monics p d).map dT)) (ea_cons (ed_vari rfl) (ea_cons (ed_vari rfl) ea_nil)) ⟨p, d, rfl, hp, by omega, by omega, rfl⟩)) (by rw [List.length_map]; omega) fun i σ2 Hy hi sb hS => ?_) ?_)) fun vA Hb6 H6 n6 kA => ?_
      · obtain ⟨v, dd, h1, h2, rfl⟩ := hS
        obtain ⟨hm, rfl⟩ := getm hi h1
        exact ⟨rfl, et_test (ev_is (ed_ltT (ed_var rfl h2) (ed_var rfl (Dp.sub sb _ _ kl))) (by rw [lexLt_eq])), fun _ => ed_var rfl h2⟩
      · rw [List.length_map, hA]
        exact filter_getG (monics p d) [] (fun x => lexL x low) dT
      refine s_ret n6.st (ed_bool (ev_is (ed_eqD (d1 := dL []) (d2 := dL []) (ed_new (en_is (en_lc (n := (A.map dT).length) (fun _ => false) (fun _ => .none) (it_list (j := 5) (ed_var rfl kA)) (by rw [List.length_map]; omega) fun i σ2 Hy hi sb hS => ?_) ?_)) (ed_new (en_lst ea_nil (by decide))) (shL _ (by decide)) (shL _ (by decide))) (by rw [eqv_L]; rfl))) q
      · obtain ⟨v, dd, h1, h2, rfl⟩ := hS
        obtain ⟨hm, rfl⟩ := getm hi h1
        obtain ⟨x, hx⟩ : ∃ x, x = A.getD i [] := ⟨_, rfl⟩
        rw [← hx] at hm h2
        rw [hA] at hm
        obtain ⟨m1, m2⟩ := List.mem_filter.mp hm
        have hir := r3 x m1 m2
        unfold K8.monics at m1
        obtain ⟨b', hb', rfl⟩ := List.mem_map.mp m1
        have hw := ew_fac (K := K) (T := T) (E := L2.E0) (σ := (wipe [some (.int p), some (.int d), some vl, a3, some vA, none] [5]).set 5 (some v)) (tr := tCons (tVar 0) (tCons (tVar 5) tNil)) (ea_cons (ed_vari rfl) (ea_cons (ed_var rfl h2) ea_nil)) hp hb' hd1 hd6
        refine ⟨rfl, et_is (et_and (et_test (ei_eq (ew_len hw) ev_c)) fun hc => et_test (ei_eq (i := ((sortF (gath (lfound p (b' ++ [1])))).getD 0 ([], 0)).2) (ew_int (ew_ixT (ew_ixT hw ev_c (atI_pair _ ?_)) ev_c rfl)) ev_c)) ?_, fun z => nomatch z⟩
        · have := of_decide_eq_true hc
          rw [List.length_map] at this
          omega
        · rw [← irr_sort] at hir
          unfold irrL at hir
          rw [← hir, List.length_map]
          congr 1
          rw [decide_eq_decide]
          omega
      · simp
/-! ### law -/
abbrev spLaw (K : PySem.W.Frag) (T : Tb) : Sp := fun vs H Q _ => ∃ (a : Addr) (ns : List Int), vs = [.ref a] ∧ SqL K H a (ns.map V.int) ∧ LamX.Tabs T H ∧ ns.length ≤ 63 ∧ ∀ H', Q (.bl true) H'
abbrev encN (x : Nat × Nat) : PyData := .tuple [dI x.1, dI x.2]
abbrev N_law : List Str := ["_law_script", "_law_at", "_law_dice_here", "_law_turn", "_law_sizes", "_law_p", "_law_size"]
theorem sc_law : FnScope N_law ["_law_script"] (defScope (topS 59)) := ⟨rfl, rfl, rfl, by decide +kernel, rfl, by decide +kernel, by decide +kernel⟩
theorem ok_law {f : Addr} {fd : FuncData} (F : FnP K "law" (topS 59) f fd) (B : Bi K mg) (D_least_low : Df P w K mg base 11 "least_low" ["prime", "size"] (spLow K T)) (D_law_low_right : Df P w K mg base 12 "_law_low_right" ["_law_p", "_law_size"] (spLowRight K T)) (D_law_one_of : Df P w K mg base 2 "_law_one_of" ["_law_dice_here", "_law_items"] (spOneOf T)) (D_law_count_right : Df P w K mg base 8 "_law_count_right" ["_law_dice_here"] (spCount T)) (D_law_dice : Df P w K mg base 1 "_law_dice" ["_law_script", "_law_at"] (spDice K T)) : FnOk P w K mg base L2.CX0 13 f fd ["_law_script"] (spLaw K T) := by
  refine F.ok sc_law (fun vs H Q E h => by obtain ⟨_, _, rfl, _⟩ := h; rfl) (fun cdv A outer s H vs Q E hr h => ?_)
  have nd := sc_law.nd
  refine ⟨_, PSs.nox (pss_cons (ps_for PassesOwn.never rfl (pi_range1 rfl B.range (pa_cons (pe_callB (call_max2 rfl) (by rfl) B.max (by decide +kernel) (pa_cons pe_int (pa_cons (pe_callB (call_min2 rfl) (by rfl) B.min (by decide +kernel) (pa_cons pe_int (pa_cons (pe_callB (lenK (K := K) rfl) (by rfl) B.len boot_len (pa_cons (pv 0) pa_nil)) pa_nil))) pa_nil))) pa_nil)) (pg_name (i := 1) nd rfl (by first | exact Or.inl rfl | exact Or.inr rfl)) (pss_cons (ps_set (i := 2) nd rfl (by first | exact Or.inl rfl | exact Or.inr rfl) (pe_callD D_law_dice hr (by decide) rfl (pa_cons (pv 0) (pa_cons (pv 1) pa_nil)))) (pss_cons (ps_for PassesOwn.never rfl (pi_range1 rfl B.range (pa_cons pe_int pa_nil)) (pg_name (i := 3) nd rfl (by first | exact Or.inl rfl | exact Or.inr rfl)) (pss_one (ps_if (pt_not (pt_val (pe_callD D_law_count_right hr (by decide) rfl (pa_cons (pv 2) pa_nil)))) (pss_one (ps_ret pe_bl)) pss_nil))) (pss_cons (ps_set (i := 4) nd rfl (by first | exact Or.inl rfl | exact Or.inr rfl) (pe_lst (pa_cons (pe_tup (pa_cons pe_int (pa_cons pe_int pa_nil))) (pa_cons (pe_tup (pa_cons pe_int (pa_cons pe_int pa_nil))) (pa_cons (pe_tup (pa_cons pe_int (pa_cons pe_int pa_nil))) (pa_cons (pe_tup (pa_cons pe_int (pa_cons pe_int pa_nil))) (pa_cons (pe_tup (pa_cons pe_int (pa_cons pe_int pa_nil))) (pa_cons (pe_tup (pa_cons pe_int (pa_cons pe_int pa_nil))) (pa_cons (pe_tup (pa_cons pe_int (pa_cons pe_int pa_nil))) (pa_cons (pe_tup (pa_cons pe_int (pa_cons pe_int pa_nil))) (pa_cons (pe_tup (pa_cons pe_int (pa_cons pe_int pa_nil))) (pa_cons (pe_tup (pa_cons pe_int (pa_cons pe_int pa_nil))) (pa_cons (pe_tup (pa_cons pe_int (pa_cons pe_int pa_nil))) (pa_cons (pe_tup (pa_cons pe_int (pa_cons pe_int pa_nil))) pa_nil)))))))))))))) (pss_cons (ps_asg (pe_callD D_law_one_of hr (by decide) rfl (pa_cons (pv 2) (pa_cons (pv 4) pa_nil))) (pg_tup rfl (pgs_cons (pg_name (i := 5) nd rfl (by first | exact Or.inl rfl | exact Or.inr rfl)) (pgs_cons (pg_name (i := 6) nd rfl (by first | exact Or.inl rfl | exact Or.inr rfl)) pgs_nil)))) (pss_one (ps_if (pt_not (pt_val (pe_callD D_law_low_right hr (by decide) rfl (pa_cons (pv 5) (pa_cons (pv 6) pa_nil))))) (pss_one (ps_ret pe_bl)) pss_nil))))))) (pss_one (ps_ret (pe_and (pe_cmpR (eqDK (K := K) rfl hr.units) (pe_callD D_least_low hr (by decide) rfl (pa_cons pe_int (pa_cons pe_int pa_nil))) (pe_tup (pa_cons pe_int (pa_cons pe_int (pa_cons pe_int (pa_cons pe_int pa_nil))))) (nomark _)) (pe_and (pe_cmpR (eqDK (K := K) rfl hr.units) (pe_callD D_least_low hr (by decide) rfl (pa_cons pe_int (pa_cons pe_int pa_nil))) (pe_tup (pa_cons pe_int (pa_cons pe_int (pa_cons pe_int pa_nil)))) (nomark _)) (pe_one (pe_cmpR (eqDK (K := K) rfl hr.units) (pe_callD D_least_low hr (by decide) rfl (pa_cons pe_int (pa_cons pe_int pa_nil))) (pe_tup (pa_cons pe_int (pa_cons pe_int (pa_cons pe_int pa_nil)))) (nomark _)))))))), ?_⟩
  obtain ⟨a, ns, rfl, ha, ht, hl, q⟩ := h
  have S0 : Stt T H H H H := ⟨.start ht, .start ht, fun h => .inl h⟩
  obtain ⟨c, hc⟩ : ∃ c : Int, c = if (if ((ns.map V.int).length : Int) < 3 then ((ns.map V.int).length : Int) else 3) > 1 then (if ((ns.map V.int).length : Int) < 3 then ((ns.map V.int).length : Int) else 3) else 1 := ⟨_, rfl⟩
  have hc3 : c ≤ 3 := by rw [hc]; split <;> split at * <;> omega
  have hc1 : 1 ≤ c := by rw [hc]; split <;> omega
  refine s_forR1 (T := T) (g := 1) (n := c) S0 (ev_is (ei_max ev_c (ei_min ev_c (ev_lenSql (K := K) ha (ev_var rfl)))) (by rw [hc])) (by omega) (fun i σ' H' => Ex T H H' ∧ ∃ a1 a2 a3 a4 a5 a6, σ' = [some (.ref a), a1, a2, a3, a4, a5, a6]) ?_ ?_ ?_
  · intro H1 n1
    exact ⟨n1.ex, none, none, none, none, none, none, rfl⟩
  · rintro i σ' H1 hi ⟨e1, a1, a2, a3, a4, a5, a6, rfl⟩
    refine ⟨_, rfl, _, rfl, a, ns, (i : Int), rfl, e1.sub.sql ha, e1.tabs, by omega, by omega, fun pd H2 ex2 hpn dok => ?_⟩
    have e2 : Ex T H H2 := e1.trans ex2
    have hb : H pd = none := e1.free hpn
    refine s_forR1 (T := T) (g := 3) (n := 4) ⟨e2, e2, fun h => .inl h⟩ ev_c (by decide) (fun j σ' H' => Ex T H H' ∧ DOk pd (20 * j) H' ∧ ∃ b3, σ' = [some (.ref a), some (.int (i : Int)), some (.ref pd), b3, a4, a5, a6]) ?_ ?_ ?_
    · intro H3 n3
      exact ⟨e2.trans n3.ex, dok.ex n3.ex, a3, rfl⟩
    · rintro j σ' H3 hj ⟨e3, d3, b3, rfl⟩
      exact ⟨_, rfl, pd, 20 * j, rfl, e3.tabs, d3, by omega, fun H4 e4 d4 => ⟨true, rfl, iteF ⟨e3.hid hb e4, d4, _, rfl⟩⟩⟩
    · rintro σ' H3 ⟨e3, d3, b3, rfl⟩
      dsimp only
      refine q_unf ?_
      refine en_lst (K := K) (T := T) (H := H3) (ds := pairsL.map encN) ?_ (Nat.le_of_ble_eq_true rfl) H3 (.start e3.tabs) _ fun pl xs H4 hpl e4 h4 kd => ?_
      · have pr : ∀ {i j : Int} {σ : L2.St}, EvD K T (tTup (tCons (tC (.int i)) (tCons (tC (.int j)) tNil))) σ H3 (.tuple [.int i, .int j]) := ed_tup (ea_cons (ed_int ev_c) (ea_cons (ed_int ev_c) ea_nil)) (Nat.le_of_ble_eq_true rfl)
        exact ea_cons pr (ea_cons pr (ea_cons pr (ea_cons pr (ea_cons pr (ea_cons pr (ea_cons pr (ea_cons pr (ea_cons pr (ea_cons pr (ea_cons pr (ea_cons pr ea_nil)))))))))))
      · have hpp := d3.ne hpl
        have d4 := d3.ex e4
        have hxl := kd.length
        refine ⟨_, rfl, _, rfl, pd, pl, _, xs, rfl, hpp, h4, by rw [hxl]; decide, by rw [hxl]; decide, e4.tabs, d4, by decide, fun t x H5 hx ex5 d5 => ?_⟩
        obtain ⟨dd, hd, kx⟩ := kd.get' hx
        rw [List.getElem?_map] at hd
        obtain ⟨⟨p, s⟩, hm, rfl⟩ := Option.map_eq_some_iff.mp hd
        have hmem : (p, s) ∈ pairsL := List.mem_of_getElem? hm
        obtain ⟨b, ys, rfl, hby, ky⟩ := Dp.tuple_invS kx
        obtain ⟨y1, y2, rfl, g1, g2⟩ := dp2 ky
        cases g1
        cases g2
        have hb4 : H4 b = some (.tup [.int p, .int s]) := rest_le b _ (hide_le b _ hby (by intro _ z; cases z)) (by intro _ z; cases z)
        have hbp : b ≠ pd := by
          obtain ⟨u1, u2, u3, u4, _⟩ := d4
          intro z
          rw [z, u4] at hb4
          cases hb4
        have hb5 : H5 b = some (.tup [.int p, .int s]) := ex5.tup (by rw [hide_ne hbp]; exact hb4)
        have e5 : Ex T H H5 := (e3.trans e4).hid hb ex5
        refine ⟨b, _, rfl, .inl (.inl hb5), rfl, gs2 ?_⟩
        have S5 : Stt T H H H H5 := ⟨e5, e5, fun h => .inl h⟩
        refine s_pass S5 (et_is (et_not (et_B (b := true) (eb (K := K) (ed_call (d := .bool true) (ea_cons (ed_vari rfl) (ea_cons (ed_vari rfl) ea_nil)) ⟨p, s, rfl, hmem, rfl⟩)))) rfl) fun H6 n6 => ?_
        exact ⟨n6.st.e0, _, _, _, _, _, _, rfl⟩
  · rintro σ' H1 ⟨e1, a1, a2, a3, a4, a5, a6, rfl⟩
    have S1 : Stt T H H H H1 := ⟨e1, e1, fun h => .inl h⟩
    have low : ∀ (p d : Nat) (g : List Int) {σ : L2.St} {tt : TA}, IsP p → 1 ≤ d → d ≤ 6 → p ^ d ≤ 64 → lowF p d = some g → ((g ++ [1]).length ≤ 10) → EvA K T tt σ H1 ((g ++ [1]).map PyData.int) → Ev T (tOp (rEqD K) (tCall (spLow K T) [] L2.E0 (tCons (tC (.int p)) (tCons (tC (.int d)) tNil))) (tTup tt)) σ H1 (.bl true) := fun p d g σ tt hp h1 h6 h64 hF hgl ht =>
      ev_is (ed_eqD (d1 := dT (g ++ [1])) (d2 := dT (g ++ [1])) (ed_call (ea_cons (ed_int ev_c) (ea_cons (ed_int ev_c) ea_nil)) ⟨p, d, rfl, hp, h1, h6, h64, by rw [lowIn_eq, hF]⟩) (ed_tup ht (by rw [List.length_map]; omega)) (shT _ (by omega)) (shT _ (by omega))) (by rw [eqv_T, decide_eq_true rfl])
    obtain ⟨l1, l2, l3⟩ := K8.low_three
    refine s_retV S1 (v := .bl true) (ev_is (ev_andV (low 2 3 [1, 0, 1] (.inl rfl) (by decide) (by decide) (by decide) l1 (by decide) (ea_cons (ed_int ev_c) (ea_cons (ed_int ev_c) (ea_cons (ed_int ev_c) (ea_cons (ed_int ev_c) ea_nil))))) fun _ => ev_andV (low 3 2 [1, 0] (.inr (.inl rfl)) (by decide) (by decide) (by decide) l2 (by decide) (ea_cons (ed_int ev_c) (ea_cons (ed_int ev_c) (ea_cons (ed_int ev_c) ea_nil)))) fun _ => low 5 2 [1, 1] (.inr (.inr (.inl rfl))) (by decide) (by decide) (by decide) l3 (by decide) (ea_cons (ed_int ev_c) (ea_cons (ed_int ev_c) (ea_cons (ed_int ev_c) ea_nil)))) rfl) fun H2 n2 => q H2
end
end KW

/-! text K8Head -/
set_option Elab.async false
set_option linter.all false
set_option maxRecDepth 100000
set_option maxHeartbeats 0
namespace KW
open PySem PySem.Spec PyProof.Rows L2 StX
namespace Hd
def defsL : List (Str × Nat) := ([("is_whole_number", 10), ("is_integer", 11), ("is_polynomial_any", 12), ("power_of", 13), ("undone_in", 14), ("require_prime", 15), ("require_polynomial", 16), ("without_zeros", 20), ("derivative_in", 21), ("divided_in", 22), ("determinant_in", 23), ("moved_row", 24), ("resultant_in", 25), ("discriminant_in", 26), ("rests_in", 27), ("monic_rests", 28), ("monic_of_degree", 29), ("divisor_steps", 30), ("factors_in", 31), ("is_irreducible_in", 32), ("least_low_in", 33), ("require_not_divided", 34), ("require_degree", 35)] : List (Str × Nat)) ++ ([("discriminant", 36), ("require_modulo", 37), ("factors_modulo", 38), ("is_irreducible_modulo", 39), ("least_low", 40), ("_law_dice", 42), ("_law_roll", 43), ("_law_one_of", 44), ("_law_digits_great", 45), ("_law_is_square", 46), ("_law_trimmed", 47), ("_law_poly_product", 48), ("_law_rests", 49), ("_law_divided", 50), ("_law_monics", 51), ("_law_undone", 52), ("_law_factors", 53), ("_law_gathered", 54), ("_law_count_right", 55), ("_law_times_low_rest", 56), ("_law_raised", 57), ("_law_low_right", 58), ("law", 59)] : List (Str × Nat))
def looseL : List Str := (["WildError", "InvalidPolynomial", "InvalidOperation", "InvalidNumber", "TooMany", "PRIMES", "MAX_DEGREE", "SIXTY", "is_whole_number", "is_integer", "is_polynomial_any", "power_of", "undone_in", "require_prime", "require_polynomial", "MOST_LOW", "MOST_RESIDUES", "without_zeros", "derivative_in", "divided_in", "determinant_in", "moved_row", "resultant_in", "discriminant_in", "rests_in", "monic_rests", "monic_of_degree"] : List Str) ++ (["divisor_steps", "factors_in", "is_irreducible_in", "least_low_in", "require_not_divided", "require_degree", "discriminant", "require_modulo", "factors_modulo", "is_irreducible_modulo", "least_low", "_law_dice", "_law_roll", "_law_one_of", "_law_digits_great", "_law_is_square", "_law_trimmed", "_law_poly_product", "_law_rests", "_law_divided", "_law_monics", "_law_undone", "_law_factors", "_law_gathered", "_law_count_right", "_law_times_low_rest", "_law_raised", "_law_low_right"] : List Str)
def dd (q : Str × Nat) : He.DefD := ⟨(q.1, none), q.1, q.1, defArgs (topS q.2), defBody (topS q.2), defScope (topS q.2), [], []⟩
def fn : List He.DefD := defsL.map dd
def fs : List He.Fa := [.free "len", .free "list", .free "tuple", .free "range", .free "max", .free "min", .free "abs", .free "int", .free "bool", .free "sum", .free "all", .free "zip", .free "enumerate", .free "isinstance", .free "sorted", .free "next", .int "SIXTY" (10 ^ 60), .int "MAX_DEGREE" 8, .int "MOST_LOW" 6, .int "MOST_RESIDUES" 64, .glo "PRIMES"]
def fa : List He.Fa := fs ++ defsL.map fun q => He.Fa.glo q.1
/-- the code object of the def x; its table -/
def cAd (K : PySem.W.Frag) (x : Str) : Addr := match K.lookup (He.fAd K (x, none)) with
  | some ⟨_, _, .func fd, _⟩ => (match fd.code with
    | .ref c => c
    | _ => 0)
  | _ => 0
def pAd (K : PySem.W.Frag) (x : Str) : Addr := match K.lookup (cAd K x) with
  | some ⟨_, _, .fields vs, _⟩ => (match (vs[11]? : Option Value) with
    | some (.ref P) => P
    | _ => 0)
  | _ => 0
def refB (K : PySem.W.Frag) (x : Str) : Bool := match K.lookup (He.fAd K (x, none)) with
  | some ⟨_, _, .func fd, _⟩ => (match fd.code with
    | .ref _ => true
    | _ => false)
  | _ => false
def noneB (K : PySem.W.Frag) (a : Addr) : Bool := match K.lookup a with
  | none => true
  | _ => false
def emptyB (K : PySem.W.Frag) (a : Addr) : Bool := match K.lookup a with
  | some ⟨.none, none, .fields vs, sl⟩ => decide (vs.size = 0) && decide (sl.size = 0)
  | _ => false
def tabB (K K2 : PySem.W.Frag) (x : Str) : Bool := refB K x && (PySem.W.codeHdIn K (cAd K x) (pAd K x) && (noneB K (pAd K x) && emptyB K2 (pAd K x)))
def moreB (K K2 : PySem.W.Frag) : Bool := He.tupB K "PRIMES" [.int 2, .int 3, .int 5, .int 7] && (tabB K K2 "factors_in" && (tabB K K2 "least_low_in" && !decide (pAd K "factors_in" = pAd K "least_low_in")))
def obsK (g : Addr → Option Obj) (K : PySem.W.Frag) : He.AlD × Bool := (He.obsD fa fn K, moreB K (He.frG g [pAd K "factors_in", pAd K "least_low_in"]))
def obsX (g : Addr → Option Obj) : He.AlD × Bool := obsK g (He.frG g (He.asD g 2))
def hk : PySem.W.Hook where
  α := He.AlD × Bool
  obs := fun s => obsX s.heap.get?
  val := fun _ => (He.valD fn, true)
  says := fun _ h => ∃ K K2 : PySem.W.Frag, K.In h ∧ K2.In h ∧ He.SaysD fa fn K ∧ moreB K K2 = true
  of := fun _ _ e => ⟨_, _, He.frG_in, He.frG_in, congrArg Prod.fst e, congrArg Prod.snd e⟩
  keeps := fun _ _ _ ⟨K, K2, h1, h2, c, d⟩ k => ⟨K, K2, PySem.W.Frag.In.keeps h1 k, PySem.W.Frag.In.keeps h2 k, c, d⟩
abbrev R : PySem.W.OpenRow := PySem.W.OpenLaw.row PySem.Challenge.rw_wildsteps_k08_whole_counts_of_factors_an
def ob (s : PySem.W.SharedT) : He.AlD × Bool := obsX (HandSHeadRun.getT s)
theorem ob_eq (s : PySem.W.SharedT) : ob s = hk.obs s.abs := by
  have e : HandSHeadRun.getT s = s.abs.heap.get? := funext (HandSHeadRun.getT_eq s)
  show obsX (HandSHeadRun.getT s) = obsX s.abs.heap.get?
  rw [e]
/-! ### what the Hook says -/
section
variable {P : Program} {w : World} {K K2 : PySem.W.Frag} {mg : Str → Option Value} {base : Heap} {h : Heap} {T : Tb} {Pt Pl : Addr}
theorem fact (c : He.SaysD fa fn K) {i : Nat} {f : He.Fa} (e : fs[i]? = some f) : f.ok K = true := by
  refine c.fact i ?_
  unfold fa
  rw [List.getElem?_append_left (List.getElem?_eq_some_iff.mp e).1, e]
theorem has (X : K.In h) (G : h.Ns mainGlobals mg) (c : He.SaysD fa fn K) (i : Nat) (q : Str × Nat) (e : defsL[i]? = some q) : mg q.1 = some (.ref (He.ga K q.1)) ∧ ∃ fd, FnP K q.1 (topS q.2) (He.ga K q.1) fd := by
  have h1 : fa[fs.length + i]? = some (.glo q.1) := by
    unfold fa
    rw [List.getElem?_append_right (by omega), Nat.add_sub_cancel_left, List.getElem?_map, e]
    rfl
  have h2 : fn[i]? = some (dd q) := by
    unfold fn
    rw [List.getElem?_map, e]
    rfl
  exact ⟨He.glo_ok X G (c.fact _ h1), c.def_ i h2⟩
theorem bi (X : K.In h) (G : h.Ns mainGlobals mg) (c : He.SaysD fa fn K) (d : moreB K K2 = true) : Bi K mg where
  len := He.free_ok X G (fact c (i := 0) rfl)
  list := He.free_ok X G (fact c (i := 1) rfl)
  tuple := He.free_ok X G (fact c (i := 2) rfl)
  range := He.free_ok X G (fact c (i := 3) rfl)
  max := He.free_ok X G (fact c (i := 4) rfl)
  min := He.free_ok X G (fact c (i := 5) rfl)
  abs := He.free_ok X G (fact c (i := 6) rfl)
  int := He.free_ok X G (fact c (i := 7) rfl)
  bool := He.free_ok X G (fact c (i := 8) rfl)
  sum := He.free_ok X G (fact c (i := 9) rfl)
  all := He.free_ok X G (fact c (i := 10) rfl)
  zip := He.free_ok X G (fact c (i := 11) rfl)
  enumerate := He.free_ok X G (fact c (i := 12) rfl)
  isinstance := He.free_ok X G (fact c (i := 13) rfl)
  sorted := He.free_ok X G (fact c (i := 14) rfl)
  next := He.free_ok X G (fact c (i := 15) rfl)
  sixty := He.int_ok X G (fact c (i := 16) rfl)
  maxDegree := He.int_ok X G (fact c (i := 17) rfl)
  mostLow := He.int_ok X G (fact c (i := 18) rfl)
  mostResidues := He.int_ok X G (fact c (i := 19) rfl)
  primes := ⟨_, He.glo_ok X G (fact c (i := 20) rfl), fun H => He.tupB_ok (vs := [.int 2, .int 3, .int 5, .int 7]) (He.ba d).1 H⟩
theorem tab (X : K.In h) (X2 : K2.In h) {x : Str} (d : tabB K K2 x = true) : PySem.W.CodeHd h (cAd K x) (pAd K x) ∧ K.lookup (pAd K x) = none ∧ h.get? (pAd K x) = some { cls := .none, data := .fields #[] } := by
  obtain ⟨d1, d⟩ := He.ba d
  obtain ⟨d2, d⟩ := He.ba d
  obtain ⟨d3, d4⟩ := He.ba d
  refine ⟨PySem.W.codeHd_of_K X d2, ?_, ?_⟩
  · unfold noneB at d3
    cases q : K.lookup (pAd K x) with
    | none => rfl
    | some o => rw [q] at d3; cases d3
  · unfold emptyB at d4
    cases q : K2.lookup (pAd K x) with
    | none => rw [q] at d4; cases d4
    | some o =>
      rw [q] at d4
      have e := X2 _ _ q
      split at d4
      · rename_i vs sl _ e2
        obtain ⟨d5, d6⟩ := He.ba d4
        cases e2
        rw [e, Array.eq_empty_of_size_eq_zero (of_decide_eq_true d5), Array.eq_empty_of_size_eq_zero (of_decide_eq_true d6)]
      · cases d4
theorem hasC (X : K.In h) (G : h.Ns mainGlobals mg) (c : He.SaysD fa fn K) (i : Nat) (q : Str × Nat) (e : defsL[i]? = some q) (hr : refB K q.1 = true) (TB : LamX.TabB base mg (cAd K q.1) Pt) : HasC K mg base q.1 q.2 Pt := by
  obtain ⟨hm, fd, F⟩ := has X G c i q e
  refine ⟨_, fd, cAd K q.1, hm, F, ?_, TB⟩
  obtain ⟨oc, od, dV, kV, doc, pm, an, cdv, ct, osl, rfl, lk, hcd, _, _⟩ := F.ex
  have lk' : K.lookup (He.fAd K (q.1, none)) = _ := lk
  unfold refB at hr
  rw [lk'] at hr
  show cdv = .ref (cAd K q.1)
  unfold cAd
  rw [lk']
  dsimp only at hr ⊢
  cases cdv with
  | ref c => rfl
  | _ => cases hr
/-! ### all defs -/
theorem law_ok {f : Addr} {fd : FuncData} (F : FnP K "law" (topS 59) f fd) (B : Bi K mg) (h : ∀ (i : Nat) (q : Str × Nat), defsL[i]? = some q → Has K mg q.1 q.2) (hT : (Pt, lamName) ∈ T) (hTu : ∀ p ∈ T, p.1 = Pt → p.2 = lamName) (hL : (Pl, genName) ∈ T) (hLu : ∀ p ∈ T, p.1 = Pl → p.2 = genName)
    (hF : HasC K mg base "factors_in" 31 Pt) (hLo : HasC K mg base "least_low_in" 33 Pl) : FnOk P w K mg base L2.CX0 13 f fd ["_law_script"] (spLaw K T) := by
  have d0 := df_whole (P := P) (w := w) (base := base) (K := K) (mg := mg) (T := T) B  (h 0 ("is_whole_number", 10) rfl)
  have d1 := df_integer (P := P) (w := w) (base := base) (K := K) (mg := mg) (T := T) B d0 (h 1 ("is_integer", 11) rfl)
  have d2 := df_polyAny (P := P) (w := w) (base := base) (K := K) (mg := mg) (T := T) B d1 (h 2 ("is_polynomial_any", 12) rfl)
  have d3 := df_zeros (P := P) (w := w) (base := base) (K := K) (mg := mg) (T := T) B  (h 7 ("without_zeros", 20) rfl)
  have d4 := df_power (P := P) (w := w) (base := base) (K := K) (mg := mg) (T := T) B  (h 3 ("power_of", 13) rfl)
  have d5 := df_lundone (P := P) (w := w) (base := base) (K := K) (mg := mg) (T := T) B  (h 38 ("_law_undone", 52) rfl)
  have d6 := df_lsq (P := P) (w := w) (base := base) (K := K) (mg := mg) (T := T) B  (h 32 ("_law_is_square", 46) rfl)
  have d7 := df_lmon (P := P) (w := w) (base := base) (K := K) (mg := mg) (T := T) B  (h 37 ("_law_monics", 51) rfl)
  have d8 := df_roll (P := P) (w := w) (base := base) (K := K) (mg := mg) (T := T) B  (h 29 ("_law_roll", 43) rfl)
  have d9 := df_oneOf (P := P) (w := w) (base := base) (K := K) (mg := mg) (T := T) B d8 (h 30 ("_law_one_of", 44) rfl)
  have d10 := df_digits (P := P) (w := w) (base := base) (K := K) (mg := mg) (T := T) B d8 (h 31 ("_law_digits_great", 45) rfl)
  have d11 := df_dice (P := P) (w := w) (base := base) (K := K) (mg := mg) (T := T) B  (h 28 ("_law_dice", 42) rfl)
  have d12 := df_gath (P := P) (w := w) (base := base) (K := K) (mg := mg) (T := T) B  (h 40 ("_law_gathered", 54) rfl)
  have d13 := df_undone (P := P) (w := w) (base := base) (K := K) (mg := mg) (T := T) B  (h 4 ("undone_in", 14) rfl)
  have d14 := df_reqP (P := P) (w := w) (base := base) (K := K) (mg := mg) (T := T) B d1 (h 5 ("require_prime", 15) rfl)
  have d15 := df_reqG (P := P) (w := w) (base := base) (K := K) (mg := mg) (T := T) B d2 (h 6 ("require_polynomial", 16) rfl)
  have d16 := df_rests (P := P) (w := w) (base := base) (K := K) (mg := mg) (T := T) B d3 (h 14 ("rests_in", 27) rfl)
  have d17 := df_mrests (P := P) (w := w) (base := base) (K := K) (mg := mg) (T := T) B d16 d13 (h 15 ("monic_rests", 28) rfl)
  have d18 := df_moved (P := P) (w := w) (base := base) (K := K) (mg := mg) (T := T) B  (h 11 ("moved_row", 24) rfl)
  have d19 := df_divided (P := P) (w := w) (base := base) (K := K) (mg := mg) (T := T) B d3 (h 9 ("divided_in", 22) rfl)
  have d20 := df_det (P := P) (w := w) (base := base) (K := K) (mg := mg) (T := T) B  (h 10 ("determinant_in", 23) rfl)
  have d21 := df_deriv (P := P) (w := w) (base := base) (K := K) (mg := mg) (T := T) B d3 (h 8 ("derivative_in", 21) rfl)
  have d22 := df_res (P := P) (w := w) (base := base) (K := K) (mg := mg) (T := T) B d20 d18 (h 12 ("resultant_in", 25) rfl)
  have d23 := df_disc (P := P) (w := w) (base := base) (K := K) (mg := mg) (T := T) B d22 d21 (h 13 ("discriminant_in", 26) rfl)
  have d24 := df_mon (P := P) (w := w) (base := base) (K := K) (mg := mg) (T := T) B  (h 16 ("monic_of_degree", 29) rfl)
  have d25 := df_steps (P := P) (w := w) (base := base) (K := K) (mg := mg) (T := T) B d16 d19 (h 17 ("divisor_steps", 30) rfl)
  have d26 := df_notDiv (P := P) (w := w) (base := base) (K := K) (mg := mg) (T := T) B d16 (h 21 ("require_not_divided", 34) rfl)
  have d27 := df_reqD (P := P) (w := w) (base := base) (K := K) (mg := mg) (T := T) B d15 (h 22 ("require_degree", 35) rfl)
  have d28 := df_discr (P := P) (w := w) (base := base) (K := K) (mg := mg) (T := T) B d27 d23 (h 23 ("discriminant", 36) rfl)
  have d29 := df_reqM (P := P) (w := w) (base := base) (K := K) (mg := mg) (T := T) B d14 d15 d26 (h 24 ("require_modulo", 37) rfl)
  have d30 := df_ltrim (P := P) (w := w) (base := base) (K := K) (mg := mg) (T := T) B  (h 33 ("_law_trimmed", 47) rfl)
  have d31 := df_lrests (P := P) (w := w) (base := base) (K := K) (mg := mg) (T := T) B d30 (h 35 ("_law_rests", 49) rfl)
  have d32 := df_lprod (P := P) (w := w) (base := base) (K := K) (mg := mg) (T := T) B d30 (h 34 ("_law_poly_product", 48) rfl)
  have d33 := df_ldiv (P := P) (w := w) (base := base) (K := K) (mg := mg) (T := T) B d30 (h 36 ("_law_divided", 50) rfl)
  have d34 := df_ltimes (P := P) (w := w) (base := base) (K := K) (mg := mg) (T := T) B d33 d31 d32 (h 42 ("_law_times_low_rest", 56) rfl)
  have d35 := df_lraised (P := P) (w := w) (base := base) (K := K) (mg := mg) (T := T) B d34 d33 (h 43 ("_law_raised", 57) rfl)
  have d36 := df_fac (P := P) (w := w) (base := base) (K := K) (mg := mg) (T := T) B hT hTu d24 d25 d17 hF
  have d37 := df_lfac (P := P) (w := w) (base := base) (K := K) (mg := mg) (T := T) B d12 d7 d33 d5 d31 (h 39 ("_law_factors", 53) rfl)
  have d38 := df_irr (P := P) (w := w) (base := base) (K := K) (mg := mg) (T := T) B d36 (h 19 ("is_irreducible_in", 32) rfl)
  have d39 := df_facM (P := P) (w := w) (base := base) (K := K) (mg := mg) (T := T) B d29 d36 (h 25 ("factors_modulo", 38) rfl)
  have d40 := df_irrM (P := P) (w := w) (base := base) (K := K) (mg := mg) (T := T) B d29 d38 (h 26 ("is_irreducible_modulo", 39) rfl)
  have d41 := df_lowIn (P := P) (w := w) (base := base) (K := K) (mg := mg) (T := T) B hL hLu d24 d38 hLo
  have d42 := df_count (P := P) (w := w) (base := base) (K := K) (mg := mg) (T := T) B d6 d39 d28 d10 d8 d9 (h 41 ("_law_count_right", 55) rfl)
  have d43 := df_low (P := P) (w := w) (base := base) (K := K) (mg := mg) (T := T) B d14 d1 d4 d41 (h 27 ("least_low", 40) rfl)
  have d44 := df_lowR (P := P) (w := w) (base := base) (K := K) (mg := mg) (T := T) B d37 d7 d35 d40 d43 (h 44 ("_law_low_right", 58) rfl)
  exact ok_law F B d43 d44 d9 d42 d11
theorem facts {f : Addr} (X : K.In h) (X2 : K2.In h) (G : h.Ns mainGlobals mg) (hm : mg ("law" : Str) = some (.ref f)) (c : He.SaysD fa fn K) (d : moreB K K2 = true) : LamX.LawAtS PySem.Challenge.rw_wildsteps_k08_whole_counts_of_factors_an w K L2.CX0 13 63 "_law_script" mg f h := by
  have B := bi X G c d
  obtain ⟨_, d⟩ := He.ba d
  obtain ⟨d1, d⟩ := He.ba d
  obtain ⟨d2, d3⟩ := He.ba d
  obtain ⟨a1, a2, a3⟩ := tab X X2 d1
  obtain ⟨b1, b2, b3⟩ := tab X X2 d2
  have hne : pAd K "factors_in" ≠ pAd K "least_low_in" := fun z => by rw [decide_eq_true z] at d3; cases d3
  obtain ⟨hm', fd, F⟩ := has X G c 45 ("law", 59) rfl
  have e := hm.symm.trans hm'
  cases e
  have bd := FunD.bindsA (ps := ["_law_script"]) F fun _ _ _ _ _ _ us hl => match us, hl with | [_], _ => rfl
  refine ⟨fd, [(cAd K "factors_in", pAd K "factors_in"), (cAd K "least_low_in", pAd K "least_low_in")], spLaw K [(pAd K "factors_in", lamName), (pAd K "least_low_in", genName)], fun p hp => ?_, fun p hp => ?_, fun p hp => ?_, fun s v => bd s [v] rfl, fun H a ns hl _ hH hS => ⟨a, ns, rfl, hS, fun p hp => ?_, hl, fun _ => rfl⟩, fun base _ _ TB => law_ok (Pt := pAd K "factors_in") (Pl := pAd K "least_low_in") F B (fun i q e => ?_) (List.mem_cons_self ..) (fun p hp z => ?_) (List.mem_cons_of_mem _ (List.mem_cons_self ..)) (fun p hp z => ?_) (hasC X G c 18 ("factors_in", 31) rfl (He.ba d1).1 (TB _ (List.mem_cons_self ..))) (hasC X G c 20 ("least_low_in", 33) rfl (He.ba d2).1 (TB _ (List.mem_cons_of_mem _ (List.mem_cons_self ..))))⟩
  · rcases List.mem_cons.mp hp with rfl | hp
    · exact a3
    · rw [List.mem_singleton.mp hp]; exact b3
  · rcases List.mem_cons.mp hp with rfl | hp
    · exact a2
    · rw [List.mem_singleton.mp hp]; exact b2
  · rcases List.mem_cons.mp hp with rfl | hp
    · exact a1
    · rw [List.mem_singleton.mp hp]; exact b1
  · rcases List.mem_cons.mp hp with rfl | hp
    · exact LamX.TabS.nil (hH _ (List.mem_cons_self ..))
    · rw [List.mem_singleton.mp hp]; exact LamX.TabS.nil (hH _ (List.mem_cons_of_mem _ (List.mem_cons_self ..)))
  · obtain ⟨z1, fd1, z2⟩ := has X G c i q e
    exact ⟨_, fd1, z1, z2⟩
  · rcases List.mem_cons.mp hp with rfl | hp
    · rfl
    · rw [List.mem_singleton.mp hp] at z; exact absurd z.symm hne
  · rcases List.mem_cons.mp hp with rfl | hp
    · exact absurd z hne
    · rw [List.mem_singleton.mp hp]
end
end Hd
end KW

/-! text K8RunB -/
set_option Elab.async false
set_option linter.all false
set_option maxRecDepth 100000
set_option maxHeartbeats 0
namespace KW.Hd
open PySem PySem.Spec PyProof.Rows L2
theorem runB (w : World) : HandSHeadRun.RunEq R (PySem.W.view R.prog [59]) hk ob 4000 looseL w := by
  intro os
  kernel_rfl
end KW.Hd

/-! text K8End -/
set_option Elab.async false
set_option linter.all false
set_option maxRecDepth 100000
set_option maxHeartbeats 0
open PySem PySem.W PySem.Calls PyProof.Rows
theorem PySem.Challenge.cw_wildsteps_k08_whole_counts_of_factors_an_holds : PySem.Challenge.rw_wildsteps_k08_whole_counts_of_factors_an.Holds := by
  w_on; o_law
  refine HandSHeadRun.head_any (r := OpenLaw.row PySem.Challenge.rw_wildsteps_k08_whole_counts_of_factors_an) (q := view (OpenLaw.row PySem.Challenge.rw_wildsteps_k08_whole_counts_of_factors_an).prog [59]) (H := KW.Hd.hk) (ob := KW.Hd.ob) (M := 4000) (loose := KW.Hd.looseL) (d := HandSHeadRun.topDef (OpenLaw.row PySem.Challenge.rw_wildsteps_k08_whole_counts_of_factors_an).prog 59) (kwd := []) KW.Hd.ob_eq
    (by kernel_rfl) (fun s => by kernel_rfl) KW.Hd.runB (by kernel_rfl) (by kernel_rfl) (by kernel_rfl) (by rfl) (by first | assumption | decide +kernel) (by decide +kernel) ⟨rfl, rfl, rfl, rfl, rfl, by decide +kernel⟩ ?hw ?hc
  case hw => w_witness2
  case hc =>
    refine LamX.walk_ofTsE (l := PySem.Challenge.rw_wildsteps_k08_whole_counts_of_factors_an) (n := 63) (k := 13) (x := "_law_script") (CX := fun _ => L2.CX0) rfl (by decide) (by kernel_rfl) ⟨rfl, by decide, by decide⟩ ?F (fun _ _ _ _ _ z => z)
    intro w mg fa h Y G hmg0
    obtain ⟨K, K2, KX, KX2, c, d⟩ := Y
    have hmg : mg ("law" : PySem.Str) = some (.ref fa) := by
      have e : (HandSHeadRun.topDef (OpenLaw.row PySem.Challenge.rw_wildsteps_k08_whole_counts_of_factors_an).prog 59).name = ("law" : PySem.Str) := by kernel_rfl
      rw [← e]
      exact hmg0
    exact ⟨K, KX, KW.Hd.facts KX KX2 G hmg c d⟩
