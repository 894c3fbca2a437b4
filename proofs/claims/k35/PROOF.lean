import PyProof.Rows.All
import Wide.All
import OpenK.AllK
import Wide.FinOn
import HandS.ForMost
import HandS.Star
import HandS.Wide
import HandS.Walk
import KE.KEqNest
import HandS.DictEq
import HandS.More
import HandS.Deep
import HandS.DictComp
import HandS.SortRule
import KE.KSortTupAny
import KE.KDictZip
import KE.KDictKeyed
import HandS.Conv
import KE.KDictCopyH
import HandS.Zip
import HandS.Steps
import HandS.SetBool
import HandS.SetFor
import PyProof.Rows.SortStr
import HandS.Lambda
import HandS.SortKw
import KE.SortKeyHeap
import KE.KSortKey
import HandS.Defaults
import KE.SortData
import HandS.EndTab
import KE.KNestM
import PySem.Challenge.RW_farreads_k35_whole_ways_are_weights
set_option maxHeartbeats 4000000
set_option linter.all false
/-! Determinants by expansion along the first row: linear in each column, 0 where two columns agree, bounded; the pivot's identity. -/
namespace Frd
/-- a function changed at one place -/
def put {α : Type} (f : Nat → α) (k : Nat) (v : α) : Nat → α := fun x => if x = k then v else f x
theorem put_same {α : Type} {f : Nat → α} {k : Nat} {v : α} : put f k v k = v := if_pos rfl
theorem put_ne {α : Type} {f : Nat → α} {k x : Nat} {v : α} (h : x ≠ k) : put f k v x = f x := if_neg h
theorem put_self {α : Type} (f : Nat → α) (k : Nat) : put f k (f k) = f := by
  funext x
  unfold put
  split
  · rename_i h
    rw [h]
  · rfl
theorem put_put {α : Type} (f : Nat → α) (k : Nat) (u v : α) : put (put f k u) k v = put f k v := by
  funext x
  unfold put
  split <;> rfl
theorem put_comm {α : Type} (f : Nat → α) {k l : Nat} (h : k ≠ l) (u v : α) : put (put f k u) l v = put (put f l v) k u := by
  funext x
  unfold put
  by_cases h1 : x = l
  · by_cases h2 : x = k
    · exact absurd (h2.symm.trans h1) h
    · rw [if_pos h1, if_neg h2, if_pos h1]
  · rw [if_neg h1, if_neg h1]

def sumN : Nat → (Nat → Int) → Int
  | 0, _ => 0
  | n + 1, f => sumN n f + f n
theorem sumN_congr : ∀ {n : Nat} {f g : Nat → Int}, (∀ i, i < n → f i = g i) → sumN n f = sumN n g
  | 0, _, _, _ => rfl
  | n + 1, f, g, h => by
    show sumN n f + f n = sumN n g + g n
    rw [sumN_congr (fun i hi => h i (Nat.lt_succ_of_lt hi)), h n (Nat.lt_succ_self n)]
theorem sumN_zero : ∀ {n : Nat} {f : Nat → Int}, (∀ i, i < n → f i = 0) → sumN n f = 0
  | 0, _, _ => rfl
  | n + 1, f, h => by
    show sumN n f + f n = 0
    rw [sumN_zero (fun i hi => h i (Nat.lt_succ_of_lt hi)), h n (Nat.lt_succ_self n)]
    rfl
theorem sumN_add : ∀ (n : Nat) (f g : Nat → Int), sumN n (fun i => f i + g i) = sumN n f + sumN n g
  | 0, _, _ => rfl
  | n + 1, f, g => by
    show sumN n (fun i => f i + g i) + (f n + g n) = (sumN n f + f n) + (sumN n g + g n)
    rw [sumN_add n f g]
    omega
theorem sumN_mul : ∀ (n : Nat) (a : Int) (f : Nat → Int), sumN n (fun i => a * f i) = a * sumN n f
  | 0, a, _ => (Int.mul_zero a).symm
  | n + 1, a, f => by
    show sumN n (fun i => a * f i) + a * f n = a * (sumN n f + f n)
    rw [sumN_mul n a f, Int.mul_add]
theorem sumN_neg (n : Nat) (f : Nat → Int) : sumN n (fun i => - f i) = - sumN n f := by
  have e := sumN_mul n (-1) f
  have e2 : sumN n (fun i => - f i) = sumN n (fun i => (-1) * f i) := sumN_congr fun i _ => by omega
  rw [e2, e]
  omega
theorem sumN_sub (n : Nat) (f g : Nat → Int) : sumN n (fun i => f i - g i) = sumN n f - sumN n g := by
  have e := sumN_add n f (fun i => - g i)
  rw [sumN_neg] at e
  have e2 : sumN n (fun i => f i - g i) = sumN n (fun i => f i + - g i) := sumN_congr fun i _ => by omega
  rw [e2, e]
  omega
theorem sumN_le : ∀ {n : Nat} {f g : Nat → Int}, (∀ i, i < n → f i ≤ g i) → sumN n f ≤ sumN n g
  | 0, _, _, _ => Int.le_refl _
  | n + 1, f, g, h => by
    have a := sumN_le (n := n) (f := f) (g := g) (fun i hi => h i (Nat.lt_succ_of_lt hi))
    have b := h n (Nat.lt_succ_self n)
    show sumN n f + f n ≤ sumN n g + g n
    omega
theorem sumN_nonneg {n : Nat} {f : Nat → Int} (h : ∀ i, i < n → 0 ≤ f i) : 0 ≤ sumN n f := by
  have e := sumN_le (n := n) (f := fun _ => 0) (g := f) h
  rw [sumN_zero fun _ _ => rfl] at e
  exact e
/-- one place alone -/
theorem sumN_one : ∀ {n : Nat} {f : Nat → Int} {k : Nat}, k < n → (∀ i, i < n → i ≠ k → f i = 0) → sumN n f = f k
  | 0, _, _, h, _ => absurd h (Nat.not_lt_zero _)
  | n + 1, f, k, h, z => by
    show sumN n f + f n = f k
    by_cases e : k = n
    · subst e
      rw [sumN_zero fun i hi => z i (Nat.lt_succ_of_lt hi) (Nat.ne_of_lt hi)]
      omega
    · rw [sumN_one (k := k) (by omega) fun i hi hk => z i (Nat.lt_succ_of_lt hi) hk, z n (Nat.lt_succ_self n) (fun q => e q.symm)]
      omega
/-- two places alone -/
theorem sumN_two {n : Nat} {f : Nat → Int} {k l : Nat} (hk : k < n) (hl : l < n) (hkl : k ≠ l) (z : ∀ i, i < n → i ≠ k → i ≠ l → f i = 0) : sumN n f = f k + f l := by
  have e : sumN n f = sumN n (fun i => (if i = k then f k else 0) + (if i = l then f l else 0)) := sumN_congr fun i hi => by
    by_cases h1 : i = k
    · subst h1
      rw [if_pos rfl, if_neg hkl]
      omega
    · by_cases h2 : i = l
      · subst h2
        rw [if_neg h1, if_pos rfl]
        omega
      · rw [if_neg h1, if_neg h2, z i hi h1 h2]
        rfl
  rw [e, sumN_add, sumN_one hk (fun i _ h => if_neg h), sumN_one hl (fun i _ h => if_neg h), if_pos rfl, if_pos rfl]
theorem sumN_swap : ∀ (n m : Nat) (f : Nat → Nat → Int), sumN n (fun i => sumN m (fun j => f i j)) = sumN m (fun j => sumN n (fun i => f i j))
  | 0, m, f => by
    show 0 = sumN m fun _ => 0
    rw [sumN_zero fun _ _ => rfl]
  | n + 1, m, f => by
    show sumN n (fun i => sumN m (fun j => f i j)) + sumN m (fun j => f n j) = sumN m (fun j => sumN n (fun i => f i j) + f n j)
    rw [sumN_swap n m f, sumN_add]
theorem sumN_split : ∀ (a b : Nat) (f : Nat → Int), sumN (a + b) f = sumN a f + sumN b (fun i => f (a + i))
  | a, 0, f => by
    show sumN a f = sumN a f + 0
    omega
  | a, b + 1, f => by
    show sumN (a + b) f + f (a + b) = sumN a f + (sumN b (fun i => f (a + i)) + f (a + b))
    rw [sumN_split a b f]
    omega

def skip (j k : Nat) : Nat := if k < j then k else k + 1
theorem skip_lt {j k : Nat} (h : k < j) : skip j k = k := if_pos h
theorem skip_ge {j k : Nat} (h : j ≤ k) : skip j k = k + 1 := if_neg (Nat.not_lt.mpr h)
theorem skip_ne (j k : Nat) : skip j k ≠ j := by
  unfold skip
  split <;> omega
theorem skip_bound {j k m : Nat} (h : k < m) : skip j k < m + 1 := by
  unfold skip
  split <;> omega
def sgn (j : Nat) : Int := if j % 2 = 0 then 1 else -1
theorem sgn_succ (j : Nat) : sgn (j + 1) = - sgn j := by
  unfold sgn
  by_cases h : j % 2 = 0
  · rw [if_pos h, if_neg (by omega)]
  · rw [if_neg h, if_pos (by omega)]
    rfl
/-- the determinant of m columns over the rows r .. r + m - 1 -/
def det : Nat → Nat → (Nat → Nat → Int) → Int
  | 0, _, _ => 1
  | m + 1, r, A => sumN (m + 1) fun j => sgn j * A j r * det m (r + 1) (fun k => A (skip j k))
theorem det_succ (m r : Nat) (A : Nat → Nat → Int) : det (m + 1) r A = sumN (m + 1) fun j => sgn j * A j r * det m (r + 1) (fun k => A (skip j k)) := rfl
theorem det_congr : ∀ {m r : Nat} {A B : Nat → Nat → Int}, (∀ k c, k < m → r ≤ c → c < r + m → A k c = B k c) → det m r A = det m r B
  | 0, _, _, _, _ => rfl
  | m + 1, r, A, B, h => by
    rw [det_succ, det_succ]
    refine sumN_congr fun j hj => ?_
    rw [h j r hj (Nat.le_refl _) (by omega), det_congr (A := fun k => A (skip j k)) (B := fun k => B (skip j k)) fun k c hk h1 h2 => h (skip j k) c (skip_bound hk) (by omega) (by omega)]
/-- the skipped columns of a changed matrix -/
theorem put_skip_self (A : Nat → Nat → Int) (k : Nat) (v : Nat → Int) : (fun l => put A k v (skip k l)) = fun l => A (skip k l) := by
  funext l
  exact put_ne (skip_ne k l)
theorem put_skip_lt (A : Nat → Nat → Int) {j k : Nat} (h : k < j) (v : Nat → Int) : (fun l => put A k v (skip j l)) = put (fun l => A (skip j l)) k v := by
  funext l
  unfold put
  by_cases e : l = k
  · subst e
    rw [if_pos rfl, skip_lt h, if_pos rfl]
  · rw [if_neg e, if_neg]
    unfold skip
    split <;> omega
theorem put_skip_gt (A : Nat → Nat → Int) {j k : Nat} (h : j ≤ k) (v : Nat → Int) : (fun l => put A (k + 1) v (skip j l)) = put (fun l => A (skip j l)) k v := by
  funext l
  unfold put
  by_cases e : l = k
  · subst e
    rw [if_pos rfl, skip_ge h, if_pos rfl]
  · rw [if_neg e, if_neg]
    unfold skip
    split <;> omega
/-- linear in each column -/
theorem det_lin : ∀ {m r : Nat} (A : Nat → Nat → Int) {k : Nat} (hk : k < m) (a : Int) (u v : Nat → Int),
    det m r (put A k (fun c => a * u c + v c)) = a * det m r (put A k u) + det m r (put A k v)
  | 0, _, _, _, hk, _, _, _ => absurd hk (Nat.not_lt_zero _)
  | m + 1, r, A, k, hk, a, u, v => by
    rw [det_succ, det_succ, det_succ, ← sumN_mul, ← sumN_add]
    refine sumN_congr fun j hj => ?_
    by_cases e : j = k
    · subst e
      rw [put_skip_self, put_skip_self, put_skip_self, put_same, put_same, put_same]
      generalize det m (r + 1) (fun l => A (skip j l)) = D
      generalize sgn j = S
      grind
    · rw [put_ne e, put_ne e, put_ne e]
      have key : det m (r + 1) (fun l => put A k (fun c => a * u c + v c) (skip j l)) = a * det m (r + 1) (fun l => put A k u (skip j l)) + det m (r + 1) (fun l => put A k v (skip j l)) := by
        by_cases h : k < j
        · rw [put_skip_lt A h, put_skip_lt A h, put_skip_lt A h]
          exact det_lin _ (by omega) a u v
        · obtain ⟨k', rfl⟩ : ∃ k', k = k' + 1 := ⟨k - 1, by omega⟩
          rw [put_skip_gt A (by omega), put_skip_gt A (by omega), put_skip_gt A (by omega)]
          exact det_lin _ (by omega) a u v
      rw [key]
      generalize det m (r + 1) (fun l => put A k u (skip j l)) = D1
      generalize det m (r + 1) (fun l => put A k v (skip j l)) = D2
      generalize sgn j = S
      generalize A j r = x
      grind
theorem det_zero {m r : Nat} (A : Nat → Nat → Int) {k : Nat} (hk : k < m) : det m r (put A k (fun _ => 0)) = 0 := by
  have e := det_lin (r := r) A hk 1 (fun _ => 0) (fun _ => 0)
  have e2 : (fun _ : Nat => (1 : Int) * 0 + 0) = fun _ => 0 := rfl
  rw [e2] at e
  omega
theorem det_smul {m r : Nat} (A : Nat → Nat → Int) {k : Nat} (hk : k < m) (a : Int) (u : Nat → Int) : det m r (put A k (fun c => a * u c)) = a * det m r (put A k u) := by
  have e := det_lin (r := r) A hk a u (fun _ => 0)
  rw [det_zero A hk] at e
  have e2 : (fun c : Nat => a * u c + 0) = fun c => a * u c := by
    funext c
    omega
  rw [e2] at e
  omega
theorem det_add {m r : Nat} (A : Nat → Nat → Int) {k : Nat} (hk : k < m) (u v : Nat → Int) : det m r (put A k (fun c => u c + v c)) = det m r (put A k u) + det m r (put A k v) := by
  have e := det_lin (r := r) A hk 1 u v
  have e2 : (fun c : Nat => 1 * u c + v c) = fun c => u c + v c := by
    funext c
    omega
  rw [e2] at e
  omega
theorem det_sum {m r : Nat} (A : Nat → Nat → Int) {k : Nat} (hk : k < m) : ∀ (n : Nat) (a : Nat → Int) (V : Nat → Nat → Int),
    det m r (put A k (fun c => sumN n fun l => a l * V l c)) = sumN n fun l => a l * det m r (put A k (V l))
  | 0, _, _ => det_zero A hk
  | n + 1, a, V => by
    show det m r (put A k (fun c => (sumN n fun l => a l * V l c) + a n * V n c)) = (sumN n fun l => a l * det m r (put A k (V l))) + a n * det m r (put A k (V n))
    rw [det_add A hk (fun c => sumN n fun l => a l * V l c) (fun c => a n * V n c), det_sum A hk n a V, det_smul A hk]
/-- two neighbours agree -/
theorem det_adj : ∀ {m r : Nat} {A : Nat → Nat → Int} {k : Nat}, k + 1 < m → A k = A (k + 1) → det m r A = 0
  | 0, _, _, _, h, _ => absurd h (Nat.not_lt_zero _)
  | m + 1, r, A, k, h, e => by
    have hs : (fun l => A (skip k l)) = fun l => A (skip (k + 1) l) := by
      funext l
      by_cases h1 : l < k
      · rw [skip_lt h1, skip_lt (by omega)]
      · by_cases h2 : l = k
        · subst h2
          rw [skip_ge (Nat.le_refl _), skip_lt (by omega)]
          exact e.symm
        · rw [skip_ge (by omega), skip_ge (by omega)]
    rw [det_succ, sumN_two (k := k) (l := k + 1) (by omega) (by omega) (by omega)]
    · rw [hs, sgn_succ, e]
      generalize det m (r + 1) (fun l => A (skip (k + 1) l)) = D
      generalize sgn k = S
      generalize A (k + 1) r = x
      grind
    · intro i hi h1 h2
      have z : det m (r + 1) (fun l => A (skip i l)) = 0 := by
        by_cases h3 : k + 1 < i
        · refine det_adj (k := k) (by omega) ?_
          show A (skip i k) = A (skip i (k + 1))
          rw [skip_lt (by omega), skip_lt h3]
          exact e
        · obtain ⟨k', rfl⟩ : ∃ k', k = k' + 1 := ⟨k - 1, by omega⟩
          refine det_adj (k := k') (by omega) ?_
          show A (skip i k') = A (skip i (k' + 1))
          rw [skip_ge (by omega), skip_ge (by omega)]
          exact e
      rw [z]
      omega
/-- what swaps two columns, from what kills two that agree -/
theorem swap_of {m r : Nat} {A : Nat → Nat → Int} {i j : Nat} (hi : i < m) (hj : j < m) (hij : i ≠ j) (z : ∀ w : Nat → Int, det m r (put (put A i w) j w) = 0) (u v : Nat → Int) :
    det m r (put (put A i u) j v) = - det m r (put (put A i v) j u) := by
  have e := z (fun c => u c + v c)
  rw [det_add _ hj, put_comm A hij, put_comm A hij, det_add _ hi, det_add _ hi, put_comm A (Ne.symm hij), put_comm A (Ne.symm hij), put_comm A (Ne.symm hij), put_comm A (Ne.symm hij), z u, z v] at e
  omega
theorem det_swap_adj {m r : Nat} (A : Nat → Nat → Int) {k : Nat} (h : k + 1 < m) (u v : Nat → Int) : det m r (put (put A k u) (k + 1) v) = - det m r (put (put A k v) (k + 1) u) :=
  swap_of (by omega) h (by omega) (fun w => det_adj h (by rw [put_ne (by omega), put_same, put_same])) u v
theorem det_same_d : ∀ (d : Nat) {m r : Nat} {A : Nat → Nat → Int} {i : Nat}, i + d + 1 < m → A i = A (i + d + 1) → det m r A = 0
  | 0, _, _, _, _, h, e => det_adj h e
  | d + 1, m, r, A, i, h, e => by
    have hA : put (put A (i + d + 1) (A (i + d + 1))) (i + d + 1 + 1) (A (i + d + 1 + 1)) = A := by
      rw [put_self, put_self]
    have q := det_swap_adj (r := r) A (k := i + d + 1) (by omega) (A (i + d + 1)) (A (i + d + 1 + 1))
    rw [hA] at q
    rw [q, det_same_d d (i := i) (by omega)]
    · rfl
    · rw [put_ne (by omega), put_ne (by omega), put_ne (by omega), put_same]
      exact e
/-- two columns agree -/
theorem det_same {m r : Nat} {A : Nat → Nat → Int} {i j : Nat} (hi : i < m) (hj : j < m) (hij : i ≠ j) (e : A i = A j) : det m r A = 0 := by
  by_cases h : i < j
  · obtain ⟨d, rfl⟩ : ∃ d, j = i + d + 1 := ⟨j - i - 1, by omega⟩
    exact det_same_d d hj e
  · obtain ⟨d, rfl⟩ : ∃ d, i = j + d + 1 := ⟨i - j - 1, by omega⟩
    exact det_same_d d hi e.symm
theorem det_swap {m r : Nat} (A : Nat → Nat → Int) {i j : Nat} (hi : i < m) (hj : j < m) (hij : i ≠ j) (u v : Nat → Int) : det m r (put (put A i u) j v) = - det m r (put (put A i v) j u) :=
  swap_of hi hj hij (fun w => det_same hi hj hij (by rw [put_ne hij, put_same, put_same])) u v
/-- the unit vectors -/
def unit (k : Nat) : Nat → Int := fun c => if c = k then 1 else 0
theorem det_unit : ∀ (m r : Nat), det m r (fun k => unit (r + k)) = 1
  | 0, _ => rfl
  | m + 1, r => by
    rw [det_succ, sumN_one (k := 0) (by omega)]
    · have e : (fun k => unit (r + skip 0 k)) = fun k => unit (r + 1 + k) := by
        funext k
        rw [skip_ge (Nat.zero_le k), show r + (k + 1) = r + 1 + k by omega]
      rw [show (fun k => unit (r + skip 0 k)) = fun k => unit (r + 1 + k) from e, det_unit m (r + 1)]
      show sgn 0 * unit (r + 0) r * 1 = 1
      unfold unit sgn
      rw [if_pos (by omega), if_pos (by omega)]
      rfl
    · intro i hi h0
      show sgn i * unit (r + i) r * _ = 0
      unfold unit
      rw [if_neg (by omega), Int.mul_zero, Int.zero_mul]
theorem vec_sum {m : Nat} (v : Nat → Int) {c : Nat} (h : c < m) : (sumN m fun l => v l * unit l c) = v c := by
  rw [sumN_one (k := c) h]
  · unfold unit
    rw [if_pos rfl, Int.mul_one]
  · intro i _ hi
    unfold unit
    rw [if_neg (fun q => hi q.symm), Int.mul_zero]
theorem det_units {m : Nat} (A : Nat → Nat → Int) {k : Nat} (hk : k < m) (v : Nat → Int) : det m 0 (put A k v) = sumN m fun l => v l * det m 0 (put A k (unit l)) := by
  rw [← det_sum A hk m v unit]
  refine det_congr fun j c hj _ hc => ?_
  by_cases e : j = k
  · subst e
    rw [put_same, put_same, vec_sum v (by omega)]
  · rw [put_ne e, put_ne e]

/-! ### how great -/
theorem sumN_abs : ∀ {n : Nat} {f : Nat → Int} {b : Nat}, (∀ i, i < n → (f i).natAbs ≤ b) → (sumN n f).natAbs ≤ n * b
  | 0, _, _, _ => Nat.zero_le _
  | n + 1, f, b, h => by
    have a := sumN_abs (n := n) (f := f) (b := b) fun i hi => h i (Nat.lt_succ_of_lt hi)
    have c := h n (Nat.lt_succ_self n)
    have d := Int.natAbs_add_le (sumN n f) (f n)
    show (sumN n f + f n).natAbs ≤ (n + 1) * b
    rw [Nat.succ_mul]
    omega
theorem sgn_abs (j : Nat) : (sgn j).natAbs = 1 := by
  unfold sgn
  split <;> rfl
theorem det_abs (g b : Nat) : ∀ {m r : Nat} {A : Nat → Nat → Int}, m ≤ g → (∀ k c, k < m → r ≤ c → c < r + m → (A k c).natAbs ≤ b) → (det m r A).natAbs ≤ (g * b) ^ m
  | 0, _, _, _, _ => Nat.le_refl _
  | m + 1, r, A, hg, h => by
    have hm : (det (m + 1) r A).natAbs ≤ (m + 1) * (b * (g * b) ^ m) := by
      rw [det_succ]
      refine sumN_abs fun j hj => ?_
      rw [Int.natAbs_mul, Int.natAbs_mul, sgn_abs, Nat.one_mul]
      exact Nat.mul_le_mul (h j r hj (Nat.le_refl _) (by omega)) (det_abs g b (by omega) fun k c hk h1 h2 => h (skip j k) c (skip_bound hk) (by omega) (by omega))
    refine Nat.le_trans hm ?_
    rw [Nat.pow_succ, ← Nat.mul_assoc, Nat.mul_comm ((g * b) ^ m)]
    exact Nat.mul_le_mul (Nat.mul_le_mul hg (Nat.le_refl _)) (Nat.le_refl _)

/-! ### Cramer's rule, kept by a pivot -/
def Cram (m : Nat) (B : Nat → Nat → Int) : Prop := ∀ (v : Nat → Int) (c : Nat), c < m → det m 0 B * v c = sumN m fun k => det m 0 (put B k v) * B k c
theorem put_unit {m : Nat} {k : Nat} (hk : k < m) (v : Nat → Int) : det m 0 (put (fun l => unit l) k v) = v k := by
  have u1 : det m 0 (fun l => unit l) = 1 := by
    have e := det_unit m 0
    rw [show (fun k => unit (0 + k)) = fun l => unit l by
      funext k
      rw [Nat.zero_add]] at e
    exact e
  rw [det_units _ hk, sumN_one (k := k) hk]
  · rw [show put (fun l => unit l) k (unit k) = fun l => unit l from put_self (fun l => unit l) k, u1, Int.mul_one]
  · intro i hi hik
    rw [det_same (i := k) (j := i) hk hi (Ne.symm hik), Int.mul_zero]
    rw [put_same, put_ne hik]
theorem cram_unit (m : Nat) : Cram m (fun l => unit l) := by
  intro v c hc
  have u1 : det m 0 (fun l => unit l) = 1 := by
    have e := det_unit m 0
    rw [show (fun k => unit (0 + k)) = fun l => unit l by
      funext k
      rw [Nat.zero_add]] at e
    exact e
  rw [u1, Int.one_mul, ← vec_sum v hc]
  exact sumN_congr fun k hk => by rw [put_unit hk]
theorem pivot_row {m : Nat} {B : Nat → Nat → Int} {r : Nat} (a v : Nat → Int) : det m 0 (put (put B r a) r v) = det m 0 (put B r v) := by rw [put_put]
/-- the pivot's identity -/
theorem pivot_det {m : Nat} {B : Nat → Nat → Int} (C : Cram m B) {r i : Nat} (hr : r < m) (hi : i < m) (hir : i ≠ r) (a v : Nat → Int) :
    det m 0 B * det m 0 (put (put B r a) i v) = det m 0 (put B r a) * det m 0 (put B i v) - det m 0 (put B i a) * det m 0 (put B r v) := by
  have e1 : det m 0 B * det m 0 (put (put B r a) i v) = det m 0 (put (put B r a) i (fun c => det m 0 B * v c)) := (det_smul _ hi _ _).symm
  have e2 : det m 0 (put (put B r a) i (fun c => det m 0 B * v c)) = det m 0 (put (put B r a) i (fun c => sumN m fun k => det m 0 (put B k v) * B k c)) := by
    refine det_congr fun j c hj _ hc => ?_
    by_cases e : j = i
    · subst e
      rw [put_same, put_same]
      exact C v c (by omega)
    · rw [put_ne e, put_ne e]
  rw [e1, e2, det_sum _ hi m (fun k => det m 0 (put B k v)) B, sumN_two (k := i) (l := r) hi hr hir]
  · have f1 : put (put B r a) i (B i) = put B r a := by
      have q := put_self (put B r a) i
      rw [put_ne hir] at q
      exact q
    have f2 : det m 0 (put (put B r a) i (B r)) = - det m 0 (put B i a) := by
      rw [det_swap B hr hi (Ne.symm hir), put_self]
    rw [f1, f2]
    generalize det m 0 (put B i v) = x
    generalize det m 0 (put B r a) = y
    generalize det m 0 (put B r v) = z
    generalize det m 0 (put B i a) = t
    grind
  · intro k hk h1 h2
    have z : det m 0 (put (put B r a) i (B k)) = 0 := det_same (i := k) (j := i) hk hi h1 (by rw [put_same, put_ne h1, put_ne h2])
    rw [z, Int.mul_zero]
theorem cram_pivot {m : Nat} {B : Nat → Nat → Int} (C : Cram m B) (hd : det m 0 B ≠ 0) {r : Nat} (hr : r < m) (a : Nat → Int) : Cram m (put B r a) := by
  intro v c hc
  refine Int.eq_of_mul_eq_mul_left hd ?_
  have ca := C a c hc
  have cv := C v c hc
  -- the sum of the new one, by the old one's
  have e : det m 0 B * (sumN m fun k => det m 0 (put (put B r a) k v) * put B r a k c)
      = sumN m (fun k => (det m 0 (put B r a) * (det m 0 (put B k v) * B k c) - det m 0 (put B r v) * (det m 0 (put B k a) * B k c)) + (if k = r then det m 0 B * (det m 0 (put B r v) * a c) else 0)) := by
    rw [← sumN_mul]
    refine sumN_congr fun k hk => ?_
    by_cases e : k = r
    · subst e
      rw [put_put, put_same, if_pos rfl]
      generalize det m 0 (put B k v) = x
      generalize det m 0 (put B k a) = y
      generalize det m 0 B = d
      generalize B k c = b
      generalize a c = z
      grind
    · rw [if_neg e, put_ne e]
      have p := pivot_det C hr hk e a v
      rw [← Int.mul_assoc, p]
      generalize det m 0 (put B k v) = x
      generalize det m 0 (put B r a) = y
      generalize det m 0 (put B k a) = t
      generalize det m 0 (put B r v) = z
      generalize B k c = b
      grind
  rw [e, sumN_add, sumN_sub, sumN_mul, sumN_mul, ← ca, ← cv, sumN_one (k := r) hr (fun i _ h => if_neg h), if_pos rfl]
  generalize det m 0 (put B r a) = y
  generalize det m 0 (put B r v) = z
  generalize det m 0 B = d
  generalize a c = s
  generalize v c = t
  grind
end Frd
set_option maxHeartbeats 4000000
set_option linter.all false
/-! The simplex tableau is a table of determinants; a pivot divides without rest; Bland's rule comes to an end; the end is the greatest value, with prices that show it. -/
namespace Frd
/-- h rows a c <= b c, w numbers, the goal g -/
structure Lp where
  h : Nat
  w : Nat
  a : Nat → Nat → Int
  b : Nat → Int
  g : Nat → Int
namespace Lp
abbrev n (L : Lp) : Nat := L.w + L.h
/-- the column j: of the table, of the slacks, of the limits (j = n) -/
def M (L : Lp) (j : Nat) : Nat → Int := fun c =>
  if j < L.w then (if c < L.h then L.a c j else if c = L.h then - L.g j else 0)
  else if j < L.w + L.h then unit (j - L.w) c
  else if c < L.h then L.b c else 0
def Bc (L : Lp) (bs : Nat → Nat) : Nat → Nat → Int := fun k => if k < L.h then L.M (bs k) else unit L.h
def D (L : Lp) (bs : Nat → Nat) : Int := det (L.h + 1) 0 (L.Bc bs)
/-- the tableau: row k, column j -/
def T (L : Lp) (bs : Nat → Nat) (k j : Nat) : Int := det (L.h + 1) 0 (put (L.Bc bs) k (L.M j))
structure Good (L : Lp) (bs : Nat → Nat) : Prop where
  pos : 0 < L.D bs
  cram : Cram (L.h + 1) (L.Bc bs)
  rng : ∀ k, k < L.h → bs k < L.n
  feas : ∀ k, k < L.h → 0 ≤ L.T bs k L.n
variable {L : Lp} {bs : Nat → Nat}
theorem M_slack {c : Nat} (hc : c < L.h) : L.M (L.w + c) = unit c := by
  funext i
  unfold M
  rw [if_neg (by omega), if_pos (by omega), show L.w + c - L.w = c by omega]
theorem M_lim {c : Nat} (hc : c < L.h) : L.M L.n c = L.b c := by
  unfold M n
  rw [if_neg (by omega), if_neg (by omega), if_pos hc]
theorem M_limh : L.M L.n L.h = 0 := by
  unfold M n
  rw [if_neg (by omega), if_neg (by omega), if_neg (by omega)]
theorem M_a {c j : Nat} (hj : j < L.w) (hc : c < L.h) : L.M j c = L.a c j := by
  unfold M
  rw [if_pos hj, if_pos hc]
theorem M_g {j : Nat} (hj : j < L.w) : L.M j L.h = - L.g j := by
  unfold M
  rw [if_pos hj, if_neg (by omega), if_pos rfl]
theorem M_slackh {j : Nat} (h1 : L.w ≤ j) (h2 : j < L.n) : L.M j L.h = 0 := by
  unfold M unit
  unfold n at h2
  rw [if_neg (by omega), if_pos h2, if_neg (by omega)]
def bs0 (L : Lp) : Nat → Nat := fun k => L.w + k
theorem Bc0 {k : Nat} (hk : k < L.h + 1) : L.Bc L.bs0 k = unit k := by
  unfold Bc bs0
  by_cases h : k < L.h
  · rw [if_pos h, M_slack h]
  · rw [if_neg h, show L.h = k by omega]
theorem det_Bc0 : L.D L.bs0 = 1 := by
  have e : L.D L.bs0 = det (L.h + 1) 0 (fun l => unit (0 + l)) := det_congr fun k c hk _ _ => by rw [Bc0 hk, Nat.zero_add]
  rw [e, det_unit]
theorem T0 {k : Nat} (hk : k < L.h + 1) (j : Nat) : L.T L.bs0 k j = L.M j k := by
  have e : L.T L.bs0 k j = det (L.h + 1) 0 (put (fun l => unit l) k (L.M j)) := det_congr fun l c hl _ _ => by
    by_cases q : l = k
    · subst q
      rw [put_same, put_same]
    · rw [put_ne q, put_ne q, Bc0 hl]
  rw [e, put_unit hk]
theorem cram_congr {m : Nat} {A B : Nat → Nat → Int} (h : ∀ k, k < m → A k = B k) (C : Cram m A) : Cram m B := by
  have hd : ∀ k v, det m 0 (put B k v) = det m 0 (put A k v) := fun k v => det_congr fun l c hl _ _ => by
    by_cases q : l = k
    · subst q
      rw [put_same, put_same]
    · rw [put_ne q, put_ne q, h l hl]
  intro v c hc
  rw [show det m 0 B = det m 0 A from det_congr fun l c hl _ _ => by rw [h l hl], C v c hc]
  exact sumN_congr fun k hk => by rw [hd, h k hk]
theorem good0 (hb : ∀ c, c < L.h → 0 ≤ L.b c) : L.Good L.bs0 where
  pos := by rw [det_Bc0]; omega
  cram := cram_congr (fun k hk => (Bc0 hk).symm) (cram_unit _)
  rng := fun k hk => by unfold bs0 n; omega
  feas := fun k hk => by rw [T0 (by omega), M_lim hk]; exact hb k hk
theorem Bc_put {r s : Nat} (hr : r < L.h) : L.Bc (put bs r s) = put (L.Bc bs) r (L.M s) := by
  funext x
  unfold Bc
  by_cases e : x = r
  · subst e
    rw [put_same, put_same, if_pos hr]
  · rw [put_ne e, put_ne e]
theorem D_put {r s : Nat} (hr : r < L.h) : L.D (put bs r s) = L.T bs r s := by
  unfold D T
  rw [Bc_put hr]
theorem T_put_same {r s : Nat} (hr : r < L.h) (j : Nat) : L.T (put bs r s) r j = L.T bs r j := by
  unfold T
  rw [Bc_put hr, put_put]
theorem T_put {r s i : Nat} (G : L.Good bs) (hr : r < L.h) (hi : i < L.h + 1) (hir : i ≠ r) (j : Nat) :
    L.D bs * L.T (put bs r s) i j = L.T bs r s * L.T bs i j - L.T bs i s * L.T bs r j := by
  unfold T
  rw [Bc_put hr]
  exact pivot_det G.cram (by omega) hi hir (L.M s) (L.M j)
/-- the pivot divides without rest -/
theorem T_div {r s i : Nat} (G : L.Good bs) (hr : r < L.h) (hi : i < L.h + 1) (hir : i ≠ r) (j : Nat) :
    (L.T bs i j * L.T bs r s - L.T bs i s * L.T bs r j) / L.D bs = L.T (put bs r s) i j := by
  have e := T_put (s := s) G hr hi hir j
  rw [Int.mul_comm (L.T bs i j), ← e]
  exact Int.mul_ediv_cancel_left _ (by have := G.pos; omega)
/-- a basic column -/
theorem T_basic {k i : Nat} (hk : k < L.h) (hi : i < L.h + 1) (hik : i ≠ k) : L.T bs i (bs k) = 0 := by
  unfold T
  refine det_same (i := i) (j := k) hi (by omega) hik ?_
  rw [put_same, put_ne (Ne.symm hik)]
  unfold Bc
  rw [if_pos hk]
theorem T_own {k : Nat} (hk : k < L.h) : L.T bs k (bs k) = L.D bs := by
  unfold T D
  have e : put (L.Bc bs) k (L.M (bs k)) = L.Bc bs := by
    have q := put_self (L.Bc bs) k
    rw [show L.Bc bs k = L.M (bs k) from if_pos hk] at q
    exact q
  rw [e]
theorem Good.inj (G : L.Good bs) {k l : Nat} (hk : k < L.h) (hl : l < L.h) (e : bs k = bs l) : k = l := by
  by_cases q : k = l
  · exact q
  · have z : L.D bs = 0 := det_same (i := k) (j := l) (by omega) (by omega) q (by unfold Bc; rw [if_pos hk, if_pos hl, e])
    have := G.pos
    omega
/-- the goal's row by the prices: it is what the rows give, each as often as its slack's place says -/
theorem row_h (v : Nat → Int) : det (L.h + 1) 0 (put (L.Bc bs) L.h v) = sumN L.h (fun c => v c * L.T bs L.h (L.w + c)) + v L.h * L.D bs := by
  rw [det_units _ (by omega) v]
  show sumN L.h (fun l => v l * det (L.h + 1) 0 (put (L.Bc bs) L.h (unit l))) + v L.h * det (L.h + 1) 0 (put (L.Bc bs) L.h (unit L.h)) = _
  have e1 : put (L.Bc bs) L.h (unit L.h) = L.Bc bs := by
    have q := put_self (L.Bc bs) L.h
    rw [show L.Bc bs L.h = unit L.h from if_neg (by omega)] at q
    exact q
  rw [e1]
  have e2 : sumN L.h (fun l => v l * det (L.h + 1) 0 (put (L.Bc bs) L.h (unit l))) = sumN L.h (fun c => v c * L.T bs L.h (L.w + c)) := sumN_congr fun c hc => by
    unfold T
    rw [M_slack hc]
  rw [e2]
  rfl
/-! ### Bland's rule -/
structure Step (L : Lp) (bs : Nat → Nat) (s r : Nat) : Prop where
  s_lt : s < L.n
  neg : L.T bs L.h s < 0
  first : ∀ j, j < s → 0 ≤ L.T bs L.h j
  r_lt : r < L.h
  pos : 0 < L.T bs r s
  least : ∀ k, k < L.h → 0 < L.T bs k s → L.T bs r L.n * L.T bs k s < L.T bs k L.n * L.T bs r s ∨ (L.T bs r L.n * L.T bs k s = L.T bs k L.n * L.T bs r s ∧ bs r ≤ bs k)
theorem Step.good {s r : Nat} (G : L.Good bs) (S : L.Step bs s r) : L.Good (put bs r s) where
  pos := by rw [D_put S.r_lt]; exact S.pos
  cram := by
    rw [Bc_put S.r_lt]
    exact cram_pivot G.cram (by have := G.pos; unfold D at this; omega) (by have := S.r_lt; omega) _
  rng := fun k hk => by
    by_cases e : k = r
    · subst e
      rw [put_same]
      exact S.s_lt
    · rw [put_ne e]
      exact G.rng k hk
  feas := fun k hk => by
    by_cases e : k = r
    · subst e
      rw [T_put_same S.r_lt]
      exact G.feas k hk
    · have p := T_put (s := s) G S.r_lt (i := k) (by omega) e L.n
      have f1 := G.feas k hk
      have f2 := G.feas r S.r_lt
      have hd := G.pos
      have hp := S.pos
      refine Int.le_of_mul_le_mul_left (a := L.D bs) ?_ hd
      rw [p, Int.mul_zero]
      by_cases q : 0 < L.T bs k s
      · rcases S.least k hk q with z | ⟨z, _⟩
        · have := Int.mul_comm (L.T bs r L.n) (L.T bs k s)
          have := Int.mul_comm (L.T bs k L.n) (L.T bs r s)
          omega
        · have := Int.mul_comm (L.T bs r L.n) (L.T bs k s)
          have := Int.mul_comm (L.T bs k L.n) (L.T bs r s)
          omega
      · have z1 := Int.mul_nonneg (Int.le_of_lt hp) f1
        have z2 := Int.mul_nonneg (a := - L.T bs k s) (b := L.T bs r L.n) (by omega) f2
        rw [Int.neg_mul] at z2
        omega
/-- a basic column does not enter -/
theorem Step.new {s r : Nat} (S : L.Step bs s r) {k : Nat} (hk : k < L.h) : bs k ≠ s := fun e => by
  have z := T_basic (L := L) (bs := bs) (k := k) (i := L.h) hk (by omega) (by omega)
  rw [e] at z
  have := S.neg
  omega
inductive Chain (L : Lp) (b0 : Nat → Nat) : Nat → (Nat → Nat) → Prop
  | zero : Chain L b0 0 b0
  | succ {k : Nat} {b : Nat → Nat} {s r : Nat} : Chain L b0 k b → L.Step b s r → Chain L b0 (k + 1) (put b r s)
theorem Chain.good {b0 b : Nat → Nat} {k : Nat} (C : Chain L b0 k b) (G : L.Good b0) : L.Good b := by
  induction C with
  | zero => exact G
  | succ _ S ih => exact S.good ih
structure Seq (L : Lp) (f : Nat → Nat → Nat) (S R : Nat → Nat) (k : Nat) : Prop where
  step : ∀ i, i < k → L.Step (f i) (S i) (R i)
  next : ∀ i, i < k → f (i + 1) = put (f i) (R i) (S i)
theorem Chain.seq {b0 b : Nat → Nat} {k : Nat} (C : Chain L b0 k b) : ∃ f S R, f 0 = b0 ∧ f k = b ∧ Seq L f S R k := by
  induction C with
  | zero => exact ⟨fun _ => b0, fun _ => 0, fun _ => 0, rfl, rfl, fun i hi => absurd hi (Nat.not_lt_zero _), fun i hi => absurd hi (Nat.not_lt_zero _)⟩
  | @succ k b s r C St ih =>
    obtain ⟨f, S, R, e0, ek, Q⟩ := ih
    refine ⟨put f (k + 1) (put b r s), put S k s, put R k r, ?_, put_same, ⟨fun i hi => ?_, fun i hi => ?_⟩⟩
    · rw [put_ne (by omega)]
      exact e0
    · by_cases e : i = k
      · subst e
        rw [put_ne (by omega), put_same, put_same, ek]
        exact St
      · rw [put_ne (by omega), put_ne e, put_ne e]
        exact Q.step i (by omega)
    · by_cases e : i = k
      · subst e
        rw [put_same, put_ne (by omega), put_same, put_same, ek]
      · rw [put_ne (by omega), put_ne (by omega), put_ne e, put_ne e]
        exact Q.next i (by omega)
theorem ratio_le {x1 d1 x2 d2 x3 d3 : Int} (h1 : 0 < d1) (h2 : 0 < d2) (h3 : 0 < d3) (a : x1 * d2 ≤ x2 * d1) (b : x2 * d3 ≤ x3 * d2) : x1 * d3 ≤ x3 * d1 := by
  refine Int.le_of_mul_le_mul_left (a := d2) ?_ h2
  have p := Int.mul_le_mul_of_nonneg_right a (Int.le_of_lt h3)
  have q := Int.mul_le_mul_of_nonneg_right b (Int.le_of_lt h1)
  have e1 : d2 * (x1 * d3) = x1 * d2 * d3 := by grind
  have e2 : d2 * (x3 * d1) = x3 * d2 * d1 := by grind
  have e3 : x2 * d1 * d3 = x2 * d3 * d1 := by grind
  omega
theorem ratio_lt {x1 d1 x2 d2 x3 d3 : Int} (h1 : 0 < d1) (h2 : 0 < d2) (h3 : 0 < d3) (a : x1 * d2 < x2 * d1) (b : x2 * d3 ≤ x3 * d2) : x1 * d3 < x3 * d1 := by
  refine Int.lt_of_mul_lt_mul_left (a := d2) ?_ (Int.le_of_lt h2)
  have p := Int.mul_lt_mul_of_pos_right a h3
  have q := Int.mul_le_mul_of_nonneg_right b (Int.le_of_lt h1)
  have e1 : d2 * (x1 * d3) = x1 * d2 * d3 := by grind
  have e2 : d2 * (x3 * d1) = x3 * d2 * d1 := by grind
  have e3 : x2 * d1 * d3 = x2 * d3 * d1 := by grind
  omega
theorem ratio_lt' {x1 d1 x2 d2 x3 d3 : Int} (h1 : 0 < d1) (h2 : 0 < d2) (h3 : 0 < d3) (a : x1 * d2 ≤ x2 * d1) (b : x2 * d3 < x3 * d2) : x1 * d3 < x3 * d1 := by
  refine Int.lt_of_mul_lt_mul_left (a := d2) ?_ (Int.le_of_lt h2)
  have p := Int.mul_le_mul_of_nonneg_right a (Int.le_of_lt h3)
  have q := Int.mul_lt_mul_of_pos_right b h1
  have e1 : d2 * (x1 * d3) = x1 * d2 * d3 := by grind
  have e2 : d2 * (x3 * d1) = x3 * d2 * d1 := by grind
  have e3 : x2 * d1 * d3 = x2 * d3 * d1 := by grind
  omega
theorem ratio_eq {x1 d1 x2 d2 x3 d3 : Int} (h1 : 0 < d1) (h2 : 0 < d2) (h3 : 0 < d3) (a : x1 * d2 = x2 * d1) (b : x2 * d3 = x3 * d2) : x1 * d3 = x3 * d1 := by
  have p := ratio_le h1 h2 h3 (Int.le_of_eq a) (Int.le_of_eq b)
  have q := ratio_le h3 h2 h1 (Int.le_of_eq b.symm) (Int.le_of_eq a.symm)
  omega
/-- what the two rows say of one another: the goal's row of one basis along a column of another -/
theorem two_rows {b1 b2 : Nat → Nat} (G2 : L.Good b2) (s : Nat) :
    L.D b2 * L.T b1 L.h s = sumN L.h (fun k => L.T b2 k s * L.T b1 L.h (b2 k)) + L.T b2 L.h s * L.D b1 := by
  have e1 : L.D b2 * L.T b1 L.h s = det (L.h + 1) 0 (put (L.Bc b1) L.h (fun c => sumN (L.h + 1) fun k => L.T b2 k s * L.Bc b2 k c)) := by
    unfold T
    rw [← det_smul _ (by omega)]
    refine det_congr fun j c hj _ hc => ?_
    by_cases e : j = L.h
    · subst e
      rw [put_same, put_same]
      exact G2.cram (L.M s) c (by omega)
    · rw [put_ne e, put_ne e]
  rw [e1, det_sum _ (by omega)]
  show sumN L.h (fun k => L.T b2 k s * det (L.h + 1) 0 (put (L.Bc b1) L.h (L.Bc b2 k))) + L.T b2 L.h s * det (L.h + 1) 0 (put (L.Bc b1) L.h (L.Bc b2 L.h)) = _
  have e2 : put (L.Bc b1) L.h (L.Bc b2 L.h) = L.Bc b1 := by
    have q := put_self (L.Bc b1) L.h
    rw [show L.Bc b1 L.h = unit L.h from if_neg (by omega)] at q
    rw [show L.Bc b2 L.h = unit L.h from if_neg (by omega)]
    exact q
  have e3 : sumN L.h (fun k => L.T b2 k s * det (L.h + 1) 0 (put (L.Bc b1) L.h (L.Bc b2 k))) = sumN L.h (fun k => L.T b2 k s * L.T b1 L.h (b2 k)) := sumN_congr fun k hk => by
    rw [show L.Bc b2 k = L.M (b2 k) from if_pos hk]
    rfl
  rw [e2, e3]
  rfl
/-! a way of steps that comes back to the same basis -/
def In (L : Lp) (b : Nat → Nat) (v : Nat) : Prop := ∃ k, k < L.h ∧ b k = v
section
variable {f : Nat → Nat → Nat} {S R : Nat → Nat} {m : Nat}
theorem Seq.good (Q : Seq L f S R m) (G : L.Good (f 0)) : ∀ i, i ≤ m → L.Good (f i)
  | 0, _ => G
  | i + 1, hi => by
    rw [Q.next i (by omega)]
    exact (Q.step i (by omega)).good (Q.good G i (by omega))
/-- what enters on the way from p to q -/
theorem Seq.enters (Q : Seq L f S R m) {v : Nat} : ∀ (d p : Nat), p + d ≤ m → ¬ L.In (f p) v → L.In (f (p + d)) v → ∃ i, p ≤ i ∧ i < p + d ∧ S i = v
  | 0, p, _, h0, h1 => absurd h1 h0
  | d + 1, p, hm, h0, h1 => by
    by_cases h : L.In (f (p + d)) v
    · obtain ⟨i, a, b, c⟩ := Q.enters d p (by omega) h0 h
      exact ⟨i, a, by omega, c⟩
    · refine ⟨p + d, by omega, by omega, ?_⟩
      obtain ⟨k, hk, e⟩ := h1
      rw [show p + (d + 1) = p + d + 1 from rfl, Q.next (p + d) (by omega)] at e
      by_cases q : k = R (p + d)
      · rw [q, put_same] at e
        exact e
      · rw [put_ne q] at e
        exact absurd ⟨k, hk, e⟩ h
/-- what leaves -/
theorem Seq.leaves (Q : Seq L f S R m) {v : Nat} : ∀ (d p : Nat), p + d ≤ m → L.In (f p) v → ¬ L.In (f (p + d)) v → ∃ i, p ≤ i ∧ i < p + d ∧ f i (R i) = v
  | 0, p, _, h0, h1 => absurd h0 h1
  | d + 1, p, hm, h0, h1 => by
    by_cases h : L.In (f (p + d)) v
    · refine ⟨p + d, by omega, by omega, ?_⟩
      obtain ⟨k, hk, e⟩ := h
      by_cases q : k = R (p + d)
      · rw [← q]
        exact e
      · refine absurd ⟨k, hk, ?_⟩ h1
        rw [show p + (d + 1) = p + d + 1 from rfl, Q.next (p + d) (by omega), put_ne q]
        exact e
    · obtain ⟨i, a, b, c⟩ := Q.leaves d p (by omega) h0 h
      exact ⟨i, a, by omega, c⟩
/-- the value does not fall -/
theorem Step.up {s r : Nat} (G : L.Good bs) (St : L.Step bs s r) : L.T bs L.h L.n * L.D (put bs r s) ≤ L.T (put bs r s) L.h L.n * L.D bs ∧
    (L.T bs L.h L.n * L.D (put bs r s) = L.T (put bs r s) L.h L.n * L.D bs → L.T bs r L.n = 0) := by
  have p := T_put (s := s) G St.r_lt (i := L.h) (by omega) (by have := St.r_lt; omega) L.n
  rw [D_put St.r_lt]
  have f := G.feas r St.r_lt
  have hn := St.neg
  have z := Int.mul_nonneg (a := - L.T bs L.h s) (b := L.T bs r L.n) (by omega) f
  rw [Int.neg_mul] at z
  have c1 := Int.mul_comm (L.T (put bs r s) L.h L.n) (L.D bs)
  have c2 := Int.mul_comm (L.T bs L.h L.n) (L.T bs r s)
  refine ⟨by omega, fun e => ?_⟩
  have z0 : L.T bs L.h s * L.T bs r L.n = 0 := by omega
  rcases Int.mul_eq_zero.mp z0 with q | q
  · omega
  · exact q
theorem Seq.mono (Q : Seq L f S R m) (G : L.Good (f 0)) : ∀ (d p : Nat), p + d ≤ m → L.T (f p) L.h L.n * L.D (f (p + d)) ≤ L.T (f (p + d)) L.h L.n * L.D (f p)
  | 0, p, _ => Int.le_refl _
  | d + 1, p, hm => by
    have a := Q.mono G d p (by omega)
    have St := Q.step (p + d) (by omega)
    have g0 := Q.good G (p + d) (by omega)
    have b := (St.up g0).1
    rw [← Q.next (p + d) (by omega)] at b
    exact ratio_le (Q.good G p (by omega)).pos g0.pos (Q.good G (p + d + 1) (by omega)).pos a b
/-- a way back to the same basis stays where it is -/
theorem Seq.flat (Q : Seq L f S R m) (G : L.Good (f 0)) (hz : L.T (f m) L.h L.n * L.D (f 0) = L.T (f 0) L.h L.n * L.D (f m)) {i : Nat} (hi : i < m) : L.T (f i) (R i) L.n = 0 := by
  have St := Q.step i hi
  have gi := Q.good G i (by omega)
  have gi1 := Q.good G (i + 1) (by omega)
  have a := Q.mono G i 0 (by omega)
  rw [Nat.zero_add] at a
  have c := Q.mono G (m - (i + 1)) (i + 1) (by omega)
  rw [show i + 1 + (m - (i + 1)) = m by omega] at c
  obtain ⟨u1, u2⟩ := St.up gi
  rw [← Q.next i hi] at u1 u2
  refine u2 ?_
  by_cases e : L.T (f i) L.h L.n * L.D (f (i + 1)) = L.T (f (i + 1)) L.h L.n * L.D (f i)
  · exact e
  · have l1 := ratio_lt' G.pos gi.pos gi1.pos a (by omega : L.T (f i) L.h L.n * L.D (f (i + 1)) < L.T (f (i + 1)) L.h L.n * L.D (f i))
    have l2 := ratio_lt G.pos gi1.pos (Q.good G m (Nat.le_refl _)).pos l1 c
    omega
/-- a number that is 0 -/
def Zr (L : Lp) (b : Nat → Nat) (v : Nat) : Prop := ∀ k, k < L.h → b k = v → L.T b k L.n = 0
theorem Step.zr {s r : Nat} (G : L.Good bs) (St : L.Step bs s r) (z : L.T bs r L.n = 0) (v : Nat) : L.Zr bs v ↔ L.Zr (put bs r s) v := by
  have key : ∀ k, k < L.h → k ≠ r → (L.T bs k L.n = 0 ↔ L.T (put bs r s) k L.n = 0) := fun k hk e => by
    have p := T_put (s := s) G St.r_lt (i := k) (by omega) e L.n
    rw [z, Int.mul_zero, Int.sub_zero] at p
    have h1 := G.pos
    have h2 := St.pos
    constructor
    · intro q
      rw [q, Int.mul_zero] at p
      rcases Int.mul_eq_zero.mp p with w | w
      · omega
      · exact w
    · intro q
      rw [q, Int.mul_zero] at p
      rcases Int.mul_eq_zero.mp p.symm with w | w
      · omega
      · exact w
  constructor
  · intro h k hk e
    by_cases q : k = r
    · subst q
      rw [T_put_same St.r_lt]
      exact z
    · rw [put_ne q] at e
      exact (key k hk q).mp (h k hk e)
  · intro h k hk e
    by_cases q : k = r
    · subst q
      exact z
    · exact (key k hk q).mpr (h k hk (by rw [put_ne q]; exact e))
theorem Seq.zr (Q : Seq L f S R m) (G : L.Good (f 0)) (hz : ∀ i, i < m → L.T (f i) (R i) L.n = 0) (v : Nat) : ∀ i, i ≤ m → (L.Zr (f 0) v ↔ L.Zr (f i) v)
  | 0, _ => Iff.rfl
  | i + 1, hi => by
    refine (Q.zr G hz v i (by omega)).trans ?_
    rw [Q.next i (by omega)]
    exact (Q.step i (by omega)).zr (Q.good G i (by omega)) (hz i (by omega)) v
theorem greatest_of (p : Nat → Prop) : ∀ (B : Nat), (∀ v, p v → v < B) → (∃ v, p v) → ∃ v, p v ∧ ∀ u, p u → u ≤ v
  | 0, h, ⟨v, hv⟩ => absurd (h v hv) (Nat.not_lt_zero _)
  | B + 1, h, ⟨v, hv⟩ => by
    by_cases q : p B
    · exact ⟨B, q, fun u hu => by have := h u hu; omega⟩
    · refine greatest_of p B (fun u hu => ?_) ⟨v, hv⟩
      have := h u hu
      have : u ≠ B := fun e => q (e ▸ hu)
      omega
/-- BLAND: no way of steps comes back -/
theorem Seq.never (Q : Seq L f S R m) (G : L.Good (f 0)) (hm : 0 < m) (back : ∀ k, k < L.h → f m k = f 0 k) : False := by
  have eB : L.Bc (f m) = L.Bc (f 0) := by
    funext k
    unfold Bc
    by_cases h : k < L.h
    · rw [if_pos h, if_pos h, back k h]
    · rw [if_neg h, if_neg h]
  have eT : ∀ k j, L.T (f m) k j = L.T (f 0) k j := fun k j => by
    unfold T
    rw [eB]
  have eD : L.D (f m) = L.D (f 0) := by
    unfold D
    rw [eB]
  have hz : ∀ i, i < m → L.T (f i) (R i) L.n = 0 := fun i hi => Q.flat G (by rw [eT, eD]) hi
  have inIff : ∀ v, L.In (f m) v ↔ L.In (f 0) v := fun v =>
    ⟨fun ⟨k, hk, e⟩ => ⟨k, hk, (back k hk).symm.trans e⟩, fun ⟨k, hk, e⟩ => ⟨k, hk, (back k hk).trans e⟩⟩
  -- the greatest that enters
  obtain ⟨t, ⟨i1, h1, e1⟩, top⟩ := greatest_of (fun v => ∃ i, i < m ∧ S i = v) L.n (fun v ⟨i, hi, e⟩ => e ▸ (Q.step i hi).s_lt) ⟨S 0, 0, hm, rfl⟩
  -- it leaves too
  have S1 := Q.step i1 h1
  have nin : ¬ L.In (f i1) t := fun ⟨k, hk, e⟩ => S1.new hk (e.trans e1.symm)
  have yin : L.In (f (i1 + 1)) t := ⟨R i1, S1.r_lt, by rw [Q.next i1 h1, put_same, e1]⟩
  obtain ⟨i2, h2, e2⟩ : ∃ i, i < m ∧ f i (R i) = t := by
    by_cases q : L.In (f 0) t
    · obtain ⟨i, _, b, c⟩ := Q.leaves i1 0 (by omega) q (by rw [Nat.zero_add]; exact nin)
      exact ⟨i, by omega, c⟩
    · obtain ⟨i, _, b, c⟩ := Q.leaves (m - (i1 + 1)) (i1 + 1) (by omega) yin (by
        rw [show i1 + 1 + (m - (i1 + 1)) = m by omega, inIff]
        exact q)
      exact ⟨i, by omega, c⟩
  have S2 := Q.step i2 h2
  have G1 := Q.good G i1 (by omega)
  have G2 := Q.good G i2 (by omega)
  have eq := two_rows (L := L) (b1 := f i1) G2 (S i2)
  have hr2 := S2.r_lt
  -- each place of the sum but one is at most 0
  have low : ∀ k, k < L.h → k ≠ R i2 → L.T (f i2) k (S i2) * L.T (f i1) L.h (f i2 k) ≤ 0 := fun k hk hkr => by
    by_cases fick : ∃ i, i < m ∧ S i = f i2 k
    · obtain ⟨i, hi, ei⟩ := fick
      have hle := top _ ⟨i, hi, ei⟩
      have hne : f i2 k ≠ t := fun e => hkr (G2.inj hk hr2 (e.trans e2.symm))
      have r1 : 0 ≤ L.T (f i1) L.h (f i2 k) := S1.first _ (by omega)
      have zi : L.Zr (f i) (f i2 k) := fun l hl e => absurd (e.trans ei.symm) ((Q.step i hi).new hl)
      have z2 : L.Zr (f i2) (f i2 k) := (Q.zr G hz _ i2 (by omega)).mp ((Q.zr G hz _ i (by omega)).mpr zi)
      have zk := z2 k hk rfl
      have zr := hz i2 h2
      have neg : L.T (f i2) k (S i2) ≤ 0 := by
        by_cases q : 0 < L.T (f i2) k (S i2)
        · rcases S2.least k hk q with w | ⟨_, w⟩
          · rw [zr, zk, Int.zero_mul, Int.zero_mul] at w
            omega
          · rw [e2] at w
            omega
        · omega
      have := Int.mul_nonneg (a := - L.T (f i2) k (S i2)) (by omega) r1
      rw [Int.neg_mul] at this
      omega
    · -- it never enters: it stands in the basis all the time
      have all : L.In (f i1) (f i2 k) := by
        by_cases q : L.In (f i1) (f i2 k)
        · exact q
        · exfalso
          have y2 : L.In (f i2) (f i2 k) := ⟨k, hk, rfl⟩
          by_cases h12 : i1 ≤ i2
          · obtain ⟨i, _, b, c⟩ := Q.enters (i2 - i1) i1 (by omega) q (by rw [show i1 + (i2 - i1) = i2 by omega]; exact y2)
            exact fick ⟨i, by omega, c⟩
          · by_cases q0 : L.In (f 0) (f i2 k)
            · obtain ⟨i, _, b, c⟩ := Q.enters (m - i1) i1 (by omega) q (by
                rw [show i1 + (m - i1) = m by omega, inIff]
                exact q0)
              exact fick ⟨i, by omega, c⟩
            · obtain ⟨i, _, b, c⟩ := Q.enters i2 0 (by omega) q0 (by rw [Nat.zero_add]; exact y2)
              exact fick ⟨i, by omega, c⟩
      obtain ⟨l, hl, el⟩ := all
      have z := T_basic (L := L) (bs := f i1) (k := l) (i := L.h) hl (by omega) (by omega)
      rw [el] at z
      rw [z, Int.mul_zero]
      exact Int.le_refl _
  have sum_le : sumN L.h (fun k => L.T (f i2) k (S i2) * L.T (f i1) L.h (f i2 k)) ≤ L.T (f i2) (R i2) (S i2) * L.T (f i1) L.h t := by
    have q := sumN_le (n := L.h) (f := fun k => L.T (f i2) k (S i2) * L.T (f i1) L.h (f i2 k)) (g := fun k => if k = R i2 then L.T (f i2) (R i2) (S i2) * L.T (f i1) L.h t else 0) fun k hk => by
      by_cases e : k = R i2
      · subst e
        show _ ≤ if _ then _ else _
        rw [if_pos rfl, e2]
        exact Int.le_refl _
      · show _ ≤ if _ then _ else _
        rw [if_neg e]
        exact low k hk e
    rw [sumN_one (k := R i2) hr2 (fun i _ h => if_neg h), if_pos rfl] at q
    exact q
  have t1 : L.T (f i1) L.h t < 0 := by
    rw [← e1]
    exact S1.neg
  have p1 := Int.mul_pos S2.pos (b := - L.T (f i1) L.h t) (by omega)
  rw [Int.mul_neg] at p1
  have s1 : 0 ≤ L.T (f i1) L.h (S i2) := by
    have hle := top _ ⟨i2, h2, rfl⟩
    have hne : S i2 ≠ t := fun e => S2.new hr2 (e2.trans e.symm)
    exact S1.first _ (by omega)
  have p2 := Int.mul_nonneg (Int.le_of_lt G2.pos) s1
  have p3 := Int.mul_pos (a := - L.T (f i2) L.h (S i2)) (by have := S2.neg; omega) G1.pos
  rw [Int.neg_mul] at p3
  omega
end
/-! ### how many bases -/
theorem php : ∀ (B : Nat) (f : Nat → Nat), (∀ i, i ≤ B → f i < B) → ∃ i j, i < j ∧ j ≤ B ∧ f i = f j
  | 0, f, h => absurd (h 0 (Nat.le_refl _)) (Nat.not_lt_zero _)
  | B + 1, f, h => by
    by_cases q : ∃ i, i ≤ B ∧ f i = f (B + 1)
    · obtain ⟨i, hi, e⟩ := q
      exact ⟨i, B + 1, by omega, Nat.le_refl _, e⟩
    · have hv := h (B + 1) (Nat.le_refl _)
      have hq : ∀ i, i ≤ B → f i ≠ f (B + 1) := fun i hi e => q ⟨i, hi, e⟩
      obtain ⟨i, j, a, b, c⟩ := php B (fun i => if f i = B then f (B + 1) else f i) (fun i hi => by
        have h1 := h i (by omega)
        have h2 := hq i hi
        show (if f i = B then f (B + 1) else f i) < B
        split <;> omega)
      refine ⟨i, j, a, by omega, ?_⟩
      have c' : (if f i = B then f (B + 1) else f i) = (if f j = B then f (B + 1) else f j) := c
      have h1 := hq i (by omega)
      have h2 := hq j b
      by_cases x : f i = B
      · by_cases y : f j = B
        · exact x.trans y.symm
        · rw [if_pos x, if_neg y] at c'
          exact absurd c'.symm h2
      · by_cases y : f j = B
        · rw [if_neg x, if_pos y] at c'
          exact absurd c' h1
        · rw [if_neg x, if_neg y] at c'
          exact c'
def code (N : Nat) (b : Nat → Nat) : Nat → Nat
  | 0 => 0
  | k + 1 => code N b k * N + b k
theorem code_lt {N : Nat} {b : Nat → Nat} : ∀ {k : Nat}, (∀ i, i < k → b i < N) → code N b k < N ^ k
  | 0, _ => by
    show 0 < N ^ 0
    rw [Nat.pow_zero]
    exact Nat.zero_lt_one
  | k + 1, h => by
    have a := code_lt (N := N) (b := b) (k := k) fun i hi => h i (Nat.lt_succ_of_lt hi)
    have c := h k (Nat.lt_succ_self k)
    show code N b k * N + b k < N ^ (k + 1)
    rw [Nat.pow_succ]
    have d : (code N b k + 1) * N ≤ N ^ k * N := Nat.mul_le_mul a (Nat.le_refl _)
    rw [Nat.succ_mul] at d
    omega
theorem code_inj {N : Nat} {b c : Nat → Nat} : ∀ {k : Nat}, (∀ i, i < k → b i < N) → (∀ i, i < k → c i < N) → code N b k = code N c k → ∀ i, i < k → b i = c i
  | 0, _, _, _, i, hi => absurd hi (Nat.not_lt_zero _)
  | k + 1, h1, h2, e, i, hi => by
    have e' : code N b k * N + b k = code N c k * N + c k := e
    have b1 := h1 k (Nat.lt_succ_self k)
    have c1 := h2 k (Nat.lt_succ_self k)
    have m1 : (code N b k * N + b k) % N = b k := by rw [Nat.add_comm, Nat.add_mul_mod_self_right, Nat.mod_eq_of_lt b1]
    have m2 : (code N c k * N + c k) % N = c k := by rw [Nat.add_comm, Nat.add_mul_mod_self_right, Nat.mod_eq_of_lt c1]
    have eb : b k = c k := by rw [← m1, ← m2, e']
    by_cases q : i = k
    · rw [q]
      exact eb
    · refine code_inj (k := k) (fun i hi => h1 i (Nat.lt_succ_of_lt hi)) (fun i hi => h2 i (Nat.lt_succ_of_lt hi)) ?_ i (by omega)
      have e2 : code N b k * N = code N c k * N := by omega
      exact Nat.eq_of_mul_eq_mul_right (by omega) e2
/-- so many steps at most -/
theorem Chain.lt {b0 b : Nat → Nat} {k : Nat} (C : Chain L b0 k b) (G : L.Good b0) : k < L.n ^ L.h := by
  by_cases hk : k < L.n ^ L.h
  · exact hk
  · exfalso
    obtain ⟨f, S, R, e0, ek, Q⟩ := C.seq
    rw [← e0] at G
    obtain ⟨i, j, hij, hj, e⟩ := php (L.n ^ L.h) (fun i => code L.n (f i) L.h) (fun i hi => code_lt fun l hl => (Q.good G i (by omega)).rng l hl)
    have back := code_inj (fun l hl => (Q.good G i (by omega)).rng l hl) (fun l hl => (Q.good G j (by omega)).rng l hl) e
    have Q' : Seq L (fun d => f (i + d)) (fun d => S (i + d)) (fun d => R (i + d)) (j - i) := ⟨fun d hd => Q.step (i + d) (by omega), fun d hd => Q.next (i + d) (by omega)⟩
    refine Q'.never (Q.good G i (by omega)) (by omega) fun l hl => ?_
    show f (i + (j - i)) l = f (i + 0) l
    rw [show i + (j - i) = j by omega, Nat.add_zero]
    exact (back l hl).symm
end Lp
end Frd
set_option maxHeartbeats 4000000
set_option linter.all false
/-! What stands at the simplex's end: it is the same end always; numbers and prices show each other; how great the entries are. -/
namespace Frd
namespace Lp
variable {L : Lp} {bs : Nat → Nat}
/-! ### one end -/
theorem Step.det {s r s' r' : Nat} (G : L.Good bs) (A : L.Step bs s r) (B : L.Step bs s' r') : s = s' ∧ r = r' := by
  have es : s = s' := by
    have h1 : ¬ s < s' := fun h => by have := B.first s h; have := A.neg; omega
    have h2 : ¬ s' < s := fun h => by have := A.first s' h; have := B.neg; omega
    omega
  subst es
  refine ⟨rfl, G.inj A.r_lt B.r_lt ?_⟩
  have a := A.least r' B.r_lt B.pos
  have b := B.least r A.r_lt A.pos
  omega
theorem Chain.det {b0 : Nat → Nat} (G : L.Good b0) : ∀ {k : Nat} {b b' : Nat → Nat}, Chain L b0 k b → Chain L b0 k b' → b = b'
  | 0, _, _, .zero, .zero => rfl
  | k + 1, _, _, .succ C S, .succ C' S' => by
    have e := Chain.det G C C'
    subst e
    obtain ⟨rfl, rfl⟩ := S.det (C.good G) S'
    rfl
/-- the loop has come to its end -/
structure Ends (L : Lp) (bs : Nat → Nat) (bd : Bool) : Prop where
  chain : ∃ k, Chain L L.bs0 k bs
  yes : bd = true → ∀ j, j < L.n → 0 ≤ L.T bs L.h j
  no : bd = false → ∃ s, s < L.n ∧ L.T bs L.h s < 0 ∧ (∀ j, j < s → 0 ≤ L.T bs L.h j) ∧ ∀ k, k < L.h → L.T bs k s ≤ 0
theorem Ends.stop {bd : Bool} (E : L.Ends bs bd) {s r : Nat} (S : L.Step bs s r) : False := by
  cases bd with
  | true =>
    have a := E.yes rfl s S.s_lt
    have b := S.neg
    omega
  | false =>
    obtain ⟨s', h1, h2, h3, h4⟩ := E.no rfl
    have es : s = s' := by
      have g1 : ¬ s < s' := fun h => by have := h3 s h; have := S.neg; omega
      have g2 : ¬ s' < s := fun h => by have := S.first s' h; omega
      omega
    subst es
    have a := h4 r S.r_lt
    have b := S.pos
    omega
theorem Chain.pre {b0 : Nat → Nat} : ∀ (d : Nat) {k : Nat} {b : Nat → Nat}, Chain L b0 (k + d) b → ∃ b', Chain L b0 k b' ∧ (d = 0 → b' = b) ∧ (0 < d → ∃ s r, L.Step b' s r)
  | 0, k, b, C => ⟨b, C, fun _ => rfl, fun h => absurd h (Nat.lt_irrefl _)⟩
  | d + 1, k, _, C => by
    have C' : Chain L b0 (k + d + 1) _ := C
    cases C' with
    | succ C0 S =>
      obtain ⟨b', h1, h2, h3⟩ := Chain.pre d C0
      refine ⟨b', h1, fun h => absurd h (Nat.succ_ne_zero _), fun _ => ?_⟩
      by_cases e : d = 0
      · have e2 := h2 e
        subst e2
        exact ⟨_, _, S⟩
      · exact h3 (by omega)
theorem Ends.det {b1 b2 : Nat → Nat} {d1 d2 : Bool} (G : L.Good L.bs0) (A : L.Ends b1 d1) (B : L.Ends b2 d2) : b1 = b2 ∧ d1 = d2 := by
  obtain ⟨k1, C1⟩ := A.chain
  obtain ⟨k2, C2⟩ := B.chain
  have e : b1 = b2 := by
    by_cases h : k1 ≤ k2
    · obtain ⟨b', h1, h2, h3⟩ := Chain.pre (L := L) (b0 := L.bs0) (k2 - k1) (k := k1) (b := b2) (by rw [show k1 + (k2 - k1) = k2 by omega]; exact C2)
      have e1 := Chain.det G C1 h1
      subst e1
      by_cases z : k2 - k1 = 0
      · exact h2 z
      · obtain ⟨s, r, S⟩ := h3 (by omega)
        exact (A.stop S).elim
    · obtain ⟨b', h1, h2, h3⟩ := Chain.pre (L := L) (b0 := L.bs0) (k1 - k2) (k := k2) (b := b1) (by rw [show k2 + (k1 - k2) = k1 by omega]; exact C1)
      have e1 := Chain.det G C2 h1
      subst e1
      by_cases z : k1 - k2 = 0
      · exact (h2 z).symm
      · obtain ⟨s, r, S⟩ := h3 (by omega)
        exact (B.stop S).elim
  subst e
  refine ⟨rfl, ?_⟩
  cases d1 with
  | true =>
    cases d2 with
    | true => rfl
    | false =>
      obtain ⟨s, h1, h2, _⟩ := B.no rfl
      have := A.yes rfl s h1
      omega
  | false =>
    cases d2 with
    | false => rfl
    | true =>
      obtain ⟨s, h1, h2, _⟩ := A.no rfl
      have := B.yes rfl s h1
      omega
theorem Ends.good {bd : Bool} (E : L.Ends bs bd) (G : L.Good L.bs0) : L.Good bs := by
  obtain ⟨k, C⟩ := E.chain
  exact C.good G
/-! ### prices -/
def price (L : Lp) (bs : Nat → Nat) (c : Nat) : Int := L.T bs L.h (L.w + c)
theorem price_col {j : Nat} (hj : j < L.w) : L.T bs L.h j = sumN L.h (fun c => L.a c j * L.price bs c) - L.g j * L.D bs := by
  have e := row_h (L := L) (bs := bs) (L.M j)
  rw [M_g hj, Int.neg_mul] at e
  have e2 : sumN L.h (fun c => L.M j c * L.T bs L.h (L.w + c)) = sumN L.h (fun c => L.a c j * L.price bs c) := sumN_congr fun c hc => by rw [M_a hj hc]; rfl
  rw [e2] at e
  exact e
theorem price_worth : L.T bs L.h L.n = sumN L.h (fun c => L.b c * L.price bs c) := by
  have e := row_h (L := L) (bs := bs) (L.M L.n)
  rw [M_limh, Int.zero_mul, Int.add_zero] at e
  have e2 : sumN L.h (fun c => L.M L.n c * L.T bs L.h (L.w + c)) = sumN L.h (fun c => L.b c * L.price bs c) := sumN_congr fun c hc => by rw [M_lim hc]; rfl
  rw [e2] at e
  exact e
theorem Ends.price_nn (E : L.Ends bs true) {c : Nat} (hc : c < L.h) : 0 ≤ L.price bs c := E.yes rfl _ (by unfold n; omega)
theorem Ends.price_ge (E : L.Ends bs true) {j : Nat} (hj : j < L.w) : L.g j * L.D bs ≤ sumN L.h (fun c => L.a c j * L.price bs c) := by
  have a := E.yes rfl j (by unfold n; omega)
  rw [price_col hj] at a
  omega
/-! ### numbers -/
/-- the number j, as the first k rows tell it -/
def numK (L : Lp) (bs : Nat → Nat) (j : Nat) : Nat → Int
  | 0 => 0
  | k + 1 => if bs k = j then L.T bs k L.n else numK L bs j k
def num (L : Lp) (bs : Nat → Nat) (j : Nat) : Int := L.numK bs j L.h
theorem numK_none (j : Nat) : ∀ k, (∀ i, i < k → bs i ≠ j) → L.numK bs j k = 0
  | 0, _ => rfl
  | k + 1, h => by
    unfold numK
    rw [if_neg (h k (Nat.lt_succ_self k))]
    exact numK_none j k fun i hi => h i (Nat.lt_succ_of_lt hi)
theorem numK_sum (G : L.Good bs) (j : Nat) : ∀ k, k ≤ L.h → L.numK bs j k = sumN k (fun i => if bs i = j then L.T bs i L.n else 0)
  | 0, _ => rfl
  | k + 1, h => by
    unfold numK
    show _ = sumN k (fun i => if bs i = j then L.T bs i L.n else 0) + (if bs k = j then L.T bs k L.n else 0)
    by_cases e : bs k = j
    · rw [if_pos e, if_pos e, sumN_zero]
      · omega
      · intro i hi
        rw [if_neg]
        intro q
        have := G.inj (k := i) (l := k) (by omega) (by omega) (q.trans e.symm)
        omega
    · rw [if_neg e, if_neg e, numK_sum G j k (by omega)]
      omega
theorem numK_nn (G : L.Good bs) (j : Nat) : ∀ k, k ≤ L.h → 0 ≤ L.numK bs j k
  | 0, _ => Int.le_refl _
  | k + 1, h => by
    unfold numK
    split
    · exact G.feas k (by omega)
    · exact numK_nn G j k (by omega)
theorem num_nn (G : L.Good bs) (j : Nat) : 0 ≤ L.num bs j := numK_nn G j L.h (Nat.le_refl _)
/-- a sum over the basis is one over the numbers -/
theorem num_swap (G : L.Good bs) (F : Nat → Int) : sumN L.w (fun j => F j * L.num bs j) = sumN L.h (fun k => L.T bs k L.n * (if bs k < L.w then F (bs k) else 0)) := by
  have e1 : sumN L.w (fun j => F j * L.num bs j) = sumN L.w (fun j => sumN L.h fun k => F j * (if bs k = j then L.T bs k L.n else 0)) := sumN_congr fun j _ => by
    rw [sumN_mul]
    unfold num
    rw [numK_sum G j L.h (Nat.le_refl _)]
  rw [e1, sumN_swap]
  refine sumN_congr fun k hk => ?_
  by_cases q : bs k < L.w
  · rw [if_pos q, sumN_one (k := bs k) q, if_pos rfl, Int.mul_comm]
    intro i _ hi
    rw [if_neg (Ne.symm hi), Int.mul_zero]
  · rw [if_neg q, Int.mul_zero]
    refine sumN_zero fun j hj => ?_
    rw [if_neg (by omega), Int.mul_zero]
theorem num_row (G : L.Good bs) {c : Nat} (hc : c < L.h) : sumN L.w (fun j => L.a c j * L.num bs j) ≤ L.D bs * L.b c := by
  have e := G.cram (L.M L.n) c (by omega)
  rw [M_lim hc] at e
  have e0 : (sumN (L.h + 1) fun k => det (L.h + 1) 0 (put (L.Bc bs) k (L.M L.n)) * L.Bc bs k c) = sumN L.h (fun k => L.T bs k L.n * L.M (bs k) c) := by
    show sumN L.h (fun k => det (L.h + 1) 0 (put (L.Bc bs) k (L.M L.n)) * L.Bc bs k c) + det (L.h + 1) 0 (put (L.Bc bs) L.h (L.M L.n)) * L.Bc bs L.h c = _
    have z : L.Bc bs L.h c = 0 := by
      unfold Bc unit
      rw [if_neg (by omega), if_neg (by omega)]
    rw [z, Int.mul_zero, Int.add_zero]
    refine sumN_congr fun k hk => ?_
    rw [show L.Bc bs k = L.M (bs k) from if_pos hk]
    rfl
  rw [e0] at e
  rw [num_swap G (fun j => L.a c j)]
  refine Int.le_trans (sumN_le fun k hk => ?_) (Int.le_of_eq e.symm)
  have f := G.feas k hk
  refine Int.mul_le_mul_of_nonneg_left ?_ f
  by_cases q : bs k < L.w
  · rw [if_pos q, M_a q hc]
    exact Int.le_refl _
  · rw [if_neg q]
    have hr := G.rng k hk
    unfold M unit
    unfold n at hr
    rw [if_neg q, if_pos hr]
    split <;> omega
theorem num_worth (G : L.Good bs) : sumN L.w (fun j => L.g j * L.num bs j) = L.T bs L.h L.n := by
  have e := G.cram (L.M L.n) L.h (by omega)
  rw [M_limh, Int.mul_zero] at e
  have e0 : (sumN (L.h + 1) fun k => det (L.h + 1) 0 (put (L.Bc bs) k (L.M L.n)) * L.Bc bs k L.h) = sumN L.h (fun k => L.T bs k L.n * L.M (bs k) L.h) + L.T bs L.h L.n := by
    show sumN L.h (fun k => det (L.h + 1) 0 (put (L.Bc bs) k (L.M L.n)) * L.Bc bs k L.h) + det (L.h + 1) 0 (put (L.Bc bs) L.h (L.M L.n)) * L.Bc bs L.h L.h = _
    have z : L.Bc bs L.h L.h = 1 := by
      unfold Bc unit
      rw [if_neg (by omega), if_pos rfl]
    rw [z, Int.mul_one]
    have z2 : sumN L.h (fun k => det (L.h + 1) 0 (put (L.Bc bs) k (L.M L.n)) * L.Bc bs k L.h) = sumN L.h (fun k => L.T bs k L.n * L.M (bs k) L.h) := sumN_congr fun k hk => by
      rw [show L.Bc bs k = L.M (bs k) from if_pos hk]
      rfl
    rw [z2]
    rfl
  rw [e0] at e
  rw [num_swap G L.g]
  have e3 : sumN L.h (fun k => L.T bs k L.n * (if bs k < L.w then L.g (bs k) else 0)) = - sumN L.h (fun k => L.T bs k L.n * L.M (bs k) L.h) := by
    rw [← sumN_neg]
    refine sumN_congr fun k hk => ?_
    by_cases q : bs k < L.w
    · rw [if_pos q, M_g q, Int.mul_neg, Int.neg_neg]
    · rw [if_neg q, M_slackh (by omega) (G.rng k hk), Int.mul_zero]
      rfl
  rw [e3]
  omega
/-! ### each side bounds the other -/
theorem Ends.primal_le (E : L.Ends bs true) (x : Nat → Int) (hx : ∀ j, j < L.w → 0 ≤ x j) (hr : ∀ c, c < L.h → sumN L.w (fun j => L.a c j * x j) ≤ L.b c) :
    L.D bs * sumN L.w (fun j => L.g j * x j) ≤ L.T bs L.h L.n := by
  have h1 : L.D bs * sumN L.w (fun j => L.g j * x j) ≤ sumN L.w (fun j => sumN L.h fun c => L.price bs c * (L.a c j * x j)) := by
    rw [← sumN_mul]
    refine sumN_le fun j hj => ?_
    have p := E.price_ge hj
    have e : sumN L.h (fun c => L.price bs c * (L.a c j * x j)) = x j * sumN L.h (fun c => L.a c j * L.price bs c) := by
      rw [← sumN_mul]
      refine sumN_congr fun c _ => ?_
      generalize L.price bs c = p
      generalize L.a c j = a
      generalize x j = y
      grind
    rw [e]
    have q := Int.mul_le_mul_of_nonneg_left p (hx j hj)
    have e2 : L.D bs * (L.g j * x j) = x j * (L.g j * L.D bs) := by
      generalize L.D bs = p
      generalize L.g j = a
      generalize x j = y
      grind
    omega
  refine Int.le_trans h1 ?_
  rw [sumN_swap, price_worth]
  refine sumN_le fun c hc => ?_
  rw [sumN_mul, Int.mul_comm (L.b c)]
  exact Int.mul_le_mul_of_nonneg_left (hr c hc) (E.price_nn hc)
theorem dual_ge (G : L.Good bs) (y : Nat → Int) (hy : ∀ c, c < L.h → 0 ≤ y c) (hc : ∀ j, j < L.w → L.g j ≤ sumN L.h (fun c => L.a c j * y c)) :
    L.T bs L.h L.n ≤ L.D bs * sumN L.h (fun c => L.b c * y c) := by
  rw [← num_worth G]
  have h1 : sumN L.w (fun j => L.g j * L.num bs j) ≤ sumN L.w (fun j => sumN L.h fun c => y c * (L.a c j * L.num bs j)) := by
    refine sumN_le fun j hj => ?_
    have e : sumN L.h (fun c => y c * (L.a c j * L.num bs j)) = L.num bs j * sumN L.h (fun c => L.a c j * y c) := by
      rw [← sumN_mul]
      refine sumN_congr fun c _ => ?_
      generalize y c = p
      generalize L.a c j = a
      generalize L.num bs j = y
      grind
    rw [e, Int.mul_comm]
    exact Int.mul_le_mul_of_nonneg_left (hc j hj) (num_nn G j)
  refine Int.le_trans h1 ?_
  rw [sumN_swap, ← sumN_mul]
  refine sumN_le fun c hc' => ?_
  rw [sumN_mul]
  have q := Int.mul_le_mul_of_nonneg_left (num_row G hc') (hy c hc')
  have e2 : L.D bs * (L.b c * y c) = y c * (L.D bs * L.b c) := by
    generalize L.D bs = p
    generalize L.b c = a
    generalize y c = y
    grind
  omega
/-! ### a program whose last row bounds the sum always ends well -/
theorem bounded_of (G : L.Good bs) {c0 : Nat} (hc0 : c0 < L.h) (one : ∀ j, j < L.w → L.a c0 j = 1) {s : Nat} (hs : s < L.n) (neg : L.T bs L.h s < 0) (none : ∀ k, k < L.h → L.T bs k s ≤ 0) : False := by
  have M0 : ∀ j, j < L.n → 0 ≤ L.M j c0 ∧ (j < L.w → L.M j c0 = 1) := fun j hj => by
    by_cases q : j < L.w
    · rw [M_a q hc0, one j q]
      exact ⟨by omega, fun _ => rfl⟩
    · refine ⟨?_, fun h => absurd h q⟩
      unfold M unit
      unfold n at hj
      rw [if_neg q, if_pos hj]
      split <;> omega
  have e := G.cram (L.M s) c0 (by omega)
  have z : L.Bc bs L.h c0 = 0 := by
    unfold Bc unit
    rw [if_neg (by omega), if_neg (by omega)]
  have e0 : (sumN (L.h + 1) fun k => det (L.h + 1) 0 (put (L.Bc bs) k (L.M s)) * L.Bc bs k c0) = sumN L.h (fun k => L.T bs k s * L.M (bs k) c0) := by
    show sumN L.h (fun k => det (L.h + 1) 0 (put (L.Bc bs) k (L.M s)) * L.Bc bs k c0) + det (L.h + 1) 0 (put (L.Bc bs) L.h (L.M s)) * L.Bc bs L.h c0 = _
    rw [z, Int.mul_zero, Int.add_zero]
    refine sumN_congr fun k hk => ?_
    rw [show L.Bc bs k = L.M (bs k) from if_pos hk]
    rfl
  rw [e0] at e
  have hd := G.pos
  have lhs : 0 ≤ det (L.h + 1) 0 (L.Bc bs) * L.M s c0 := Int.mul_nonneg (Int.le_of_lt hd) (M0 s hs).1
  have terms : ∀ k, k < L.h → L.T bs k s * L.M (bs k) c0 ≤ 0 := fun k hk => by
    have a := Int.mul_nonneg (a := - L.T bs k s) (b := L.M (bs k) c0) (by have := none k hk; omega) (M0 _ (G.rng k hk)).1
    rw [Int.neg_mul] at a
    omega
  have sz : sumN L.h (fun k => L.T bs k s * L.M (bs k) c0) ≤ 0 := by
    have a := sumN_le (n := L.h) (f := fun k => L.T bs k s * L.M (bs k) c0) (g := fun _ => 0) terms
    rw [sumN_zero (f := fun _ => 0) fun _ _ => rfl] at a
    exact a
  have ez : L.M s c0 = 0 := by
    have q : det (L.h + 1) 0 (L.Bc bs) * L.M s c0 = 0 := by omega
    rcases Int.mul_eq_zero.mp q with w | w
    · unfold D at hd
      omega
    · exact w
  have hsw : ¬ s < L.w := fun h => by
    have := (M0 s hs).2 h
    omega
  -- each basic number of the table stands still along s
  have each : ∀ k, k < L.h → L.T bs k s * L.M (bs k) c0 = 0 := fun k hk => by
    have s0 : sumN L.h (fun k => L.T bs k s * L.M (bs k) c0) = 0 := by
      rw [← e, ez, Int.mul_zero]
    have le := sumN_le (n := L.h) (f := fun k => L.T bs k s * L.M (bs k) c0) (g := fun i => if i = k then L.T bs k s * L.M (bs k) c0 else 0) fun i hi => by
      by_cases q : i = k
      · subst q
        show _ ≤ if _ then _ else _
        rw [if_pos rfl]
        exact Int.le_refl _
      · show _ ≤ if _ then _ else _
        rw [if_neg q]
        exact terms i hi
    rw [sumN_one (k := k) hk (fun i _ h => if_neg h), if_pos rfl, s0] at le
    have := terms k hk
    omega
  have eh := G.cram (L.M s) L.h (by omega)
  have e1 : (sumN (L.h + 1) fun k => det (L.h + 1) 0 (put (L.Bc bs) k (L.M s)) * L.Bc bs k L.h) = sumN L.h (fun k => L.T bs k s * L.M (bs k) L.h) + L.T bs L.h s := by
    show sumN L.h (fun k => det (L.h + 1) 0 (put (L.Bc bs) k (L.M s)) * L.Bc bs k L.h) + det (L.h + 1) 0 (put (L.Bc bs) L.h (L.M s)) * L.Bc bs L.h L.h = _
    have z : L.Bc bs L.h L.h = 1 := by
      unfold Bc unit
      rw [if_neg (by omega), if_pos rfl]
    rw [z, Int.mul_one]
    have z2 : sumN L.h (fun k => det (L.h + 1) 0 (put (L.Bc bs) k (L.M s)) * L.Bc bs k L.h) = sumN L.h (fun k => L.T bs k s * L.M (bs k) L.h) := sumN_congr fun k hk => by
      rw [show L.Bc bs k = L.M (bs k) from if_pos hk]
      rfl
    rw [z2]
    rfl
  rw [e1, M_slackh (by omega) hs, Int.mul_zero, sumN_zero] at eh
  · omega
  · intro k hk
    by_cases q : bs k < L.w
    · have w := each k hk
      rw [(M0 _ (G.rng k hk)).2 q, Int.mul_one] at w
      rw [w, Int.zero_mul]
    · rw [M_slackh (by omega) (G.rng k hk), Int.mul_zero]
theorem Ends.bounded {bd : Bool} (E : L.Ends bs bd) (G : L.Good L.bs0) {c0 : Nat} (hc0 : c0 < L.h) (one : ∀ j, j < L.w → L.a c0 j = 1) : bd = true := by
  cases bd with
  | true => rfl
  | false =>
    obtain ⟨s, h1, h2, _, h4⟩ := E.no rfl
    exact (bounded_of (E.good G) hc0 one h1 h2 h4).elim
/-! ### how great -/
structure Small (L : Lp) (e : Nat) : Prop where
  h : L.h ≤ 15
  a : ∀ c j, c < L.h → j < L.w → (L.a c j).natAbs ≤ 2 ^ e
  b : ∀ c, c < L.h → (L.b c).natAbs ≤ 2 ^ e
  g : ∀ j, j < L.w → (L.g j).natAbs ≤ 2 ^ e
theorem M_abs {e : Nat} (S : L.Small e) (j c : Nat) : (L.M j c).natAbs ≤ 2 ^ e := by
  have p : 0 < 2 ^ e := Nat.pow_pos (by omega)
  unfold M
  split
  · rename_i hj
    split
    · rename_i hc
      exact S.a c j hc hj
    · split
      · rw [Int.natAbs_neg]
        exact S.g j hj
      · exact Nat.zero_le _
  · split
    · unfold unit
      split
      · exact p
      · exact Nat.zero_le _
    · split
      · rename_i hc
        exact S.b c hc
      · exact Nat.zero_le _
theorem Bc_abs {e : Nat} (S : L.Small e) (k c : Nat) : (L.Bc bs k c).natAbs ≤ 2 ^ e := by
  have p : 0 < 2 ^ e := Nat.pow_pos (by omega)
  unfold Bc
  split
  · exact M_abs S _ _
  · unfold unit
    split
    · exact p
    · exact Nat.zero_le _
theorem big_pow {h e : Nat} (hh : h ≤ 15) : (16 * 2 ^ e) ^ (h + 1) ≤ 2 ^ (16 * (e + 4)) := by
  have e1 : 16 * 2 ^ e = 2 ^ (e + 4) := by
    rw [Nat.pow_add, Nat.mul_comm]
  rw [e1, ← Nat.pow_mul]
  refine Nat.pow_le_pow_right (by omega) ?_
  rw [Nat.mul_comm]
  exact Nat.mul_le_mul (by omega) (Nat.le_refl _)
theorem T_abs {e : Nat} (S : L.Small e) (k j : Nat) : (L.T bs k j).natAbs ≤ 2 ^ (16 * (e + 4)) := by
  refine Nat.le_trans ?_ (big_pow (h := L.h) (e := e) S.h)
  refine det_abs 16 (2 ^ e) (by have := S.h; omega) fun l c _ _ _ => ?_
  by_cases q : l = k
  · subst q
    rw [put_same]
    exact M_abs S _ _
  · rw [put_ne q]
    exact Bc_abs S _ _
theorem D_abs {e : Nat} (S : L.Small e) : (L.D bs).natAbs ≤ 2 ^ (16 * (e + 4)) := by
  refine Nat.le_trans ?_ (big_pow (h := L.h) (e := e) S.h)
  exact det_abs 16 (2 ^ e) (by have := S.h; omega) fun l c _ _ _ => Bc_abs S _ _
theorem num_abs {e : Nat} (S : L.Small e) (j : Nat) : (L.num bs j).natAbs ≤ 2 ^ (16 * (e + 4)) := by
  have q : ∀ k, (L.numK bs j k).natAbs ≤ 2 ^ (16 * (e + 4)) := fun k => by
    induction k with
    | zero => exact Nat.zero_le _
    | succ k ih =>
      unfold numK
      split
      · exact T_abs S _ _
      · exact ih
  exact q _
end Lp
end Frd
set_option maxHeartbeats 4000000
set_option linter.all false
/-! Fractions in lowest terms. -/
namespace Frd
/-- n / D in lowest terms (D above 0) -/
def red (n D : Int) : Int × Int := (n / (Int.gcd n D : Int), D / (Int.gcd n D : Int))
theorem gcd_pos {n D : Int} (h : 0 < D) : 0 < (Int.gcd n D : Int) := by
  have := Int.gcd_pos_of_ne_zero_right n (b := D) (by omega)
  omega
theorem red_mul1 {n D : Int} : (red n D).1 * (Int.gcd n D : Int) = n := Int.ediv_mul_cancel (Int.gcd_dvd_left n D)
theorem red_mul2 {n D : Int} : (red n D).2 * (Int.gcd n D : Int) = D := Int.ediv_mul_cancel (Int.gcd_dvd_right n D)
theorem red_pos {n D : Int} (h : 0 < D) : 0 < (red n D).2 := by
  have g := gcd_pos (n := n) h
  have e := red_mul2 (n := n) (D := D)
  by_cases q : 0 < (red n D).2
  · exact q
  · have z := Int.mul_nonneg (a := - (red n D).2) (b := (Int.gcd n D : Int)) (by omega) (by omega)
    rw [Int.neg_mul] at z
    omega
theorem red_cross {n D : Int} : (red n D).1 * D = n * (red n D).2 := by
  have e1 := red_mul1 (n := n) (D := D)
  have e2 := red_mul2 (n := n) (D := D)
  generalize (red n D).1 = a at *
  generalize (red n D).2 = b at *
  generalize (Int.gcd n D : Int) = g at *
  rw [← e1, ← e2]
  grind
theorem red_cop {n D : Int} (h : 0 < D) : Int.gcd (red n D).1 (red n D).2 = 1 := Int.gcd_ediv_gcd_ediv_gcd (by have := gcd_pos (n := n) h; omega)
theorem dvd_of_cop {a b c : Int} (h : Int.gcd a b = 1) (d : b ∣ a * c) : b ∣ c := by
  have e : Nat.Coprime b.natAbs a.natAbs := by
    have q : Nat.gcd a.natAbs b.natAbs = 1 := h
    rw [Nat.gcd_comm] at q
    exact q
  have d2 : b.natAbs ∣ a.natAbs * c.natAbs := by
    rw [← Int.natAbs_mul]
    exact Int.natAbs_dvd_natAbs.mpr d
  exact Int.natAbs_dvd_natAbs.mp (e.dvd_of_dvd_mul_left d2)
/-- two fractions in lowest terms that are equal -/
theorem low_eq {a b c d : Int} (hb : 0 < b) (hd : 0 < d) (h1 : Int.gcd a b = 1) (h2 : Int.gcd c d = 1) (e : a * d = c * b) : a = c ∧ b = d := by
  have d1 : b ∣ d := dvd_of_cop h1 ⟨c, by rw [e, Int.mul_comm]⟩
  have d2 : d ∣ b := dvd_of_cop h2 ⟨a, by rw [← e, Int.mul_comm]⟩
  have eb : b = d := Int.dvd_antisymm (by omega) (by omega) d1 d2
  subst eb
  exact ⟨Int.eq_of_mul_eq_mul_right (by omega) e, rfl⟩
theorem red_congr {a b c d : Int} (hb : 0 < b) (hd : 0 < d) (e : a * d = c * b) : red a b = red c d := by
  have x1 := red_mul1 (n := a) (D := b)
  have x2 := red_mul2 (n := a) (D := b)
  have y1 := red_mul1 (n := c) (D := d)
  have y2 := red_mul2 (n := c) (D := d)
  have g1 := gcd_pos (n := a) hb
  have g2 := gcd_pos (n := c) hd
  have key : (red a b).1 * (red c d).2 = (red c d).1 * (red a b).2 := by
    generalize (red a b).1 = p at *
    generalize (red a b).2 = q at *
    generalize (red c d).1 = r at *
    generalize (red c d).2 = s at *
    generalize (Int.gcd a b : Int) = g at *
    generalize (Int.gcd c d : Int) = k at *
    refine Int.eq_of_mul_eq_mul_left (a := g * k) (by have := Int.mul_pos g1 g2; omega) ?_
    rw [← x1, ← x2, ← y1, ← y2] at e
    grind
  obtain ⟨e1, e2⟩ := low_eq (red_pos hb) (red_pos hd) (red_cop hb) (red_cop hd) key
  exact Prod.ext e1 e2
theorem red_low {t b : Int} (hb : 0 < b) (h : Int.gcd t b = 1) : red t b = (t, b) := by
  unfold red
  rw [h]
  show (t / 1, b / 1) = (t, b)
  rw [Int.ediv_one, Int.ediv_one]
theorem red_one (n : Int) : red n 1 = (n, 1) := red_low (by omega) (Int.gcd_one)
theorem red_self (n D : Int) (h : 0 < D) : red (red n D).1 (red n D).2 = red n D := red_low (red_pos h) (red_cop h)
theorem red_scale {n D k : Int} (hD : 0 < D) (hk : 0 < k) : red (n * k) (D * k) = red n D := red_congr (Int.mul_pos hD hk) hD (by grind)
theorem red_int {n D : Int} (hD : 0 < D) : red (n * D) D = (n, 1) := by
  rw [← red_one n]
  exact red_congr hD (by omega) (by grind)
theorem red_le {n D l : Int} (hD : 0 < D) : (red n D).1 ≤ l * (red n D).2 ↔ n ≤ l * D := by
  have e := red_cross (n := n) (D := D)
  have p := red_pos (n := n) hD
  have key : ∀ x : Int, (red n D).1 ≤ x * (red n D).2 ↔ n ≤ x * D := fun x => by
    have e2 := red_mul1 (n := n) (D := D)
    have e3 := red_mul2 (n := n) (D := D)
    have g := gcd_pos (n := n) hD
    generalize (red n D).1 = a at *
    generalize (red n D).2 = b at *
    generalize (Int.gcd n D : Int) = k at *
    rw [← e2, ← e3, ← Int.mul_assoc]
    exact ⟨fun h => Int.mul_le_mul_of_nonneg_right h (by omega), fun h => Int.le_of_mul_le_mul_right h g⟩
  exact key l
theorem red_nonneg {n D : Int} (hD : 0 < D) : 0 ≤ (red n D).1 ↔ 0 ≤ n := by
  have e2 := red_mul1 (n := n) (D := D)
  have g := gcd_pos (n := n) hD
  generalize (red n D).1 = a at *
  generalize (Int.gcd n D : Int) = k at *
  rw [← e2]
  constructor
  · intro h
    exact Int.mul_nonneg h (by omega)
  · intro h
    by_cases q : 0 ≤ a
    · exact q
    · have := Int.mul_pos (a := - a) (b := k) (by omega) g
      rw [Int.neg_mul] at this
      omega
/-- at least l -/
theorem red_ge {n D l : Int} (hD : 0 < D) : l * (red n D).2 ≤ (red n D).1 ↔ l * D ≤ n := by
  have e2 := red_mul1 (n := n) (D := D)
  have e3 := red_mul2 (n := n) (D := D)
  have g := gcd_pos (n := n) hD
  generalize (red n D).1 = a at *
  generalize (red n D).2 = b at *
  generalize (Int.gcd n D : Int) = k at *
  rw [← e2, ← e3, ← Int.mul_assoc]
  exact ⟨fun h => Int.mul_le_mul_of_nonneg_right h (by omega), fun h => Int.le_of_mul_le_mul_right h g⟩
/-- two fractions compared -/
theorem red_cmp {n D m E : Int} (hD : 0 < D) (hE : 0 < E) : (red n D).1 * (red m E).2 < (red m E).1 * (red n D).2 ↔ n * E < m * D := by
  have e2 := red_mul1 (n := n) (D := D)
  have e3 := red_mul2 (n := n) (D := D)
  have f2 := red_mul1 (n := m) (D := E)
  have f3 := red_mul2 (n := m) (D := E)
  have g := gcd_pos (n := n) hD
  have g' := gcd_pos (n := m) hE
  generalize (red n D).1 = a at *
  generalize (red n D).2 = b at *
  generalize (red m E).1 = c at *
  generalize (red m E).2 = d at *
  generalize (Int.gcd n D : Int) = k at *
  generalize (Int.gcd m E : Int) = l at *
  have hkl := Int.mul_pos g g'
  have x1 : n * E = a * d * (k * l) := by rw [← e2, ← f3]; grind
  have x2 : m * D = c * b * (k * l) := by rw [← f2, ← e3]; grind
  rw [x1, x2]
  exact ⟨fun h => Int.mul_lt_mul_of_pos_right h hkl, fun h => Int.lt_of_mul_lt_mul_right h (by omega)⟩
theorem red_abs1 (n D : Int) : (red n D).1.natAbs ≤ n.natAbs := Int.natAbs_ediv_le_natAbs _ _
theorem red_abs2 (n D : Int) : (red n D).2.natAbs ≤ D.natAbs := Int.natAbs_ediv_le_natAbs _ _
/-- the sum of two -/
theorem red_add {n D m E : Int} (hD : 0 < D) (hE : 0 < E) : red ((red n D).1 * (red m E).2 + (red m E).1 * (red n D).2) ((red n D).2 * (red m E).2) = red (n * E + m * D) (D * E) := by
  have e1 := red_cross (n := n) (D := D)
  have e2 := red_cross (n := m) (D := E)
  refine red_congr (Int.mul_pos (red_pos hD) (red_pos hE)) (Int.mul_pos hD hE) ?_
  generalize (red n D).1 = a at *
  generalize (red n D).2 = b at *
  generalize (red m E).1 = c at *
  generalize (red m E).2 = d at *
  have x1 : a * d * (D * E) = a * D * (d * E) := by grind
  have x2 : c * b * (D * E) = c * E * (b * D) := by grind
  rw [Int.add_mul, x1, x2, e1, e2]
  grind
theorem red_add_same {n m D : Int} (hD : 0 < D) : red ((red n D).1 * (red m D).2 + (red m D).1 * (red n D).2) ((red n D).2 * (red m D).2) = red (n + m) D := by
  rw [red_add hD hD, ← red_scale (n := n + m) hD hD]
  congr 1
  grind
theorem red_times {n D k : Int} (hD : 0 < D) : red ((red n D).1 * k) (red n D).2 = red (n * k) D := by
  have e1 := red_cross (n := n) (D := D)
  refine red_congr (red_pos hD) hD ?_
  generalize (red n D).1 = a at *
  generalize (red n D).2 = b at *
  have x1 : a * k * D = a * D * k := by grind
  rw [x1, e1]
  grind
end Frd
set_option maxHeartbeats 4000000
set_option Elab.async false
set_option linter.all false
set_option maxRecDepth 100000
/-! The text by places; a def that is called by its name; heaps that grow. -/
namespace Frd
open PySem PySem.Spec PyProof.Rows L2
def topS (i : Nat) : Stmt := PySem.Challenge.pw_farreads_k35_whole_ways_are_weights.main.body.getD i (.Pass ⟨0, 0, 0, 0⟩)
abbrev metS (i j : Nat) : Stmt := inClass (topS i) j
/-- the def that the module's name x stands for keeps the promise sp -/
structure Dn (P : Program) (w : World) (K : PySem.W.Frag) (mg : Str → Option Value) (base : Heap) (x : Str) (k : Nat) (ps : List Str) (sp : Sp) : Prop where
  ex : ∃ f fd, FnOk P w K mg base CX0 k f fd ps sp ∧ mg x = some (.ref f) ∧ PySem.W.keepIn K (.ref f) = true ∧ Binds K fd ps []
theorem Dn.ok {P : Program} {w : World} {K : PySem.W.Frag} {mg : Str → Option Value} {base : Heap} {x : Str} {k : Nat} {ps : List Str} {sp : Sp} {st : Stmt} {f : Addr} {fd : FuncData} (F : Fun K x x st f fd) (gx : mg x = some (.ref f)) (b : Binds K fd ps [])
    (h : FnOk P w K mg base CX0 k f fd ps sp) : Dn P w K mg base x k ps sp := ⟨f, fd, h, gx, F.kp, b⟩
/-- the method m of the class at C keeps the promise sp -/
structure Mn (P : Program) (w : World) (K : PySem.W.Frag) (mg : Str → Option Value) (base : Heap) (C : Addr) (m : Str) (k : Nat) (ps : List Str) (sp : Sp) : Prop where
  ex : ∃ f fd, FnOk P w K mg base CX0 k f fd ps sp ∧ Meth K C m f ∧ Binds K fd ps []
/-- the class of the module's name x makes instances by an __init__ that keeps the promise sp -/
structure Kn (P : Program) (w : World) (K : PySem.W.Frag) (mg : Str → Option Value) (base : Heap) (x : Str) (C : Addr) (k : Nat) (ps : List Str) (sp : Sp) : Prop where
  ex : ∃ f fd, FnOk P w K mg base CX0 k f fd ps sp ∧ Mk K C f ∧ mg x = some (.ref C) ∧ Binds K fd ps []
section
variable {X : Cx} {x m : Str} {k : Nat} {ps : List Str} {sp : Sp} {e o : Expr} {es : List Expr} {t : TA} {to : TE} {p pos apos : Pos} {C : Addr}
theorem pe_def (D : Dn X.prog X.w X.K X.mg X.base x k ps sp) (hr : Room k X.A) (hg : Gl X x) (ha : PA X (e :: es) t) (hdb : (x == ("__debug__" : Str)) = false := by decide)
    (he : starEach (e :: es) X.env = (false, eval e X.env) :: starEach es X.env := by rfl) (hpl : (backTo pos (starEach es X.env)).any (·.1) = false := by rfl) : PE X (.Call (.Name x p) (e :: es) [] pos) (tCall sp [] E0 t) := by
  obtain ⟨f, fd, F, gx, kp, b⟩ := D.ex
  exact pe_call F hr hg gx kp b .nil pass0 ha hdb he hpl
theorem pe_new (D : Kn X.prog X.w X.K X.mg X.base x C k ps sp) (hr : Room (k + 1) X.A) (hg : Gl X x) (ha : PA X (e :: es) t) (hdb : (x == ("__debug__" : Str)) = false := by decide)
    (he : starEach (e :: es) X.env = (false, eval e X.env) :: starEach es X.env := by rfl) (hpl : (backTo pos (starEach es X.env)).any (·.1) = false := by rfl) : PE X (.Call (.Name x p) (e :: es) [] pos) (tMake C sp [] E0 t) := by
  obtain ⟨f, fd, F, M, gx, b⟩ := D.ex
  exact pe_make M F hr hg gx b .nil pass0 ha hdb he hpl
theorem pe_mth {pl : Sem Bool} (c : Cls X.K C) (D : Mn X.prog X.w X.K X.mg X.base C m k ps sp) (hr : Room k X.A) (ho : PE X o to) (ha : PA X (e :: es) t)
    (hst : starEach (e :: es) X.env = (false, eval e X.env) :: starEach es X.env := by rfl) (hpl : (backTo pos (starEach es X.env)).any (·.1) = false := by rfl)
    (ht : eval (.Call (.Attribute o m apos) (e :: es) [] pos) X.env = (do
      let ov ← eval o X.env
      standAt apos.atName
      let (f, first) ← holding [ov] (getMethod ov m pl)
      callWith pos f first (backTo pos (starEach (e :: es) X.env)) (backToKw pos (keywordEach [] X.env))) := by rfl) :
    PE X (.Call (.Attribute o m apos) (e :: es) [] pos) (tMeth C m sp [] E0 to t) := by
  obtain ⟨f, fd, F, M, b⟩ := D.ex
  exact pe_meth ho c M F hr b .nil pass0 ha hst hpl ht
theorem pe_mth0 {pl : Sem Bool} (c : Cls X.K C) (D : Mn X.prog X.w X.K X.mg X.base C m k ps sp) (hr : Room k X.A) (ho : PE X o to)
    (ht : eval (.Call (.Attribute o m apos) [] [] pos) X.env = (do
      let ov ← eval o X.env
      standAt apos.atName
      let (f, first) ← holding [ov] (getMethod ov m pl)
      callWith pos f first (backTo pos (starEach [] X.env)) (backToKw pos (keywordEach [] X.env))) := by rfl) :
    PE X (.Call (.Attribute o m apos) [] [] pos) (tMeth C m sp [] E0 to tNil) := by
  obtain ⟨f, fd, F, M, b⟩ := D.ex
  exact pe_meth0 ho c M F hr b .nil pass0 ht
end
/-! ### heaps -/
theorem same_upd {H : Hp} {p : Addr} {o : HO} (h : H p = none) : Same H (upd H p o) := fun b x e => by
  rw [upd_ne (ne_of_none e h)]
  exact e
theorem same_tr {H H1 : Hp} {p : Addr} {o : HO} (s : Same H H1) (h : H1 p = none) : Same H (upd H1 p o) := s.trans (same_upd h)
/-- a store at what is new -/
theorem same_put {H H1 : Hp} {p : Addr} {o : HO} (s : Same H H1) (h : H p = none) : Same H (upd H1 p o) := fun b x e => by
  rw [upd_ne (ne_of_none e h)]
  exact s b x e
theorem same_sqT {K : PySem.W.Frag} {H H' : Hp} {a : Addr} {xs : List V} (e : Same H H') (h : SqT K H a xs) : SqT K H' a xs := by
  rcases h with (h | ⟨o, h⟩) | h
  · exact .inl (.inl (e _ _ h))
  · exact .inl (.inr ⟨o, e _ _ h⟩)
  · exact .inr h
end Frd
set_option Elab.async false
set_option linter.all false
set_option maxRecDepth 100000
set_option maxHeartbeats 4000000
/-! divisor_of, fraction_of. -/
namespace Frd
open PySem PySem.Spec PyProof.Rows L2
theorem gcd_step {a b : Int} (h : 0 < b) : Int.gcd b (a % b) = Int.gcd a b := by
  have e : a % b = a - b * (a / b) := Int.emod_def a b
  rw [e, Int.gcd_sub_mul_left_right, Int.gcd_comm]
theorem lt_pow_of {a b n : Nat} (h : a ≤ b) (k : b < 2 ^ n) : a < 2 ^ n := Nat.lt_of_le_of_lt h k
section
variable {P : Program} {w : World} {K : PySem.W.Frag} {mg : Str → Option Value} {base : Heap}
theorem scDiv : FnScope ["first", "second"] ["first", "second"] (defScope (topS 2)) := ⟨rfl, rfl, rfl, by decide +kernel, rfl, by decide +kernel, by decide +kernel⟩
/-- divisor_of(a, b), b not below 0 -/
def spDiv : Sp := fun vs H Q _ => ∃ a b : Int, vs = [.int a, .int b] ∧ 0 ≤ b ∧ Q (.int (Int.gcd a b : Int)) H
theorem ok_div {f : Addr} {fd : FuncData} (F : Fun K "divisor_of" "divisor_of" (topS 2) f fd) (mabs : mg "abs" = none) : FnOk P w K mg base CX0 1 f fd ["first", "second"] spDiv := by
  refine F.ok scDiv (fun vs H Q E h => ?_) (fun cdv A outer s H vs Q E hr h => ?_)
  · obtain ⟨a, b, rfl, _⟩ := h
    rfl
  · obtain ⟨a, b, rfl, hb, q⟩ := h
    refine ⟨_, pss_cons (ps_while PassesOwn.never (pt_cmpR op_ne (pv 1) pe_int (nomark _))
        (pss_one (ps_par (i := 0) (j := 1) rfl scDiv.nd rfl rfl (by decide) rfl rfl (pa_cons (pv 1) (pa_cons (pe_op op_mod (pv 0) (pv 1)) pa_nil)) (by rfl))))
      (pss_one (ps_ret (pe_callB call_abs (by rfl) mabs (by decide +kernel) (pa_cons (pv 0) pa_nil)))), ?_⟩
    refine ⟨fun m σ H' => ∃ x y : Int, σ = [some (.int x), some (.int y)] ∧ H' = H ∧ 0 ≤ y ∧ m = y.toNat ∧ Int.gcd x y = Int.gcd a b, ⟨b.toNat, a, b, rfl, rfl, hb, rfl, rfl⟩, ?_⟩
    rintro m σ H' ⟨x, y, rfl, rfl, hy, rfl, eg⟩
    refine ⟨_, rfl, rfl, _, rfl, ?_⟩
    by_cases e : y = 0
    · subst e
      rw [decide_eq_true rfl]
      refine iteF ?_
      refine ⟨_, rfl, x, rfl, ?_⟩
      have e2 : (if x < 0 then -x else x) = (Int.gcd a b : Int) := by
        rw [← eg, Int.gcd_zero_right]
        omega
      show Q (.int (if x < 0 then -x else x)) _
      rw [e2]
      exact q
    · rw [decide_eq_false (fun q => e (V.int.inj q))]
      refine iteT ⟨fun σ' H2 => ∃ x' y' : Int, σ' = [some (.int x'), some (.int y')] ∧ H2 = H' ∧ 0 ≤ y' ∧ y' < y ∧ Int.gcd x' y' = Int.gcd a b, fun σ' H2 ⟨x', y', e1, e2, e3, e4, e5⟩ => ⟨y'.toNat, by omega, x', y', e1, e2, e3, rfl, e5⟩, ?_⟩
      refine ⟨_, rfl, _, rfl, _, rfl, x, y, rfl, rfl, (by show (0 : Int) < y; omega), _, _, rfl, y, x % y, rfl, rfl, Int.emod_nonneg _ e, Int.emod_lt_of_pos _ (by omega), ?_⟩
      rw [gcd_step (by omega), eg]
/-- the tuple of a fraction -/
def frV (f : Int × Int) : HO := .tup [.int f.1, .int f.2]
theorem scFr : FnScope ["top", "bottom", "divisor"] ["top", "bottom"] (defScope (topS 3)) := ⟨rfl, rfl, rfl, by decide +kernel, rfl, by decide +kernel, by decide +kernel⟩
def spFr : Sp := fun vs H Q _ => ∃ n D : Int, vs = [.int n, .int D] ∧ 0 < D ∧ D.natAbs < 2 ^ 9000 ∧ ∀ p, H p = none → Q (.ref p) (upd H p (frV (red n D)))
theorem ok_fr {f : Addr} {fd : FuncData} (F : Fun K "fraction_of" "fraction_of" (topS 3) f fd) (D1 : Dn P w K mg base "divisor_of" 1 ["first", "second"] spDiv) : FnOk P w K mg base CX0 2 f fd ["top", "bottom"] spFr := by
  refine F.ok scFr (fun vs H Q E h => ?_) (fun cdv A outer s H vs Q E hr h => ?_)
  · obtain ⟨a, b, rfl, _⟩ := h
    rfl
  · obtain ⟨n, D, rfl, hD, hz, q⟩ := h
    refine ⟨_, pss_cons (ps_set (i := 2) scFr.nd rfl (.inl rfl) (pe_def D1 hr (by rfl) (pa_cons (pv 0) (pa_cons (pv 1) pa_nil))))
      (pss_cons (ps_if (pt_cmpR op_lt (pv 1) pe_int (nomark _)) (pss_one (ps_set (i := 2) scFr.nd rfl (.inl rfl) (pe_un un_neg (pv 2)))) pss_nil)
      (pss_one (ps_ret (pe_tup (pa_cons (pe_op op_fdivW (pv 0) (pv 2)) (pa_cons (pe_op op_fdivW (pv 1) (pv 2)) pa_nil)))))), ?_⟩
    have g := gcd_pos (n := n) hD
    have gz : CDivW n (Int.gcd n D : Int) := wide_div (b := 9000) g (Nat.lt_of_le_of_lt (by
      have := Int.le_of_dvd hD (Int.gcd_dvd_right n D)
      omega) hz) (by decide) (by decide)
    refine ⟨_, rfl, _, rfl, n, D, rfl, by omega, ?_⟩
    refine ⟨_, rfl, _, _, rfl, rfl, _, rfl, ?_⟩
    rw [decide_eq_false (by omega)]
    refine iteF ?_
    refine ⟨_, rfl, _, rfl, _, _, rfl, rfl, gz, _, rfl, _, rfl, _, _, rfl, rfl, ⟨gz.1, gz.2⟩, ?_⟩
    refine ⟨by show 2 ≤ sizeLine; decide, fun p hp => ?_⟩
    exact q p hp
end
end Frd
set_option Elab.async false
set_option linter.all false
set_option maxRecDepth 100000
set_option maxHeartbeats 4000000
/-! sum_of_fractions, so_often, is_small, _law_plus, _law_half. -/
namespace Frd
open PySem PySem.Spec PyProof.Rows L2
/-- two lists, place by place -/
def All2 {α β : Type} (R : α → β → Prop) (xs : List α) (ys : List β) : Prop := xs.length = ys.length ∧ ∀ (i : Nat) (x : α) (y : β), xs[i]? = some x → ys[i]? = some y → R x y
theorem All2.nil {α β : Type} {R : α → β → Prop} : All2 R [] [] := ⟨rfl, fun i x y h _ => by simp at h⟩
theorem All2.mono {α β : Type} {R S : α → β → Prop} {xs : List α} {ys : List β} (h : All2 R xs ys) (f : ∀ x y, R x y → S x y) : All2 S xs ys := ⟨h.1, fun i x y a b => f x y (h.2 i x y a b)⟩
theorem All2.snoc {α β : Type} {R : α → β → Prop} {xs : List α} {ys : List β} {x : α} {y : β} (h : All2 R xs ys) (r : R x y) : All2 R (xs ++ [x]) (ys ++ [y]) := by
  refine ⟨by simp [h.1], fun i a b ha hb => ?_⟩
  by_cases q : i < xs.length
  · rw [List.getElem?_append_left q] at ha
    rw [List.getElem?_append_left (by rw [← h.1]; exact q)] at hb
    exact h.2 i a b ha hb
  · rw [List.getElem?_append_right (by omega)] at ha
    rw [List.getElem?_append_right (by rw [← h.1]; omega)] at hb
    rw [← h.1] at hb
    by_cases z : i - xs.length = 0
    · rw [z] at ha hb
      have e1 : x = a := Option.some.inj ha
      have e2 : y = b := Option.some.inj hb
      rw [← e1, ← e2]
      exact r
    · obtain ⟨d, hd⟩ : ∃ d, i - xs.length = d + 1 := ⟨i - xs.length - 1, by omega⟩
      rw [hd] at ha
      simp at ha
theorem All2.at {α β : Type} {R : α → β → Prop} {xs : List α} {ys : List β} (h : All2 R xs ys) {i : Nat} {x : α} (hx : xs[i]? = some x) : ∃ y, ys[i]? = some y ∧ R x y := by
  have hl := (List.getElem?_eq_some_iff.mp hx).1
  have hl2 : i < ys.length := by rw [← h.1]; exact hl
  exact ⟨ys[i], List.getElem?_eq_getElem hl2, h.2 i x _ hx (List.getElem?_eq_getElem hl2)⟩
theorem All2.at' {α β : Type} {R : α → β → Prop} {xs : List α} {ys : List β} (h : All2 R xs ys) {i : Nat} {y : β} (hy : ys[i]? = some y) : ∃ x, xs[i]? = some x ∧ R x y := by
  have hl := (List.getElem?_eq_some_iff.mp hy).1
  have hl2 : i < xs.length := by rw [h.1]; exact hl
  exact ⟨xs[i], List.getElem?_eq_getElem hl2, h.2 i _ y (List.getElem?_eq_getElem hl2) hy⟩
/-- an int that is not too great -/
def Bd (n : Int) : Prop := n.natAbs < 2 ^ 4000
theorem bd_mul {i j : Int} (hi : i.natAbs < 2 ^ 4100) (hj : j.natAbs < 2 ^ 4100) : CMulW i j := wide_mul hi hj (by decide) (by decide) (by decide)
theorem Bd.more {i : Int} (h : Bd i) : i.natAbs < 2 ^ 4100 := Nat.lt_trans h (Nat.pow_lt_pow_right (by omega) (by omega))
theorem sum_abs : ∀ (ns : List Int) (b : Nat), (∀ n ∈ ns, n.natAbs ≤ b) → ns.sum.natAbs ≤ ns.length * b
  | [], _, _ => Nat.zero_le _
  | n :: ns, b, h => by
    have a := sum_abs ns b fun m hm => h m (List.mem_cons_of_mem _ hm)
    have c := h n List.mem_cons_self
    have d := Int.natAbs_add_le n ns.sum
    rw [List.sum_cons, List.length_cons, Nat.succ_mul]
    omega
theorem sum_bd {ns : List Int} (hl : ns.length ≤ 64) (h : ∀ n ∈ ns, Bd n) : ns.sum.natAbs < 2 ^ 4100 := by
  have a := sum_abs ns (2 ^ 4000) fun n hn => Nat.le_of_lt (h n hn)
  have b : ns.length * 2 ^ 4000 ≤ 64 * 2 ^ 4000 := Nat.mul_le_mul hl (Nat.le_refl _)
  have c : 64 * 2 ^ 4000 < 2 ^ 4100 := by decide +kernel
  omega
/-- v stands for the fraction f -/
def FrAt (K : PySem.W.Frag) (H : Hp) (v : V) (f : Int × Int) : Prop := ∃ p, v = .ref p ∧ SqT K H p [.int f.1, .int f.2]
theorem FrAt.mono {K : PySem.W.Frag} {H H' : Hp} {v : V} {f : Int × Int} (s : Same H H') (h : FrAt K H v f) : FrAt K H' v f := by
  obtain ⟨p, e, q⟩ := h
  exact ⟨p, e, same_sqT s q⟩
section
variable {P : Program} {w : World} {K : PySem.W.Frag} {mg : Str → Option Value} {base : Heap}
theorem scOft : FnScope ["fraction", "number"] ["fraction", "number"] (defScope (topS 36)) := ⟨rfl, rfl, rfl, by decide +kernel, rfl, by decide +kernel, by decide +kernel⟩
def spOft (K : PySem.W.Frag) : Sp := fun vs H Q _ => ∃ (v : V) (a b k : Int), vs = [v, .int k] ∧ FrAt K H v (a, b) ∧ 0 < b ∧ Bd b ∧ Bd a ∧ Bd k ∧ ∀ p, H p = none → Q (.ref p) (upd H p (frV (red (a * k) b)))
theorem ok_oft {f : Addr} {fd : FuncData} (F : Fun K "so_often" "so_often" (topS 36) f fd) (D1 : Dn P w K mg base "fraction_of" 2 ["top", "bottom"] spFr) : FnOk P w K mg base CX0 3 f fd ["fraction", "number"] (spOft K) := by
  refine F.ok scOft (fun vs H Q E h => ?_) (fun cdv A outer s H vs Q E hr h => ?_)
  · obtain ⟨v, a, b, k, rfl, _⟩ := h
    rfl
  · obtain ⟨v, a, b, k, rfl, ⟨p, rfl, hp⟩, hb, bb, ba, bk, q⟩ := h
    refine ⟨_, pss_one (ps_ret (pe_def D1 hr (by rfl) (pa_cons (pe_op op_mulW (pe_ix ix_tup (pv 0) pe_int (fun _ _ => rfl)) (pv 1)) (pa_cons (pe_ix ix_tup (pv 0) pe_int (fun _ _ => rfl)) pa_nil)))), ?_⟩
    refine ⟨_, rfl, p, _, 0, .int a, rfl, rfl, hp, atI_nat (j := 0) rfl, _, rfl, a, k, rfl, rfl, bd_mul ba.more bk.more, ?_⟩
    refine ⟨_, rfl, p, _, 1, .int b, rfl, rfl, hp, atI_nat (j := 1) rfl, ?_⟩
    exact ⟨a * k, b, rfl, hb, Nat.lt_trans bb (Nat.pow_lt_pow_right (by omega) (by omega)), q⟩
theorem scSml : FnScope ["fraction", "number"] ["fraction", "number"] (defScope (topS 37)) := ⟨rfl, rfl, rfl, by decide +kernel, rfl, by decide +kernel, by decide +kernel⟩
def spSml (K : PySem.W.Frag) : Sp := fun vs H Q _ => ∃ (v : V) (n D k : Int), vs = [v, .int k] ∧ FrAt K H v (red n D) ∧ 0 < D ∧ Bd D ∧ Bd k ∧ Q (.bl (decide (n ≤ k * D))) H
theorem ok_sml {f : Addr} {fd : FuncData} (F : Fun K "is_small" "is_small" (topS 37) f fd) : FnOk P w K mg base CX0 1 f fd ["fraction", "number"] (spSml K) := by
  refine F.ok scSml (fun vs H Q E h => ?_) (fun cdv A outer s H vs Q E hr h => ?_)
  · obtain ⟨v, a, b, k, rfl, _⟩ := h
    rfl
  · obtain ⟨v, n, D, k, rfl, ⟨p, rfl, hp⟩, hD, bD, bk, q⟩ := h
    refine ⟨_, pss_one (ps_ret (pe_cmpR op_le (pe_ix ix_tup (pv 0) pe_int (fun _ _ => rfl)) (pe_op op_mulW (pv 1) (pe_ix ix_tup (pv 0) pe_int (fun _ _ => rfl))) (nomark _))), ?_⟩
    refine ⟨_, rfl, p, _, 0, .int (red n D).1, rfl, rfl, hp, atI_nat (j := 0) rfl, _, rfl, _, rfl, p, _, 1, .int (red n D).2, rfl, rfl, hp, atI_nat (j := 1) rfl, k, (red n D).2, rfl, rfl, ?_, _, _, rfl, rfl, ?_⟩
    · exact bd_mul bk.more (Nat.lt_of_le_of_lt (red_abs2 n D) bD.more)
    · have e : decide ((red n D).1 ≤ k * (red n D).2) = decide (n ≤ k * D) := decide_eq_decide.mpr (red_le hD)
      show Q (.bl (decide ((red n D).1 ≤ k * (red n D).2))) H
      rw [e]
      exact q
theorem scSum : FnScope ["fractions", "top", "bottom", "one", "other"] ["fractions"] (defScope (topS 35)) := ⟨rfl, rfl, rfl, by decide +kernel, rfl, by decide +kernel, by decide +kernel⟩
def spSum (K : PySem.W.Frag) : Sp := fun vs H Q _ => ∃ (a : Addr) (xs : List V) (ns : List Int) (D : Int), vs = [.ref a] ∧ SqL K H a xs ∧ All2 (fun x n => FrAt K H x (red n D)) xs ns ∧ 0 < D ∧ Bd D ∧ (∀ n ∈ ns, Bd n) ∧ ns.length ≤ 64 ∧
  ∀ H' p, Same H H' → H p = none → H' p = some (frV (red ns.sum D)) → Q (.ref p) H'
theorem take_sum {ns : List Int} {i : Nat} {n : Int} (h : ns[i]? = some n) : (ns.take (i + 1)).sum = (ns.take i).sum + n := by
  rw [List.take_add_one, h, List.sum_append]
  simp
theorem ok_sum {f : Addr} {fd : FuncData} (F : Fun K "sum_of_fractions" "sum_of_fractions" (topS 35) f fd) (D1 : Dn P w K mg base "fraction_of" 2 ["top", "bottom"] spFr) : FnOk P w K mg base CX0 3 f fd ["fractions"] (spSum K) := by
  refine F.ok scSum (fun vs H Q E h => ?_) (fun cdv A outer s H vs Q E hr h => ?_)
  · obtain ⟨a, xs, ns, D, rfl, _⟩ := h
    rfl
  · obtain ⟨a, xs, ns, D, rfl, hL, hA, hD, bD, bn, hlen, q⟩ := h
    refine ⟨_, pss_cons (ps_asg (pe_tup (pa_cons pe_int (pa_cons pe_int pa_nil))) (pg_tup rfl (pgs_cons (pg_name (i := 1) scSum.nd rfl (.inl rfl)) (pgs_cons (pg_name (i := 2) scSum.nd rfl (.inl rfl)) pgs_nil))))
      (pss_cons (ps_for PassesOwn.never rfl (pi_list (pv 0)) (pg_tup rfl (pgs_cons (pg_name (i := 3) scSum.nd rfl (.inl rfl)) (pgs_cons (pg_name (i := 4) scSum.nd rfl (.inl rfl)) pgs_nil)))
        (pss_one (ps_asg (pe_def D1 hr (by rfl) (pa_cons (pe_op op_add (pe_op op_mulW (pv 1) (pv 4)) (pe_op op_mulW (pv 3) (pv 2))) (pa_cons (pe_op op_mulW (pv 2) (pv 4)) pa_nil)))
          (pg_tup rfl (pgs_cons (pg_name (i := 1) scSum.nd rfl (.inl rfl)) (pgs_cons (pg_name (i := 2) scSum.nd rfl (.inl rfl)) pgs_nil))))))
      (pss_one (ps_ret (pe_tup (pa_cons (pv 1) (pa_cons (pv 2) pa_nil)))))), ?_⟩
    refine ⟨by show 2 ≤ sizeLine; decide, fun p0 hp0 => ?_⟩
    refine ⟨p0, _, rfl, .inl (.inl upd_same), rfl, _, _, rfl, _, _, rfl, rfl, ?_⟩
    have sm0 : Same H (upd H p0 (.tup [.int 0, .int 1])) := same_upd hp0
    refine ⟨_, rfl, a, rfl, ⟨xs, sm0.seq hL⟩, for_list (K := K) (a := a) (xs := xs) (fun i σ H' => ∃ y3 y4, σ = [some (.ref a), some (.int (red (ns.take i).sum D).1), some (.int (red (ns.take i).sum D).2), y3, y4] ∧ Same H H')
      ⟨none, none, ?_, sm0⟩ (fun i σ H' _ ⟨_, _, _, sm⟩ => sm.seq hL) ?_ ?_⟩
    · have e : red (List.take 0 ns).sum D = (0, 1) := by
        have := red_int (n := 0) hD
        rw [Int.zero_mul] at this
        exact this
      rw [e]
      rfl
    · rintro i x σ H' hx ⟨y3, y4, rfl, sm⟩
      obtain ⟨n, hn, fx⟩ := hA.at hx
      obtain ⟨p, rfl, hp⟩ := fx
      have mem : n ∈ ns := List.mem_of_getElem? hn
      have s1 : ((ns.take i).sum).natAbs < 2 ^ 4100 := sum_bd (by rw [List.length_take]; omega) fun m hm => bn m (List.mem_of_mem_take hm)
      have t1 := Nat.lt_of_le_of_lt (red_abs1 (ns.take i).sum D) s1
      have t2 := Nat.lt_of_le_of_lt (red_abs2 (ns.take i).sum D) bD.more
      have t3 := Nat.lt_of_le_of_lt (red_abs1 n D) (bn n mem).more
      have t4 := Nat.lt_of_le_of_lt (red_abs2 n D) bD.more
      refine ⟨p, _, rfl, same_sqT sm hp, rfl, _, _, rfl, _, _, rfl, rfl, ?_⟩
      refine ⟨_, rfl, _, rfl, _, _, rfl, rfl, bd_mul t1 t4, _, rfl, _, rfl, _, _, rfl, rfl, bd_mul t3 t2, _, _, rfl, rfl, _, rfl, _, rfl, _, _, rfl, rfl, bd_mul t2 t4, ?_⟩
      refine ⟨_, _, rfl, Int.mul_pos (red_pos hD) (red_pos hD), ?_, fun p2 hp2 => ?_⟩
      · have u1 := Nat.lt_of_le_of_lt (red_abs2 (ns.take i).sum D) bD
        have u2 := Nat.lt_of_le_of_lt (red_abs2 n D) bD
        rw [Int.natAbs_mul]
        have := Nat.mul_lt_mul'' u1 u2
        rw [← Nat.pow_add] at this
        exact Nat.lt_trans this (Nat.pow_lt_pow_right (by omega) (by omega))
      · rw [red_add_same hD, ← take_sum hn]
        exact ⟨p2, _, rfl, .inl (.inl upd_same), rfl, _, _, rfl, _, _, rfl, rfl, _, _, rfl, same_tr sm hp2⟩
    · rintro σ H' ⟨y3, y4, rfl, sm⟩
      refine ⟨_, rfl, _, rfl, by show 2 ≤ sizeLine; decide, fun p hp => ?_⟩
      have e : ns.take xs.length = ns := by
        rw [hA.1]
        exact List.take_length
      rw [e]
      exact q _ p (same_tr sm hp) (sm.free hp) upd_same
theorem scPl : FnScope ["_law_one", "_law_two", "_law_top", "_law_bottom", "_law_first", "_law_last"] ["_law_one", "_law_two"] (defScope (topS 52)) := ⟨rfl, rfl, rfl, by decide +kernel, rfl, by decide +kernel, by decide +kernel⟩
def spPl (K : PySem.W.Frag) : Sp := fun vs H Q _ => ∃ (u v : V) (a b c d : Int), vs = [u, v] ∧ FrAt K H u (a, b) ∧ FrAt K H v (c, d) ∧ 0 < b ∧ 0 < d ∧ Bd a ∧ Bd b ∧ Bd c ∧ Bd d ∧ ∀ p, H p = none → Q (.ref p) (upd H p (frV (red (a * d + c * b) (b * d))))
theorem gcd_abs (a b : Int) : Int.gcd (if a < 0 then -a else a) b = Int.gcd a b := by
  split
  · exact Int.neg_gcd
  · rfl
theorem ok_pl {f : Addr} {fd : FuncData} (F : Fun K "_law_plus" "_law_plus" (topS 52) f fd) (mabs : mg "abs" = none) : FnOk P w K mg base CX0 1 f fd ["_law_one", "_law_two"] (spPl K) := by
  refine F.ok scPl (fun vs H Q E h => ?_) (fun cdv A outer s H vs Q E hr h => ?_)
  · obtain ⟨u, v, a, b, c, d, rfl, _⟩ := h
    rfl
  · obtain ⟨u, v, a, b, c, d, rfl, ⟨p, rfl, hp⟩, ⟨r, rfl, hr2⟩, hb, hd, ba, bb, bc, bd, q⟩ := h
    refine ⟨_, pss_cons (ps_par (i := 2) (j := 3) rfl scPl.nd rfl rfl (by decide) rfl rfl
        (pa_cons (pe_op op_add (pe_op op_mulW (pe_ix ix_tup (pv 0) pe_int (fun _ _ => rfl)) (pe_ix ix_tup (pv 1) pe_int (fun _ _ => rfl))) (pe_op op_mulW (pe_ix ix_tup (pv 1) pe_int (fun _ _ => rfl)) (pe_ix ix_tup (pv 0) pe_int (fun _ _ => rfl))))
        (pa_cons (pe_op op_mulW (pe_ix ix_tup (pv 0) pe_int (fun _ _ => rfl)) (pe_ix ix_tup (pv 1) pe_int (fun _ _ => rfl))) pa_nil)) (by rfl))
      (pss_cons (ps_par (i := 4) (j := 5) rfl scPl.nd rfl rfl (by decide) rfl rfl (pa_cons (pe_callB call_abs (by rfl) mabs (by decide +kernel) (pa_cons (pv 2) pa_nil)) (pa_cons (pv 3) pa_nil)) (by rfl))
      (pss_cons (ps_while PassesOwn.never (pt_cmpR op_gt (pv 5) pe_int (nomark _))
        (pss_one (ps_par (i := 4) (j := 5) rfl scPl.nd rfl rfl (by decide) rfl rfl (pa_cons (pv 5) (pa_cons (pe_op op_mod (pv 4) (pv 5)) pa_nil)) (by rfl))))
      (pss_one (ps_ret (pe_tup (pa_cons (pe_op op_fdivW (pv 2) (pv 4)) (pa_cons (pe_op op_fdivW (pv 3) (pv 4)) pa_nil))))))), ?_⟩
    refine ⟨_, rfl, p, _, 0, .int a, rfl, rfl, hp, atI_nat (j := 0) rfl, _, rfl, r, _, 1, .int d, rfl, rfl, hr2, atI_nat (j := 1) rfl, _, _, rfl, rfl, bd_mul ba.more bd.more, ?_⟩
    refine ⟨_, rfl, r, _, 0, .int c, rfl, rfl, hr2, atI_nat (j := 0) rfl, _, rfl, p, _, 1, .int b, rfl, rfl, hp, atI_nat (j := 1) rfl, _, _, rfl, rfl, bd_mul bc.more bb.more, _, _, rfl, rfl, ?_⟩
    refine ⟨_, rfl, p, _, 1, .int b, rfl, rfl, hp, atI_nat (j := 1) rfl, _, rfl, r, _, 1, .int d, rfl, rfl, hr2, atI_nat (j := 1) rfl, _, _, rfl, rfl, bd_mul bb.more bd.more, ?_⟩
    refine ⟨_, _, rfl, ?_⟩
    refine ⟨_, rfl, _, rfl, _, rfl, _, _, rfl, ?_⟩
    have hbd : 0 < b * d := Int.mul_pos hb hd
    obtain ⟨t, ht⟩ : ∃ t, a * d + c * b = t := ⟨_, rfl⟩
    rw [ht] at q
    have bz : (b * d).natAbs < 2 ^ 9000 := by
      rw [Int.natAbs_mul]
      have := Nat.mul_lt_mul'' bb bd
      rw [← Nat.pow_add] at this
      exact Nat.lt_trans this (Nat.pow_lt_pow_right (by omega) (by omega))
    obtain ⟨B, hB⟩ : ∃ B, b * d = B := ⟨_, rfl⟩
    rw [hB] at q hbd bz
    refine ⟨fun m σ H' => ∃ x y : Int, σ = [some (.ref p), some (.ref r), some (.int t), some (.int B), some (.int x), some (.int y)] ∧ H' = H ∧ 0 ≤ x ∧ 0 ≤ y ∧ m = y.toNat ∧ Int.gcd x y = Int.gcd t B, ⟨B.toNat, (if t < 0 then -t else t), B, by rw [← ht, ← hB]; rfl, rfl, by split <;> omega, by omega, rfl, gcd_abs t B⟩, ?_⟩
    rintro m σ H' ⟨x, y, rfl, rfl, hx, hy, rfl, eg⟩
    refine ⟨_, rfl, _, _, rfl, rfl, _, rfl, ?_⟩
    by_cases e : 0 < y
    · rw [decide_eq_true e]
      refine iteT ⟨fun σ' H2 => ∃ x' y' : Int, σ' = [some (.ref p), some (.ref r), some (.int t), some (.int B), some (.int x'), some (.int y')] ∧ H2 = H' ∧ 0 ≤ x' ∧ 0 ≤ y' ∧ y' < y ∧ Int.gcd x' y' = Int.gcd t B, fun σ' H2 ⟨x', y', e1, e2, e0, e3, e4, e5⟩ => ⟨y'.toNat, by omega, x', y', e1, e2, e0, e3, rfl, e5⟩, ?_⟩
      refine ⟨_, rfl, _, rfl, _, rfl, x, y, rfl, rfl, (by show (0 : Int) < y; omega), _, _, rfl, y, x % y, rfl, rfl, hy, Int.emod_nonneg _ (by omega), Int.emod_lt_of_pos _ e, ?_⟩
      rw [gcd_step e, eg]
    · rw [decide_eq_false e]
      refine iteF ?_
      have y0 : y = 0 := by omega
      subst y0
      have ex : x = (Int.gcd t B : Int) := by
        rw [← eg, Int.gcd_zero_right]
        omega
      subst ex
      have g := gcd_pos (n := t) hbd
      have gz : CDivW t (Int.gcd t B : Int) := wide_div (b := 9000) g (Nat.lt_of_le_of_lt (by
        have := Int.le_of_dvd hbd (Int.gcd_dvd_right t B)
        omega) bz) (by decide) (by decide)
      refine ⟨_, rfl, _, rfl, _, _, rfl, rfl, gz, _, rfl, _, rfl, _, _, rfl, rfl, ⟨gz.1, gz.2⟩, by show 2 ≤ sizeLine; decide, fun p2 hp2 => ?_⟩
      exact q p2 hp2
theorem scHf : FnScope ["_law_one", "_law_two", "_law_top", "_law_bottom"] ["_law_one", "_law_two"] (defScope (topS 58)) := ⟨rfl, rfl, rfl, by decide +kernel, rfl, by decide +kernel, by decide +kernel⟩
/-- bounds for a half: its parts together -/
def Bh (n : Int) : Prop := n.natAbs < 2 ^ 1990
theorem Bh.bd {n : Int} (h : Bh n) : Bd n := Nat.lt_trans h (Nat.pow_lt_pow_right (by omega) (by omega))
def spHf (K : PySem.W.Frag) : Sp := fun vs H Q _ => ∃ (u v : V) (a b c d : Int), vs = [u, v] ∧ FrAt K H u (a, b) ∧ FrAt K H v (c, d) ∧ 0 < b ∧ 0 < d ∧ Bh a ∧ Bh b ∧ Bh c ∧ Bh d ∧
  ∀ H' p, Same H H' → H p = none → H' p = some (frV (red (a * d + c * b) (2 * (b * d)))) → Q (.ref p) H'
theorem bh_mul {a b : Int} (ha : Bh a) (hb : Bh b) : (a * b).natAbs < 2 ^ 3980 := by
  rw [Int.natAbs_mul]
  have := Nat.mul_lt_mul'' ha hb
  rw [← Nat.pow_add] at this
  exact this
theorem ok_hf {f : Addr} {fd : FuncData} (F : Fun K "_law_half" "_law_half" (topS 58) f fd) (D1 : Dn P w K mg base "_law_plus" 1 ["_law_one", "_law_two"] (spPl K)) : FnOk P w K mg base CX0 2 f fd ["_law_one", "_law_two"] (spHf K) := by
  refine F.ok scHf (fun vs H Q E h => ?_) (fun cdv A outer s H vs Q E hr h => ?_)
  · obtain ⟨u, v, a, b, c, d, rfl, _⟩ := h
    rfl
  · obtain ⟨u, v, a, b, c, d, rfl, ha, hc, hb, hd, ba, bb, bc, bd, q⟩ := h
    refine ⟨_, pss_cons (ps_asg (pe_def D1 hr (by rfl) (pa_cons (pv 0) (pa_cons (pv 1) pa_nil))) (pg_tup rfl (pgs_cons (pg_name (i := 2) scHf.nd rfl (.inl rfl)) (pgs_cons (pg_name (i := 3) scHf.nd rfl (.inl rfl)) pgs_nil))))
      (pss_one (ps_ret (pe_def D1 hr (by rfl) (pa_cons (pe_tup (pa_cons (pv 2) (pa_cons (pe_op op_mul pe_int (pv 3)) pa_nil))) (pa_cons (pe_tup (pa_cons pe_int (pa_cons pe_int pa_nil))) pa_nil))))), ?_⟩
    refine ⟨_, rfl, _, rfl, u, v, a, b, c, d, rfl, ha, hc, hb, hd, ba.bd, bb.bd, bc.bd, bd.bd, fun p hp => ?_⟩
    refine ⟨p, _, rfl, .inl (.inl upd_same), rfl, _, _, rfl, _, _, rfl, rfl, ?_⟩
    have hB : 0 < b * d := Int.mul_pos hb hd
    have zB := bh_mul bb bd
    have zT : (a * d + c * b).natAbs < 2 ^ 3990 := by
      have x1 := bh_mul ba bd
      have x2 := bh_mul bc bb
      have x3 := Int.natAbs_add_le (a * d) (c * b)
      have x4 : 2 ^ 3980 + 2 ^ 3980 < 2 ^ 3990 := by decide +kernel
      omega
    generalize hT : a * d + c * b = T at *
    generalize b * d = B at *
    refine ⟨_, rfl, _, rfl, _, _, rfl, rfl, .inl ⟨by decide, by decide⟩, by show 2 ≤ sizeLine; decide, fun p2 hp2 => ?_⟩
    refine ⟨by show 2 ≤ sizeLine; decide, fun p3 hp3 => ?_⟩
    have n2 : p2 ≠ p3 := fun e => by
      rw [← e, upd_same] at hp3
      cases hp3
    have pos := red_pos (n := T) hB
    have c1 : (red T B).1.natAbs < 2 ^ 4000 := Nat.lt_of_le_of_lt (red_abs1 T B) (Nat.lt_trans zT (Nat.pow_lt_pow_right (by omega) (by omega)))
    have c2 : (2 * (red T B).2).natAbs < 2 ^ 4000 := by
      have y1 := red_abs2 T B
      have y2 : 2 * 2 ^ 3980 < 2 ^ 4000 := by decide +kernel
      have y3 : (2 * (red T B).2).natAbs = 2 * (red T B).2.natAbs := by
        rw [Int.natAbs_mul]
        rfl
      rw [y3]
      exact Nat.lt_of_le_of_lt (Nat.mul_le_mul (Nat.le_refl 2) (Nat.le_of_lt (Nat.lt_of_le_of_lt y1 zB))) y2
    refine ⟨_, _, (red T B).1, 2 * (red T B).2, 0, 1, rfl, ⟨p2, rfl, .inl (.inl ?_)⟩, ⟨p3, rfl, .inl (.inl upd_same)⟩, by omega, by omega, c1, c2, by unfold Bd; decide, by unfold Bd; decide, fun p4 hp4 => ?_⟩
    · rw [upd_ne n2, upd_same]
    · have s1 : Same H (upd H p (frV (red T B))) := same_upd hp
      refine q _ p4 (same_tr (same_tr (same_tr s1 hp2) hp3) hp4) ((same_tr (same_tr s1 hp2) hp3).free hp4) ?_
      rw [upd_same]
      have e : red ((red T B).1 * 1 + 0 * (2 * (red T B).2)) (2 * (red T B).2 * 1) = red T (2 * B) := by
        refine red_congr (by omega) (by omega) ?_
        have x := red_cross (n := T) (D := B)
        generalize (red T B).1 = y at *
        generalize (red T B).2 = z at *
        rw [Int.mul_one, Int.zero_mul, Int.add_zero, Int.mul_one]
        have x1 : y * (2 * B) = 2 * (y * B) := by grind
        rw [x1, x]
        grind
      rw [e]
end
end Frd
set_option Elab.async false
set_option linter.all false
set_option maxRecDepth 100000
set_option maxHeartbeats 4000000
/-! Comprehensions whose turns leave what is tracked as it is; tests among them; small helps. -/
namespace Frd
open PySem PySem.Spec PyProof.Rows L2
theorem same_sqL {K : PySem.W.Frag} {H H' : Hp} {a : Addr} {xs : List V} (e : Same H H') (h : SqL K H a xs) : SqL K H' a xs := e.seq h
theorem atI_end {α : Type} {xs : List α} {v : α} (h : xs[xs.length - 1]? = some v) : atI xs (-1) = some v := by
  have hl := (List.getElem?_eq_some_iff.mp h).1
  unfold atI ixN
  rw [if_neg (by decide), if_pos (by omega)]
  show xs[(-1 + (xs.length : Int)).toNat]? = some v
  rw [show (-1 + (xs.length : Int)).toNat = xs.length - 1 by omega]
  exact h
/-! rules with the written part named (in a comprehension's block it must not be read off the block's context) -/
section
variable {X : Cx} {K : PySem.W.Frag} {e : Expr} {f : Str} {ta : TE} {pos : Pos}
theorem pe_fldB (he : PE X e ta) (hb : attributeBase e f X.env (eval e X.env) = eval e X.env) (hK : X.K = K) : PE X (.Attribute e f pos) (tFld K ta f) := hK ▸ pe_fld he hb
theorem ix_listB (hK : X.K = K) : IxR X (rIxL K) := hK ▸ ix_list
theorem ix_tupB (hK : X.K = K) : IxR X (rIxT K) := hK ▸ ix_tup
end
/-- all that was tracked but D is as it was -/
def SameX (D : Addr) (H H' : Hp) : Prop := ∀ b o, b ≠ D → H b = some o → H' b = some o
theorem Same.x {H H' : Hp} (s : Same H H') (D : Addr) : SameX D H H' := fun b o _ e => s b o e
theorem sameX_upd {D : Addr} {H : Hp} {o : HO} : SameX D H (upd H D o) := fun b u hb e => by
  rw [upd_ne hb]
  exact e
theorem SameX.trans {D : Addr} {H H1 H2 : Hp} (a : SameX D H H1) (b : SameX D H1 H2) : SameX D H H2 := fun c o hc e => b c o hc (a c o hc e)
section
variable {J : It} {n : Nat} {G : Hp → Prop} {Y : Nat → Hp → V → Hp → Prop}
/-- [e for target in iter], each turn gives some value of which R holds, and leaves what is tracked -/
theorem lc_map (w : Walk J n G Y) {g : TG} {te : TE} {vs : List Nat} {σ : L2.St} {H1 : Hp} {D : Addr} {Qd : Hp → Prop} (R : Nat → Hp → V → Prop) (mono : ∀ i H H' y acc, H D = some (.lst acc) → SameX D H H' → R i H y → R i H' y) (hn : n < sizeLine) (hD : H1 D = none)
    (hG : ∀ H', Same H1 H' → G H')
    (hY : ∀ i H x H', i < n → Y i H x H' → Same H H')
    (hs : ∀ (i : Nat) (x : V) (H H' : Hp) (acc : List V) (Z : V → Hp → Prop), i < n → Same H1 H' → H' D = some (.lst acc) → Y i H x H' → (∀ y H4, Same H' H4 → R i H4 y → Z y H4) → g x (wipe σ vs) H' fun σ2 H2 => wipe σ2 vs = wipe σ vs ∧ te σ2 H2 Z)
    (hd : ∀ H ys, Same H1 H → H D = some (.lst ys) → ys.length = n → (∀ (i : Nat) (y : V), ys[i]? = some y → R i H y) → Qd H)
    (gm : ∀ x σ H (A B : L2.St → Hp → Prop), (∀ σ' H', A σ' H' → B σ' H') → g x σ H A → g x σ H B) :
    ∃ W : Nat → Nat → Hp → Prop, (∃ m, W 0 m (upd H1 D (.lst []))) ∧ ∀ i m H, W i m H →
      (J.stop i H ∧ Qd H) ∨ (J.go i H ∧ ∃ Nx : Hp → Prop, (∀ H', Nx H' → ∃ m', m' < m ∧ W (i + 1) m' H') ∧ ∀ x H', J.yld i H x H' → g x (wipe σ vs) H' fun σ2 H2 => wipe σ2 vs = wipe σ vs ∧ tYes σ2 H2 fun b H3 =>
        if b = true then te σ2 H3 fun y H4 => ∃ acc, H4 D = some (.lst acc) ∧ acc.length < sizeLine ∧ Nx (upd H4 D (.lst (acc ++ [y]))) else Nx H3) := by
  refine lc_it w (fun i H => Same H1 H ∧ ∃ ys, H D = some (.lst ys) ∧ ys.length = i ∧ ∀ (j : Nat) (y : V), ys[j]? = some y → R j H y) ⟨same_upd hD, [], upd_same, rfl, fun j y e => by simp at e⟩ (fun i H _ ⟨s, _⟩ => hG H s) (fun i x H H' hi ⟨sm, ys, hy, hl, hr⟩ hx => ?_) (fun H ⟨sm, ys, hy, hl, hr⟩ => hd H ys sm hy hl hr)
  have s0 := hY i H x H' hi hx
  have imp : ∀ (σ2 : L2.St) (H2 : Hp) (Z : V → Hp → Prop) (Z2 : Hp → Prop), te σ2 H2 Z → (tYes σ2 H2 fun b H3 => if b = true then te σ2 H3 Z else Z2 H3) := fun σ2 H2 Z Z2 q => by
    show (if true = true then te σ2 H2 Z else Z2 H2)
    rw [if_pos rfl]
    exact q
  refine gm _ _ _ _ _ (fun σ2 H2 q2 => ⟨q2.1, imp _ _ _ _ q2.2⟩) (hs i x H H' ys _ hi (sm.trans s0) (s0 _ _ hy) hx ?_)
  intro y H4 s4 r4
  have e4 : H4 D = some (.lst ys) := s4 _ _ (s0 _ _ hy)
  refine ⟨ys, e4, by omega, same_put (sm.trans (s0.trans s4)) hD, ys ++ [y], upd_same, by simp [hl], fun j z hz => ?_⟩
  by_cases q : j < ys.length
  · rw [List.getElem?_append_left q] at hz
    exact mono j _ _ z ys hy (SameX.trans (Same.x (s0.trans s4) D) sameX_upd) (hr j z hz)
  · rw [List.getElem?_append_right (by omega)] at hz
    by_cases q2 : j - ys.length = 0
    · rw [q2] at hz
      have ez : y = z := Option.some.inj hz
      have ej : j = i := by omega
      subst ez
      subst ej
      exact mono j _ _ y ys e4 sameX_upd r4
    · obtain ⟨d, hd'⟩ : ∃ d, j - ys.length = d + 1 := ⟨j - ys.length - 1, by omega⟩
      rw [hd'] at hz
      simp at hz
theorem gm_name {i : Nat} : ∀ x σ H (A B : L2.St → Hp → Prop), (∀ σ' H', A σ' H' → B σ' H') → gName i x σ H A → gName i x σ H B := fun _ _ _ _ _ h q => h _ _ q
theorem gm_pair {K : PySem.W.Frag} {i j k : Nat} : ∀ x σ H (A B : L2.St → Hp → Prop), (∀ σ' H', A σ' H' → B σ' H') → gTup K k (gCons (gName i) (gCons (gName j) gNil)) x σ H A → gTup K k (gCons (gName i) (gCons (gName j) gNil)) x σ H B := by
  rintro x σ H A B h ⟨a, xs, e1, e2, e3, v, r, e4, v2, r2, e5, e6, q⟩
  exact ⟨a, xs, e1, e2, e3, v, r, e4, v2, r2, e5, e6, h _ _ q⟩
end
/-- what the turns of the common walks leave -/
theorem y_at {xs : List V} : ∀ i H x H', YAt xs i H x H' → Same H H' := fun _ _ _ _ ⟨e, _⟩ => e ▸ Same.refl _
theorem y_fn {f : Nat → V} : ∀ i H x H', YFn f i H x H' → Same H H' := fun _ _ _ _ ⟨e, _⟩ => e ▸ Same.refl _
theorem y_pair {f g : Nat → Option V} : ∀ i H x H', YPair f g i H x H' → Same H H' := fun _ _ _ _ ⟨_, _, _, _, n, e, _⟩ => e ▸ same_upd n
/-- a list whose items are told one by one -/
theorem list_of {ys : List V} {n : Nat} {f : Nat → V} (hl : ys.length = n) (h : ∀ (i : Nat) (y : V), ys[i]? = some y → y = f i) : ys = (List.range n).map f := by
  refine List.ext_getElem? fun i => ?_
  by_cases q : i < n
  · have e : ys[i]? = some ys[i] := List.getElem?_eq_getElem (by omega)
    rw [e, h i _ e, List.getElem?_map, List.getElem?_range q]
    rfl
  · rw [List.getElem?_eq_none (by omega), List.getElem?_eq_none (by simp; omega)]
end Frd
set_option Elab.async false
set_option linter.all false
set_option maxRecDepth 100000
set_option maxHeartbeats 4000000
/-! The class Program: its object, the methods that only read. -/
namespace Frd
open PySem PySem.Spec PyProof.Rows L2
/-- the fields of a program's object -/
def pf (w h : Nat) (g : Addr) (d : Int) (b : Addr) (k : Bool) : List (Str × V) :=
  [("width", .int w), ("height", .int h), ("grid", .ref g), ("bottom", .int d), ("basis", .ref b), ("is_bounded", .bl k)]
section
variable {w h : Nat} {g b : Addr} {d : Int} {k : Bool}
theorem pf_w : (pf w h g d b k).lookup ("width" : Str) = some (.int w) := by kernel_rfl
theorem pf_h : (pf w h g d b k).lookup ("height" : Str) = some (.int h) := by kernel_rfl
theorem pf_g : (pf w h g d b k).lookup ("grid" : Str) = some (.ref g) := by kernel_rfl
theorem pf_d : (pf w h g d b k).lookup ("bottom" : Str) = some (.int d) := by kernel_rfl
theorem pf_b : (pf w h g d b k).lookup ("basis" : Str) = some (.ref b) := by kernel_rfl
theorem pf_k : (pf w h g d b k).lookup ("is_bounded" : Str) = some (.bl k) := by kernel_rfl
theorem pf_no {m : Str} (h1 : (m == ("width" : Str)) = false) (h2 : (m == ("height" : Str)) = false) (h3 : (m == ("grid" : Str)) = false) (h4 : (m == ("bottom" : Str)) = false) (h5 : (m == ("basis" : Str)) = false) (h6 : (m == ("is_bounded" : Str)) = false) :
    (pf w h g d b k).lookup m = none := by
  unfold pf
  rw [List.lookup_cons, h1, List.lookup_cons, h2, List.lookup_cons, h3, List.lookup_cons, h4, List.lookup_cons, h5, List.lookup_cons, h6]
  rfl
theorem pf_put_d (e : Int) : putF "bottom" (.int e) (pf w h g d b k) = pf w h g e b k := by kernel_rfl
theorem pf_put_k (e : Bool) : putF "is_bounded" (.bl e) (pf w h g d b k) = pf w h g d b e := by kernel_rfl
theorem pf_len : (pf w h g d b k).length < 1000 := by
  show 6 < 1000
  decide
end
structure TxP (K : PySem.W.Frag) (C : Addr) : Prop where
  cl : Cls K C
  nw : NoAttr K C "width"
  nh : NoAttr K C "height"
  ng : NoAttr K C "grid"
  nd : NoAttr K C "bottom"
  nb : NoAttr K C "basis"
  nk : NoAttr K C "is_bounded"
/-- row i of the tableau, the basis, as they lie -/
def rowV (L : Lp) (bs : Nat → Nat) (i : Nat) : List V := (List.range (L.n + 1)).map fun j => V.int (L.T bs i j)
def basV (L : Lp) (bs : Nat → Nat) : List V := (List.range L.h).map fun k => V.int ((bs k : Nat) : Int)
theorem rowV_len {L : Lp} {bs : Nat → Nat} {i : Nat} : (rowV L bs i).length = L.n + 1 := by
  unfold rowV
  rw [List.length_map, List.length_range]
theorem rowV_at {L : Lp} {bs : Nat → Nat} {i j : Nat} (h : j < L.n + 1) : (rowV L bs i)[j]? = some (.int (L.T bs i j)) := by
  unfold rowV
  rw [List.getElem?_map, List.getElem?_range h]
  rfl
theorem basV_len {L : Lp} {bs : Nat → Nat} : (basV L bs).length = L.h := by
  unfold basV
  rw [List.length_map, List.length_range]
theorem basV_at {L : Lp} {bs : Nat → Nat} {k : Nat} (h : k < L.h) : (basV L bs)[k]? = some (.int ((bs k : Nat) : Int)) := by
  unfold basV
  rw [List.getElem?_map, List.getElem?_range h]
  rfl
/-- behind the heap H0 a program's object stands at p: L's tableau of the basis bs -/
structure PAt (C : Addr) (H0 H : Hp) (p : Addr) (L : Lp) (bs : Nat → Nat) (bd : Bool) : Prop where
  same : Same H0 H
  np : H0 p = none
  ex : ∃ (dx g b : Addr) (rs : List Addr), H0 g = none ∧ H0 b = none ∧ H p = some (.ins C dx (pf L.w L.h g (L.D bs) b bd)) ∧ H g = some (.lst (rs.map V.ref)) ∧ rs.length = L.h + 1 ∧
    (∀ i r, rs[i]? = some r → H r = some (.lst (rowV L bs i))) ∧ H b = some (.lst (basV L bs))
theorem PAt.mono {C : Addr} {H0 H H' : Hp} {p : Addr} {L : Lp} {bs : Nat → Nat} {bd : Bool} (h : PAt C H0 H p L bs bd) (s : Same H H') : PAt C H0 H' p L bs bd := by
  obtain ⟨sm, np, dx, g, b, rs, g0, b0, hp, hg, hl, hr, hb⟩ := h
  exact ⟨sm.trans s, np, dx, g, b, rs, g0, b0, s _ _ hp, s _ _ hg, hl, fun i r e => s _ _ (hr i r e), s _ _ hb⟩
/-- .. seen from an earlier heap -/
theorem PAt.back {C : Addr} {H00 H0 H : Hp} {p : Addr} {L : Lp} {bs : Nat → Nat} {bd : Bool} (h : PAt C H0 H p L bs bd) (s : Same H00 H0) : PAt C H00 H p L bs bd := by
  obtain ⟨sm, np, dx, g, b, rs, g0, b0, hp, hg, hl, hr, hb⟩ := h
  exact ⟨s.trans sm, s.free np, dx, g, b, rs, s.free g0, s.free b0, hp, hg, hl, hr, hb⟩
theorem ref_at {rs : List Addr} {i : Nat} {r : Addr} (h : rs[i]? = some r) : (rs.map V.ref)[i]? = some (.ref r) := by
  rw [List.getElem?_map, h]
  rfl
theorem last_ref {rs : List Addr} {n : Nat} {r : Addr} (hl : rs.length = n + 1) (h : rs[n]? = some r) : atI (rs.map V.ref) (-1) = some (.ref r) := by
  refine atI_end ?_
  rw [List.length_map, hl]
  exact ref_at h
theorem last_row {L : Lp} {bs : Nat → Nat} {i : Nat} : atI (rowV L bs i) (-1) = some (.int (L.T bs i L.n)) := by
  refine atI_end ?_
  rw [rowV_len]
  exact rowV_at (by omega)
theorem small_n {L : Lp} (hh : L.h ≤ 15) (hw : L.w ≤ 15) : L.n ≤ 30 := by
  unfold Lp.n
  omega
section
variable {P : Program} {w : World} {K : PySem.W.Frag} {mg : Str → Option Value} {base : Heap} {C : Addr}
theorem scGr : FnScope ["self"] ["self"] (defScope (metS 4 4)) := ⟨rfl, rfl, rfl, by decide +kernel, rfl, by decide +kernel, by decide +kernel⟩
def spGr (C : Addr) : Sp := fun vs H Q _ => ∃ (p : Addr) (H0 : Hp) (L : Lp) (bs : Nat → Nat) (bd : Bool), vs = [.ref p] ∧ PAt C H0 H p L bs bd ∧ Q (.int (L.T bs L.h L.n)) H
theorem ok_gr {f : Addr} {fd : FuncData} (F : Fun K "greatest" "Program.greatest" (metS 4 4) f fd) (T : TxP K C) : FnOk P w K mg base CX0 1 f fd ["self"] (spGr C) := by
  refine F.ok scGr (fun vs H Q E h => ?_) (fun cdv A outer s H vs Q E hr h => ?_)
  · obtain ⟨p, H0, L, bs, bd, rfl, _⟩ := h
    rfl
  · obtain ⟨p, H0, L, bs, bd, rfl, ⟨sm, np, dx, g, b, rs, g0, b0, hp, hg, hl, hr', hb⟩, q⟩ := h
    refine ⟨_, pss_one (ps_ret (pe_ix ix_list (pe_ix ix_list (pe_fld (pv 0) rfl) (pe_un un_neg pe_int) (fun _ _ => rfl)) (pe_un un_neg pe_int) (fun _ _ => rfl))), ?_⟩
    obtain ⟨r, er⟩ : ∃ r, rs[L.h]? = some r := ⟨rs[L.h], List.getElem?_eq_getElem (by omega)⟩
    refine ⟨_, rfl, p, C, dx, _, _, rfl, hp, T.cl, T.ng, pf_g, 1, rfl, g, _, -1, _, rfl, rfl, SqL.of hg, last_ref hl er, 1, rfl, r, _, -1, _, rfl, rfl, SqL.of (hr' _ _ er), last_row, ?_⟩
    exact q
theorem scPr : FnScope ["self"] ["self"] (defScope (metS 4 6)) := ⟨rfl, rfl, rfl, by decide +kernel, rfl, by decide +kernel, by decide +kernel⟩
/-- the prices, as they lie -/
def priV (L : Lp) (bs : Nat → Nat) : List V := (List.range L.h).map fun c => V.int (L.price bs c)
def spPr (C : Addr) : Sp := fun vs H Q _ => ∃ (p : Addr) (H0 : Hp) (L : Lp) (bs : Nat → Nat) (bd : Bool), vs = [.ref p] ∧ PAt C H0 H p L bs bd ∧ L.h ≤ 15 ∧ L.w ≤ 15 ∧ ∀ a, H a = none → Q (.ref a) (upd H a (.lst (priV L bs)))
theorem cut_price {L : Lp} {bs : Nat → Nat} : cutV (rowV L bs L.h) (some (L.w : Int)) (some ((L.w : Int) + (L.h : Int))) = priV L bs := by
  unfold cutV
  rw [show HT.sIx (rowV L bs L.h).length 0 (some (L.w : Int)) = min L.w (rowV L bs L.h).length from HT.sIx_nat _ 0 _, rowV_len]
  rw [show HT.sIx (L.n + 1) (L.n + 1) (some ((L.w : Int) + (L.h : Int))) = min (L.w + L.h) (L.n + 1) by
    rw [← Int.natCast_add]
    exact HT.sIx_nat _ _ _]
  rw [show min L.w (L.n + 1) = L.w by unfold Lp.n; omega, show min (L.w + L.h) (L.n + 1) = L.w + L.h by unfold Lp.n; omega]
  unfold rowV priV
  refine List.ext_getElem? fun i => ?_
  rw [List.getElem?_take, List.getElem?_map]
  by_cases q : i < L.h
  · rw [if_pos (by omega), List.getElem?_drop, List.getElem?_map, List.getElem?_range (by unfold Lp.n; omega), List.getElem?_range q]
    rfl
  · rw [if_neg (by omega), List.getElem?_eq_none (by rw [List.length_range]; omega)]
    rfl
theorem ok_pr {f : Addr} {fd : FuncData} (F : Fun K "prices" "Program.prices" (metS 4 6) f fd) (T : TxP K C) : FnOk P w K mg base CX0 1 f fd ["self"] (spPr C) := by
  refine F.ok scPr (fun vs H Q E h => ?_) (fun cdv A outer s H vs Q E hr h => ?_)
  · obtain ⟨p, H0, L, bs, bd, rfl, _⟩ := h
    rfl
  · obtain ⟨p, H0, L, bs, bd, rfl, ⟨sm, np, dx, g, b, rs, g0, b0, hp, hg, hl, hr', hb⟩, hh, hw, q⟩ := h
    refine ⟨_, pss_one (ps_ret (pe_slice sl_list (pe_ix ix_list (pe_fld (pv 0) rfl) (pe_un un_neg pe_int) (fun _ _ => rfl)) (po_some (pe_fld (pv 0) rfl)) (po_some (pe_op op_add (pe_fld (pv 0) rfl) (pe_fld (pv 0) rfl))))), ?_⟩
    obtain ⟨r, er⟩ : ∃ r, rs[L.h]? = some r := ⟨rs[L.h], List.getElem?_eq_getElem (by omega)⟩
    refine ⟨_, rfl, p, C, dx, _, _, rfl, hp, T.cl, T.ng, pf_g, 1, rfl, g, _, -1, _, rfl, rfl, SqL.of hg, last_ref hl er, ?_⟩
    refine ⟨_, rfl, p, C, dx, _, _, rfl, hp, T.cl, T.nw, pf_w, (L.w : Int), rfl, ?_⟩
    refine ⟨_, rfl, p, C, dx, _, _, rfl, hp, T.cl, T.nw, pf_w, _, rfl, p, C, dx, _, _, rfl, hp, T.cl, T.nh, pf_h, _, _, rfl, rfl, _, rfl, ?_⟩
    refine ⟨r, _, rfl, SqL.of (hr' _ _ er), fun a ha => ?_⟩
    rw [cut_price]
    exact q a ha
theorem scEn : FnScope ["self", "column"] ["self"] (defScope (metS 4 1)) := ⟨rfl, rfl, rfl, by decide +kernel, rfl, by decide +kernel, by decide +kernel⟩
def spEn (C : Addr) : Sp := fun vs H Q _ => ∃ (p : Addr) (H0 : Hp) (L : Lp) (bs : Nat → Nat) (bd : Bool), vs = [.ref p] ∧ PAt C H0 H p L bs bd ∧ L.h ≤ 15 ∧ L.w ≤ 15 ∧
  (∀ s : Nat, s < L.n → L.T bs L.h s < 0 → (∀ j, j < s → 0 ≤ L.T bs L.h j) → Q (.int (s : Int)) H) ∧ ((∀ j, j < L.n → 0 ≤ L.T bs L.h j) → Q .non H)
theorem ok_en {f : Addr} {fd : FuncData} (F : Fun K "entering" "Program.entering" (metS 4 1) f fd) (T : TxP K C) (mr : mg "range" = none) : FnOk P w K mg base CX0 1 f fd ["self"] (spEn C) := by
  refine F.ok scEn (fun vs H Q E h => ?_) (fun cdv A outer s H vs Q E hr h => ?_)
  · obtain ⟨p, H0, L, bs, bd, rfl, _⟩ := h
    rfl
  · obtain ⟨p, H0, L, bs, bd, rfl, ⟨sm, np, dx, g, b, rs, g0, b0, hp, hg, hl, hr', hb⟩, hh, hw, q1, q2⟩ := h
    refine ⟨_, pss_cons (ps_for PassesOwn.never rfl (pi_range1 rfl mr (pa_cons (pe_op op_add (pe_fld (pv 0) rfl) (pe_fld (pv 0) rfl)) pa_nil)) (pg_name (i := 1) scEn.nd rfl (.inl rfl))
        (pss_one (ps_if (pt_cmpR op_lt (pe_ix ix_list (pe_ix ix_list (pe_fld (pv 0) rfl) (pe_un un_neg pe_int) (fun _ _ => rfl)) (pv 1) (fun _ _ => rfl)) pe_int (nomark _)) (pss_one (ps_ret (pv 1))) pss_nil)))
      (pss_one (ps_ret pe_non)), ?_⟩
    obtain ⟨r, er⟩ : ∃ r, rs[L.h]? = some r := ⟨rs[L.h], List.getElem?_eq_getElem (by omega)⟩
    have hn := small_n hh hw
    refine ⟨_, rfl, p, C, dx, _, _, rfl, hp, T.cl, T.nw, pf_w, _, rfl, p, C, dx, _, _, rfl, hp, T.cl, T.nh, pf_h, _, _, rfl, rfl, (L.w : Int) + (L.h : Int), rfl, by omega, by omega, ?_⟩
    rw [show ((L.w : Int) + (L.h : Int)).toNat = L.n by unfold Lp.n; omega]
    refine for_range (lo := 0) (n := L.n) (fun i σ H' => (∃ y, σ = [some (.ref p), y]) ∧ H' = H ∧ ∀ j, j < i → 0 ≤ L.T bs L.h j) ⟨⟨none, rfl⟩, rfl, fun j hj => absurd hj (Nat.not_lt_zero _)⟩ ?_ ?_
    · rintro i σ H' hi ⟨⟨y, rfl⟩, rfl, hlow⟩
      refine ⟨_, rfl, p, C, dx, _, _, rfl, hp, T.cl, T.ng, pf_g, 1, rfl, g, _, -1, _, rfl, rfl, SqL.of hg, last_ref hl er, _, rfl, r, _, _, .int (L.T bs L.h i), rfl, rfl, SqL.of (hr' _ _ er), ?_, _, _, rfl, rfl, _, rfl, ?_⟩
      · rw [Int.zero_add]
        exact atI_nat (rowV_at (by omega))
      · refine ite2 (fun e => ?_) (fun e => ?_)
        · refine ⟨_, rfl, ?_⟩
          rw [Int.zero_add]
          exact q1 i hi (of_decide_eq_true e) hlow
        · refine ⟨⟨_, rfl⟩, rfl, fun j hj => ?_⟩
          by_cases z : j = i
          · subst z
            have e' : ¬ L.T bs L.h j < 0 := fun w => e (decide_eq_true w)
            omega
          · exact hlow j (by omega)
    · rintro σ H' ⟨⟨y, rfl⟩, rfl, hlow⟩
      exact q2 hlow
theorem scNu : FnScope ["self", "found", "spot", "column"] ["self"] (defScope (metS 4 5)) := ⟨rfl, rfl, rfl, by decide +kernel, rfl, by decide +kernel, by decide +kernel⟩
def numV (L : Lp) (bs : Nat → Nat) : List V := (List.range L.w).map fun j => V.int (L.num bs j)
def spNu (C : Addr) : Sp := fun vs H Q _ => ∃ (p : Addr) (H0 : Hp) (L : Lp) (bs : Nat → Nat) (bd : Bool), vs = [.ref p] ∧ PAt C H0 H p L bs bd ∧ L.h ≤ 15 ∧ L.w ≤ 15 ∧
  ∀ H' a, Same H H' → H a = none → H' a = some (.lst (numV L bs)) → Q (.ref a) H'
theorem ok_nu {f : Addr} {fd : FuncData} (F : Fun K "numbers" "Program.numbers" (metS 4 5) f fd) (T : TxP K C) (me : mg "enumerate" = none) : FnOk P w K mg base CX0 1 f fd ["self"] (spNu C) := by
  refine F.ok scNu (fun vs H Q E h => ?_) (fun cdv A outer s H vs Q E hr h => ?_)
  · obtain ⟨p, H0, L, bs, bd, rfl, _⟩ := h
    rfl
  · obtain ⟨p, H0, L, bs, bd, rfl, ⟨sm, np, dx, g, b, rs, g0, b0, hp, hg, hl, hr', hb⟩, hh, hw, q⟩ := h
    refine ⟨_, pss_cons (ps_set (i := 1) scNu.nd rfl (.inl rfl) (pe_op op_rep (pe_lst (pa_cons pe_int pa_nil)) (pe_fld (pv 0) rfl)))
      (pss_cons (ps_for PassesOwn.never rfl (pi_enum (by rfl) me (pa_cons (pe_fld (pv 0) rfl) pa_nil)) (pg_tup rfl (pgs_cons (pg_name (i := 2) scNu.nd rfl (.inl rfl)) (pgs_cons (pg_name (i := 3) scNu.nd rfl (.inl rfl)) pgs_nil)))
        (pss_one (ps_if (pt_cmpR op_lt (pv 3) (pe_fld (pv 0) rfl) (nomark _))
          (pss_one (ps_asg (pe_ix ix_list (pe_ix ix_list (pe_fld (pv 0) rfl) (pv 2) (fun _ _ => rfl)) (pe_un un_neg pe_int) (fun _ _ => rfl)) (pg_sub (pv 1) (pv 3) set_list))) pss_nil)))
      (pss_one (ps_ret (pv 1)))), ?_⟩
    have hn := small_n hh hw
    refine ⟨by show 1 ≤ sizeLine; decide, fun t ht => ?_⟩
    have s1 : Same H (upd H t (.lst [V.int 0])) := same_upd ht
    refine ⟨_, rfl, p, C, dx, _, _, rfl, s1 _ _ hp, T.cl, T.nw, pf_w, t, (L.w : Int), _, rfl, rfl, upd_same, by omega, by omega, ?_, fun a ha => ?_⟩
    · show 1 * (L.w : Int).toNat ≤ sizeLine
      exact Nat.le_of_lt (small1000 (by omega))
    have ha0 : H a = none := s1.free ha
    have s2 : Same H (upd (upd H t (.lst [V.int 0])) a (.lst (List.replicate (L.w : Int).toNat [V.int 0]).flatten)) := same_tr s1 ha
    have hpa : p ≠ a := ne_of_none hp ha0
    refine ⟨_, rfl, p, C, dx, _, _, rfl, s2 _ _ hp, T.cl, T.nb, pf_b, b, basV L bs, rfl, SqL.of (s2 _ _ hb), ?_⟩
    refine for_it walk_enum (fun i σ H' => (∃ y2 y3, σ = [some (.ref p), some (.ref a), y2, y3]) ∧ Same H H' ∧ H' a = some (.lst ((List.range L.w).map fun j => V.int (L.numK bs j i)))) ⟨⟨none, none, rfl⟩, s2, ?_⟩ (fun i σ H' _ ⟨_, sm', _⟩ => SqL.of (sm' _ _ hb)) ?_ ?_
    · rw [upd_same]
      congr 2
      refine (list_of (by rw [List.length_flatten]; simp) fun i y hy => ?_)
      have hm := List.mem_of_getElem? hy
      rw [List.mem_flatten] at hm
      obtain ⟨l, h1, h2⟩ := hm
      have := (List.mem_replicate.mp h1).2
      subst this
      exact List.mem_singleton.mp h2
    · rintro i x σ H1 H2 hi ⟨⟨y2, y3, rfl⟩, sm1, hl1⟩ ⟨t2, x1, x2, rfl, nt, rfl, e1, e2⟩
      rw [basV_len] at hi
      have ex1 : V.int ((i : Nat) : Int) = x1 := Option.some.inj e1
      have ex2 : x2 = .int ((bs i : Nat) : Int) := Option.some.inj (e2.symm.trans (basV_at hi))
      subst ex1
      subst ex2
      have sm2 : Same H (upd H1 t2 (.tup [.int (i : Int), .int ((bs i : Nat) : Int)])) := same_tr sm1 nt
      have hat : a ≠ t2 := ne_of_none hl1 nt
      refine ⟨t2, _, rfl, SqT.of upd_same, rfl, _, _, rfl, _, _, rfl, rfl, ?_⟩
      refine ⟨_, rfl, _, rfl, p, C, dx, _, _, rfl, sm2 _ _ hp, T.cl, T.nw, pf_w, _, _, rfl, rfl, _, rfl, ite2 (fun e => ?_) (fun e => ?_)⟩
      · have hlt : bs i < L.w := by
          have := of_decide_eq_true e
          omega
        obtain ⟨r, er⟩ : ∃ r, rs[i]? = some r := ⟨rs[i], List.getElem?_eq_getElem (by omega)⟩
        refine ⟨_, rfl, p, C, dx, _, _, rfl, sm2 _ _ hp, T.cl, T.ng, pf_g, _, rfl, g, _, _, .ref r, rfl, rfl, SqL.of (sm2 _ _ hg), atI_nat (ref_at er), 1, rfl, r, _, -1, _, rfl, rfl, SqL.of (sm2 _ _ (hr' _ _ er)), last_row, ?_⟩
        refine ⟨_, rfl, _, rfl, a, _, _, bs i, rfl, rfl, by rw [upd_ne hat]; exact hl1, ?_, ?_⟩
        · unfold ixN
          rw [if_pos (by omega), List.length_map, List.length_range, if_pos (by omega), Int.toNat_natCast]
        · refine ⟨⟨_, _, rfl⟩, same_put sm2 ha0, ?_⟩
          rw [upd_same]
          congr 2
          refine list_of (by rw [List.length_set, List.length_map, List.length_range]) fun j y hy => ?_
          rw [List.getElem?_set] at hy
          by_cases q2 : bs i = j
          · subst q2
            rw [if_pos rfl, List.length_map, List.length_range, if_pos hlt] at hy
            have := Option.some.inj hy
            rw [← this]
            unfold Lp.numK
            rw [if_pos rfl]
          · rw [if_neg q2, List.getElem?_map] at hy
            unfold Lp.numK
            rw [if_neg q2]
            by_cases q3 : j < L.w
            · rw [List.getElem?_range q3] at hy
              exact (Option.some.inj hy).symm
            · rw [List.getElem?_eq_none (by rw [List.length_range]; omega)] at hy
              cases hy
      · have hge : ¬ bs i < L.w := fun z => e (decide_eq_true (by omega))
        refine ⟨⟨_, _, rfl⟩, sm2, ?_⟩
        rw [upd_ne hat, hl1]
        congr 2
        refine List.map_congr_left fun j hj => ?_
        have hj' : j < L.w := List.mem_range.mp hj
        show V.int _ = V.int (L.numK bs j (i + 1))
        unfold Lp.numK
        rw [if_neg (by omega)]
        cases i <;> rfl
    · rintro σ H' ⟨⟨y2, y3, rfl⟩, sm', hl'⟩
      refine ⟨_, rfl, q H' a sm' ha0 ?_⟩
      rw [hl', basV_len]
      rfl
end
end Frd
set_option Elab.async false
set_option linter.all false
set_option maxRecDepth 100000
set_option maxHeartbeats 4000000
/-! Program.exchange, Program.step. -/
namespace Frd
open PySem PySem.Spec PyProof.Rows L2
theorem row_ne_ref {L : Lp} {bs : Nat → Nat} {i : Nat} {rs : List Addr} : HO.lst (rowV L bs i) ≠ HO.lst (rs.map V.ref) := fun e => by
  injection e with e1
  have a := rowV_at (L := L) (bs := bs) (i := i) (j := 0) (by omega)
  rw [e1, List.getElem?_map] at a
  cases q : rs[0]? with
  | none =>
    rw [q] at a
    cases a
  | some r =>
    rw [q] at a
    cases a
theorem bas_ne_ref {L : Lp} {bs : Nat → Nat} {rs : List Addr} (hl : rs.length = L.h + 1) : HO.lst (basV L bs) ≠ HO.lst (rs.map V.ref) := fun e => by
  injection e with e1
  have := congrArg List.length e1
  rw [basV_len, List.length_map, hl] at this
  omega
theorem row_ne_bas {L : Lp} {bs b2 : Nat → Nat} {i : Nat} : HO.lst (rowV L bs i) ≠ HO.lst (basV L b2) := fun e => by
  injection e with e1
  have := congrArg List.length e1
  rw [rowV_len, basV_len] at this
  unfold Lp.n at this
  omega
theorem ix_nat {n i : Nat} (h : i < n) : ixN n (i : Int) = some i := by
  unfold ixN
  rw [if_pos (by omega), if_pos (by omega), Int.toNat_natCast]
theorem rowV_put {L : Lp} {bs : Nat → Nat} {r s : Nat} (hr : r < L.h) : rowV L (put bs r s) r = rowV L bs r := by
  unfold rowV
  exact List.map_congr_left fun j _ => by rw [Lp.T_put_same hr]
theorem basV_put {L : Lp} {bs : Nat → Nat} {r s : Nat} (hr : r < L.h) : (basV L bs).set r (.int (s : Int)) = basV L (put bs r s) := by
  unfold basV
  refine list_of (by rw [List.length_set, List.length_map, List.length_range]) fun j y hy => ?_
  rw [List.getElem?_set] at hy
  by_cases q : r = j
  · subst q
    rw [if_pos rfl, List.length_map, List.length_range, if_pos hr] at hy
    rw [put_same]
    exact (Option.some.inj hy).symm
  · rw [if_neg q, List.getElem?_map] at hy
    rw [put_ne (Ne.symm q)]
    by_cases q3 : j < L.h
    · rw [List.getElem?_range q3] at hy
      exact (Option.some.inj hy).symm
    · rw [List.getElem?_eq_none (by rw [List.length_range]; omega)] at hy
      cases hy
theorem T_lt {L : Lp} {bs : Nat → Nat} (S : L.Small 100) (k j : Nat) : (L.T bs k j).natAbs < 2 ^ 4100 := Nat.lt_of_le_of_lt (Lp.T_abs S k j) (Nat.pow_lt_pow_right (by omega) (by omega))
theorem D_div {L : Lp} {bs : Nat → Nat} (S : L.Small 100) (G : L.Good bs) (i : Int) : CDivW i (L.D bs) :=
  wide_div (b := 9000) G.pos (Nat.lt_of_le_of_lt (Lp.D_abs S) (Nat.pow_lt_pow_right (by omega) (by omega))) (by decide) (by decide)
section
variable {P : Program} {w : World} {K : PySem.W.Frag} {mg : Str → Option Value} {base : Heap} {C : Addr}
theorem scEx : FnScope ["self", "spot", "column", "pivot", "source", "place", "row", "factor", "one", "other"] ["self", "spot", "column"] (defScope (metS 4 3)) := ⟨rfl, rfl, rfl, by decide +kernel, rfl, by decide +kernel, by decide +kernel⟩
def spEx (C : Addr) : Sp := fun vs H Q _ => ∃ (p : Addr) (H0 : Hp) (L : Lp) (bs : Nat → Nat) (bd : Bool) (r s : Nat), vs = [.ref p, .int (r : Int), .int (s : Int)] ∧ PAt C H0 H p L bs bd ∧ L.Small 100 ∧ L.w ≤ 15 ∧ L.Good bs ∧ r < L.h ∧ s < L.n ∧
  ∀ H', PAt C H0 H' p L (put bs r s) bd → Q .non H'
theorem ok_ex {f : Addr} {fd : FuncData} (F : Fun K "exchange" "Program.exchange" (metS 4 3) f fd) (T : TxP K C) (me : mg "enumerate" = none) (ml : mg "list" = none) (mz : mg "zip" = none) : FnOk P w K mg base CX0 1 f fd ["self", "spot", "column"] (spEx C) := by
  refine F.ok scEx (fun vs H Q E h => ?_) (fun cdv A outer sh H vs Q E hr h => ?_)
  · obtain ⟨p, H0, L, bs, bd, r, s, rfl, _⟩ := h
    rfl
  · obtain ⟨p, H0, L, bs, bd, r, s, rfl, ⟨sm, np, dx, g, b, rs, g0, b0, hp, hg, hl, hr', hb⟩, S, hw, G, hrh, hsn, q⟩ := h
    have nd := scEx.nd
    refine ⟨_, pss_cons (ps_asg (pe_tup (pa_cons (pe_ix ix_list (pe_ix ix_list (pe_fld (pv 0) rfl) (pv 1) (fun _ _ => rfl)) (pv 2) (fun _ _ => rfl)) (pa_cons (pe_ix ix_list (pe_fld (pv 0) rfl) (pv 1) (fun _ _ => rfl)) pa_nil)))
        (pg_tup rfl (pgs_cons (pg_name (i := 3) nd rfl (.inr rfl)) (pgs_cons (pg_name (i := 4) nd rfl (.inl rfl)) pgs_nil))))
      (pss_cons (ps_for PassesOwn.never rfl (pi_enum (by rfl) me (pa_cons (pe_callTy call_list_of (by rfl) ml (by decide +kernel) (pa_cons (pe_fld (pv 0) rfl) pa_nil)) pa_nil)) (pg_tup rfl (pgs_cons (pg_name (i := 5) nd rfl (.inl rfl)) (pgs_cons (pg_name (i := 6) nd rfl (.inl rfl)) pgs_nil)))
        (pss_one (ps_if (pt_cmpR op_ne (pv 5) (pv 1) (nomark _))
          (pss_cons (ps_set (i := 7) nd rfl (.inr rfl) (pe_ix ix_list (pv 6) (pv 2) (fun _ _ => rfl)))
          (pss_one (ps_asg (pe_lc (own := [("one", 8), ("other", 9)]) (g := gTup K 2 (gCons (gName 8) (gCons (gName 9) gNil))) (tt := tYes) rfl nd (pi_zip (by rfl) mz (pa_cons (pv 6) (pa_cons (pv 4) pa_nil)))
              (blkOk_by (N := ["self", "spot", "column", "pivot", "source", "place", "row", "factor", "one", "other"]) (sc := defScope (metS 4 3)) (by decide +kernel))
              (fun _ _ _ _ _ => pg_tup rfl (pgs_cons (pg_name (i := 8) nd rfl (Or.inl rfl)) (pgs_cons (pg_name (i := 9) nd rfl (Or.inl rfl)) pgs_nil))) (fun _ _ _ _ _ => pts_nil)
              (fun _ _ _ _ _ => pe_op op_fdivW (pe_op op_sub (pe_op op_mulW (pv 8) (pv 3)) (pe_op op_mulW (pv 7) (pv 9))) (pe_fldB (K := K) (pv 0) rfl rfl)))
            (pg_sub (pe_fld (pv 0) rfl) (pv 5) set_list)))) pss_nil)))
      (pss_cons (ps_fld (pv 0) (pv 3) rfl)
      (pss_one (ps_asg (pv 2) (pg_sub (pe_fld (pv 0) rfl) (pv 1) set_list))))), ?_⟩
    have hn : L.n ≤ 30 := small_n S.h hw
    obtain ⟨q0, eq0⟩ : ∃ q0, rs[r]? = some q0 := ⟨rs[r], List.getElem?_eq_getElem (by omega)⟩
    have hq0 := hr' _ _ eq0
    refine ⟨_, rfl, p, C, dx, _, _, rfl, hp, T.cl, T.ng, pf_g, _, rfl, g, _, _, .ref q0, rfl, rfl, SqL.of hg, atI_nat (ref_at eq0), _, rfl, q0, _, _, .int (L.T bs r s), rfl, rfl, SqL.of hq0, atI_nat (rowV_at (by omega)), ?_⟩
    refine ⟨_, rfl, p, C, dx, _, _, rfl, hp, T.cl, T.ng, pf_g, _, rfl, g, _, _, .ref q0, rfl, rfl, SqL.of hg, atI_nat (ref_at eq0), by show 2 ≤ sizeLine; decide, fun t ht => ?_⟩
    refine ⟨t, _, rfl, SqT.of upd_same, rfl, _, _, rfl, _, _, rfl, rfl, ?_⟩
    have s1 : Same H (upd H t (.tup [.int (L.T bs r s), .ref q0])) := same_upd ht
    -- list(self.grid)
    refine ⟨_, rfl, p, C, dx, _, _, rfl, s1 _ _ hp, T.cl, T.ng, pf_g, g, rs.map V.ref, rfl, .inl (SqL.of (s1 _ _ hg)), fun l hl0 => ?_⟩
    have s2 : Same H (upd (upd H t (.tup [.int (L.T bs r s), .ref q0])) l (.lst (rs.map V.ref))) := same_tr s1 hl0
    have lg : l ≠ g := fun e => by
      have := s1 _ _ hg
      rw [e, this] at hl0
      cases hl0
    refine ⟨l, rs.map V.ref, rfl, SqL.of upd_same, ?_⟩
    have pg : p ≠ g := ne_of hp hg (by intro z; cases z)
    have bg : b ≠ g := ne_of hb hg (bas_ne_ref hl)
    have rg : ∀ i a, rs[i]? = some a → a ≠ g := fun i a e => ne_of (hr' i a e) hg row_ne_ref
    refine for_it walk_enum (fun i σ H' => (∃ y5 y6 y7 y8 y9, σ = [some (.ref p), some (.int (r : Int)), some (.int (s : Int)), some (.int (L.T bs r s)), some (.ref q0), y5, y6, y7, y8, y9]) ∧ SameX g H H' ∧ H' l = some (.lst (rs.map V.ref)) ∧
        ∃ rs' : List Addr, H' g = some (.lst (rs'.map V.ref)) ∧ rs'.length = L.h + 1 ∧ ∀ k a, rs'[k]? = some a → if k < i then H' a = some (.lst (rowV L (put bs r s) k)) ∧ a ≠ g else rs[k]? = some a)
      ⟨⟨none, none, none, none, none, rfl⟩, Same.x s2 g, upd_same, rs, s2 _ _ hg, hl, fun k a e => by rw [if_neg (Nat.not_lt_zero _)]; exact e⟩ (fun i σ H' _ ⟨_, _, hl', _⟩ => SqL.of hl') ?_ ?_
    · rintro i x σ H1 H2 hi ⟨⟨y5, y6, y7, y8, y9, rfl⟩, sx, hl1, rs', hg1, hl2, hrow⟩ ⟨t2, x1, x2, rfl, nt, rfl, e1, e2⟩
      rw [List.length_map, hl] at hi
      obtain ⟨qi, eqi⟩ : ∃ qi, rs[i]? = some qi := ⟨rs[i], List.getElem?_eq_getElem (by omega)⟩
      have ex1 : V.int ((i : Nat) : Int) = x1 := Option.some.inj e1
      have ex2 : x2 = .ref qi := Option.some.inj (e2.symm.trans (ref_at eqi))
      subst ex1
      subst ex2
      have hqi := sx _ _ (rg i qi eqi) (hr' i qi eqi)
      have hq0' := sx _ _ (rg r q0 eq0) hq0
      have sT : Same H1 (upd H1 t2 (.tup [.int (i : Int), .ref qi])) := same_upd nt
      refine ⟨t2, _, rfl, SqT.of upd_same, rfl, _, _, rfl, _, _, rfl, rfl, ?_⟩
      refine ⟨_, rfl, _, rfl, rfl, _, rfl, ?_⟩
      by_cases eir : i = r
      · subst eir
        rw [decide_eq_true rfl]
        refine iteF ?_
        refine ⟨⟨_, _, _, _, _, rfl⟩, sx.trans (Same.x sT g), sT _ _ hl1, rs', sT _ _ hg1, hl2, fun k a e => ?_⟩
        have z := hrow k a e
        by_cases c1 : k < i
        · rw [if_pos c1] at z
          rw [if_pos (by omega)]
          exact ⟨sT _ _ z.1, z.2⟩
        · rw [if_neg c1] at z
          by_cases c2 : k = i
          · subst c2
            rw [if_pos (by omega), rowV_put hrh]
            exact ⟨sT _ _ (sx _ _ (rg k a z) (hr' k a z)), rg k a z⟩
          · rw [if_neg (by omega)]
            exact z
      · rw [decide_eq_false (fun z => eir (by have := V.int.inj z; omega))]
        refine iteT ?_
        -- factor = row[column]
        refine ⟨_, rfl, _, rfl, qi, _, _, .int (L.T bs i s), rfl, rfl, SqL.of (sT _ _ hqi), atI_nat (rowV_at (by omega)), ?_⟩
        -- the comprehension
        refine ⟨_, rfl, _, rfl, qi, q0, rowV L bs i, rowV L bs r, rfl, SqL.of (sT _ _ hqi), SqL.of (sT _ _ hq0'), fun D hD => ?_⟩
        have hpT := sT _ _ (sx _ _ pg hp)
        refine lc_map (walk_zip (K := K) (a := qi) (b := q0) (xs := rowV L bs i) (ys := rowV L bs r) (n := L.n + 1) (by rw [rowV_len, rowV_len]; omega)) (fun j _ y => y = .int (L.T (put bs r s) i j)) (fun _ _ _ _ _ _ _ e => e) (small1000 (by omega)) hD
          (fun H' s' => ⟨SqL.of (s' _ _ (sT _ _ hqi)), SqL.of (s' _ _ (sT _ _ hq0'))⟩) (fun j H x H' _ => y_pair j H x H') ?_ ?_ gm_pair
        · rintro j x H3 H4 acc Z hj sm4 hacc ⟨t3, x3, x4, rfl, nt3, rfl, e3, e4⟩ hZ
          have ex3 : x3 = .int (L.T bs i j) := Option.some.inj (e3.symm.trans (rowV_at hj))
          have ex4 : x4 = .int (L.T bs r j) := Option.some.inj (e4.symm.trans (rowV_at hj))
          subst ex3
          subst ex4
          refine ⟨t3, _, rfl, SqT.of upd_same, rfl, _, _, rfl, _, _, rfl, rfl, rfl, ?_⟩
          refine ⟨_, rfl, _, rfl, _, _, rfl, rfl, bd_mul (T_lt S i j) (T_lt S r s), _, rfl, _, rfl, _, _, rfl, rfl, bd_mul (T_lt S i s) (T_lt S r j), _, _, rfl, rfl, ?_⟩
          refine ⟨_, rfl, p, C, dx, _, _, rfl, sm4 _ _ hpT, T.cl, T.nd, pf_d, _, _, rfl, rfl, D_div S G _, ?_⟩
          refine hZ _ _ (Same.refl _) ?_
          show V.int ((L.T bs i j * L.T bs r s - L.T bs i s * L.T bs r j) / L.D bs) = _
          rw [Lp.T_div G hrh (by omega) eir]
        · intro H3 ys sm3 hys hly hv
          have eys : ys = rowV L (put bs r s) i := list_of hly hv
          subst eys
          have hg3 := sm3 _ _ (sT _ _ hg1)
          have hDg : D ≠ g := fun e => by
            rw [e, sT _ _ hg1] at hD
            cases hD
          refine ⟨_, rfl, p, C, dx, _, _, rfl, sm3 _ _ hpT, T.cl, T.ng, pf_g, _, rfl, g, _, _, i, rfl, rfl, hg3, ix_nat (by rw [List.length_map]; omega), ?_⟩
          have sx3 : SameX g H H3 := SameX.trans (SameX.trans sx (Same.x sT g)) (Same.x sm3 g)
          refine ⟨⟨_, _, _, _, _, rfl⟩, SameX.trans sx3 sameX_upd, ?_, rs'.set i D, ?_, by rw [List.length_set]; exact hl2, fun k a e => ?_⟩
          · rw [upd_ne lg]
            exact sm3 _ _ (sT _ _ hl1)
          · rw [upd_same, List.map_set]
          · rw [List.getElem?_set] at e
            by_cases c2 : i = k
            · subst c2
              rw [if_pos rfl, if_pos (by omega)] at e
              have ea : D = a := Option.some.inj e
              subst ea
              rw [if_pos (by omega), upd_ne hDg]
              exact ⟨hys, hDg⟩
            · rw [if_neg c2] at e
              have z := hrow k a e
              by_cases c1 : k < i
              · rw [if_pos c1] at z
                rw [if_pos (by omega), upd_ne z.2]
                exact ⟨sm3 _ _ (sT _ _ z.1), z.2⟩
              · rw [if_neg c1] at z
                rw [if_neg (by omega)]
                exact z
    · rintro σ H1 ⟨⟨y5, y6, y7, y8, y9, rfl⟩, sx, hl1, rs', hg1, hl2, hrow⟩
      rw [List.length_map, hl] at hrow
      have hp1 := sx _ _ pg hp
      have hb1 := sx _ _ bg hb
      refine ⟨_, rfl, _, rfl, p, C, dx, _, rfl, hp1, T.cl, T.nd, pf_len, ?_⟩
      have bp : b ≠ p := ne_of hb hp (by intro z; cases z)
      have gp : g ≠ p := ne_of hg hp (by intro z; cases z)
      refine ⟨_, rfl, _, rfl, p, C, dx, _, _, rfl, upd_same, T.cl, T.nb, by rw [pf_put_d]; exact pf_b, _, rfl, b, _, _, r, rfl, rfl, by rw [upd_ne bp]; exact hb1, ix_nat (by rw [basV_len]; exact hrh), ?_⟩
      refine q _ ⟨fun c o e => ?_, np, dx, g, b, rs', g0, b0, ?_, ?_, hl2, fun k a e => ?_, ?_⟩
      · have c1 : c ≠ b := ne_of_none e b0
        have c2 : c ≠ p := ne_of_none e np
        have c3 : c ≠ g := ne_of_none e g0
        rw [upd_ne c1, upd_ne c2]
        exact sx _ _ c3 (sm _ _ e)
      · rw [upd_ne bp.symm, upd_same, pf_put_d, Lp.D_put hrh]
      · rw [upd_ne bg.symm, upd_ne gp]
        exact hg1
      · have hk : k < L.h + 1 := by
          have := (List.getElem?_eq_some_iff.mp e).1
          omega
        have z := hrow k a e
        rw [if_pos hk] at z
        have a1 : a ≠ p := ne_of z.1 hp1 (by intro w; cases w)
        have a2 : a ≠ b := ne_of z.1 hb1 row_ne_bas
        rw [upd_ne a2, upd_ne a1]
        exact z.1
      · rw [upd_same, basV_put hrh]
end
end Frd
set_option Elab.async false
set_option linter.all false
set_option maxRecDepth 100000
set_option maxHeartbeats 4000000
/-! Program.step. -/
namespace Frd
open PySem PySem.Spec PyProof.Rows L2
/-- x/d before y/e, or the same and first *)-/
def Lex (x d : Int) (b : Nat) (y e : Int) (c : Nat) : Prop := x * e < y * d ∨ (x * e = y * d ∧ b ≤ c)
theorem Lex.trans {x1 d1 x2 d2 x3 d3 : Int} {b1 b2 b3 : Nat} (h1 : 0 < d1) (h2 : 0 < d2) (h3 : 0 < d3) (p : Lex x1 d1 b1 x2 d2 b2) (q : Lex x2 d2 b2 x3 d3 b3) : Lex x1 d1 b1 x3 d3 b3 := by
  rcases p with p | ⟨p, pb⟩
  · rcases q with q | ⟨q, qb⟩
    · exact .inl (Lp.ratio_lt h1 h2 h3 p (Int.le_of_lt q))
    · exact .inl (Lp.ratio_lt h1 h2 h3 p (Int.le_of_eq q))
  · rcases q with q | ⟨q, qb⟩
    · exact .inl (Lp.ratio_lt' h1 h2 h3 (Int.le_of_eq p) q)
    · exact .inr ⟨Lp.ratio_eq h1 h2 h3 p q, Nat.le_trans pb qb⟩
section
variable {P : Program} {w : World} {K : PySem.W.Frag} {mg : Str → Option Value} {base : Heap} {C : Addr}
theorem scSt : FnScope ["self", "column", "best", "spot", "factor", "left", "right"] ["self", "column"] (defScope (metS 4 2)) := ⟨rfl, rfl, rfl, by decide +kernel, rfl, by decide +kernel, by decide +kernel⟩
def spSt (C : Addr) : Sp := fun vs H Q _ => ∃ (p : Addr) (H0 : Hp) (L : Lp) (bs : Nat → Nat) (s : Nat), vs = [.ref p, .int (s : Int)] ∧ PAt C H0 H p L bs true ∧ L.Small 100 ∧ L.w ≤ 15 ∧ L.Good bs ∧ s < L.n ∧ L.T bs L.h s < 0 ∧ (∀ j, j < s → 0 ≤ L.T bs L.h j) ∧
  (∀ r H', L.Step bs s r → PAt C H0 H' p L (put bs r s) true → Q .non H') ∧ ((∀ k, k < L.h → L.T bs k s ≤ 0) → ∀ H', PAt C H0 H' p L bs false → Q .non H')
/-- the best row so far -/
def BestIs (L : Lp) (bs : Nat → Nat) (s i : Nat) (v : V) : Prop := (v = .non ∧ ∀ k, k < i → L.T bs k s ≤ 0) ∨
  ∃ b : Nat, b < i ∧ v = .int (b : Int) ∧ 0 < L.T bs b s ∧ ∀ k, k < i → 0 < L.T bs k s → Lex (L.T bs b L.n) (L.T bs b s) (bs b) (L.T bs k L.n) (L.T bs k s) (bs k)
theorem ok_st {f : Addr} {fd : FuncData} (F : Fun K "step" "Program.step" (metS 4 2) f fd) (T : TxP K C) (mr : mg "range" = none) (MX : Mn P w K mg base C "exchange" 1 ["self", "spot", "column"] (spEx C)) : FnOk P w K mg base CX0 2 f fd ["self", "column"] (spSt C) := by
  refine F.ok scSt (fun vs H Q E h => ?_) (fun cdv A outer sh H vs Q E hr h => ?_)
  · obtain ⟨p, H0, L, bs, s, rfl, _⟩ := h
    rfl
  · obtain ⟨p, H0, L, bs, s, rfl, PA0, S, hw, G, hsn, hneg, hfirst, q1, q2⟩ := h
    have nd := scSt.nd
    refine ⟨_, pss_cons (ps_set (i := 2) nd rfl (.inl rfl) pe_non)
      (pss_cons (ps_for PassesOwn.never rfl (pi_range1 rfl mr (pa_cons (pe_fld (pv 0) rfl) pa_nil)) (pg_name (i := 3) nd rfl (.inl rfl))
        (pss_cons (ps_set (i := 4) nd rfl (.inl rfl) (pe_ix ix_list (pe_ix ix_list (pe_fld (pv 0) rfl) (pv 3) (fun _ _ => rfl)) (pv 1) (fun _ _ => rfl)))
        (pss_one (ps_if (pt_cmpR op_gt (pv 4) pe_int (nomark _))
          (pss_one (ps_if (pt_cmpR op_isN (pv 2) pe_non (nomark _)) (pss_one (ps_set (i := 2) nd rfl (.inl rfl) (pv 3)))
            (pss_cons (ps_set (i := 5) nd rfl (.inl rfl) (pe_op op_mulW (pe_ix ix_list (pe_ix ix_list (pe_fld (pv 0) rfl) (pv 3) (fun _ _ => rfl)) (pe_un un_neg pe_int) (fun _ _ => rfl)) (pe_ix ix_list (pe_ix ix_list (pe_fld (pv 0) rfl) (pv 2) (fun _ _ => rfl)) (pv 1) (fun _ _ => rfl))))
            (pss_cons (ps_set (i := 6) nd rfl (.inl rfl) (pe_op op_mulW (pe_ix ix_list (pe_ix ix_list (pe_fld (pv 0) rfl) (pv 2) (fun _ _ => rfl)) (pe_un un_neg pe_int) (fun _ _ => rfl)) (pv 4)))
            (pss_one (ps_if (PW.pt (pw_or (pt_cmpR op_lt (pv 5) (pv 6) (nomark _)) (pw_or1 (PW.pt (pw_and (pt_cmpR op_eq (pv 5) (pv 6) (nomark _)) (pw_and1 (pt_cmpR op_lt (pe_ix ix_list (pe_fld (pv 0) rfl) (pv 3) (fun _ _ => rfl)) (pe_ix ix_list (pe_fld (pv 0) rfl) (pv 2) (fun _ _ => rfl)) (nomark _))))))))
              (pss_one (ps_set (i := 2) nd rfl (.inl rfl) (pv 3))) pss_nil)))))) pss_nil))))
      (pss_one (ps_if (pt_cmpR op_isN (pv 2) pe_non (nomark _)) (pss_one (ps_fld (pv 0) pe_bl rfl))
        (pss_one (ps_expr (pe_mth T.cl MX hr (pv 0) (pa_cons (pv 2) (pa_cons (pv 1) pa_nil)))))))), ?_⟩
    have hn : L.n ≤ 30 := small_n S.h hw
    obtain ⟨sm, np, dx, g, b, rs, g0, b0, hp, hg, hl, hr', hb⟩ := id PA0
    refine ⟨_, rfl, p, C, dx, _, _, rfl, hp, T.cl, T.nh, pf_h, (L.h : Int), rfl, by have := S.h; omega, by have := S.h; omega, ?_⟩
    rw [Int.toNat_natCast]
    refine for_range (lo := 0) (n := L.h) (fun i σ H' => (∃ v y3 y4 y5 y6, σ = [some (.ref p), some (.int (s : Int)), some v, y3, y4, y5, y6] ∧ BestIs L bs s i v) ∧ H' = H) ⟨⟨.non, none, none, none, none, rfl, .inl ⟨rfl, fun k hk => absurd hk (Nat.not_lt_zero _)⟩⟩, rfl⟩ ?_ ?_
    · rintro i σ H' hi ⟨⟨v, y3, y4, y5, y6, rfl, hB⟩, rfl⟩
      rw [Int.zero_add]
      obtain ⟨ri, eri⟩ : ∃ ri, rs[i]? = some ri := ⟨rs[i], List.getElem?_eq_getElem (by omega)⟩
      have hri := hr' _ _ eri
      refine ⟨_, rfl, p, C, dx, _, _, rfl, hp, T.cl, T.ng, pf_g, _, rfl, g, _, _, .ref ri, rfl, rfl, SqL.of hg, atI_nat (ref_at eri), _, rfl, ri, _, _, .int (L.T bs i s), rfl, rfl, SqL.of hri, atI_nat (rowV_at (by omega)), ?_⟩
      refine ⟨_, rfl, _, _, rfl, rfl, _, rfl, ite2 (fun e => ?_) (fun e => ?_)⟩
      · have hpos : 0 < L.T bs i s := of_decide_eq_true e
        refine ⟨v, rfl, rfl, _, rfl, ?_⟩
        rcases hB with ⟨rfl, hno⟩ | ⟨bb, hbi, rfl, hbp, hlex⟩
        · rw [decide_eq_true rfl]
          refine iteT ?_
          refine ⟨_, rfl, ⟨_, _, _, _, _, rfl, .inr ⟨i, by omega, rfl, hpos, fun k hk hkp => ?_⟩⟩, rfl⟩
          by_cases z : k = i
          · subst z
            exact .inr ⟨rfl, Nat.le_refl _⟩
          · have := hno k (by omega)
            omega
        · rw [decide_eq_false (fun z => nomatch z)]
          refine iteF ?_
          obtain ⟨rb, erb⟩ : ∃ rb, rs[bb]? = some rb := ⟨rs[bb], List.getElem?_eq_getElem (by omega)⟩
          have hrb := hr' _ _ erb
          refine ⟨_, rfl, p, C, dx, _, _, rfl, hp, T.cl, T.ng, pf_g, _, rfl, g, _, _, .ref ri, rfl, rfl, SqL.of hg, atI_nat (ref_at eri), 1, rfl, ri, _, -1, _, rfl, rfl, SqL.of hri, last_row, ?_⟩
          refine ⟨_, rfl, p, C, dx, _, _, rfl, hp, T.cl, T.ng, pf_g, _, rfl, g, _, _, .ref rb, rfl, rfl, SqL.of hg, atI_nat (ref_at erb), _, rfl, rb, _, _, .int (L.T bs bb s), rfl, rfl, SqL.of hrb, atI_nat (rowV_at (by omega)), _, _, rfl, rfl, bd_mul (T_lt S _ _) (T_lt S _ _), ?_⟩
          refine ⟨_, rfl, p, C, dx, _, _, rfl, hp, T.cl, T.ng, pf_g, _, rfl, g, _, _, .ref rb, rfl, rfl, SqL.of hg, atI_nat (ref_at erb), 1, rfl, rb, _, -1, _, rfl, rfl, SqL.of hrb, last_row, _, rfl, _, _, rfl, rfl, bd_mul (T_lt S _ _) (T_lt S _ _), ?_⟩
          -- both ways of the test
          have yes : Lex (L.T bs i L.n) (L.T bs i s) (bs i) (L.T bs bb L.n) (L.T bs bb s) (bs bb) → BestIs L bs s (i + 1) (.int (i : Int)) := fun hx => .inr ⟨i, by omega, rfl, hpos, fun k hk hkp => by
            by_cases z : k = i
            · subst z
              exact .inr ⟨rfl, Nat.le_refl _⟩
            · exact hx.trans hpos hbp hkp (hlex k (by omega) hkp)⟩
          have no : Lex (L.T bs bb L.n) (L.T bs bb s) (bs bb) (L.T bs i L.n) (L.T bs i s) (bs i) → BestIs L bs s (i + 1) (.int (bb : Int)) := fun hx => .inr ⟨bb, by omega, rfl, hbp, fun k hk hkp => by
            by_cases z : k = i
            · subst z
              exact hx
            · exact hlex k (by omega) hkp⟩
          refine ⟨_, rfl, _, rfl, _, _, rfl, rfl, _, rfl, ite2 (fun e1 => ?_) (fun e1 => ?_)⟩
          · have lt : L.T bs i L.n * L.T bs bb s < L.T bs bb L.n * L.T bs i s := of_decide_eq_true e1
            exact iteT ⟨_, rfl, ⟨_, _, _, _, _, rfl, yes (.inl lt)⟩, rfl⟩
          · have nlt : ¬ L.T bs i L.n * L.T bs bb s < L.T bs bb L.n * L.T bs i s := fun z => e1 (decide_eq_true z)
            refine ⟨_, rfl, _, rfl, rfl, _, rfl, ite2 (fun e2 => ?_) (fun e2 => ?_)⟩
            · have eq : L.T bs i L.n * L.T bs bb s = L.T bs bb L.n * L.T bs i s := V.int.inj (of_decide_eq_true e2)
              refine ⟨_, rfl, p, C, dx, _, _, rfl, hp, T.cl, T.nb, pf_b, _, rfl, b, _, _, .int ((bs i : Nat) : Int), rfl, rfl, SqL.of hb, atI_nat (basV_at hi), ?_⟩
              refine ⟨_, rfl, p, C, dx, _, _, rfl, hp, T.cl, T.nb, pf_b, _, rfl, b, _, _, .int ((bs bb : Nat) : Int), rfl, rfl, SqL.of hb, atI_nat (basV_at (by omega)), _, _, rfl, rfl, _, rfl, ite2 (fun e3 => ?_) (fun e3 => ?_)⟩
              · have := of_decide_eq_true e3
                exact ⟨_, rfl, ⟨_, _, _, _, _, rfl, yes (.inr ⟨eq, by omega⟩)⟩, rfl⟩
              · have : ¬ ((bs i : Nat) : Int) < ((bs bb : Nat) : Int) := fun z => e3 (decide_eq_true z)
                exact ⟨⟨_, _, _, _, _, rfl, no (.inr ⟨eq.symm, by omega⟩)⟩, rfl⟩
            · have neq : L.T bs i L.n * L.T bs bb s ≠ L.T bs bb L.n * L.T bs i s := fun z => e2 (decide_eq_true (congrArg V.int z))
              exact iteF ⟨⟨_, _, _, _, _, rfl, no (.inl (by omega))⟩, rfl⟩
      · have hnp : ¬ 0 < L.T bs i s := fun z => e (decide_eq_true z)
        refine ⟨⟨_, _, _, _, _, rfl, ?_⟩, rfl⟩
        rcases hB with ⟨rfl, hno⟩ | ⟨bb, hbi, rfl, hbp, hlex⟩
        · refine .inl ⟨rfl, fun k hk => ?_⟩
          by_cases z : k = i
          · subst z
            omega
          · exact hno k (by omega)
        · refine .inr ⟨bb, by omega, rfl, hbp, fun k hk hkp => ?_⟩
          by_cases z : k = i
          · subst z
            omega
          · exact hlex k (by omega) hkp
    · rintro σ H' ⟨⟨v, y3, y4, y5, y6, rfl, hB⟩, rfl⟩
      refine ⟨v, rfl, rfl, _, rfl, ?_⟩
      rcases hB with ⟨rfl, hno⟩ | ⟨bb, hbi, rfl, hbp, hlex⟩
      · rw [decide_eq_true rfl]
        refine iteT ⟨_, rfl, p, C, dx, _, rfl, hp, T.cl, T.nk, pf_len, ?_⟩
        refine q2 hno _ ⟨fun c o e => ?_, np, dx, g, b, rs, g0, b0, by rw [upd_same, pf_put_k], ?_, hl, fun k a e => ?_, ?_⟩
        · rw [upd_ne (ne_of_none e np)]
          exact sm _ _ e
        · rw [upd_ne (ne_of hg hp (by intro z; cases z))]
          exact hg
        · rw [upd_ne (ne_of (hr' k a e) hp (by intro z; cases z))]
          exact hr' k a e
        · rw [upd_ne (ne_of hb hp (by intro z; cases z))]
          exact hb
      · rw [decide_eq_false (fun z => nomatch z)]
        refine iteF ⟨_, rfl, p, dx, _, rfl, hp, pf_no (by decide +kernel) (by decide +kernel) (by decide +kernel) (by decide +kernel) (by decide +kernel) (by decide +kernel), _, rfl, _, rfl, ?_⟩
        refine ⟨p, H0, L, bs, true, bb, s, rfl, PA0, S, hw, G, hbi, hsn, fun H2 P2 => ?_⟩
        exact q1 bb H2 ⟨hsn, hneg, hfirst, hbi, hbp, hlex⟩ P2
end
end Frd
set_option Elab.async false
set_option linter.all false
set_option maxRecDepth 100000
set_option maxHeartbeats 4000000
set_option pp.maxSteps 1000
/-! Program.__init__. -/
namespace Frd
open PySem PySem.Spec PyProof.Rows L2
/-- a list of ints told by a function -/
def fnV (n : Nat) (f : Nat → Int) : List V := (List.range n).map fun j => V.int (f j)
theorem fnV_len {n : Nat} {f : Nat → Int} : (fnV n f).length = n := by
  unfold fnV
  rw [List.length_map, List.length_range]
theorem fnV_at {n j : Nat} {f : Nat → Int} (h : j < n) : (fnV n f)[j]? = some (.int (f j)) := by
  unfold fnV
  rw [List.getElem?_map, List.getElem?_range h]
  rfl
theorem fnV_of {n : Nat} {f : Nat → Int} {ys : List V} (hl : ys.length = n) (h : ∀ (i : Nat) (y : V), ys[i]? = some y → y = .int (f i)) : ys = fnV n f := list_of hl h
/-- the rows of L lie at a -/
def RowsAt (K : PySem.W.Frag) (H : Hp) (a : Addr) (L : Lp) : Prop := ∃ rs : List Addr, SqL K H a (rs.map V.ref) ∧ rs.length = L.h ∧ ∀ c r, rs[c]? = some r → SqL K H r (fnV L.w (L.a c))
theorem RowsAt.mono {K : PySem.W.Frag} {H H' : Hp} {a : Addr} {L : Lp} (s : Same H H') (h : RowsAt K H a L) : RowsAt K H' a L := by
  obtain ⟨rs, h1, h2, h3⟩ := h
  exact ⟨rs, s.seq h1, h2, fun c r e => s.seq (h3 c r e)⟩
theorem row0 {L : Lp} {c : Nat} (hc : c < L.h) : fnV L.w (L.a c) ++ (fnV L.h (fun k => if k = c then 1 else 0) ++ [V.int (L.b c)]) = rowV L L.bs0 c := by
  refine list_of (by simp [fnV_len, Lp.n]; omega) fun j y hy => ?_
  rw [Lp.T0 (by omega)]
  unfold Lp.M
  by_cases h1 : j < L.w
  · rw [List.getElem?_append_left (by rw [fnV_len]; exact h1), fnV_at h1] at hy
    rw [if_pos h1, if_pos hc]
    exact (Option.some.inj hy).symm
  · rw [List.getElem?_append_right (by rw [fnV_len]; omega), fnV_len] at hy
    rw [if_neg h1]
    by_cases h2 : j < L.w + L.h
    · rw [List.getElem?_append_left (by rw [fnV_len]; omega), fnV_at (by omega)] at hy
      rw [if_pos h2]
      have := Option.some.inj hy
      rw [← this]
      unfold unit
      by_cases q : c = j - L.w
      · rw [if_pos q, if_pos q.symm]
      · rw [if_neg q, if_neg (Ne.symm q)]
    · rw [List.getElem?_append_right (by rw [fnV_len]; omega), fnV_len] at hy
      rw [if_neg h2, if_pos hc]
      by_cases q : j - L.w - L.h = 0
      · rw [q] at hy
        exact (Option.some.inj hy).symm
      · obtain ⟨d, hd⟩ : ∃ d, j - L.w - L.h = d + 1 := ⟨j - L.w - L.h - 1, by omega⟩
        rw [hd] at hy
        simp at hy
theorem row_h0 {L : Lp} : fnV L.w (fun j => - L.g j) ++ fnV (L.h + 1) (fun _ => 0) = rowV L L.bs0 L.h := by
  refine list_of (by simp [fnV_len, Lp.n]; omega) fun j y hy => ?_
  rw [Lp.T0 (by omega)]
  by_cases h1 : j < L.w
  · rw [List.getElem?_append_left (by rw [fnV_len]; exact h1), fnV_at h1] at hy
    rw [Lp.M_g h1]
    exact (Option.some.inj hy).symm
  · rw [List.getElem?_append_right (by rw [fnV_len]; omega), fnV_len] at hy
    have hj : j - L.w < L.h + 1 := by
      have := (List.getElem?_eq_some_iff.mp hy).1
      rw [fnV_len] at this
      exact this
    rw [fnV_at hj] at hy
    have := Option.some.inj hy
    rw [← this]
    congr 1
    by_cases h2 : j < L.w + L.h
    · rw [Lp.M_slackh (by omega) (by unfold Lp.n; omega)]
    · have : j = L.n := by
        unfold Lp.n
        omega
      rw [this, Lp.M_limh]
theorem zeros {n : Nat} : (List.replicate n [V.int 0]).flatten = fnV n (fun _ => 0) := by
  refine list_of (by rw [List.length_flatten]; simp) fun i y hy => ?_
  have hm := List.mem_of_getElem? hy
  rw [List.mem_flatten] at hm
  obtain ⟨l, h1, h2⟩ := hm
  have := (List.mem_replicate.mp h1).2
  subst this
  exact List.mem_singleton.mp h2
section
variable {P : Program} {w : World} {K : PySem.W.Frag} {mg : Str → Option Value} {base : Heap} {C : Addr}
theorem scIn : FnScope ["self", "rows", "limits", "goal", "spot", "row", "slack", "place", "factor"] ["self", "rows", "limits", "goal"] (defScope (metS 4 0)) := ⟨rfl, rfl, rfl, by decide +kernel, rfl, by decide +kernel, by decide +kernel⟩
def spIn (K : PySem.W.Frag) (C : Addr) : Sp := fun vs H Q _ => ∃ (p a al ag dx : Addr) (H0 : Hp) (L : Lp), vs = [.ref p, .ref a, .ref al, .ref ag] ∧ Same H0 H ∧ H0 p = none ∧ H p = some (.ins C dx []) ∧ RowsAt K H0 a L ∧ SqL K H0 al (fnV L.h L.b) ∧ SqL K H0 ag (fnV L.w L.g) ∧
  L.Small 100 ∧ L.w ≤ 15 ∧ (∀ c, c < L.h → 0 ≤ L.b c) ∧ ∀ bs bd H', L.Ends bs bd → PAt C H0 H' p L bs bd → Q .non H'
theorem ok_in {f : Addr} {fd : FuncData} (F : Fun K "__init__" "Program.__init__" (metS 4 0) f fd) (T : TxP K C) (mr : mg "range" = none) (mlen : mg "len" = none) (me : mg "enumerate" = none) (mi : mg "int" = none)
    (MS : Mn P w K mg base C "step" 2 ["self", "column"] (spSt C)) (ME : Mn P w K mg base C "entering" 1 ["self"] (spEn C)) : FnOk P w K mg base CX0 3 f fd ["self", "rows", "limits", "goal"] (spIn K C) := by
  refine F.ok scIn (fun vs H Q E h => ?_) (fun cdv A outer sh H vs Q E hr h => ?_)
  · obtain ⟨p, a, al, ag, dx, H0, L, rfl, _⟩ := h
    rfl
  · obtain ⟨p, a, al, ag, dx, H0, L, rfl, sm, np, hp, hR, hL, hG, S, hw, hb0, q⟩ := h
    have nd := scIn.nd
    refine ⟨_, pss_cons (ps_fld (pv 0) (pe_callB call_len_seq (by rfl) mlen PySem.boot_len (pa_cons (pv 3) pa_nil)) rfl)
      (pss_cons (ps_fld (pv 0) (pe_callB call_len_seq (by rfl) mlen PySem.boot_len (pa_cons (pv 1) pa_nil)) rfl)
      (pss_cons (ps_fld (pv 0) (pe_lst pa_nil) rfl)
      (pss_cons (ps_for PassesOwn.never rfl (pi_enum (by rfl) me (pa_cons (pv 1) pa_nil)) (pg_tup rfl (pgs_cons (pg_name (i := 4) nd rfl (.inr rfl)) (pgs_cons (pg_name (i := 5) nd rfl (.inl rfl)) pgs_nil)))
        (pss_cons (ps_setLc (i := 6) (own := [("place", 7)]) (g := gName 7) (tt := tYes) (by rfl) nd rfl rfl (sw_true rfl rfl rfl (by decide +kernel)) (pi_range1 rfl mr (pa_cons (pe_callB call_len_seq (by rfl) mlen PySem.boot_len (pa_cons (pv 1) pa_nil)) pa_nil))
            (blkOk_by (N := ["self", "rows", "limits", "goal", "spot", "row", "slack", "place", "factor"]) (sc := defScope (metS 4 0)) (by decide +kernel))
            (fun _ _ _ _ _ => pg_name (i := 7) nd rfl (Or.inl rfl)) (fun _ _ _ _ _ => pts_nil)
            (fun _ _ _ _ _ => pe_callTy call_int1 (by rfl) mi (by decide +kernel) (pa_cons (pe_cmpR op_eq (pv 7) (pv 4) (nomark _)) pa_nil)))
        (pss_one (ps_expr (pe_bm PySem.F.plainAttrs_list PySem.F.slot_list_append PySem.F.type_list_append mt_append (pe_fld (pv 0) rfl)
          (pa_cons (pe_lst (StX.pa_star (pv 5) (StX.pa_star (pv 6) (pa_cons (pe_ix ix_list (pv 2) (pv 4) (fun _ _ => rfl)) pa_nil)))) pa_nil))))))
      (pss_cons (ps_expr (pe_bm PySem.F.plainAttrs_list PySem.F.slot_list_append PySem.F.type_list_append mt_append (pe_fld (pv 0) rfl)
          (pa_cons (pe_op op_cat (pe_lc (own := [("factor", 8)]) (g := gName 8) (tt := tYes) rfl nd (pi_list (pv 3)) (blkOk_by (N := ["self", "rows", "limits", "goal", "spot", "row", "slack", "place", "factor"]) (sc := defScope (metS 4 0)) (by decide +kernel))
              (fun _ _ _ _ _ => pg_name (i := 8) nd rfl (Or.inl rfl)) (fun _ _ _ _ _ => pts_nil) (fun _ _ _ _ _ => pe_un un_neg (pv 8)))
            (pe_op op_rep (pe_lst (pa_cons pe_int pa_nil)) (pe_op op_add (pe_callB call_len_seq (by rfl) mlen PySem.boot_len (pa_cons (pv 1) pa_nil)) pe_int))) pa_nil)))
      (pss_cons (ps_fld (pv 0) pe_int rfl)
      (pss_cons (ps_fld (pv 0) (pe_lc (own := [("spot", 4)]) (g := gName 4) (tt := tYes) rfl nd (pi_range1 rfl mr (pa_cons (pe_callB call_len_seq (by rfl) mlen PySem.boot_len (pa_cons (pv 1) pa_nil)) pa_nil))
          (blkOk_by (N := ["self", "rows", "limits", "goal", "spot", "row", "slack", "place", "factor"]) (sc := defScope (metS 4 0)) (by decide +kernel))
          (fun _ _ _ _ _ => pg_name (i := 4) nd rfl (Or.inl rfl)) (fun _ _ _ _ _ => pts_nil) (fun _ _ _ _ _ => pe_op op_add (pe_fldB (K := K) (pv 0) rfl rfl) (pv 4))) rfl)
      (pss_cons (ps_fld (pv 0) pe_bl rfl)
      (pss_one (ps_while PassesOwn.never (PW.pt (pw_and (pt_val (pe_fld (pv 0) rfl)) (pw_and1 (pt_cmpR op_notN (pe_mth0 T.cl ME (hr.mono (by decide)) (pv 0)) pe_non (nomark _)))))
        (pss_one (ps_expr (pe_mth T.cl MS hr (pv 0) (pa_cons (pe_mth0 T.cl ME (hr.mono (by decide)) (pv 0)) pa_nil))))))))))))), ?_⟩
    obtain ⟨rs, hA, hAl, hRow⟩ := hR
    have hh := S.h
    have hn : L.n ≤ 30 := small_n hh hw
    -- self.width, self.height, self.grid
    refine ⟨_, rfl, ag, _, rfl, .inl (sm.seq hG), _, rfl, p, C, dx, _, rfl, hp, T.cl, T.nw, (by show 0 < 1000; decide), ?_⟩
    have m1 : ∀ {o : HO}, Same H0 (upd H p o) := fun {o} => same_put sm np
    refine ⟨_, rfl, a, _, rfl, .inl (m1.seq hA), _, rfl, p, C, dx, _, rfl, upd_same, T.cl, T.nh, (by show 1 < 1000; decide), ?_⟩
    rw [upd_upd]
    refine ⟨Nat.zero_le _, fun g hg => ?_⟩
    have pg : p ≠ g := fun e => by
      rw [← e, upd_same] at hg
      cases hg
    have g0 : H0 g = none := m1.free hg
    refine ⟨_, rfl, p, C, dx, _, rfl, by rw [upd_ne pg, upd_same], T.cl, T.ng, (by show 2 < 1000; decide), ?_⟩
    have ef : putF "grid" (.ref g) (putF "height" (.int ((rs.map V.ref).length : Int)) (putF "width" (.int ((fnV L.w L.g).length : Int)) [])) = ([("width", V.int (L.w : Int)), ("height", V.int (L.h : Int)), ("grid", V.ref g)] : List (Str × V)) := by
      rw [fnV_len, List.length_map, hAl]
      kernel_rfl
    rw [ef]
    generalize hH1 : upd (upd (upd H p (.ins C dx (putF "height" (.int ((rs.map V.ref).length : Int)) (putF "width" (.int ((fnV L.w L.g).length : Int)) [])))) g (.lst [])) p (.ins C dx [("width", V.int (L.w : Int)), ("height", V.int (L.h : Int)), ("grid", V.ref g)]) = H1
    have sm1 : Same H0 H1 := by
      rw [← hH1]
      exact same_put (same_put m1 g0) np
    have hp1 : H1 p = some (.ins C dx [("width", V.int (L.w : Int)), ("height", V.int (L.h : Int)), ("grid", V.ref g)]) := by rw [← hH1, upd_same]
    have hg1 : H1 g = some (.lst []) := by rw [← hH1, upd_ne pg.symm, upd_same]
    have lw : ([("width", V.int (L.w : Int)), ("height", V.int (L.h : Int)), ("grid", V.ref g)] : List (Str × V)).lookup ("grid" : Str) = some (.ref g) := by kernel_rfl
    refine ⟨_, rfl, a, rs.map V.ref, rfl, sm1.seq hA, ?_⟩
    refine for_it walk_enum (fun i σ H' => (∃ y4 y5 y6 y7 y8, σ = [some (.ref p), some (.ref a), some (.ref al), some (.ref ag), y4, y5, y6, y7, y8]) ∧ Same H0 H' ∧ H' p = some (.ins C dx [("width", V.int (L.w : Int)), ("height", V.int (L.h : Int)), ("grid", V.ref g)]) ∧
        ∃ gs : List Addr, H' g = some (.lst (gs.map V.ref)) ∧ gs.length = i ∧ ∀ k x, gs[k]? = some x → x ≠ g ∧ x ≠ p ∧ H' x = some (.lst (rowV L L.bs0 k)))
      ⟨⟨none, none, none, none, none, rfl⟩, sm1, hp1, [], hg1, rfl, fun k x e => by simp at e⟩ (fun i σ H' _ ⟨_, s', _⟩ => s'.seq hA) ?_ ?_
    · rintro i x σ H2 H3 hi ⟨⟨y4, y5, y6, y7, y8, rfl⟩, sm2, hp2, gs, hg2, hgl, hgr⟩ ⟨t, x1, x2, rfl, nt, rfl, e1, e2⟩
      rw [List.length_map, hAl] at hi
      obtain ⟨r, er⟩ : ∃ r, rs[i]? = some r := ⟨rs[i], List.getElem?_eq_getElem (by omega)⟩
      have ex1 : V.int ((i : Nat) : Int) = x1 := Option.some.inj e1
      have ex2 : x2 = .ref r := Option.some.inj (e2.symm.trans (ref_at er))
      subst ex1
      subst ex2
      have sT : Same H2 (upd H2 t (.tup [.int (i : Int), .ref r])) := same_upd nt
      refine ⟨t, _, rfl, SqT.of upd_same, rfl, _, _, rfl, _, _, rfl, rfl, ?_⟩
      generalize hH3 : upd H2 t (.tup [.int (i : Int), .ref r]) = H3 at sT ⊢
      have sm3 : Same H0 H3 := sm2.trans sT
      -- slack
      refine ⟨_, rfl, a, _, rfl, .inl (sm3.seq hA), (L.h : Int), by rw [List.length_map, hAl], by omega, by omega, ?_⟩
      rw [Int.toNat_natCast]
      intro D hD
      refine lc_map (walk_range (lo := 0) (n := L.h)) (fun k _ y => y = .int (if k = i then 1 else 0)) (fun _ _ _ _ _ _ _ e => e) (small1000 (by omega)) hD (fun _ _ => trivial) (fun j H x H' _ => y_fn j H x H') ?_ ?_ gm_name
      · rintro j x H4 H5 acc Z hj sm5 hacc ⟨rfl, rfl⟩ hZ
        refine ⟨rfl, ?_⟩
        refine ⟨_, rfl, _, rfl, rfl, .inr ⟨_, rfl, hZ _ _ (Same.refl _) ?_⟩⟩
        show V.int (if decide (V.int (0 + (j : Int)) = V.int (i : Int)) = true then 1 else 0) = V.int (if j = i then 1 else 0)
        rw [Int.zero_add]
        by_cases q2 : j = i
        · subst q2
          rw [if_pos rfl, decide_eq_true rfl]
          rfl
        · rw [if_neg q2, decide_eq_false (fun z => q2 (by have := V.int.inj z; omega))]
          rfl
      · intro H4 ys sm4 hys hly hv
        have eys : ys = fnV L.h (fun k => if k = i then 1 else 0) := list_of hly hv
        subst eys
        have hD3 : H2 D = none := sT.free hD
        have gD : g ≠ D := ne_of_none hg2 hD3
        -- self.grid.append([*row, *slack, limits[spot]])
        have hp4 := sm4 _ _ (sT _ _ hp2)
        have hg4 := sm4 _ _ (sT _ _ hg2)
        have sm4' : Same H0 H4 := sm3.trans sm4
        refine ⟨_, rfl, p, C, dx, _, _, rfl, hp4, T.cl, T.ng, lw, .inl ⟨rfl, _, SqL.of hg4⟩, ?_⟩
        refine ⟨.ref r, rfl, r, _, rfl, .inr (sm4'.seq (hRow i r er)), .ref D, rfl, D, _, rfl, .inr (SqL.of hys), _, rfl, _, rfl, al, _, _, .int (L.b i), rfl, rfl, sm4'.seq hL, atI_nat (fnV_at (by omega)), ?_⟩
        have er0 := row0 (L := L) (c := i) (by omega)
        refine ⟨by show (fnV L.w (L.a i) ++ (fnV L.h (fun k => if k = i then 1 else 0) ++ [V.int (L.b i)])).length ≤ sizeLine; rw [er0, rowV_len]; exact Nat.le_of_lt (small1000 (by omega)), fun N hN => ?_⟩
        have gN : g ≠ N := ne_of_none hg4 hN
        have pN : p ≠ N := ne_of_none hp4 hN
        refine ⟨g, _, _, rfl, rfl, by rw [upd_ne gN]; exact hg4, by rw [List.length_map]; exact small1000 (by omega), ?_⟩
        refine ⟨⟨_, _, _, _, _, rfl⟩, same_put (same_tr sm4' hN) g0, ?_, gs ++ [N], ?_, by rw [List.length_append, hgl]; rfl, fun k x e => ?_⟩
        · rw [upd_ne pg, upd_ne pN]
          exact hp4
        · rw [upd_same, List.map_append]
          rfl
        · by_cases q2 : k < gs.length
          · rw [List.getElem?_append_left q2] at e
            obtain ⟨z1, z2, z3⟩ := hgr k x e
            have z4 := sm4 _ _ (sT _ _ z3)
            refine ⟨z1, z2, ?_⟩
            rw [upd_ne z1, upd_ne (ne_of_none z4 hN)]
            exact z4
          · rw [List.getElem?_append_right (by omega)] at e
            by_cases q3 : k - gs.length = 0
            · rw [q3] at e
              have ex : N = x := Option.some.inj e
              subst ex
              have ek : k = i := by omega
              subst ek
              refine ⟨gN.symm, pN.symm, ?_⟩
              rw [upd_ne gN.symm, upd_same]
              exact congrArg (fun z => some (HO.lst z)) er0
            · obtain ⟨d, hd⟩ : ∃ d, k - gs.length = d + 1 := ⟨k - gs.length - 1, by omega⟩
              rw [hd] at e
              simp at e
    · rintro σ H2 ⟨⟨y4, y5, y6, y7, y8, rfl⟩, sm2, hp2, gs, hg2, hgl, hgr⟩
      rw [List.length_map, hAl] at hgl
      -- self.grid.append([-factor ..] + [0] * ..)
      refine ⟨_, rfl, p, C, dx, _, _, rfl, hp2, T.cl, T.ng, lw, .inl ⟨rfl, _, SqL.of hg2⟩, ?_⟩
      refine ⟨_, rfl, ag, rfl, ⟨_, sm2.seq hG⟩, fun D hD => ?_⟩
      refine lc_map (walk_list (K := K) (a := ag) (xs := fnV L.w L.g)) (fun k _ y => y = .int (- L.g k)) (fun _ _ _ _ _ _ _ e => e) (by rw [fnV_len]; exact small1000 (by omega)) hD (fun _ s' => s'.seq (sm2.seq hG)) (fun j H x H' _ => y_at j H x H') ?_ ?_ gm_name
      · rintro j x H4 H5 acc Z hj sm5 hacc ⟨rfl, ex⟩ hZ
        rw [fnV_len] at hj
        have ex' : V.int (L.g j) = x := Option.some.inj ((fnV_at hj).symm.trans ex)
        subst ex'
        exact ⟨rfl, _, rfl, _, rfl, hZ _ _ (Same.refl _) rfl⟩
      · intro H3 ys sm3 hys hly hv
        rw [fnV_len] at hly
        have eys : ys = fnV L.w (fun k => - L.g k) := list_of hly hv
        subst eys
        refine ⟨by show 1 ≤ sizeLine; decide, fun t ht => ?_⟩
        have smt : Same H3 (upd H3 t (.lst [V.int 0])) := same_upd ht
        have sm3' : Same H0 (upd H3 t (.lst [V.int 0])) := sm2.trans (sm3.trans smt)
        refine ⟨_, rfl, a, _, rfl, .inl (sm3'.seq hA), _, _, rfl, rfl, ?_⟩
        have elen : (((rs.map V.ref).length : Int) + 1) = (L.h : Int) + 1 := by rw [List.length_map, hAl]
        refine ⟨t, ((rs.map V.ref).length : Int) + 1, _, rfl, rfl, upd_same, by omega, by omega, ?_, fun z hz => ?_⟩
        · show 1 * (((rs.map V.ref).length : Int) + 1).toNat ≤ sizeLine
          rw [elen]
          exact Nat.le_of_lt (small1000 (by omega))
        have ez : (List.replicate (((rs.map V.ref).length : Int) + 1).toNat [V.int 0]).flatten = fnV (L.h + 1) (fun _ => 0) := by
          rw [elen, show ((L.h : Int) + 1).toNat = L.h + 1 by omega, zeros]
        rw [ez] at *
        have smz : Same H3 (upd (upd H3 t (.lst [V.int 0])) z (.lst (fnV (L.h + 1) (fun _ => 0)))) := same_tr smt hz
        refine ⟨D, z, _, _, rfl, rfl, smz _ _ hys, upd_same, ?_, fun N hN => ?_⟩
        · rw [fnV_len, fnV_len]
          exact Nat.le_of_lt (small1000 (by omega))
        generalize hH4 : upd (upd H3 t (.lst [V.int 0])) z (.lst (fnV (L.h + 1) (fun _ => 0))) = H4 at smz hN ⊢
        have sm4 : Same H0 H4 := sm2.trans (sm3.trans smz)
        have hg4 : H4 g = some (.lst (gs.map V.ref)) := smz _ _ (sm3 _ _ hg2)
        have hp4 := smz _ _ (sm3 _ _ hp2)
        have gN : g ≠ N := ne_of_none hg4 hN
        have pN : p ≠ N := ne_of_none hp4 hN
        refine ⟨g, _, _, rfl, rfl, by rw [upd_ne gN]; exact hg4, by rw [List.length_map]; exact small1000 (by omega), ?_⟩
        rw [row_h0]
        generalize hH5 : upd (upd H4 N (.lst (rowV L L.bs0 L.h))) g (.lst (gs.map V.ref ++ [V.ref N])) = H5
        have sm5 : Same H0 H5 := by
          rw [← hH5]
          exact same_put (same_tr sm4 hN) g0
        have hp5 : H5 p = some (.ins C dx [("width", V.int (L.w : Int)), ("height", V.int (L.h : Int)), ("grid", V.ref g)]) := by
          rw [← hH5, upd_ne pg, upd_ne pN]
          exact hp4
        have hg5 : H5 g = some (.lst ((gs ++ [N]).map V.ref)) := by
          rw [← hH5, upd_same, List.map_append]
          rfl
        have hr5 : ∀ k x, (gs ++ [N])[k]? = some x → x ≠ g ∧ x ≠ p ∧ H5 x = some (.lst (rowV L L.bs0 k)) := fun k x e => by
          by_cases q2 : k < gs.length
          · rw [List.getElem?_append_left q2] at e
            obtain ⟨z1, z2, z3⟩ := hgr k x e
            have z4 := smz _ _ (sm3 _ _ z3)
            refine ⟨z1, z2, ?_⟩
            rw [← hH5, upd_ne z1, upd_ne (ne_of_none z4 hN)]
            exact z4
          · rw [List.getElem?_append_right (by omega)] at e
            by_cases q3 : k - gs.length = 0
            · rw [q3] at e
              have ex : N = x := Option.some.inj e
              subst ex
              have ek : k = L.h := by omega
              subst ek
              refine ⟨gN.symm, pN.symm, ?_⟩
              rw [← hH5, upd_ne gN.symm, upd_same]
            · obtain ⟨d, hd⟩ : ∃ d, k - gs.length = d + 1 := ⟨k - gs.length - 1, by omega⟩
              rw [hd] at e
              simp at e
        have hgl5 : (gs ++ [N]).length = L.h + 1 := by
          rw [List.length_append, hgl]
          rfl
        generalize gs ++ [N] = gz at hg5 hr5 hgl5
        clear hH5 hN hz smz
        -- self.bottom = 1
        refine ⟨_, rfl, p, C, dx, _, rfl, hp5, T.cl, T.nd, (by show 3 < 1000; decide), ?_⟩
        have ef6 : putF "bottom" (.int 1) [("width", V.int (L.w : Int)), ("height", V.int (L.h : Int)), ("grid", V.ref g)] = ([("width", V.int (L.w : Int)), ("height", V.int (L.h : Int)), ("grid", V.ref g), ("bottom", V.int 1)] : List (Str × V)) := by kernel_rfl
        rw [ef6]
        -- self.basis = [..]
        have sm6 : Same H0 (upd H5 p (.ins C dx [("width", V.int (L.w : Int)), ("height", V.int (L.h : Int)), ("grid", V.ref g), ("bottom", V.int 1)])) := same_put sm5 np
        refine ⟨_, rfl, a, _, rfl, .inl (sm6.seq hA), (L.h : Int), by rw [List.length_map, hAl], by omega, by omega, ?_⟩
        rw [Int.toNat_natCast]
        intro B hB
        have pB : p ≠ B := fun e => by
          rw [← e, upd_same] at hB
          cases hB
        have b0 : H0 B = none := sm6.free hB
        have hB5 : H5 B = none := by
          rw [upd_ne pB.symm] at hB
          exact hB
        refine lc_map (walk_range (lo := 0) (n := L.h)) (fun k _ y => y = .int ((L.bs0 k : Nat) : Int)) (fun _ _ _ _ _ _ _ e => e) (small1000 (by omega)) hB (fun _ _ => trivial) (fun j H x H' _ => y_fn j H x H') ?_ ?_ gm_name
        · rintro j x H6 H7 acc Z hj sm7 hacc ⟨rfl, rfl⟩ hZ
          refine ⟨rfl, ?_⟩
          refine ⟨_, rfl, p, C, dx, _, .int (L.w : Int), rfl, sm7 _ _ upd_same, T.cl, T.nw, by kernel_rfl, _, rfl, _, _, rfl, rfl, hZ _ _ (Same.refl _) ?_⟩
          show V.int ((L.w : Int) + (0 + (j : Int))) = V.int ((L.bs0 j : Nat) : Int)
          unfold Lp.bs0
          congr 1
          omega
        · intro H6 zs sm6' hzs hzl hzv
          have ezs : zs = basV L L.bs0 := list_of hzl hzv
          subst ezs
          have hp6 := sm6' _ _ (upd_same (H := H5) (a := p))
          refine ⟨_, rfl, p, C, dx, _, rfl, hp6, T.cl, T.nb, (by show 4 < 1000; decide), ?_⟩
          have ef7 : putF "basis" (.ref B) [("width", V.int (L.w : Int)), ("height", V.int (L.h : Int)), ("grid", V.ref g), ("bottom", V.int 1)] = ([("width", V.int (L.w : Int)), ("height", V.int (L.h : Int)), ("grid", V.ref g), ("bottom", V.int 1), ("basis", V.ref B)] : List (Str × V)) := by kernel_rfl
          rw [ef7]
          refine ⟨_, rfl, p, C, dx, _, rfl, upd_same, T.cl, T.nk, (by show 5 < 1000; decide), ?_⟩
          have ef8 : putF "is_bounded" (.bl true) [("width", V.int (L.w : Int)), ("height", V.int (L.h : Int)), ("grid", V.ref g), ("bottom", V.int 1), ("basis", V.ref B)] = pf L.w L.h g (L.D L.bs0) B true := by
            rw [Lp.det_Bc0]
            kernel_rfl
          rw [ef8, upd_upd]
          have PA0 : PAt C H0 (upd H6 p (.ins C dx (pf L.w L.h g (L.D L.bs0) B true))) p L L.bs0 true := by
            have gp : g ≠ p := pg.symm
            refine ⟨same_put (sm6.trans sm6') np, np, dx, g, B, gz, g0, b0, upd_same, ?_, hgl5, fun k x e => ?_, ?_⟩
            · rw [upd_ne gp]
              exact sm6' _ _ (by rw [upd_ne gp]; exact hg5)
            · obtain ⟨z1, z2, z3⟩ := hr5 k x e
              rw [upd_ne z2]
              exact sm6' _ _ (by rw [upd_ne z2]; exact z3)
            · rw [upd_ne pB.symm]
              exact hzs
          have G0 : L.Good L.bs0 := Lp.good0 hb0
          generalize upd H6 p (.ins C dx (pf L.w L.h g (L.D L.bs0) B true)) = H8 at PA0
          -- the loop
          refine ⟨fun m σ H' => ∃ (k : Nat) (bs : Nat → Nat) (bd : Bool) (y4 y5 y6 y7 y8 : Option V), σ = [some (.ref p), some (.ref a), some (.ref al), some (.ref ag), y4, y5, y6, y7, y8] ∧ Lp.Chain L L.bs0 k bs ∧ PAt C H0 H' p L bs bd ∧
              (bd = false → ∃ s, s < L.n ∧ L.T bs L.h s < 0 ∧ (∀ j, j < s → 0 ≤ L.T bs L.h j) ∧ ∀ k, k < L.h → L.T bs k s ≤ 0) ∧ m = (if bd then 1 + (L.n ^ L.h - k) else 0),
            ⟨_, 0, L.bs0, true, y4, y5, y6, y7, y8, rfl, .zero, PA0, (fun z => nomatch z), rfl⟩, ?_⟩
          rintro m σ H9 ⟨k, bs, bd, y4, y5, y6, y7, y8, rfl, Ch, PA, hno, rfl⟩
          have G := Ch.good G0
          have kl := Ch.lt G0
          obtain ⟨s9, np9, dx9, g9, b9, rs9, g09, b09, hp9, _⟩ := id PA
          refine ⟨_, rfl, p, C, dx9, _, _, rfl, hp9, T.cl, T.nk, pf_k, bd, rfl, ?_⟩
          cases bd with
          | false =>
            refine iteF ?_
            exact iteF (q bs false H9 ⟨⟨k, Ch⟩, (fun z => nomatch z), hno⟩ PA)
          | true =>
            refine iteT ?_
            have nE : (pf L.w L.h g9 (L.D bs) b9 true).lookup ("entering" : Str) = none := pf_no (by decide +kernel) (by decide +kernel) (by decide +kernel) (by decide +kernel) (by decide +kernel) (by decide +kernel)
            have nS : (pf L.w L.h g9 (L.D bs) b9 true).lookup ("step" : Str) = none := pf_no (by decide +kernel) (by decide +kernel) (by decide +kernel) (by decide +kernel) (by decide +kernel) (by decide +kernel)
            refine ⟨_, rfl, p, dx9, _, rfl, hp9, nE, p, H0, L, bs, true, rfl, PA, hh, hw, fun s hs1 hs2 hs3 => ?_, fun hall => ?_⟩
            · refine ⟨rfl, _, rfl, ?_⟩
              rw [decide_eq_false (fun z => nomatch z)]
              refine iteT ⟨fun σ' H' => ∃ (k' : Nat) (bs' : Nat → Nat) (bd' : Bool) (y4 y5 y6 y7 y8 : Option V), σ' = [some (.ref p), some (.ref a), some (.ref al), some (.ref ag), y4, y5, y6, y7, y8] ∧ Lp.Chain L L.bs0 k' bs' ∧ PAt C H0 H' p L bs' bd' ∧
                  (bd' = false → ∃ s, s < L.n ∧ L.T bs' L.h s < 0 ∧ (∀ j, j < s → 0 ≤ L.T bs' L.h j) ∧ ∀ k, k < L.h → L.T bs' k s ≤ 0) ∧ (bd' = true → k' = k + 1), ?_, ?_⟩
              · rintro σ' H' ⟨k', bs', bd', z4, z5, z6, z7, z8, e1, Ch', PA', hno', hk'⟩
                refine ⟨_, ?_, k', bs', bd', z4, z5, z6, z7, z8, e1, Ch', PA', hno', rfl⟩
                cases bd' with
                | false =>
                  show 0 < 1 + (L.n ^ L.h - k)
                  omega
                | true =>
                  have := hk' rfl
                  show 1 + (L.n ^ L.h - k') < 1 + (L.n ^ L.h - k)
                  omega
              · -- self.step(self.entering())
                refine ⟨_, rfl, p, dx9, _, rfl, hp9, nS, ?_⟩
                refine ⟨_, rfl, p, dx9, _, rfl, hp9, nE, p, H0, L, bs, true, rfl, PA, hh, hw, fun s' hs1' hs2' hs3' => ?_, fun hall => ?_⟩
                · refine ⟨p, H0, L, bs, s', rfl, PA, S, hw, G, hs1', hs2', hs3', fun r H' St PA' => ?_, fun hn' H' PA' => ?_⟩
                  · exact ⟨k + 1, put bs r s', true, _, _, _, _, _, rfl, .succ Ch St, PA', (fun z => nomatch z), fun _ => rfl⟩
                  · exact ⟨k, bs, false, _, _, _, _, _, rfl, Ch, PA', (fun _ => ⟨s', hs1', hs2', hs3', hn'⟩), fun z => nomatch z⟩
                · have := hall s hs1
                  omega
            · refine ⟨rfl, _, rfl, ?_⟩
              rw [decide_eq_true rfl]
              exact iteF (q bs true H9 ⟨⟨k, Ch⟩, fun _ => hall, fun z => nomatch z⟩ PA)
end
end Frd
set_option Elab.async false
set_option linter.all false
set_option maxRecDepth 100000
set_option maxHeartbeats 4000000
/-! Rules that the layer lacks: d.update(e), x not in a list of pairs (dict, list), n ** k of great n. -/
namespace Frd
open PySem PySem.SeqAt PySem.MeetsSeq PySem.MeetsSeq2 PySem.MeetsSeq3 PySem.SeqRoads2
open PySem.AutoSeq1 (wpAny_loadPart')
section
variable {prog : Program} {w : World}
theorem contains_loopIn (l : Addr) (items : Array Value) (n : Nat) (dd : Option Addr) (sl : Array (Option Value)) (x : Value) (e : Value → Bool) (k : Nat) :
    ∀ i : Nat, items.size - i = k → MeetsIn prog w (Builtin.«list.__contains__.loop» ⟨[.ref l, x, rawInt i], []⟩)
      (fun A R s => s.heap.get? l = some { cls := .type "list", dict := dd, data := .seq items n, slots := sl } ∧ (∀ y, y ∈ items → EqIn prog w A.in1 s y x (e y)) ∧ R (.ok (.ret (.bool ((items.toList.drop i).any e)))) s) := by
  induction k with
  | zero =>
    intro i hk A R s h
    obtain ⟨hp, g, d, tk, os⟩ := s; obtain ⟨hl, he, h⟩ := h
    wp_walk using wpAny_loadPart' hl
    have hi : items[((i : Nat) : Int).toNat]? = none := by simp; omega
    have hd : items.toList.drop i = [] := by simp; omega
    rw [hd] at h
    rw [hi]
    wp_walk
    exact h
  | succ k ih =>
    intro i hk A R s h
    obtain ⟨hp, g, d, tk, os⟩ := s; obtain ⟨hl, he, h⟩ := h
    wp_walk using wpAny_loadPart' hl
    have hlt : i < items.size := by omega
    have hi : items[((i : Nat) : Int).toNat]? = some items[i] := by simp [hlt]
    have hd : items.toList.drop i = items[i] :: items.toList.drop (i + 1) := by simp [List.drop_eq_getElem_cons, hlt]
    rw [hd, List.any_cons] at h
    rw [hi]
    refine wpAny_bind (he _ (Array.getElem_mem hlt) _ _ ?_)
    cases hb : e items[i] with
    | true =>
      rw [hb] at h
      wp_walk
      exact h
    | false =>
      rw [hb] at h
      have hc : ((i : Int) + 1) = ((i + 1 : Nat) : Int) := by push_cast; rfl
      wp_walk
      rw [hc]
      exact ⟨plainId_quiet plain_contains_loop _, codeAny_builtin entry_contains_loop (by
        rw [Around.under_plainId plain_contains_loop _]
        exact ih (i + 1) (by omega) A R _ ⟨hl, he, by simpa using h⟩)⟩
theorem list_containsIn (l : Addr) (items : Array Value) (n : Nat) (dd : Option Addr) (sl : Array (Option Value)) (x : Value) (e : Value → Bool) :
    MeetsIn prog w (Builtin.«list.__contains__» ⟨[.ref l, x], []⟩)
      (fun A R s => s.heap.get? l = some { cls := .type "list", dict := dd, data := .seq items n, slots := sl } ∧ (∀ y, y ∈ items → EqIn prog w A.in1 s y x (e y)) ∧ R (.ok (.ret (.bool (items.any e)))) s) := by
  intro A R s h
  obtain ⟨hp, g, d, tk, os⟩ := s; obtain ⟨hl, he, h⟩ := h
  wp_walk using wpAny_loadPart' hl
  exact ⟨plainId_quiet plain_contains_loop _, codeAny_builtin entry_contains_loop (by
    rw [Around.under_plainId plain_contains_loop _]
    exact contains_loopIn l items n dd sl x e _ 0 rfl A R _ ⟨hl, he, by simpa using h⟩)⟩
/-- two tuples whose first items differ -/
theorem tuple_eqFirst (l b : Addr) (items items2 : Array Value) (n n2 : Nat) (dd dd2 : Option Addr) (sl sl2 : Array (Option Value)) (h1 : 0 < items.size) (h2 : 0 < items2.size) :
    MeetsIn prog w (Builtin.«tuple.__eq__» ⟨[.ref l, .ref b], []⟩)
      (fun A R s => s.heap.get? l = some { cls := .type "tuple", dict := dd, data := .seq items n, slots := sl } ∧ s.heap.get? b = some { cls := .type "tuple", dict := dd2, data := .seq items2 n2, slots := sl2 } ∧
        EqIn prog w A.in1 s items[0] items2[0] false ∧ R (.ok (.ret (.bool false))) s) :=
  .of_wp fun A R s h => by
    obtain ⟨hp, g, d, tk, os⟩ := s; obtain ⟨hl, hb, he, h⟩ := h
    have f2 := AutoSeq1.sub_tuple_tuple
    have hZ : (items.toList.zip items2.toList) = (items[0], items2[0]) :: (items.toList.tail.zip items2.toList.tail) := by
      obtain ⟨xs⟩ := items
      obtain ⟨ys⟩ := items2
      cases xs with
      | nil => simp at h1
      | cons x xs =>
        cases ys with
        | nil => simp at h2
        | cons y ys => simp
    wp_walk using wpAny_loadPart' hl, wpAny_loadPart' hb, wpAny_forIn_list _ (fun rest b s' => b.1 = none ∧ s' = ⟨hp, g, d, tk, os⟩ ∧ rest = (items.toList.zip items2.toList)) _
    case turn =>
      rintro ⟨y, x⟩ rest b s' ⟨hb', rfl, hz⟩
      rw [hZ] at hz
      injection hz with hyx hrest
      have hy : y = items[0] := congrArg Prod.fst hyx
      have hx : x = items2[0] := congrArg Prod.snd hyx
      subst hy hx
      refine wpAny_bind (he _ _ ?_)
      wp_walk
      exact ⟨_, rfl, h⟩
    case fin =>
      rintro ⟨b1, b2⟩ s' ⟨hb', rfl, hz⟩
      rw [hZ] at hz
      cases hz
    case h =>
      exact ⟨rfl, rfl, rfl⟩
theorem rcIn_first {A : Around} {s : Shared} {E : Value → Shared → Prop} {l b : Addr} {items items2 : Array Value} {Q : Value → Shared → Prop} (hl : s.heap.IsTuple l items) (hb : s.heap.IsTuple b items2) (hu : A.units < cLine) (h1 : 0 < items.size) (h2 : 0 < items2.size)
    (he : EqIn prog w A.in1 s items[0] items2[0] false) (h : Q (.bool false) s) : wpAny (model prog w) A (richCompare .Eq (.ref l) (.ref b)) Q E s := by
  obtain ⟨⟨cls, dd, data, sl⟩, ho, hc, n, hd⟩ := id hl
  obtain ⟨⟨cls2, dd2, data2, sl2⟩, ho2, hc2, n2, hd2⟩ := id hb
  simp only at hc hd hc2 hd2
  subst hc hd hc2 hd2
  exact wpAny_richCompare_same_room (T := "tuple") (op := .Eq) ⟨_, ho, rfl⟩ ⟨_, ho2, rfl⟩ F.slot_tuple_eq (call_meetsIn F.slot_tuple_eq ⟨_, ho, rfl⟩ F.entry_tuple_eq (F.args_tuple_eq_2 _ _) (tuple_eqFirst l b items items2 n n2 dd dd2 sl sl2 h1 h2)
    ⟨ho, ho2, he, show Value.bool false ≠ Value.notImplemented ∧ Q (.bool false) s from ⟨(fun x => nomatch x), h⟩⟩) hu
theorem notIn_listIn {A : Around} {E : Value → Shared → Prop} {s : Shared} {l : Addr} {items : Array Value} {x : Value} {Q : Value → Shared → Prop} (e : Value → Bool) (hl : s.heap.IsList l items) (he : ∀ y, y ∈ items → EqIn prog w A.in1 s y x (e y))
    (h : Q (.bool (!items.any e)) s) : wpAny (model prog w) A (compareOp .NotIn x (.ref l)) Q E s := by
  obtain ⟨⟨cls, dd, data, sl⟩, ho, hc, n, hd⟩ := id hl
  simp only at hc hd
  subst hc hd
  have hT : s.TypeIs (.ref l) "list" := ⟨_, ho, rfl⟩
  show wpAny _ A (do return .bool (!(← contains (.ref l) x))) Q E s
  have key : wpAny (model prog w) A (call (.builtin "list.__contains__") [.ref l, x]) (fun v s' => ∃ b, v = .bool b ∧ Q (.bool (!b)) s') E s :=
    call_meetsIn F.slot_list_contains hT F.entry_list_contains (F.args_list_contains_2 _ _) (list_containsIn l items n dd sl x e) ⟨ho, he, _, rfl, h⟩
  refine wpAny_bind (wpAny_contains_slot hT F.slot_list_contains (wpAny_mono key (fun v s' hv => ?_) fun _ _ e => e))
  obtain ⟨b, rfl, hq⟩ := hv
  exact wpAny_truthy_bool (wpAny_pure hq)
end
end Frd
namespace Frd
open PySem PySem.Spec PyProof.Rows L2
section
variable {X : Cx}
/-- d.update(e) -/
def rUpd : V → List V → Hp → VK → Prop := fun x vs H Q => ∃ (d o : Addr) (kvs more : List (Key × V)), x = .ref d ∧ vs = [.ref o] ∧ H d = some (.dK kvs) ∧ H o = some (.dK more) ∧ d ≠ o ∧ kvs.length + more.length ≤ sizeLine ∧ Q .non (upd H d (.dK (mergeK kvs more)))
theorem mt_update : MtM X "dict.update" rUpd := by
  intro pins s σ H x vs v us Q I rx rv h
  obtain ⟨d, o, kvs, more, rfl, rfl, hd, ho, hne, hz, q⟩ := h
  cases rx
  obtain ⟨u, rfl, ru⟩ := rv.one
  cases ru
  obtain ⟨z1, hds, vs1, rel1, dd1⟩ := dk_of I.hok hd
  obtain ⟨z2, hos, vs2, rel2, dd2⟩ := dk_of I.hok ho
  refine call_meetsIn PySem.F.slot_dict_update dd1.typeIs PySem.F.entry_dict_update (PySem.F.args_dict_update_2 _ _) (meets_dict_update (mixKind X.prog X.w) d o hne hos)
    ⟨vs1, vs2, dd1, dd2, by rw [← rel1.length, ← rel2.length]; exact hz, fun h' hm _ hs => ?_⟩
  have he : ∃ q, h'.get? d = some q := let ⟨q, _, _, hq, _⟩ := hm; ⟨q, hq⟩
  have hl : (mergeK kvs more).length ≤ sizeLine := Nat.le_trans (length_mergeK more kvs) hz
  exact ⟨.non, _, d_write (t' := s.toks) I (by rw [hd]; exact True.intro) hs he (dk_new hl hds (KV.merge rel2 rel1) hm), rfl, q⟩
/-- two pairs (dict, list) whose dicts have no key in common -/
def PcApart (H : Hp) (u t : Addr) : Prop := ∃ (d1 d2 : Addr) (x1 x2 : V) (k : Key) (v : V) (r kvs : List (Key × V)), H u = some (.tup [.ref d1, x1]) ∧ H t = some (.tup [.ref d2, x2]) ∧ d1 ≠ d2 ∧ H d1 = some (.dK ((k, v) :: r)) ∧ H d2 = some (.dK kvs) ∧ (r.length + 1 = kvs.length → valV kvs k = none)
def rNotInPc (K : PySem.W.Frag) : R2 := fun x y H Q => ∃ (t l : Addr) (ts : List Addr), x = .ref t ∧ y = .ref l ∧ SqL K H l (ts.map V.ref) ∧ (∀ u ∈ ts, u ≠ t → PcApart H u t) ∧ Q (.bl (!decide (t ∈ ts))) H
theorem valV_none {kvs : List (Key × V)} {vs : List (Key × Value)} {k : Key} (r : KV kvs vs) (h : valV kvs k = none) : valueAt vs k = none := RelO.none_of (by rw [← h]; exact r.val k)
theorem op_notInPc (hu : X.A.units + 4 < cLine) : OpR X (compareOp .NotIn) (rNotInPc X.K) := by
  intro pins s σ H x y v u Q I rx ry h
  obtain ⟨t, l, ts, rfl, rfl, hl, hap, q⟩ := h
  cases rx
  cases ry
  obtain ⟨its, rv, pl, hz⟩ := I.list hl
  have ei := refs_at rv
  subst ei
  refine notIn_listIn (fun y => decide (y = .ref t)) pl.isList (fun y hy => ?_) ?_
  · have hy' : y ∈ ts.map Value.ref := by simpa using hy
    obtain ⟨u, hu', rfl⟩ := List.mem_map.mp hy'
    by_cases e : u = t
    · subst e
      rw [decide_eq_true rfl]
      exact (SeqAt.EqAt.same _).inModel _ _
    · rw [decide_eq_false (fun z => e (by injection z))]
      obtain ⟨d1, d2, x1, x2, k, v, r, kvs, h1, h2, hd, h3, h4, hv⟩ := hap u hu' e
      refine SeqAt.EqIn.of_refs e fun E Q hq => ?_
      obtain ⟨i1, r1, t1, _⟩ := I.tuple (SqT.of h1)
      obtain ⟨i2, r2, t2, _⟩ := I.tuple (SqT.of h2)
      obtain ⟨u1, w1, rfl, q1, q1'⟩ := r1.two
      obtain ⟨u2, w2, rfl, q2, q2'⟩ := r2.two
      cases q1
      cases q2
      obtain ⟨z1, hds, vs1, rel1, dd1⟩ := dk_of I.hok h3
      obtain ⟨z2, hos, vs2, rel2, dd2⟩ := dk_of I.hok h4
      have hA : X.A.in1.in1.units < cLine := by show X.A.units + 1 + 1 < cLine; omega
      have miss : SeqAt.EqIn X.prog X.w X.A.in1.in1 s (Value.ref d1) (Value.ref d2) false := by
        refine SeqAt.EqIn.of_refs hd fun E' Q' hq' => ?_
        refine PySem.W.rcP_dicts hds hos dd1 dd2 hA (r := false) (fun hlen => ?_) E' Q' (by rw [Bool.and_false]; exact hq')
        have hlen2 : r.length + 1 = kvs.length := by
          have q1 := rel1.length
          have q2 := rel2.length
          rw [List.length_cons] at q1
          omega
        have hv2 := hv hlen2
        clear hlen
        match vs1, rel1 with
        | (bk, bv) :: bs, .cons e1 e2 =>
          have ek : k = bk := e1.1
          subst ek
          exact .miss (valV_none rel2 hv2)
      exact rcIn_first t1 t2 (by show X.A.units + 1 < cLine; omega) (by simp) (by simp) miss hq
  · have e : (List.toArray (ts.map Value.ref)).any (fun y => decide (y = Value.ref t)) = decide (t ∈ ts) := by
      rw [Bool.eq_iff_iff]
      simp
    refine ⟨.bl (!decide (t ∈ ts)), H, I, ?_, q⟩
    rw [e]
    rfl
end
end Frd
set_option Elab.async false
set_option linter.all false
set_option maxRecDepth 100000
set_option maxHeartbeats 4000000
/-! sorted of pairs (text, int), of tuples with a text of their own ahead; the order of texts. -/
namespace Frd
open PySem PyProof.Rows Srt SrtO
/-- x before y -/
def sLt (x y : Str) : Bool := decide (x.cps.toList < y.cps.toList)
theorem sLt_irr (x : Str) : sLt x x = false := decide_eq_false (List.lt_irrefl _)
theorem sLt_tr {x y z : Str} (h : sLt x y = true) (k : sLt y z = true) : sLt x z = true := decide_eq_true (List.lt_trans (of_decide_eq_true h) (of_decide_eq_true k))
theorem sLt_as {x y : Str} (h : sLt x y = true) : sLt y x = false := decide_eq_false (List.lt_asymm (of_decide_eq_true h))
theorem sLt_tri {x y : Str} (h : sLt x y = false) (k : sLt y x = false) : x = y := by
  have e : x.cps.toList = y.cps.toList := List.le_antisymm (List.not_lt.mp (of_decide_eq_false k)) (List.not_lt.mp (of_decide_eq_false h))
  obtain ⟨⟨a⟩⟩ := x
  obtain ⟨⟨b⟩⟩ := y
  simp only at e
  rw [e]
/-- reads (name, number) in order -/
def rLt (p q : Str × Int) : Bool := if p.1 = q.1 then decide (p.2 < q.2) else sLt p.1 q.1
theorem rLt_irr (p : Str × Int) : rLt p p = false := by
  unfold rLt
  rw [if_pos rfl]
  exact decide_eq_false (Int.lt_irrefl _)
theorem rLt_as {p q : Str × Int} (h : rLt p q = true) : rLt q p = false := by
  unfold rLt at h ⊢
  by_cases e : p.1 = q.1
  · rw [if_pos e] at h
    rw [if_pos e.symm]
    have := of_decide_eq_true h
    exact decide_eq_false (by omega)
  · rw [if_neg e] at h
    rw [if_neg (Ne.symm e)]
    exact sLt_as h
theorem rLt_ntr {p q r : Str × Int} (h : rLt q p = false) (k : rLt r q = false) : rLt r p = false := by
  unfold rLt at h k ⊢
  by_cases e1 : p.1 = q.1
  · rw [if_pos e1.symm] at h
    by_cases e2 : q.1 = r.1
    · rw [if_pos e2.symm] at k
      rw [if_pos (e1.trans e2).symm]
      have := of_decide_eq_false h
      have := of_decide_eq_false k
      exact decide_eq_false (by omega)
    · rw [if_neg (Ne.symm e2)] at k
      rw [if_neg (fun z => e2 (e1.symm.trans z.symm)), e1]
      exact k
  · rw [if_neg (Ne.symm e1)] at h
    by_cases e2 : q.1 = r.1
    · rw [if_neg (fun z => e1 (z.symm.trans e2.symm)), ← e2]
      exact h
    · rw [if_neg (Ne.symm e2)] at k
      -- p < q < r
      have pq : sLt p.1 q.1 = true := by
        cases z : sLt p.1 q.1 with
        | true => rfl
        | false => exact absurd (sLt_tri z h) e1
      have qr : sLt q.1 r.1 = true := by
        cases z : sLt q.1 r.1 with
        | true => rfl
        | false => exact absurd (sLt_tri z k) e2
      have pr := sLt_tr pq qr
      rw [if_neg (fun z => by rw [z, sLt_irr] at pr; cases pr)]
      exact sLt_as pr
theorem rLt_tri {p q : Str × Int} (h : rLt p q = false) (k : rLt q p = false) : p = q := by
  unfold rLt at h k
  by_cases e : p.1 = q.1
  · rw [if_pos e] at h
    rw [if_pos e.symm] at k
    have := of_decide_eq_false h
    have := of_decide_eq_false k
    exact Prod.ext e (by omega)
  · rw [if_neg e] at h
    rw [if_neg (Ne.symm e)] at k
    exact absurd (sLt_tri h k) e
theorem swo_r {α : Type} (k : α → Str × Int) : Swo fun v u => rLt (k v) (k u) := ⟨fun _ _ h => rLt_as h, fun _ _ _ h1 h2 => rLt_ntr h1 h2⟩
theorem swo_s {α : Type} (k : α → Str) : Swo fun v u => sLt (k v) (k u) := by
  refine ⟨fun _ _ h => sLt_as h, fun x y z h1 h2 => ?_⟩
  have q := rLt_ntr (p := (k x, 0)) (q := (k y, 0)) (r := (k z, 0))
  unfold rLt at q
  have f : ∀ a b : Str, (if a = b then decide ((0 : Int) < 0) else sLt a b) = sLt a b := fun a b => by
    by_cases e : a = b
    · rw [if_pos e, e, sLt_irr]
      rfl
    · rw [if_neg e]
  rw [f, f, f] at q
  exact q h1 h2
section
variable {prog : Program} {w : World} {A : Around} {E : Value → Shared → Prop} {s : Shared}
def IsPairS (h : Heap) (v : Value) (x : Str) (y : Int) : Prop := ∃ a o t u n, v = .ref a ∧ h.get? a = some o ∧ o.cls = .type "tuple" ∧ o.data = .seq #[.str x t, .int y u] n
theorem IsPairS.keeps {h h' : Heap} {v : Value} {x : Str} {y : Int} (p : IsPairS h v x y) (k : ∀ b o, h.get? b = some o → o.cls = .type "tuple" → h'.get? b = some o) : IsPairS h' v x y := by
  obtain ⟨a, o, t, u, n, e, ho, hc, hd⟩ := p
  exact ⟨a, o, t, u, n, e, k _ _ ho hc, hc, hd⟩
theorem firstsS_of {h : Heap} : ∀ {vs : List Value}, (∀ v ∈ vs, ∃ x y, IsPairS h v x y) → ∃ fs : List Value, PySem.W.KatTups h vs fs ∧ fs.length = vs.length ∧ ∀ f ∈ fs, ∃ x t, f = Value.str x t
  | [], _ => ⟨[], PySem.W.KatTups.nil, rfl, fun _ hm => by simp at hm⟩
  | v :: vs, hp => by
    obtain ⟨fs, h1, h2, h3⟩ := firstsS_of (vs := vs) fun v' hm => hp v' (List.mem_cons_of_mem _ hm)
    obtain ⟨x, y, a, o, t, u, n, e, ho, hc, hd⟩ := hp v (List.mem_cons_self ..)
    subst e
    refine ⟨.str x t :: fs, PySem.W.KatTups.cons ho hc hd rfl h1, by rw [List.length_cons, List.length_cons, h2], fun f hm => ?_⟩
    rcases List.mem_cons.mp hm with rfl | hm
    · exact ⟨x, t, rfl⟩
    · exact h3 f hm
theorem pairS_cmp {vs : List Value} {k : Value → Str × Int} (hp : ∀ v ∈ vs, IsPairS s.heap v (k v).1 (k v).2) : Cmp prog w A s (tuples' true) (fun p => p.1 ∈ vs) (lt2 fun v u => rLt (k v) (k u)) := by
  intro p q hm hm'
  have h1 := hp _ hm
  have h2 := hp _ hm'
  show wpAny (model prog w) A (keyLt' (tuples' true) p.1 q.1) (fun r s' => s' = s ∧ r = rLt (k p.1) (k q.1)) (fun _ _ => False) s
  unfold rLt
  generalize (k p.1).1 = x at h1 ⊢
  generalize (k p.1).2 = y at h1 ⊢
  generalize (k q.1).1 = x' at h2 ⊢
  generalize (k q.1).2 = y' at h2 ⊢
  obtain ⟨a, o, t, u, n, e, ho, hc, hd⟩ := h1
  obtain ⟨a', o', t', u', n', e', ho', hc', hd'⟩ := h2
  rw [e, e']
  refine PySem.W.kat_lt ho hd ho' hd' ?_
  show PySem.W.KatLex prog w A true (decide (2 < 2)) _ [(.str x t, .str x' t'), (.int y u, .int y' u')] 0 s
  refine PySem.W.kat_cons (SeqAt.EqAt.str_str x t x' t' prog w _ _ ?_)
  refine PySem.W.kat_go (fun e1 => ?_) (fun e1 => ?_)
  · have ex : x = x' := by simpa using e1
    refine PySem.W.kat_yes (PySem.W.kat_cons (SeqAt.EqAt.int_int y u y' u' prog w _ _ ?_))
    refine PySem.W.kat_go (fun e2 => ?_) (fun e2 => ?_)
    · have ey : y = y' := by simpa using e2
      have e3 : (if x = x' then decide (y < y') else sLt x x') = false := by
        rw [if_pos ex, ey]
        exact decide_eq_false (Int.lt_irrefl _)
      exact PySem.W.kat_yes (PySem.W.kat_nil ⟨rfl, e3.symm⟩)
    · have e3 : (if x = x' then decide (y < y') else sLt x x') = decide (y < y') := if_pos ex
      exact PySem.W.kat_no (oneLt_any_int ⟨rfl, e3.symm⟩)
  · have ex : ¬ x = x' := by simpa using e1
    have e3 : (if x = x' then decide (y < y') else sLt x x') = sLt x x' := if_neg ex
    exact PySem.W.kat_no (oneLt_any_str ⟨rfl, e3.symm⟩)
theorem pairsS_sortableO {a : Addr} {vs : List Value} {k : Value → Str × Int} (h0 : 0 < vs.length) (hp : ∀ v ∈ vs, IsPairS s.heap v (k v).1 (k v).2) (ha : ∀ o, s.heap.get? a = some o → o.cls ≠ .type "tuple") : SortableO prog w A s a vs fun v u => rLt (k v) (k u) := by
  intro h' keep
  have hp' : ∀ v ∈ vs, IsPairS h' v (k v).1 (k v).2 := fun v hm => (hp v hm).keeps fun b o e c => keep b o (fun z => by subst z; exact ha o e c) e
  obtain ⟨fs, h1, h2, h3⟩ := firstsS_of fun v hm => ⟨_, _, hp' v hm⟩
  refine ⟨tuples' true, fun Q E hq => ?_, pairS_cmp hp'⟩
  refine PySem.W.kat_kind (T := .type "str") h1 (by omega) (fun f hm => ?_) (by rfl) ?_
  · obtain ⟨x, t, rfl⟩ := h3 f hm
    exact PySem.W.Looks.now
  · have e : (Value.type "str" != Value.type "tuple") = true := by first | decide +kernel | rfl | decide
    rw [e]
    exact hq
/-- sorted(l) of pairs (text, int) -/
theorem sorted_pairsS {l : Addr} {vs : List Value} {k : Value → Str × Int} {Q : Value → Shared → Prop} (hl : s.heap.IsList l vs.toArray) (hz : vs.length ≤ sizeLine) (hp : ∀ v ∈ vs, IsPairS s.heap v (k v).1 (k v).2)
    (h : ∀ (h' : Heap) (d : Addr) (out : List Value), Srtd (fun v u => rLt (k v) (k u)) out → Stb (fun v u => rLt (k v) (k u)) out vs → (∀ b o, s.heap.get? b = some o → h'.get? b = some o) → s.heap.objs.size ≤ d → (∃ n, h'.get? d = some (seqObj "list" out.toArray n)) → Q (.ref d) { s with heap := h' }) :
    wpAny (model prog w) A (call (.builtin "sorted") [.ref l]) Q E s := by
  refine sorted_ord (swo_r k) hl hz (fun h2 h₁ a ha kk => ?_) fun out hs hb => ?_
  · refine pairsS_sortableO (s := { s with heap := h₁ }) (by omega) (fun v hm => (hp v hm).keeps fun b o e _ => (kk b o e).2) fun o e => ?_
    have e' : some o = some (seqObj "list" vs.toArray 0) := e.symm.trans ha
    cases e'
    intro c
    exact absurd (Value.type.inj c) (by decide)
  · exact h _ _ out hs hb (fun b o e => sortedAll_old e) (Nat.le_succ _) (sortedAll_at s.heap vs out.toArray)
end
end Frd
set_option Elab.async false
set_option linter.all false
set_option maxRecDepth 100000
set_option maxHeartbeats 4000000
/-! sorted of a list of named reads, as a rule of the layer. -/
namespace Frd
open PySem PySem.Spec PyProof.Rows L2
abbrev Rd2 := Str × Int
/-- v is the tuple of the named read r -/
def RdV (H : Hp) (v : V) (r : Rd2) : Prop := ∃ t, v = .ref t ∧ H t = some (.tup [.str r.1, .int r.2])
theorem RdV.mono {H H' : Hp} {v : V} {r : Rd2} (s : Same H H') (h : RdV H v r) : RdV H' v r := by
  obtain ⟨t, e, q⟩ := h
  exact ⟨t, e, s _ _ q⟩
theorem RdV.monoX {H H' : Hp} {D : Addr} {acc : List V} {v : V} {r : Rd2} (hD : H D = some (.lst acc)) (s : SameX D H H') (h : RdV H v r) : RdV H' v r := by
  obtain ⟨t, e, q⟩ := h
  exact ⟨t, e, s _ _ (ne_of q hD (by intro z; cases z)) q⟩
theorem RdV.inj {H : Hp} {v : V} {r q : Rd2} (h : RdV H v r) (k : RdV H v q) : r = q := by
  obtain ⟨t, e, h⟩ := h
  obtain ⟨t', e', k⟩ := k
  rw [e] at e'
  cases e'
  rw [h] at k
  have := Option.some.inj k
  injection this with a
  injection a with a1 a2
  injection a2 with a2 _
  exact Prod.ext (V.str.inj a1) (V.int.inj a2)
/-- the read that v stands for -/
def rdOf (H : Hp) (v : V) : Rd2 := match v with
  | .ref t => (match H t with
    | some (.tup [.str x, .int y]) => (x, y)
    | _ => (⟨#[]⟩, 0))
  | _ => (⟨#[]⟩, 0)
theorem RdV.of {H : Hp} {v : V} {r : Rd2} (h : RdV H v r) : rdOf H v = r := by
  obtain ⟨t, e, q⟩ := h
  subst e
  unfold rdOf
  simp only [q]
/-- reads in order -/
def rsort (l : List Rd2) : List Rd2 := l.mergeSort fun a b => !rLt b a
theorem rsort_perm (l : List Rd2) : (rsort l).Perm l := List.mergeSort_perm l _
theorem rsort_sorted (l : List Rd2) : (rsort l).Pairwise fun a b => rLt b a = false := by
  have h := List.pairwise_mergeSort (le := fun a b : Rd2 => !rLt b a) (fun a b c h1 h2 => by
    have h1' : rLt b a = false := by simpa using h1
    have h2' : rLt c b = false := by simpa using h2
    simp [rLt_ntr h1' h2']) (fun a b => by
    cases q : rLt b a with
    | false => simp
    | true => simp [rLt_as q]) l
  exact h.imp fun h => by simpa using h
theorem sorted_uniq : ∀ {l m : List Rd2}, l.Pairwise (fun a b => rLt b a = false) → m.Pairwise (fun a b => rLt b a = false) → l.Perm m → l = m
  | [], m, _, _, h => (List.Perm.eq_nil h.symm).symm
  | x :: l, [], _, _, h => absurd h.length_eq (by simp)
  | x :: l, y :: m, hl, hm, h => by
    have e : x = y := by
      rcases List.mem_cons.mp (h.mem_iff.mp (List.mem_cons_self (a := x) (l := l))) with e | hx
      · exact e
      · rcases List.mem_cons.mp (h.mem_iff.mpr (List.mem_cons_self (a := y) (l := m))) with e | hy
        · exact e.symm
        · exact rLt_tri ((List.pairwise_cons.mp hm).1 x hx) ((List.pairwise_cons.mp hl).1 y hy)
    subst e
    rw [sorted_uniq (List.pairwise_cons.mp hl).2 (List.pairwise_cons.mp hm).2 h.cons_inv]
theorem rsort_eq {l m : List Rd2} (h : m.Pairwise fun a b => rLt b a = false) (p : m.Perm l) : m = rsort l := sorted_uniq h (rsort_sorted l) (p.trans (rsort_perm l).symm)
theorem all2_map {H : Hp} {xs : List V} {rs : List Rd2} (h : All2 (RdV H) xs rs) : xs.map (rdOf H) = rs := by
  refine List.ext_getElem? fun i => ?_
  rw [List.getElem?_map]
  cases q : xs[i]? with
  | none =>
    have := List.getElem?_eq_none_iff.mp q
    rw [List.getElem?_eq_none (by rw [← h.1]; exact this)]
    rfl
  | some x =>
    obtain ⟨y, hy, r⟩ := h.at q
    rw [hy, ← r.of]
    rfl
theorem all2_of_map {H : Hp} {xs : List V} (h : ∀ x ∈ xs, RdV H x (rdOf H x)) : All2 (RdV H) xs (xs.map (rdOf H)) := by
  refine ⟨by rw [List.length_map], fun i x y hx hy => ?_⟩
  rw [List.getElem?_map, hx] at hy
  have := Option.some.inj hy
  rw [← this]
  exact h x (List.mem_of_getElem? hx)
def rSortedRd (K : PySem.W.Frag) : List V → Hp → VK → Prop := fun vs H Q => ∃ (a : Addr) (xs : List V) (rs : List Rd2), vs = [V.ref a] ∧ SqL K H a xs ∧ All2 (RdV H) xs rs ∧
  ∀ ys p, All2 (RdV H) ys (rsort rs) → H p = none → Q (.ref p) (upd H p (.lst ys))
section
variable {X : Cx}
theorem cr_sortedRd : CallR X (.builtin "sorted") (rSortedRd X.K) := by
  intro pins s σ H vs us Q I r h
  obtain ⟨a, xs, rs, rfl, hs, hA, q⟩ := h
  have hx : ∀ x ∈ xs, RdV H x (rdOf H x) := fun x hm => by
    obtain ⟨i, hi⟩ := List.getElem?_of_mem hm
    obtain ⟨y, hy, r⟩ := hA.at hi
    rw [r.of]
    exact r
  obtain ⟨its, rv, hl, hz⟩ := I.list hs
  obtain ⟨u, rfl, ru⟩ := vals1 r
  obtain rfl : u = Value.ref a := ru
  obtain ⟨e1, e2⟩ := refs_back rv fun x m => by
    obtain ⟨t, e, _⟩ := hx x m
    exact ⟨t, e⟩
  refine sorted_pairsS (k := fun u => rdOf H (backV u)) hl.isList (by rw [← rv.length]; exact hz) (fun v hv => ?_) fun h' d out h1 h2 kp hd hn => ?_
  · obtain ⟨t, rfl⟩ := e2 v hv
    have hm : V.ref t ∈ xs := by rw [e1]; exact List.mem_map.mpr ⟨_, hv, rfl⟩
    obtain ⟨t', e, ht⟩ := hx _ hm
    cases e
    obtain ⟨_, its2, r2, o, ho, hc, n, hd⟩ := I.hok _ _ ht
    obtain ⟨u1, u2, rfl, ri, rj⟩ := vals2 r2
    obtain ⟨t1, rfl⟩ := ri
    obtain ⟨t2, rfl⟩ := rj
    exact ⟨t, o, t1, t2, n, rfl, ho, hc, hd⟩
  · have h3 : ∀ u ∈ out, ∃ a, u = Value.ref a := fun u hu => e2 u (h2.perm.mem_iff.mp hu)
    obtain ⟨n, hn⟩ := hn
    have hperm : (out.map backV).Perm xs := by
      rw [e1]
      exact h2.perm.map backV
    have hso : ((out.map backV).map (rdOf H)).Pairwise fun a b => rLt b a = false := by
      rw [List.map_map]
      exact List.pairwise_map.mpr h1
    have hE : (out.map backV).map (rdOf H) = rsort rs := by
      refine rsort_eq hso ?_
      rw [← all2_map hA]
      exact hperm.map _
    have hA2 : All2 (RdV H) (out.map backV) (rsort rs) := by
      rw [← hE]
      exact all2_of_map fun x hm => hx x (hperm.mem_iff.mp hm)
    refine ⟨.ref d, upd H d (.lst (out.map backV)), I.laid (t' := s.toks) kp hd ⟨?_, out, n, vals_back h3, hn⟩, rfl, q _ d hA2 (I.hok.fresh hd)⟩
    rw [hperm.length_eq]
    exact hz
end
end Frd
set_option Elab.async false
set_option linter.all false
set_option maxRecDepth 100000
set_option maxHeartbeats 4000000
/-! y = {k: v for ..}: a dict comprehension stored at a local name. -/
namespace Frd
open PySem PySem.Spec PyProof.Rows L2
section
variable {X : Cx}
theorem ps_setDc {i : Nat} {y : Str} {py : Pos} {kx vx tg iter : Expr} {ifs : List Expr} {scope : Scope} {own : List (Str × Nat)} {pos spos : Pos} {wi : TI} {g : TG} {tt : TT} {tk tv : TE} (hc : X.calm = true) (hN : X.N.Nodup) (hy : X.N[i]? = some y) (hyl : X.env.scope.names.lookup y = some .local)
    (hsw : swapsWith (.DictComp kx vx [⟨tg, iter, ifs, 0⟩] scope pos) (some (.Name y py)) spos.line X.env = pure true) (hi : PI X tg iter wi) (ok : BlkOk X.N X.env.scope scope own)
    (hg : ∀ (s : Shared) (H : Hp) (C : Addr) (cl : List (Str × Addr)) (fp : List Addr), PG (X.blk s H scope (compEnvC scope cl C X.env) fp) tg g) (ht : ∀ (s : Shared) (H : Hp) (C : Addr) (cl : List (Str × Addr)) (fp : List Addr), PTs (X.blk s H scope (compEnvC scope cl C X.env) fp) ifs tt)
    (hk : ∀ (s : Shared) (H : Hp) (C : Addr) (cl : List (Str × Addr)) (fp : List Addr), PE (X.blk s H scope (compEnvC scope cl C X.env) fp) kx tk)
    (he : ∀ (s : Shared) (H : Hp) (C : Addr) (cl : List (Str × Addr)) (fp : List Addr), PE (X.blk s H scope (compEnvC scope cl C X.env) fp) vx tv) (hs : ∀ x, foldedSetIterable iter X.env x = pure x := by intro _; rfl) :
    PS X (.Assign [.Name y py] (.DictComp kx vx [⟨tg, iter, ifs, 0⟩] scope pos) spos) (tAsg (tDc wi g tt tk tv (own.map (·.2))) (gName i)) := by
  refine ⟨fun pins s σ H D I h => ?_⟩
  rw [exec_Assign_Name_used _ _ _ _ hsw]
  refine wpAny_bind (wpAny_standAt (wpAny_bind ?_))
  show wpAny _ X.A (do let _ ← comprehension (.DictComp kx vx [⟨tg, iter, ifs, 0⟩] scope pos) scope X.env (firstIterPos [⟨tg, iter, ifs, 0⟩] pos) newDict false (eval iter X.env) (some (assign (.Name y py) X.env))) _ _ s
  have h : tDc wi g tt tk tv (own.map (·.2)) σ H (fun x H1 => gName i x σ H1 D.nx) := h
  refine wpAny_bind (thn (dc_core (Qf := fun _ s' => SP X pins D .next s') hc hN I hi ok hg ht hk he hs h fun L C s' m H' I' q hn f => ?_) fun _ s' hq => wpAny_pure (wpAny_pure hq))
  show wpAny _ _ (assign (.Name y py) X.env (.ref L)) _ _ _
  refine wpAny_assign_Name (store_ok2 (v := V.ref L) I' hN hy (.inl hyl) rfl (fun s2 I2 ⟨a, sb, ha⟩ => ?_) (.inr hyl))
  obtain ⟨f0, f1, f2, f3, f4, f5⟩ := f
  have haC : C ≠ a := by
    rcases ha with z | z
    · rw [z]; exact f1
    · exact fun e => f4 y a z e.symm
  refine ⟨m, hn.sameBut sb haC, fun h3 sb3 => ?_⟩
  exact ⟨_, H', I2.turned (t' := s2.toks) (fun b o hb e => (sb3.2 b hb).trans e) f0 f1 f3 f4 f5, q⟩
theorem swd_true {kx vx : Expr} {gs : List Comprehension} {scope : Scope} {pos py : Pos} {y : Str} {l : Nat} {env : Env} (hk : env.scope.kind = .function) (hy : env.scope.names.lookup y = some .local) (hl : (py.line == pos.line) = true)
    (ha : (scope.names.any fun (n, k) => n == y && (k == .local || k == .cell)) = false) : swapsWith (.DictComp kx vx gs scope pos) (some (.Name y py)) l env = pure true := by
  have ky : env.kindOf y = some .local := hy
  have hb : env.blockKind = .function := by unfold Env.blockKind; rw [hk]; rfl
  unfold swapsWith
  simp only [hb, ky, ha, Expr.pos, hl]
  rfl
end
end Frd
set_option Elab.async false
set_option linter.all false
set_option maxRecDepth 100000
set_option maxHeartbeats 4000000
/-! Systems: the data, how they lie; vector_of, target_of, check_table, check_cell. -/
namespace Frd
open PySem PySem.Spec PyProof.Rows L2
/-- a read: table, vector, factor -/
abbrev Read := Str × List Int × Int
structure Tb where
  name : Str
  const : Int
  reads : List Read
structure Sys where
  d : Nat
  tabs : List Tb
def Sys.tab (S : Sys) (n : Str) : Option Tb := S.tabs.find? fun t => decide (t.name = n)
/-- what a named read is -/
def Sys.rd (S : Sys) (r : Rd2) : Option Read := (S.tab r.1).bind fun t => if 0 ≤ r.2 then t.reads[r.2.toNat]? else none
def namedT (t : Tb) : List Rd2 := (List.range t.reads.length).map fun (i : Nat) => (t.name, (i : Int))
def Sys.named (S : Sys) : List Rd2 := S.tabs.flatMap namedT
structure Sys.Ok (S : Sys) : Prop where
  d1 : 1 ≤ S.d
  d3 : S.d ≤ 3
  t1 : S.tabs ≠ []
  t6 : S.tabs.length ≤ 6
  nodup : (S.tabs.map (·.name)).Nodup
  few : S.named.length ≤ 12
  vec : ∀ t ∈ S.tabs, ∀ x ∈ t.reads, x.2.1.length = S.d ∧ ∀ v ∈ x.2.1, v.natAbs ≤ 5
  tgt : ∀ t ∈ S.tabs, ∀ x ∈ t.reads, ∃ u ∈ S.tabs, u.name = x.1
/-- a read's tuple -/
def ReadV (H : Hp) (v : V) (x : Read) : Prop := ∃ a b, v = .ref a ∧ H a = some (.tup [.str x.1, .ref b, .int x.2.2]) ∧ H b = some (.tup (x.2.1.map V.int))
theorem ReadV.mono {H H' : Hp} {v : V} {x : Read} (s : Same H H') (h : ReadV H v x) : ReadV H' v x := by
  obtain ⟨a, b, e, h1, h2⟩ := h
  exact ⟨a, b, e, s _ _ h1, s _ _ h2⟩
/-- a table's entry: (constant, reads) -/
def TabV (H : Hp) (v : V) (t : Tb) : Prop := ∃ a b ids, v = .ref a ∧ H a = some (.tup [.int t.const, .ref b]) ∧ H b = some (.tup ids) ∧ All2 (ReadV H) ids t.reads
theorem TabV.mono {H H' : Hp} {v : V} {x : Tb} (s : Same H H') (h : TabV H v x) : TabV H' v x := by
  obtain ⟨a, b, ids, e, h1, h2, h3⟩ := h
  exact ⟨a, b, ids, e, s _ _ h1, s _ _ h2, h3.mono fun x y z => z.mono s⟩
def sf (d : Nat) (kt nr : Addr) : List (Str × V) := [("dimension_count", .int d), ("kept_modulus", .int 97), ("kept_tables", .ref kt), ("named_reads", .ref nr)]
section
variable {d : Nat} {kt nr : Addr}
theorem sf_d : (sf d kt nr).lookup ("dimension_count" : Str) = some (.int d) := by kernel_rfl
theorem sf_t : (sf d kt nr).lookup ("kept_tables" : Str) = some (.ref kt) := by kernel_rfl
theorem sf_n : (sf d kt nr).lookup ("named_reads" : Str) = some (.ref nr) := by kernel_rfl
end
/-- the system's object at p -/
structure SysAt (C : Addr) (H : Hp) (p : Addr) (S : Sys) : Prop where
  ex : ∃ (dx kt nr : Addr) (kvs : List (Key × V)) (nrs : List V), H p = some (.ins C dx (sf S.d kt nr)) ∧ H kt = some (.dK kvs) ∧ kvs.map (·.1) = S.tabs.map (fun t => Sum.inr t.name) ∧
    (∀ (i : Nat) kv t, kvs[i]? = some kv → S.tabs[i]? = some t → TabV H kv.2 t) ∧ H nr = some (.tup nrs) ∧ All2 (RdV H) nrs S.named
theorem SysAt.mono {C : Addr} {H H' : Hp} {p : Addr} {S : Sys} (s : Same H H') (h : SysAt C H p S) : SysAt C H' p S := by
  obtain ⟨dx, kt, nr, kvs, nrs, h1, h2, h3, h4, h5, h6⟩ := h
  exact ⟨dx, kt, nr, kvs, nrs, s _ _ h1, s _ _ h2, h3, fun i kv t a b => (h4 i kv t a b).mono s, s _ _ h5, h6.mono fun x y z => z.mono s⟩
/-- the entry of a name -/
theorem tab_find : ∀ {kvs : List (Key × V)} {ts : List Tb} {H : Hp}, kvs.map (·.1) = ts.map (fun t => Sum.inr t.name) → (∀ (i : Nat) kv t, kvs[i]? = some kv → ts[i]? = some t → TabV H kv.2 t) → ∀ n : Str,
    (match ts.find? (fun t => decide (t.name = n)) with
      | some t => ∃ v, valV kvs (Sum.inr n) = some v ∧ TabV H v t
      | none => valV kvs (Sum.inr n) = none)
  | [], [], _, _, _, n => rfl
  | [], t :: ts, _, h, _, _ => by simp at h
  | kv :: kvs, [], _, h, _, _ => by simp at h
  | kv :: kvs, t :: ts, H, h, hv, n => by
    have h1 : kv.1 = Sum.inr t.name := (List.cons.inj h).1
    have ih := tab_find (kvs := kvs) (ts := ts) (H := H) (List.cons.inj h).2 (fun i kv' t' a b => hv (i + 1) kv' t' a b) n
    rw [List.find?_cons]
    by_cases e : t.name = n
    · rw [decide_eq_true e]
      exact ⟨kv.2, valV_pos (by rw [h1, e]), hv 0 kv t rfl rfl⟩
    · rw [decide_eq_false e]
      have e2 : ¬ kv.1 = Sum.inr n := fun z => e (by rw [h1] at z; exact Sum.inr.inj z)
      rw [valV_neg e2]
      exact ih
theorem find_of_tab {S : Sys} {n : Str} {t : Tb} {kvs : List (Key × V)} {H : Hp} (h3 : kvs.map (·.1) = S.tabs.map (fun t => Sum.inr t.name)) (h4 : ∀ (i : Nat) kv t, kvs[i]? = some kv → S.tabs[i]? = some t → TabV H kv.2 t) (e : S.tab n = some t) :
    ∃ v, valV kvs (Sum.inr n) = some v ∧ TabV H v t := by
  have q := tab_find h3 h4 n
  unfold Sys.tab at e
  rw [e] at q
  exact q
theorem rd_tab {S : Sys} {r : Rd2} {x : Read} (h : S.rd r = some x) : ∃ t, S.tab r.1 = some t ∧ 0 ≤ r.2 ∧ t.reads[r.2.toNat]? = some x := by
  unfold Sys.rd at h
  cases e : S.tab r.1 with
  | none =>
    rw [e] at h
    cases h
  | some t =>
    rw [e] at h
    have h' : (if 0 ≤ r.2 then t.reads[r.2.toNat]? else none) = some x := h
    by_cases q : 0 ≤ r.2
    · rw [if_pos q] at h'
      exact ⟨t, rfl, q, h'⟩
    · rw [if_neg q] at h'
      cases h'
structure TxS (K : PySem.W.Frag) (C : Addr) : Prop where
  cl : Cls K C
  nd : NoAttr K C "dimension_count"
  nm : NoAttr K C "kept_modulus"
  nt : NoAttr K C "kept_tables"
  nn : NoAttr K C "named_reads"
section
variable {P : Program} {w : World} {K : PySem.W.Frag} {mg : Str → Option Value} {base : Heap} {C : Addr}
theorem scVo : FnScope ["system", "read", "name", "number"] ["system", "read"] (defScope (topS 24)) := ⟨rfl, rfl, rfl, by decide +kernel, rfl, by decide +kernel, by decide +kernel⟩
def spVo (C : Addr) : Sp := fun vs H Q _ => ∃ (p : Addr) (v : V) (S : Sys) (r : Rd2) (x : Read), vs = [.ref p, v] ∧ SysAt C H p S ∧ RdV H v r ∧ S.rd r = some x ∧ ∀ b, H b = some (.tup (x.2.1.map V.int)) → Q (.ref b) H
theorem ok_vo {f : Addr} {fd : FuncData} (F : Fun K "vector_of" "vector_of" (topS 24) f fd) (T : TxS K C) : FnOk P w K mg base CX0 1 f fd ["system", "read"] (spVo C) := by
  refine F.ok scVo (fun vs H Q E h => ?_) (fun cdv A outer s H vs Q E hr h => ?_)
  · obtain ⟨p, v, S, r, x, rfl, _⟩ := h
    rfl
  · obtain ⟨p, v, S, r, x, rfl, ⟨dx, kt, nr, kvs, nrs, h1, h2, h3, h4, h5, h6⟩, ⟨t, rfl, ht⟩, hx, q⟩ := h
    have nd := scVo.nd
    have hu := hu_of hr
    refine ⟨_, pss_cons (ps_asg (pv 1) (pg_tup rfl (pgs_cons (pg_name (i := 2) nd rfl (.inl rfl)) (pgs_cons (pg_name (i := 3) nd rfl (.inl rfl)) pgs_nil))))
      (pss_one (ps_ret (pe_ix ix_tup (pe_ix ix_tup (pe_ix ix_tup (pe_dget hu (pe_fld (pv 0) rfl) (pv 2) (fun _ _ => rfl)) pe_int (fun _ _ => rfl)) (pv 3) (fun _ _ => rfl)) pe_int (fun _ _ => rfl)))), ?_⟩
    obtain ⟨tb, e1, e2, e3⟩ := rd_tab hx
    obtain ⟨u, hv, a, b, ids, rfl, ha, hb, hids⟩ := find_of_tab h3 h4 e1
    obtain ⟨y, hy, a2, b2, rfl, ha2, hb2⟩ := hids.at' e3
    refine ⟨_, rfl, t, _, rfl, SqT.of ht, rfl, _, _, rfl, _, _, rfl, rfl, ?_⟩
    refine ⟨_, rfl, p, C, dx, _, _, rfl, h1, T.cl, T.nt, sf_t, _, rfl, kt, .ref a, rfl, by rw [← hv]; exact DGet.k (k := Sum.inr r.1) h2, ?_⟩
    refine ⟨a, _, 1, .ref b, rfl, rfl, SqT.of ha, atI_nat (j := 1) rfl, ?_⟩
    refine ⟨_, rfl, b, _, r.2, .ref a2, rfl, rfl, SqT.of hb, ?_, ?_⟩
    · rw [show r.2 = ((r.2.toNat : Nat) : Int) by omega]
      exact atI_nat hy
    · exact ⟨a2, _, 1, .ref b2, rfl, rfl, SqT.of ha2, atI_nat (j := 1) rfl, q b2 hb2⟩
theorem scTo : FnScope ["system", "read", "name", "number"] ["system", "read"] (defScope (topS 25)) := ⟨rfl, rfl, rfl, by decide +kernel, rfl, by decide +kernel, by decide +kernel⟩
def spTo (C : Addr) : Sp := fun vs H Q _ => ∃ (p : Addr) (v : V) (S : Sys) (r : Rd2) (x : Read), vs = [.ref p, v] ∧ SysAt C H p S ∧ RdV H v r ∧ S.rd r = some x ∧ Q (.str x.1) H
theorem ok_to {f : Addr} {fd : FuncData} (F : Fun K "target_of" "target_of" (topS 25) f fd) (T : TxS K C) : FnOk P w K mg base CX0 1 f fd ["system", "read"] (spTo C) := by
  refine F.ok scTo (fun vs H Q E h => ?_) (fun cdv A outer s H vs Q E hr h => ?_)
  · obtain ⟨p, v, S, r, x, rfl, _⟩ := h
    rfl
  · obtain ⟨p, v, S, r, x, rfl, ⟨dx, kt, nr, kvs, nrs, h1, h2, h3, h4, h5, h6⟩, ⟨t, rfl, ht⟩, hx, q⟩ := h
    have nd := scTo.nd
    have hu := hu_of hr
    refine ⟨_, pss_cons (ps_asg (pv 1) (pg_tup rfl (pgs_cons (pg_name (i := 2) nd rfl (.inl rfl)) (pgs_cons (pg_name (i := 3) nd rfl (.inl rfl)) pgs_nil))))
      (pss_one (ps_ret (pe_ix ix_tup (pe_ix ix_tup (pe_ix ix_tup (pe_dget hu (pe_fld (pv 0) rfl) (pv 2) (fun _ _ => rfl)) pe_int (fun _ _ => rfl)) (pv 3) (fun _ _ => rfl)) pe_int (fun _ _ => rfl)))), ?_⟩
    obtain ⟨tb, e1, e2, e3⟩ := rd_tab hx
    obtain ⟨u, hv, a, b, ids, rfl, ha, hb, hids⟩ := find_of_tab h3 h4 e1
    obtain ⟨y, hy, a2, b2, rfl, ha2, hb2⟩ := hids.at' e3
    refine ⟨_, rfl, t, _, rfl, SqT.of ht, rfl, _, _, rfl, _, _, rfl, rfl, ?_⟩
    refine ⟨_, rfl, p, C, dx, _, _, rfl, h1, T.cl, T.nt, sf_t, _, rfl, kt, .ref a, rfl, by rw [← hv]; exact DGet.k (k := Sum.inr r.1) h2, ?_⟩
    refine ⟨a, _, 1, .ref b, rfl, rfl, SqT.of ha, atI_nat (j := 1) rfl, ?_⟩
    refine ⟨_, rfl, b, _, r.2, .ref a2, rfl, rfl, SqT.of hb, ?_, ?_⟩
    · rw [show r.2 = ((r.2.toNat : Nat) : Int) by omega]
      exact atI_nat hy
    · exact ⟨a2, _, 0, .str x.1, rfl, rfl, SqT.of ha2, atI_nat (j := 0) rfl, q⟩
theorem scCt : FnScope ["system", "name"] ["system", "name"] (defScope (topS 20)) := ⟨rfl, rfl, rfl, by decide +kernel, rfl, by decide +kernel, by decide +kernel⟩
def spCt (C : Addr) : Sp := fun vs H Q _ => ∃ (p : Addr) (n : Str) (S : Sys) (t : Tb), vs = [.ref p, .str n] ∧ SysAt C H p S ∧ S.tab n = some t ∧ Q .non H
theorem ok_ct {f : Addr} {fd : FuncData} (F : Fun K "check_table" "check_table" (topS 20) f fd) (T : TxS K C) : FnOk P w K mg base CX0 1 f fd ["system", "name"] (spCt C) := by
  refine F.ok scCt (fun vs H Q E h => ?_) (fun cdv A outer s H vs Q E hr h => ?_)
  · obtain ⟨p, n, S, t, rfl, _⟩ := h
    rfl
  · obtain ⟨p, n, S, t, rfl, ⟨dx, kt, nr, kvs, nrs, h1, h2, h3, h4, h5, h6⟩, e1, q⟩ := h
    have hu := hu_of hr
    refine ⟨_, pss_one (ps_if (pt_cmp (pc_dnotin hu (pv 1) (pe_fld (pv 0) rfl))) pss_never pss_nil), ?_⟩
    obtain ⟨u, hv, _⟩ := find_of_tab h3 h4 e1
    refine ⟨_, rfl, _, rfl, p, C, dx, _, _, rfl, h1, T.cl, T.nt, sf_t, kt, some u, rfl, by rw [← hv]; exact DGet.k (k := Sum.inr n) h2, _, rfl, ?_⟩
    exact iteF q
theorem scCc : FnScope ["system", "cell", "name", "point"] ["system", "cell"] (defScope (topS 21)) := ⟨rfl, rfl, rfl, by decide +kernel, rfl, by decide +kernel, by decide +kernel⟩
/-- v is the cell (name, point) -/
def CellV (H : Hp) (v : V) (n : Str) (pt : List Int) : Prop := ∃ a b, v = .ref a ∧ H a = some (.tup [.str n, .ref b]) ∧ H b = some (.tup (pt.map V.int))
theorem CellV.mono {H H' : Hp} {v : V} {n : Str} {pt : List Int} (s : Same H H') (h : CellV H v n pt) : CellV H' v n pt := by
  obtain ⟨a, b, e, h1, h2⟩ := h
  exact ⟨a, b, e, s _ _ h1, s _ _ h2⟩
end
end Frd
set_option Elab.async false
set_option linter.all false
set_option maxRecDepth 100000
set_option maxHeartbeats 4000000
/-! min of a tuple of ints. -/
namespace PySem
open PySem PyProof.Rows
section
variable {prog : Program} {w : World} {A : Around} {E : Value → Shared → Prop} {s : Shared} {l : Addr} {xs : Array (Int × Tok)}
theorem frd_iter_intTuple {Q : Value → Shared → Prop} (hl : s.heap.IsTuple l (intItems xs))
    (h : ∀ s₂ : Shared, s₂ = { s with heap := s.heap.push { cls := .type "tuple_iterator", data := .fields #[.ref l, .int 0 0] } } →
      (s₂.heap.IsTupleIter s.heap.objs.size l 0 ∧ s₂.heap.IsTuple l (intItems xs)) → (∀ b ∈ [s.heap.objs.size, l], b < s₂.heap.objs.size) → l ≠ s.heap.objs.size → Q (.ref s.heap.objs.size) s₂) :
    wpAny (model prog w) A (pyIter (.ref l)) Q E s := by
  have hlt : l < s.heap.objs.size := by obtain ⟨_, e, _⟩ := hl; exact Heap.lt_size e
  refine wpAny_pyIter_tuple hl (h _ rfl ⟨⟨_, Heap.get?_push_size _ rfl, rfl, rfl⟩, ?_⟩ (fun b hb => ?_) (Nat.ne_of_lt hlt))
  · obtain ⟨o, e, r⟩ := hl
    exact ⟨o, Heap.get?_push_of_some _ e, r⟩
  · show b < (s.heap.push _).objs.size
    rw [Heap.size_push]
    rcases List.mem_cons.mp hb with rfl | hb
    · exact Nat.lt_succ_self _
    · rcases List.mem_cons.mp hb with rfl | hb
      · exact Nat.lt_succ_of_lt hlt
      · cases hb
theorem frd_min_intTuple {Q : Value → Shared → Prop} (hh : A.handled = none) (hl : s.heap.IsTuple l (intItems xs)) (hne : 0 < xs.size)
    (h : ∀ v h' tk, (intItems xs)[argBest (fun i j => decide (numAt xs i < numAt xs j)) (xs.size - 1)]? = some v → (∀ b o, s.heap.get? b = some o → h'.get? b = some o) → Q v { s with heap := h', toks := tk }) :
    wpAny (model prog w) A (call (.builtin "min") [.ref l]) Q E s := by
  refine call_min_walk (frd_iter_intTuple hl fun s₂ e st hfp hlI => ?_)
  subst e
  refine ⟨_, _, _, _, _, _, _, rfl, Walks.tuple (A := A.in1) hh _ l hlI (intItems xs), st, hfp, by simpa [intItems] using hne, CmpOf.ints_lt (numAt xs) (fun _ _ => intItems_at), fun v h' tk hP hk => ?_⟩
  refine h v h' tk (by simpa [intItems] using hP) fun b o e => ?_
  refine hk b o (fun hm => ?_) (Heap.get?_push_of_some _ e)
  rcases List.mem_cons.mp hm with e1 | hm
  · exact absurd (e1 ▸ Heap.lt_size e) (Nat.lt_irrefl _)
  · cases hm
end
end PySem
namespace Frd
open PySem PySem.Spec PyProof.Rows L2
section
variable {prog : Program} {w : World} {A : Around} {E : Value → Shared → Prop} {s : Shared} {l : Addr} {its : List Value} {ns : List Int} {Q : Value → Shared → Prop}
theorem min_rawT (hh : A.handled = none) (hl : s.heap.IsTuple l its.toArray) (hi : IntsAre its ns) (hne : 0 < ns.length)
    (h : ∀ h' tk M t', (∀ b o, s.heap.get? b = some o → h'.get? b = some o) → M ∈ ns → (∀ a, a ∈ ns → M ≤ a) → Q (.int M t') { s with heap := h', toks := tk }) : wpAny (model prog w) A (call (.builtin "min") [.ref l]) Q E s := by
  obtain ⟨xs, e⟩ := hi.allInts.items
  have hn : numsOf (intItems xs).toList = ns := by rw [← e]; exact hi.numsOf
  rw [nums_intItems] at hn
  subst hn
  rw [e] at hl
  have hsz : 0 < xs.size := by simpa using hne
  refine PySem.frd_min_intTuple hh hl hsz fun v h' tk hv hk => ?_
  obtain ⟨t, rfl⟩ := intItems_at hv
  obtain ⟨h1, h2⟩ := argBest_lt (numAt xs) (xs.size - 1)
  refine h h' tk _ t hk ?_ fun a ha => ?_
  · rw [numAt_eq]; exact PySem.getD_mem (by rw [List.length_map, Array.length_toList]; omega)
  · obtain ⟨j, hj, rfl⟩ := mem_getD ha
    rw [List.length_map, Array.length_toList] at hj
    rw [← numAt_eq]; exact h2 j (by omega)
end
section
variable {X : Cx}
def rMinT (K : PySem.W.Frag) : List V → Hp → VK → Prop := fun vs H Q => ∃ (a : Addr) (ns : List Int), vs = [V.ref a] ∧ SqT K H a (ns.map V.int) ∧ 0 < ns.length ∧ ∀ m, m ∈ ns → (∀ y, y ∈ ns → m ≤ y) → Q (.int m) H
theorem cr_minT (hc : X.calm = true) : CallR X (.builtin "min") (rMinT X.K) := by
  intro pins s σ H vs us Q I r h
  obtain ⟨a, ns, rfl, hs, hne, q⟩ := h
  obtain ⟨its, rv, hl, _⟩ := I.tuple hs
  rw [Vals.ref1 r]
  exact min_rawT (I.ok.hd hc) hl rv.ints hne fun h' tk m t' hk h1 h2 => ⟨.int _, H, I.kept hk, ⟨_, rfl⟩, q m h1 h2⟩
end
section
variable {P : Program} {w : World} {K : PySem.W.Frag} {mg : Str → Option Value} {base : Heap} {C : Addr}
def spCc (C : Addr) : Sp := fun vs H Q _ => ∃ (p : Addr) (v : V) (S : Sys) (n : Str) (pt : List Int) (t : Tb), vs = [.ref p, v] ∧ SysAt C H p S ∧ CellV H v n pt ∧ S.tab n = some t ∧ pt.length = S.d ∧ 1 ≤ S.d ∧ (∀ x ∈ pt, 0 ≤ x) ∧ Q .non H
theorem ok_cc {f : Addr} {fd : FuncData} (F : Fun K "check_cell" "check_cell" (topS 21) f fd) (T : TxS K C) (mlen : mg "len" = none) (mmin : mg "min" = none) (D1 : Dn P w K mg base "check_table" 1 ["system", "name"] (spCt C)) : FnOk P w K mg base CX0 2 f fd ["system", "cell"] (spCc C) := by
  refine F.ok scCc (fun vs H Q E h => ?_) (fun cdv A outer s H vs Q E hr h => ?_)
  · obtain ⟨p, v, S, n, pt, t, rfl, _⟩ := h
    rfl
  · obtain ⟨p, v, S, n, pt, t, rfl, hS, ⟨a, b, rfl, ha, hb⟩, ht, hl, hd, hpos, q⟩ := h
    have nd := scCc.nd
    refine ⟨_, pss_cons (ps_asg (pv 1) (pg_tup rfl (pgs_cons (pg_name (i := 2) nd rfl (.inl rfl)) (pgs_cons (pg_name (i := 3) nd rfl (.inl rfl)) pgs_nil))))
      (pss_cons (ps_expr (pe_def D1 hr (by rfl) (pa_cons (pv 0) (pa_cons (pv 2) pa_nil))))
      (pss_one (ps_if (PW.pt (pw_or (pt_cmpR op_ne (pe_callB call_len_seq (by rfl) mlen PySem.boot_len (pa_cons (pv 3) pa_nil)) (pe_fld (pv 0) rfl) (nomark _)) (pw_or1 (pt_cmpR op_lt (pe_callB (cr_minT rfl) (by rfl) mmin (by decide +kernel) (pa_cons (pv 3) pa_nil)) pe_int (nomark _))))) pss_never pss_nil))), ?_⟩
    refine ⟨_, rfl, a, _, rfl, SqT.of ha, rfl, _, _, rfl, _, _, rfl, rfl, ?_⟩
    refine ⟨_, rfl, _, rfl, p, n, S, t, rfl, hS, ht, ?_⟩
    obtain ⟨dx, kt, nr, kvs, nrs, h1, _⟩ := id hS
    refine ⟨_, rfl, b, _, rfl, .inr (SqT.of hb), _, rfl, p, C, dx, _, _, rfl, h1, T.cl, T.nd, sf_d, rfl, _, rfl, ?_⟩
    rw [List.length_map, hl, decide_eq_true rfl]
    refine iteF ?_
    refine ⟨_, rfl, b, pt, rfl, SqT.of hb, by omega, fun m hm _ => ?_⟩
    have := hpos m hm
    refine ⟨_, _, rfl, rfl, _, rfl, ?_⟩
    rw [decide_eq_false (by omega)]
    exact iteF q
end
end Frd
set_option Elab.async false
set_option linter.all false
set_option maxRecDepth 100000
set_option maxHeartbeats 4000000
/-! Keys of dicts; dict comprehensions; names in order. -/
namespace Frd
open PySem PySem.Spec PyProof.Rows L2
section
variable {α : Type} [DecidableEq α]
def addK (l : List α) (k : α) : List α := if k ∈ l then l else l ++ [k]
theorem mem_addK {l : List α} {k j : α} : j ∈ addK l k ↔ j ∈ l ∨ j = k := by
  unfold addK
  split
  · constructor
    · exact .inl
    · rintro (h | rfl)
      · exact h
      · assumption
  · simp
theorem nodup_addK {l : List α} {k : α} (h : l.Nodup) : (addK l k).Nodup := by
  unfold addK
  split
  · exact h
  · rename_i q
    refine List.nodup_append.mpr ⟨h, by simp, fun a ha b hb e => ?_⟩
    have := List.mem_singleton.mp hb
    subst this
    subst e
    exact q ha
theorem len_addK {l : List α} {k : α} : (addK l k).length ≤ l.length + 1 := by
  unfold addK
  split <;> simp
def addKs (l more : List α) : List α := more.foldl addK l
theorem mem_addKs : ∀ {more l : List α} {j : α}, j ∈ addKs l more ↔ j ∈ l ∨ j ∈ more
  | [], l, j => by
    show j ∈ l ↔ _
    simp
  | k :: more, l, j => by
    show j ∈ addKs (addK l k) more ↔ _
    rw [mem_addKs, mem_addK, List.mem_cons, or_assoc]
theorem nodup_addKs : ∀ {more l : List α}, l.Nodup → (addKs l more).Nodup
  | [], _, h => h
  | _ :: more, _, h => nodup_addKs (more := more) (nodup_addK h)
theorem len_addKs : ∀ {more l : List α}, (addKs l more).length ≤ l.length + more.length
  | [], l => Nat.le_refl _
  | k :: more, l => by
    have a := len_addKs (more := more) (l := addK l k)
    have b := len_addK (l := l) (k := k)
    rw [List.length_cons]
    show (addKs (addK l k) more).length ≤ _
    omega
theorem addKs_nodup : ∀ {more l : List α}, (l ++ more).Nodup → addKs l more = l ++ more
  | [], l, _ => (List.append_nil l).symm
  | k :: more, l, h => by
    have hk : k ∉ l := fun z => by
      have := (List.nodup_append.mp h).2.2 k z k (List.mem_cons_self ..)
      exact this rfl
    show addKs (addK l k) more = _
    unfold addK
    rw [if_neg hk, addKs_nodup (by rw [List.append_assoc]; exact h), List.append_assoc]
    rfl
end
section
variable {κ : Type} [DecidableEq κ]
theorem keys_putK (kvs : List (κ × V)) (k : κ) (v : V) : (putK kvs k v).map (·.1) = addK (kvs.map (·.1)) k := by
  have e : (kvs.any fun kv => decide (kv.1 = k)) = true ↔ k ∈ kvs.map (·.1) := by
    rw [List.any_eq_true, List.mem_map]
    constructor
    · rintro ⟨x, hx, h⟩
      exact ⟨x, hx, of_decide_eq_true h⟩
    · rintro ⟨x, hx, h⟩
      exact ⟨x, hx, decide_eq_true h⟩
  unfold putK addK
  by_cases q : (kvs.any fun kv => decide (kv.1 = k)) = true
  · rw [if_pos q, if_pos (e.mp q), List.map_map]
    refine List.map_congr_left fun x _ => ?_
    show (if x.1 = k then (x.1, v) else x).1 = x.1
    split <;> rfl
  · rw [if_neg q, if_neg (fun z => q (e.mpr z)), List.map_append]
    rfl
theorem keys_merge : ∀ (more kvs : List (Key × V)), (mergeK kvs more).map (·.1) = addKs (kvs.map (·.1)) (more.map (·.1))
  | [], _ => rfl
  | p :: more, kvs => by
    show (mergeK (putK kvs p.1 p.2) more).map (·.1) = addKs (addK (kvs.map (·.1)) p.1) (more.map (·.1))
    rw [keys_merge more, keys_putK]
theorem valV_putK (kvs : List (κ × V)) (k j : κ) (v : V) : valV (putK kvs k v) j = if j = k then some v else valV kvs j := by
  unfold putK
  by_cases q : (kvs.any fun kv => decide (kv.1 = k)) = true
  · rw [if_pos q, valV_map]
    by_cases e : j = k
    · subst e
      rw [valV_any] at q
      cases z : valV kvs j with
      | none =>
        rw [z] at q
        cases q
      | some u => simp
    · simp only [if_neg e]
      cases valV kvs j <;> rfl
  · rw [if_neg q]
    have q' : valV kvs k = none := by
      rw [valV_any] at q
      cases z : valV kvs k with
      | none => rfl
      | some u =>
        rw [z] at q
        exact absurd rfl q
    unfold valV at q' ⊢
    rw [List.find?_append]
    by_cases e : j = k
    · subst e
      rw [if_pos rfl]
      cases z : kvs.find? (fun kv => decide (kv.1 = j)) with
      | none => simp
      | some u =>
        rw [z] at q'
        cases q'
    · rw [if_neg e]
      cases z : kvs.find? (fun kv => decide (kv.1 = j)) with
      | none => simp [Ne.symm e]
      | some u => rfl
theorem valV_some {kvs : List (κ × V)} {k : κ} : (valV kvs k).isSome = decide (k ∈ kvs.map (·.1)) := by
  rw [← valV_any, Bool.eq_iff_iff, List.any_eq_true, decide_eq_true_eq, List.mem_map]
  constructor
  · rintro ⟨x, hx, h⟩
    exact ⟨x, hx, of_decide_eq_true h⟩
  · rintro ⟨x, hx, h⟩
    exact ⟨x, hx, decide_eq_true h⟩
end
/-- a dict with the names ks for keys stands at d -/
def KsAt (H : Hp) (d : Addr) (ks : List Str) : Prop := ∃ kvs, H d = some (.dK kvs) ∧ kvs.map (·.1) = ks.map Sum.inr
theorem addKs_inr : ∀ (more l : List Str), addKs (l.map (Sum.inr : Str → Key)) (more.map Sum.inr) = (addKs l more).map Sum.inr
  | [], _ => rfl
  | k :: more, l => by
    have e : addK (l.map (Sum.inr : Str → Key)) (Sum.inr k) = (addK l k).map Sum.inr := by
      unfold addK
      by_cases q : k ∈ l
      · rw [if_pos q, if_pos (List.mem_map.mpr ⟨k, q, rfl⟩)]
      · rw [if_neg q, if_neg (fun z => by
          obtain ⟨x, hx, e⟩ := List.mem_map.mp z
          exact q (Sum.inr.inj e ▸ hx)), List.map_append]
        rfl
    show addKs (addK (l.map Sum.inr) (Sum.inr k)) (more.map Sum.inr) = (addKs (addK l k) more).map Sum.inr
    rw [e, addKs_inr]
section
variable {J : It} {n : Nat} {G : Hp → Prop} {Y : Nat → Hp → V → Hp → Prop}
/-- {k: v for target in iter}: kf i the key of turn i; VR what is true of its value -/
theorem dc_map (w : Walk J n G Y) {g : TG} {tk tv : TE} {vs : List Nat} {σ : L2.St} {H1 : Hp} {D : Addr} {Qd : Hp → Prop} (kf : Nat → Key) (VR : Nat → Hp → V → Prop)
    (mono : ∀ i H H' y kvs, H D = some (.dK kvs) → SameX D H H' → VR i H y → VR i H' y) (hn : n < sizeLine) (hD : H1 D = none)
    (hG : ∀ H', Same H1 H' → G H')
    (hY : ∀ i H x H', i < n → Y i H x H' → Same H H')
    (hs : ∀ (i : Nat) (x : V) (H H' : Hp) (kvs : List (Key × V)) (Z : V → V → Hp → Prop), i < n → Same H1 H' → H' D = some (.dK kvs) → Y i H x H' → (∀ z H5, Same H' H5 → VR i H5 z → Z (kV (kf i)) z H5) →
      g x (wipe σ vs) H' fun σ2 H2 => wipe σ2 vs = wipe σ vs ∧ tk σ2 H2 fun y H4 => tv σ2 H4 fun z H5 => Z y z H5)
    (hd : ∀ H kvs, Same H1 H → H D = some (.dK kvs) → kvs.map (·.1) = addKs [] ((List.range n).map kf) → (∀ k v, valV kvs k = some v → ∃ j, j < n ∧ kf j = k ∧ VR j H v) → Qd H)
    (gm : ∀ x σ H (A B : L2.St → Hp → Prop), (∀ σ' H', A σ' H' → B σ' H') → g x σ H A → g x σ H B) :
    ∃ W : Nat → Nat → Hp → Prop, (∃ m, W 0 m (upd H1 D (.dK []))) ∧ ∀ i m H, W i m H →
      (J.stop i H ∧ Qd H) ∨ (J.go i H ∧ ∃ Nx : Hp → Prop, (∀ H', Nx H' → ∃ m', m' < m ∧ W (i + 1) m' H') ∧ ∀ x H', J.yld i H x H' → g x (wipe σ vs) H' fun σ2 H2 => wipe σ2 vs = wipe σ vs ∧ tYes σ2 H2 fun b H3 =>
        if b = true then tk σ2 H3 fun y H4 => tv σ2 H4 fun z H5 => ∃ kvs k, y = kV k ∧ H5 D = some (.dK kvs) ∧ kvs.length < sizeLine ∧ Nx (upd H5 D (.dK (putK kvs k z))) else Nx H3) := by
  let Pv : Nat → Hp → Prop := fun i H => Same H1 H ∧ ∃ kvs, H D = some (.dK kvs) ∧ kvs.map (·.1) = addKs [] ((List.range i).map kf) ∧ ∀ k v, valV kvs k = some v → ∃ j, j < i ∧ kf j = k ∧ VR j H v
  refine ⟨fun i m H => m = n - i ∧ i ≤ n ∧ Pv i H, ⟨n, by simp, Nat.zero_le _, same_upd hD, [], upd_same, rfl, fun k v e => by cases e⟩, ?_⟩
  rintro i m H ⟨rfl, hi, sm, kvs, hk, hkk, hv⟩
  by_cases hlt : i < n
  · refine .inr ⟨w.goes i H hlt (hG H sm), Pv (i + 1), fun H' p' => ⟨n - (i + 1), by omega, rfl, hlt, p'⟩, fun x H' y => ?_⟩
    have hy := w.yields i H x H' hlt (hG H sm) y
    have s0 := hY i H x H' hlt hy
    have imp : ∀ (σ2 : L2.St) (H2 : Hp) (Z : V → V → Hp → Prop) (Z2 : Hp → Prop), (tk σ2 H2 fun y H4 => tv σ2 H4 fun z H5 => Z y z H5) → (tYes σ2 H2 fun b H3 => if b = true then tk σ2 H3 fun y H4 => tv σ2 H4 fun z H5 => Z y z H5 else Z2 H3) := fun σ2 H2 Z Z2 q => by
      show (if true = true then tk σ2 H2 (fun y H4 => tv σ2 H4 fun z H5 => Z y z H5) else Z2 H2)
      rw [if_pos rfl]
      exact q
    refine gm _ _ _ _ _ (fun σ2 H2 q2 => ⟨q2.1, imp _ _ _ _ q2.2⟩) (hs i x H H' kvs _ hlt (sm.trans s0) (s0 _ _ hk) hy ?_)
    intro z H5 s5 r5
    have e5 : H5 D = some (.dK kvs) := s5 _ _ (s0 _ _ hk)
    have kl : kvs.length ≤ i := by
      have a := congrArg List.length hkk
      have b := len_addKs (more := (List.range i).map kf) (l := [])
      rw [List.length_map] at a
      rw [List.length_map, List.length_range, List.length_nil] at b
      omega
    refine ⟨kvs, kf i, rfl, e5, by omega, same_put (sm.trans (s0.trans s5)) hD, _, upd_same, ?_, fun k v e => ?_⟩
    · rw [keys_putK, hkk, List.range_succ, List.map_append]
      show addK (addKs [] _) (kf i) = addKs [] (_ ++ [kf i])
      unfold addKs
      rw [List.foldl_append]
      rfl
    · rw [valV_putK] at e
      by_cases q : k = kf i
      · rw [if_pos q] at e
        have := Option.some.inj e
        subst this
        exact ⟨i, by omega, q.symm, mono i _ _ _ kvs e5 sameX_upd r5⟩
      · rw [if_neg q] at e
        obtain ⟨j, hj, ej, vj⟩ := hv k v e
        exact ⟨j, by omega, ej, mono j _ _ _ kvs hk (SameX.trans (Same.x (s0.trans s5) D) sameX_upd) vj⟩
  · have e : i = n := by omega
    subst e
    exact .inl ⟨w.stops H (hG H sm), hd H kvs sm hk hkk hv⟩
end
/-! ### names in order -/
theorem ltc (x y : Str) : ltCps x.cps.toList y.cps.toList = sLt x y := PyProof.Rows.ltCps_eq _ _
theorem sLt_ntr {x y z : Str} (h1 : sLt y x = false) (h2 : sLt z y = false) : sLt z x = false := (swo_s (fun x : Str => x)).tr x y z h1 h2
theorem rising_pw : ∀ {p : Str} {l : List Str}, risingS p l = true → (p :: l).Pairwise fun a b => sLt b a = false
  | p, [], _ => List.pairwise_singleton _ _
  | p, x :: r, h => by
    have h' : (!ltCps x.cps.toList p.cps.toList && risingS x r) = true := h
    rw [Bool.and_eq_true] at h'
    have h1 : sLt x p = false := by
      rw [← ltc]
      simpa using h'.1
    have ih := rising_pw h'.2
    refine List.pairwise_cons.mpr ⟨fun y hy => ?_, ih⟩
    rcases List.mem_cons.mp hy with rfl | hy
    · exact h1
    · exact sLt_ntr h1 ((List.pairwise_cons.mp ih).1 y hy)
theorem sortedS_pw : ∀ {l : List Str}, sortedS l = true → l.Pairwise fun a b => sLt b a = false
  | [], _ => List.Pairwise.nil
  | _ :: _, h => rising_pw h
def ssort (l : List Str) : List Str := l.mergeSort fun a b => !sLt b a
theorem ssort_perm (l : List Str) : (ssort l).Perm l := List.mergeSort_perm l _
theorem ssort_sorted (l : List Str) : (ssort l).Pairwise fun a b => sLt b a = false := by
  have h := List.pairwise_mergeSort (le := fun a b : Str => !sLt b a) (fun a b c h1 h2 => by
    have h1' : sLt b a = false := by simpa using h1
    have h2' : sLt c b = false := by simpa using h2
    simp [sLt_ntr h1' h2']) (fun a b => by
    cases q : sLt b a with
    | false => simp
    | true => simp [sLt_as q]) l
  exact h.imp fun h => by simpa using h
theorem names_uniq : ∀ {l m : List Str}, l.Pairwise (fun a b => sLt b a = false) → m.Pairwise (fun a b => sLt b a = false) → l.Perm m → l = m
  | [], m, _, _, h => (List.Perm.eq_nil h.symm).symm
  | x :: l, [], _, _, h => absurd h.length_eq (by simp)
  | x :: l, y :: m, hl, hm, h => by
    have e : x = y := by
      rcases List.mem_cons.mp (h.mem_iff.mp (List.mem_cons_self (a := x) (l := l))) with e | hx
      · exact e
      · rcases List.mem_cons.mp (h.mem_iff.mpr (List.mem_cons_self (a := y) (l := m))) with e | hy
        · exact e.symm
        · exact sLt_tri ((List.pairwise_cons.mp hm).1 x hx) ((List.pairwise_cons.mp hl).1 y hy)
    subst e
    rw [names_uniq (List.pairwise_cons.mp hl).2 (List.pairwise_cons.mp hm).2 h.cons_inv]
theorem ssort_eq {l m : List Str} (h : sortedS m = true) (p : m.Perm l) : m = ssort l := names_uniq (sortedS_pw h) (ssort_sorted l) (p.trans (ssort_perm l).symm)
/-- one list of names for one set of names -/
theorem ssort_set {l m : List Str} (hl : l.Nodup) (hm : m.Nodup) (h : ∀ x, x ∈ l ↔ x ∈ m) : ssort l = ssort m := by
  have p : l.Perm m := (List.perm_ext_iff_of_nodup hl hm).mpr h
  exact names_uniq (ssort_sorted l) (ssort_sorted m) ((ssort_perm l).trans (p.trans (ssort_perm m).symm))
theorem mem_ssort {l : List Str} {x : Str} : x ∈ ssort l ↔ x ∈ l := (ssort_perm l).mem_iff
theorem nodup_ssort {l : List Str} (h : l.Nodup) : (ssort l).Nodup := (ssort_perm l).symm.nodup h
theorem len_ssort {l : List Str} : (ssort l).length = l.length := (ssort_perm l).length_eq
end Frd
set_option Elab.async false
set_option linter.all false
set_option maxRecDepth 100000
set_option maxHeartbeats 4000000
set_option pp.maxSteps 1000
/-! tables_of, rows_of. -/
namespace Frd
open PySem PySem.Spec PyProof.Rows L2
def Sys.tg (S : Sys) (r : Rd2) : Str := match S.rd r with
  | some x => x.1
  | none => ⟨#[]⟩
def Sys.vc (S : Sys) (r : Rd2) : List Int := match S.rd r with
  | some x => x.2.1
  | none => []
theorem tg_of {S : Sys} {r : Rd2} {x : Read} (h : S.rd r = some x) : S.tg r = x.1 := by
  unfold Sys.tg
  rw [h]
theorem vc_of {S : Sys} {r : Rd2} {x : Read} (h : S.rd r = some x) : S.vc r = x.2.1 := by
  unfold Sys.vc
  rw [h]
/-- all are reads of S -/
def Sys.All (S : Sys) (rs : List Rd2) : Prop := ∀ r ∈ rs, ∃ x, S.rd r = some x
def tabsOf (S : Sys) (rs : List Rd2) : List Str := ssort (addKs [] (rs.map (·.1) ++ rs.map S.tg))
theorem mem_tabsOf {S : Sys} {rs : List Rd2} {n : Str} : n ∈ tabsOf S rs ↔ ∃ r ∈ rs, r.1 = n ∨ S.tg r = n := by
  unfold tabsOf
  rw [mem_ssort, mem_addKs, List.mem_append, List.mem_map, List.mem_map]
  constructor
  · rintro (h | ⟨r, hr, e⟩ | ⟨r, hr, e⟩)
    · cases h
    · exact ⟨r, hr, .inl e⟩
    · exact ⟨r, hr, .inr e⟩
  · rintro ⟨r, hr, e | e⟩
    · exact .inr (.inl ⟨r, hr, e⟩)
    · exact .inr (.inr ⟨r, hr, e⟩)
theorem tabsOf_len {S : Sys} {rs : List Rd2} : (tabsOf S rs).length ≤ 2 * rs.length := by
  unfold tabsOf
  rw [len_ssort]
  have := len_addKs (more := rs.map (·.1) ++ rs.map S.tg) (l := [])
  rw [List.length_append, List.length_map, List.length_map, List.length_nil] at this
  omega
theorem tabsOf_nodup {S : Sys} {rs : List Rd2} : (tabsOf S rs).Nodup := nodup_ssort (nodup_addKs List.nodup_nil)
theorem map_range {α β : Type} (f : α → β) (d : α) (l : List α) : (List.range l.length).map (fun i => f (l.getD i d)) = l.map f := by
  refine List.ext_getElem? fun i => ?_
  rw [List.getElem?_map, List.getElem?_map]
  by_cases q : i < l.length
  · rw [List.getElem?_range q, List.getElem?_eq_getElem q]
    show some (f (l.getD i d)) = some (f l[i])
    rw [List.getD_eq_getElem?_getD, List.getElem?_eq_getElem q]
    rfl
  · rw [List.getElem?_eq_none (by rw [List.length_range]; omega), List.getElem?_eq_none (by omega)]
    rfl
theorem getD_at {α : Type} {l : List α} {i : Nat} {x d : α} (h : l[i]? = some x) : l.getD i d = x := by
  rw [List.getD_eq_getElem?_getD, h]
  rfl
def rd0 : Rd2 := (⟨#[]⟩, 0)
section
variable {P : Program} {w : World} {K : PySem.W.Frag} {mg : Str → Option Value} {base : Heap} {C : Addr}
theorem scTs : FnScope ["system", "reads", "names", "read"] ["system", "reads"] (defScope (topS 27)) := ⟨rfl, rfl, rfl, by decide +kernel, rfl, by decide +kernel, by decide +kernel⟩
def spTs (K : PySem.W.Frag) (C : Addr) : Sp := fun vs H Q _ => ∃ (p a : Addr) (S : Sys) (xs : List V) (rs : List Rd2), vs = [.ref p, .ref a] ∧ SysAt C H p S ∧ SqL K H a xs ∧ All2 (RdV H) xs rs ∧ S.All rs ∧ rs.length ≤ 12 ∧
  ∀ H' q, Same H H' → H q = none → H' q = some (.lst ((tabsOf S rs).map V.str)) → Q (.ref q) H'
theorem ok_ts {f : Addr} {fd : FuncData} (F : Fun K "tables_of" "tables_of" (topS 27) f fd) (msorted : mg "sorted" = none) (D1 : Dn P w K mg base "target_of" 1 ["system", "read"] (spTo C)) : FnOk P w K mg base CX0 2 f fd ["system", "reads"] (spTs K C) := by
  refine F.ok scTs (fun vs H Q E h => ?_) (fun cdv A outer s H vs Q E hr h => ?_)
  · obtain ⟨p, a, S, xs, rs, rfl, _⟩ := h
    rfl
  · obtain ⟨p, a, S, xs, rs, rfl, hS, hL, hA, hall, hlen, q⟩ := h
    have nd := scTs.nd
    refine ⟨_, pss_cons (ps_setDc (i := 2) (own := [("read", 3)]) (g := gName 3) (tt := tYes) (by rfl) nd rfl rfl (swd_true rfl rfl rfl (by decide +kernel)) (pi_list (pv 1))
          (blkOk_by (N := ["system", "reads", "names", "read"]) (sc := defScope (topS 27)) (by decide +kernel))
          (fun _ _ _ _ _ => pg_name (i := 3) nd rfl (Or.inl rfl)) (fun _ _ _ _ _ => pts_nil) (fun _ _ _ _ _ => pe_ix (ix_tupB (K := K) rfl) (pv 3) pe_int (fun _ _ => rfl)) (fun _ _ _ _ _ => pe_bl))
      (pss_cons (ps_expr (pe_bm PySem.F.plainAttrs_dict PySem.F.slot_dict_update PySem.F.type_dict_update mt_update (pv 2)
          (pa_cons (pe_dc (own := [("read", 3)]) (g := gName 3) (tt := tYes) rfl nd (pi_list (pv 1)) (blkOk_by (N := ["system", "reads", "names", "read"]) (sc := defScope (topS 27)) (by decide +kernel))
            (fun _ _ _ _ _ => pg_name (i := 3) nd rfl (Or.inl rfl)) (fun _ _ _ _ _ => pts_nil) (fun _ _ _ _ _ => pe_def D1 hr (by rfl) (pa_cons (pv 0) (pa_cons (pv 3) pa_nil))) (fun _ _ _ _ _ => pe_bl)) pa_nil)))
      (pss_one (ps_ret (pe_callB (call_sortedD rfl) (by rfl) msorted (by decide +kernel) (pa_cons (pv 2) pa_nil))))), ?_⟩
    have hxl : xs.length = rs.length := hA.1
    refine ⟨_, rfl, a, rfl, ⟨_, hL⟩, fun D hD => ?_⟩
    refine dc_map (walk_list (K := K) (a := a) (xs := xs)) (fun i => Sum.inr (rs.getD i rd0).1) (fun _ _ _ => True) (fun _ _ _ _ _ _ _ _ => trivial) (small1000 (by omega)) hD (fun H' s' => s'.seq hL) (fun j H x H' _ => y_at j H x H') ?_ ?_ gm_name
    · rintro i x H2 H3 kvs Z hi sm hk ⟨rfl, ex⟩ hZ
      obtain ⟨r, er, t, rfl, ht⟩ := hA.at ex
      refine ⟨rfl, _, rfl, t, _, 0, .str r.1, rfl, rfl, SqT.of (sm _ _ ht), atI_nat (j := 0) rfl, ?_⟩
      have := hZ (.bl true) _ (Same.refl _) trivial
      rw [getD_at er] at this
      exact this
    · intro H1 kvs1 sm1 hk1 hkk1 _
      -- names.update(..)
      refine ⟨_, rfl, .inr (.inr (.inl ⟨rfl, .inl ⟨kvs1, hk1⟩⟩)), ?_⟩
      refine ⟨_, rfl, a, rfl, ⟨_, sm1.seq hL⟩, fun D2 hD2 => ?_⟩
      refine dc_map (walk_list (K := K) (a := a) (xs := xs)) (fun i => Sum.inr (S.tg (rs.getD i rd0))) (fun _ _ _ => True) (fun _ _ _ _ _ _ _ _ => trivial) (small1000 (by omega)) hD2 (fun H' s' => s'.seq (sm1.seq hL)) (fun j H x H' _ => y_at j H x H') ?_ ?_ gm_name
      · rintro i x H2 H3 kvs Z hi sm hk ⟨rfl, ex⟩ hZ
        obtain ⟨r, er, hrv⟩ := hA.at ex
        obtain ⟨y, hy⟩ := hall r (List.mem_of_getElem? er)
        refine ⟨rfl, _, rfl, _, rfl, p, _, S, r, y, rfl, hS.mono (sm1.trans sm), hrv.mono (sm1.trans sm), hy, ?_⟩
        have := hZ (.bl true) _ (Same.refl _) trivial
        rw [getD_at er, tg_of hy] at this
        exact this
      · intro H2 kvs2 sm2 hk2 hkk2 _
        have hk1' := sm2 _ _ hk1
        have nDD : D ≠ D2 := ne_of_none hk1 hD2
        have e1 : kvs1.map (·.1) = (addKs [] (rs.map (·.1))).map Sum.inr := by
          rw [hkk1, ← addKs_inr, hxl]
          show addKs [] _ = addKs [] _
          rw [List.map_map]
          exact congrArg (addKs []) (map_range (fun r : Rd2 => (Sum.inr r.1 : Key)) rd0 rs)
        have e2 : kvs2.map (·.1) = (addKs [] (rs.map S.tg)).map Sum.inr := by
          rw [hkk2, ← addKs_inr, hxl]
          show addKs [] _ = addKs [] _
          rw [List.map_map]
          exact congrArg (addKs []) (map_range (fun r : Rd2 => (Sum.inr (S.tg r) : Key)) rd0 rs)
        have l1 : kvs1.length ≤ 12 := by
          have a := congrArg List.length e1
          have b := len_addKs (more := rs.map (·.1)) (l := [])
          rw [List.length_map, List.length_map] at a
          rw [List.length_map, List.length_nil] at b
          omega
        have l2 : kvs2.length ≤ 12 := by
          have a := congrArg List.length e2
          have b := len_addKs (more := rs.map S.tg) (l := [])
          rw [List.length_map, List.length_map] at a
          rw [List.length_map, List.length_nil] at b
          omega
        refine ⟨D, D2, kvs1, kvs2, rfl, rfl, hk1', hk2, nDD, Nat.le_of_lt (small1000 (by omega)), ?_⟩
        refine ⟨_, rfl, D, _, addKs (addKs [] (rs.map (·.1))) (addKs [] (rs.map S.tg)), rfl, .inl upd_same, ?_, ?_, fun ys t hp hs ht => ?_⟩
        · rw [keys_merge, e1, e2, addKs_inr]
        · have a := len_addKs (more := addKs [] (rs.map S.tg)) (l := addKs [] (rs.map (·.1)))
          have b := len_addKs (more := rs.map S.tg) (l := [])
          have c := len_addKs (more := rs.map (·.1)) (l := [])
          rw [List.length_map, List.length_nil] at b c
          omega
        · have ey : ys = tabsOf S rs := by
            rw [ssort_eq hs hp]
            unfold tabsOf
            refine ssort_set (nodup_addKs (nodup_addKs List.nodup_nil)) (nodup_addKs List.nodup_nil) fun x => ?_
            simp [mem_addKs]
          subst ey
          have sAll : Same H (upd (upd H2 D (.dK (mergeK kvs1 kvs2))) t (.lst ((tabsOf S rs).map V.str))) := same_tr (same_put (sm1.trans sm2) hD) ht
          refine q _ t sAll ?_ upd_same
          exact (same_put (sm1.trans sm2) hD).free ht
end
end Frd
set_option Elab.async false
set_option linter.all false
set_option maxRecDepth 100000
set_option maxHeartbeats 4000000
set_option pp.maxSteps 1000
/-! rows_of. -/
namespace Frd
open PySem PySem.Spec PyProof.Rows L2
def b2z (b : Bool) : Int := if b then 1 else 0
/-- the matrix of rows_of -/
def aOf (S : Sys) (rs : List Rd2) (ns : List Str) (c j : Nat) : Int :=
  if c < S.d then (S.vc (rs.getD j rd0)).getD c 0
  else b2z (decide ((rs.getD j rd0).1 = ns.getD (c - S.d) ⟨#[]⟩)) - b2z (decide (S.tg (rs.getD j rd0) = ns.getD (c - S.d) ⟨#[]⟩))
def lcScope : Expr → Scope
  | .ListComp _ _ s _ => s
  | _ => { kind := .function, names := [], isGenerator := false, isCoroutine := false }
def asgVal : Stmt → Expr
  | .Assign _ e _ => e
  | _ => .Constant .none 0 ⟨0, 0, 0, 0⟩
section
variable {P : Program} {w : World} {K : PySem.W.Frag} {mg : Str → Option Value} {base : Heap} {C : Addr}
theorem scRo : FnScope ["system", "reads", "names", "vectors", "found", "name", "read", "axis", "vector"] ["system", "reads", "names"] (defScope (topS 28)) := ⟨rfl, rfl, rfl, by decide +kernel, rfl, by decide +kernel, by decide +kernel⟩
def spRo (K : PySem.W.Frag) (C : Addr) : Sp := fun vs H Q _ => ∃ (p a b : Addr) (S : Sys) (xs : List V) (rs : List Rd2) (ns : List Str), vs = [.ref p, .ref a, .ref b] ∧ SysAt C H p S ∧ SqL K H a xs ∧ All2 (RdV H) xs rs ∧ SqL K H b (ns.map V.str) ∧ S.All rs ∧
  (∀ r ∈ rs, (S.vc r).length = S.d) ∧ S.d ≤ 3 ∧ rs.length ≤ 12 ∧ ns.length ≤ 12 ∧
  ∀ H' q (rows : List Addr), Same H H' → H q = none → H' q = some (.lst (rows.map V.ref)) → rows.length = S.d + ns.length → (∀ c r, rows[c]? = some r → H' r = some (.lst (fnV rs.length (aOf S rs ns c))) ∧ r ≠ q) → Q (.ref q) H'
theorem ok_ro {f : Addr} {fd : FuncData} (F : Fun K "rows_of" "rows_of" (topS 28) f fd) (T : TxS K C) (mr : mg "range" = none) (mi : mg "int" = none) (D1 : Dn P w K mg base "target_of" 1 ["system", "read"] (spTo C)) (D2 : Dn P w K mg base "vector_of" 1 ["system", "read"] (spVo C)) :
    FnOk P w K mg base CX0 2 f fd ["system", "reads", "names"] (spRo K C) := by
  refine F.ok scRo (fun vs H Q E h => ?_) (fun cdv A outer s H vs Q E hr h => ?_)
  · obtain ⟨p, a, b, S, xs, rs, ns, rfl, _⟩ := h
    rfl
  · obtain ⟨p, a, b, S, xs, rs, ns, rfl, hS, hL, hA, hN, hall, hvl, hd3, hlen, hnl, q⟩ := h
    have nd := scRo.nd
    refine ⟨_, pss_cons (ps_set (i := 3) nd rfl (.inr rfl) (pe_lc (own := [("read", 6)]) (g := gName 6) (tt := tYes) rfl nd (pi_list (pv 1)) (blkOk_by (N := ["system", "reads", "names", "vectors", "found", "name", "read", "axis", "vector"]) (sc := defScope (topS 28)) (by decide +kernel))
          (fun _ _ _ _ _ => pg_name (i := 6) nd rfl (Or.inl rfl)) (fun _ _ _ _ _ => pts_nil) (fun _ _ _ _ _ => pe_def D2 hr (by rfl) (pa_cons (pv 0) (pa_cons (pv 6) pa_nil)))))
      (pss_cons (ps_setLc (i := 4) (own := [("axis", 7)]) (g := gName 7) (tt := tYes) (by rfl) nd rfl rfl (sw_true rfl rfl rfl (by decide +kernel)) (pi_range1 rfl mr (pa_cons (pe_fld (pv 0) rfl) pa_nil))
          (blkOk_by (N := ["system", "reads", "names", "vectors", "found", "name", "read", "axis", "vector"]) (sc := defScope (topS 28)) (by decide +kernel))
          (fun _ _ _ _ _ => pg_name (i := 7) nd rfl (Or.inr rfl)) (fun _ _ _ _ _ => pts_nil)
          (fun _ _ _ _ _ => pe_lc (own := [("vector", 8)]) (g := gName 8) (tt := tYes) (wi := iList K (tVar 3)) rfl nd (pi_list (pv 3))
            (blkOk_by (N := ["system", "reads", "names", "vectors", "found", "name", "read", "axis", "vector"]) (sc := relS (lcScope (asgVal ((defBody (topS 28)).getD 1 (.Pass ⟨0, 0, 0, 0⟩)))) (defScope (topS 28))) (by decide +kernel))
            (fun _ _ _ _ _ => pg_name (i := 8) nd rfl (Or.inl rfl)) (fun _ _ _ _ _ => pts_nil) (fun _ _ _ _ _ => pe_ix (ix_tupB (K := K) rfl) (pv 8) (pv 7) (fun _ _ => rfl))))
      (pss_cons (ps_for PassesOwn.never rfl (pi_list (pv 2)) (pg_name (i := 5) nd rfl (.inr rfl))
        (pss_one (ps_expr (pe_bm PySem.F.plainAttrs_list PySem.F.slot_list_append PySem.F.type_list_append mt_append (pv 4)
          (pa_cons (pe_lc (own := [("read", 6)]) (g := gName 6) (tt := tYes) rfl nd (pi_list (pv 1)) (blkOk_by (N := ["system", "reads", "names", "vectors", "found", "name", "read", "axis", "vector"]) (sc := defScope (topS 28)) (by decide +kernel))
            (fun _ _ _ _ _ => pg_name (i := 6) nd rfl (Or.inl rfl)) (fun _ _ _ _ _ => pts_nil)
            (fun _ _ _ _ _ => pe_op op_sub (pe_callTy call_int1 (by rfl) mi (by decide +kernel) (pa_cons (pe_cmpR op_eq (pe_ix (ix_tupB (K := K) rfl) (pv 6) pe_int (fun _ _ => rfl)) (pv 5) (nomark _)) pa_nil))
              (pe_callTy call_int1 (by rfl) mi (by decide +kernel) (pa_cons (pe_cmpR op_eq (pe_def D1 hr (by rfl) (pa_cons (pv 0) (pa_cons (pv 6) pa_nil))) (pv 5) (nomark _)) pa_nil)))) pa_nil)))))
      (pss_one (ps_ret (pv 4))))), ?_⟩
    have hxl : xs.length = rs.length := hA.1
    obtain ⟨dx, kt, nr, kvs, nrs, h1, _⟩ := id hS
    -- the vectors
    refine ⟨_, rfl, a, rfl, ⟨_, hL⟩, fun Dv hDv => ?_⟩
    refine lc_map (walk_list (K := K) (a := a) (xs := xs)) (fun i H' y => ∃ t, y = .ref t ∧ H' t = some (.tup ((S.vc (rs.getD i rd0)).map V.int))) (fun i H1 H2 y acc hD sx ⟨t, e, ht⟩ => ⟨t, e, sx _ _ (ne_of ht hD (by intro z; cases z)) ht⟩) (small1000 (by omega)) hDv (fun H' s' => s'.seq hL) (fun j H x H' _ => y_at j H x H') ?_ ?_ gm_name
    · rintro i x H2 H3 acc Z hi sm hk ⟨rfl, ex⟩ hZ
      obtain ⟨r, er, hrv⟩ := hA.at ex
      obtain ⟨y, hy⟩ := hall r (List.mem_of_getElem? er)
      refine ⟨rfl, _, rfl, _, rfl, p, _, S, r, y, rfl, hS.mono sm, hrv.mono sm, hy, fun t ht => hZ _ _ (Same.refl _) ⟨t, rfl, ?_⟩⟩
      rw [getD_at er, vc_of hy]
      exact ht
    · intro H1 vvs sm1 hv1 hvl1 hvv
      rw [hxl] at hvl1
      -- the rows of the axes
      refine ⟨_, rfl, p, C, dx, _, _, rfl, sm1 _ _ h1, T.cl, T.nd, sf_d, (S.d : Int), rfl, by omega, by omega, ?_⟩
      rw [Int.toNat_natCast]
      intro D hD
      have nDv : Dv ≠ D := ne_of_none hv1 hD
      refine lc_map (walk_range (lo := 0) (n := S.d)) (fun i H' y => ∃ t, y = .ref t ∧ t ≠ D ∧ H' t = some (.lst (fnV rs.length (aOf S rs ns i)))) (fun i H1 H2 y acc hD sx ⟨t, e, n, ht⟩ => ⟨t, e, n, sx _ _ n ht⟩) (small1000 (by omega)) hD (fun _ _ => trivial) (fun j H x H' _ => y_fn j H x H') ?_ ?_ gm_name
      · rintro i x H2 H3 acc Z hi sm hk ⟨rfl, rfl⟩ hZ
        refine ⟨rfl, ?_⟩
        refine ⟨_, rfl, Dv, rfl, ⟨_, SqL.of (sm _ _ hv1)⟩, fun D2 hD2 => ?_⟩
        have nD : D ≠ D2 := ne_of_none hk hD2
        refine lc_map (walk_list (K := K) (a := Dv) (xs := vvs)) (fun j _ y => y = .int (aOf S rs ns i j)) (fun _ _ _ _ _ _ _ e => e) (small1000 (by omega)) hD2 (fun H' s' => SqL.of (s' _ _ (sm _ _ hv1))) (fun j H x H' _ => y_at j H x H') ?_ ?_ gm_name
        · rintro j x H4 H5 acc2 Z2 hj sm5 hk5 ⟨rfl, ex⟩ hZ2
          obtain ⟨t, rfl, ht⟩ := hvv j x ex
          refine ⟨rfl, ?_⟩
          obtain ⟨r, er⟩ : ∃ r, rs[j]? = some r := ⟨rs[j], List.getElem?_eq_getElem (by omega)⟩
          have ej := getD_at (d := rd0) er
          rw [ej] at ht
          have lv := hvl r (List.mem_of_getElem? er)
          obtain ⟨u, eu⟩ : ∃ u, (S.vc r)[i]? = some u := ⟨(S.vc r)[i], List.getElem?_eq_getElem (by omega)⟩
          refine ⟨_, rfl, _, rfl, t, _, _, .int u, rfl, rfl, SqT.of (sm5 _ _ (sm _ _ ht)), ?_, hZ2 _ _ (Same.refl _) ?_⟩
          · rw [Int.zero_add]
            refine atI_nat ?_
            rw [List.getElem?_map, eu]
            rfl
          · unfold aOf
            rw [if_pos hi, ej, getD_at eu]
        · intro H4 zs sm4 hz4 hzl hzv
          have ez : zs = fnV rs.length (aOf S rs ns i) := fnV_of (by omega) hzv
          subst ez
          exact hZ _ _ sm4 ⟨D2, rfl, nD.symm, hz4⟩
      · intro H2 fs sm2 hf2 hfl hfv
        have smA : Same H H2 := sm1.trans sm2
        have hD0 : H D = none := sm1.free hD
        -- the rows of the names
        refine ⟨_, rfl, b, rfl, ⟨_, smA.seq hN⟩, for_list (K := K) (a := b) (xs := ns.map V.str) (fun i σ H' => (∃ y5 y6 y7 y8, σ = [some (.ref p), some (.ref a), some (.ref b), some (.ref Dv), some (.ref D), y5, y6, y7, y8]) ∧ Same H H' ∧
            ∃ rows : List Addr, H' D = some (.lst (rows.map V.ref)) ∧ rows.length = S.d + i ∧ ∀ c r, rows[c]? = some r → H' r = some (.lst (fnV rs.length (aOf S rs ns c))) ∧ r ≠ D)
          ⟨⟨none, none, none, none, rfl⟩, smA, ?_⟩ (fun i σ H' _ ⟨_, s', _⟩ => s'.seq hN) ?_ ?_⟩
        · -- the list so far as addresses
          have : ∃ rows : List Addr, fs = rows.map V.ref := by
            clear hf2 hfl
            induction fs with
            | nil => exact ⟨[], rfl⟩
            | cons y ys ih =>
              obtain ⟨t, e, _⟩ := hfv 0 y rfl
              have all : ∀ z ∈ ys, ∃ t, z = V.ref t := fun z hz => by
                obtain ⟨k, hk⟩ := List.getElem?_of_mem hz
                obtain ⟨t, e, _⟩ := hfv (k + 1) z hk
                exact ⟨t, e⟩
              have : ∀ l : List V, (∀ z ∈ l, ∃ t, z = V.ref t) → ∃ rows : List Addr, l = rows.map V.ref := fun l => by
                induction l with
                | nil => exact fun _ => ⟨[], rfl⟩
                | cons u us ih2 =>
                  intro h
                  obtain ⟨t, e⟩ := h u List.mem_cons_self
                  obtain ⟨rows, e2⟩ := ih2 fun z hz => h z (List.mem_cons_of_mem _ hz)
                  exact ⟨t :: rows, by rw [e, e2]; rfl⟩
              obtain ⟨rows, e2⟩ := this ys all
              exact ⟨t :: rows, by rw [e, e2]; rfl⟩
          obtain ⟨rows, rfl⟩ := this
          rw [List.length_map] at hfl
          refine ⟨rows, hf2, hfl, fun c r er => ?_⟩
          obtain ⟨t, e, n, ht⟩ := hfv c (.ref r) (ref_at er)
          cases e
          exact ⟨ht, n⟩
        · rintro i x σ H3 hx ⟨⟨y5, y6, y7, y8, rfl⟩, sm3, rows, hD3, hrl, hrw⟩
          have hi : i < ns.length := by
            have := (List.getElem?_eq_some_iff.mp hx).1
            rw [List.length_map] at this
            exact this
          obtain ⟨n, en⟩ : ∃ n, ns[i]? = some n := ⟨ns[i], List.getElem?_eq_getElem hi⟩
          have ex : x = .str n := by
            rw [List.getElem?_map, en] at hx
            exact (Option.some.inj hx).symm
          subst ex
          refine ⟨_, rfl, .inl ⟨rfl, _, SqL.of hD3⟩, ?_⟩
          refine ⟨_, rfl, a, rfl, ⟨_, sm3.seq hL⟩, fun N hN2 => ?_⟩
          have nDN : D ≠ N := ne_of_none hD3 hN2
          refine lc_map (walk_list (K := K) (a := a) (xs := xs)) (fun j _ y => y = .int (aOf S rs ns (S.d + i) j)) (fun _ _ _ _ _ _ _ e => e) (small1000 (by omega)) hN2 (fun H' s' => s'.seq (sm3.seq hL)) (fun j H x H' _ => y_at j H x H') ?_ ?_ gm_name
          · rintro j x H4 H5 acc Z hj sm5 hk5 ⟨rfl, ex⟩ hZ
            obtain ⟨r, er, t, rfl, ht⟩ := hA.at ex
            obtain ⟨y, hy⟩ := hall r (List.mem_of_getElem? er)
            have ht' := sm5 _ _ (sm3 _ _ ht)
            refine ⟨rfl, ?_⟩
            refine ⟨_, rfl, t, _, 0, .str r.1, rfl, rfl, SqT.of ht', atI_nat (j := 0) rfl, _, rfl, rfl, .inr ⟨_, rfl, ?_⟩⟩
            refine ⟨_, rfl, _, rfl, p, _, S, r, y, rfl, hS.mono (sm3.trans sm5), ⟨t, rfl, ht'⟩, hy, ?_⟩
            refine ⟨_, rfl, rfl, .inr ⟨_, rfl, _, _, rfl, rfl, hZ _ _ (Same.refl _) ?_⟩⟩
            have hb : ∀ a b : Str, decide (V.str a = V.str b) = decide (a = b) := fun a b => by
              rw [Bool.eq_iff_iff]
              simp
            have key : aOf S rs ns (S.d + i) j = (if decide (V.str r.1 = V.str n) = true then 1 else 0) - (if decide (V.str y.1 = V.str n) = true then 1 else 0) := by
              have e0 : ¬ (S.d + i < S.d) := Nat.not_lt.mpr (Nat.le_add_right _ _)
              unfold aOf
              rw [if_neg e0, getD_at er, Nat.add_sub_cancel_left, getD_at en, tg_of hy, hb, hb]
              rfl
            exact congrArg V.int key.symm
          · intro H4 zs sm4 hz4 hzl hzv
            have ez : zs = fnV rs.length (aOf S rs ns (S.d + i)) := fnV_of (by omega) hzv
            subst ez
            have hD4 := sm4 _ _ hD3
            refine ⟨D, _, _, rfl, rfl, hD4, by rw [List.length_map]; exact small1000 (by omega), ?_⟩
            refine ⟨⟨_, _, _, _, rfl⟩, same_put (sm3.trans sm4) hD0, rows ++ [N], ?_, by rw [List.length_append, hrl]; rfl, fun c r er => ?_⟩
            · rw [upd_same, List.map_append]
              rfl
            · by_cases q2 : c < rows.length
              · rw [List.getElem?_append_left q2] at er
                obtain ⟨z1, z2⟩ := hrw c r er
                rw [upd_ne z2]
                exact ⟨sm4 _ _ z1, z2⟩
              · rw [List.getElem?_append_right (by omega)] at er
                by_cases q3 : c - rows.length = 0
                · rw [q3] at er
                  have e : N = r := Option.some.inj er
                  subst e
                  have ec : c = S.d + i := by omega
                  subst ec
                  rw [upd_ne nDN.symm]
                  exact ⟨hz4, nDN.symm⟩
                · obtain ⟨k, hk⟩ : ∃ k, c - rows.length = k + 1 := ⟨c - rows.length - 1, by omega⟩
                  rw [hk] at er
                  simp at er
        · rintro σ H3 ⟨⟨y5, y6, y7, y8, rfl⟩, sm3, rows, hD3, hrl, hrw⟩
          rw [List.length_map] at hrl
          exact ⟨_, rfl, q H3 D rows sm3 hD0 hD3 hrl hrw⟩
end
end Frd
set_option Elab.async false
set_option linter.all false
set_option maxRecDepth 100000
set_option maxHeartbeats 4000000
set_option pp.maxSteps 1000
/-! a list against []; iterables that are lists or tuples; comprehensions that keep some. -/
namespace Frd
open PySem PySem.Spec PyProof.Rows L2
section
variable {X : Cx}
def rEqNil (K : PySem.W.Frag) : R2 := fun x y H Q => ∃ (a b : Addr) (xs : List V), x = .ref a ∧ y = .ref b ∧ SqL K H a xs ∧ SqL K H b [] ∧ Q (.bl (decide (xs = []))) H
def rNeNil (K : PySem.W.Frag) : R2 := fun x y H Q => ∃ (a b : Addr) (xs : List V), x = .ref a ∧ y = .ref b ∧ SqL K H a xs ∧ SqL K H b [] ∧ Q (.bl (!decide (xs = []))) H
theorem op_eqNil (hu : X.A.units < cLine) : OpR X (compareOp .Eq) (rEqNil X.K) := by
  intro pins s σ H x y v u Q I rx ry h
  obtain ⟨a, b, xs, rfl, rfl, ha, hb, q⟩ := h
  cases rx
  cases ry
  obtain ⟨us, r1, p1, _⟩ := I.list ha
  obtain ⟨ws, r2, p2, _⟩ := I.list hb
  cases r2
  cases r1 with
  | nil => exact SeqAt.RcAt.lists p1.isList p2.isList rfl hu (e := fun _ => true) (fun j h1 _ => absurd h1 (Nat.not_lt_zero _)) _ _ _ _ ⟨.bl true, H, I, rfl, q⟩
  | cons r r' => exact SeqAt.RcAt.lists_lengths p1.isList p2.isList (by simp) hu _ _ _ _ ⟨.bl false, H, I, rfl, q⟩
theorem op_neNil (hu : X.A.units < cLine) : OpR X (compareOp .NotEq) (rNeNil X.K) := by
  intro pins s σ H x y v u Q I rx ry h
  obtain ⟨a, b, xs, rfl, rfl, ha, hb, q⟩ := h
  cases rx
  cases ry
  obtain ⟨us, r1, p1, _⟩ := I.list ha
  obtain ⟨ws, r2, p2, _⟩ := I.list hb
  cases r2
  cases r1 with
  | nil => exact SeqAt.RcNeAt.lists p1.isList p2.isList rfl hu (e := fun _ => true) (fun j h1 _ => absurd h1 (Nat.not_lt_zero _)) _ _ _ _ ⟨.bl false, H, I, rfl, q⟩
  | cons r r' => exact SeqAt.RcNeAt.lists_lengths p1.isList p2.isList (by simp) hu _ _ _ _ ⟨.bl true, H, I, rfl, q⟩
def iOr (w1 w2 : TI) : TI := fun σ H R => w1 σ H R ∨ w2 σ H R
theorem pi_or {tg e : Expr} {w1 w2 : TI} (h1 : PI X tg e w1) (h2 : PI X tg e w2) : PI X tg e (iOr w1 w2) := by
  refine ⟨fun pins s σ H R I h => ?_⟩
  rcases h with h | h
  · exact h1.run pins s σ H R I h
  · exact h2.run pins s σ H R I h
end
/-- a list or a tuple of xs -/
def SqE (K : PySem.W.Frag) (H : Hp) (a : Addr) (xs : List V) : Prop := SqL K H a xs ∨ SqT K H a xs
theorem SqE.mono {K : PySem.W.Frag} {H H' : Hp} {a : Addr} {xs : List V} (e : Same H H') (h : SqE K H a xs) : SqE K H' a xs := by
  rcases h with h | h
  · exact .inl (e.seq h)
  · exact .inr (same_sqT e h)
section
variable {J : It} {n : Nat} {G : Hp → Prop} {Y : Nat → Hp → V → Hp → Prop}
/-- [f for target in iter if p] -/
theorem lc_filter (w : Walk J n G Y) {g : TG} {tt : TT} {te : TE} {vs : List Nat} {σ : L2.St} {H1 : Hp} {D : Addr} {Qd : Hp → Prop} (p : Nat → Bool) (f : Nat → V) (hn : n < sizeLine) (hD : H1 D = none)
    (hG : ∀ H', Same H1 H' → G H')
    (hY : ∀ i H x H', i < n → Y i H x H' → Same H H')
    (hs : ∀ (i : Nat) (x : V) (H H' : Hp) (acc : List V) (Z : V → Hp → Prop) (N : Hp → Prop), i < n → Same H1 H' → H' D = some (.lst acc) → Y i H x H' → (∀ H4, Same H' H4 → p i = true → Z (f i) H4) → (∀ H4, Same H' H4 → p i = false → N H4) →
      g x (wipe σ vs) H' fun σ2 H2 => wipe σ2 vs = wipe σ vs ∧ tt σ2 H2 fun b H3 => if b = true then te σ2 H3 Z else N H3)
    (hd : ∀ H, Same H1 H → H D = some (.lst (((List.range n).filter p).map f)) → Qd H) :
    ∃ W : Nat → Nat → Hp → Prop, (∃ m, W 0 m (upd H1 D (.lst []))) ∧ ∀ i m H, W i m H →
      (J.stop i H ∧ Qd H) ∨ (J.go i H ∧ ∃ Nx : Hp → Prop, (∀ H', Nx H' → ∃ m', m' < m ∧ W (i + 1) m' H') ∧ ∀ x H', J.yld i H x H' → g x (wipe σ vs) H' fun σ2 H2 => wipe σ2 vs = wipe σ vs ∧ tt σ2 H2 fun b H3 =>
        if b = true then te σ2 H3 fun y H4 => ∃ acc, H4 D = some (.lst acc) ∧ acc.length < sizeLine ∧ Nx (upd H4 D (.lst (acc ++ [y]))) else Nx H3) := by
  refine lc_it w (fun i H => Same H1 H ∧ H D = some (.lst (((List.range i).filter p).map f))) ⟨same_upd hD, upd_same⟩ (fun i H _ ⟨s, _⟩ => hG H s) (fun i x H H' hi ⟨sm, hy⟩ hx => ?_) (fun H ⟨sm, hy⟩ => hd H sm hy)
  have s0 := hY i H x H' hi hx
  refine hs i x H H' _ _ _ hi (sm.trans s0) (s0 _ _ hy) hx (fun H4 s4 e => ?_) (fun H4 s4 e => ?_)
  · refine ⟨_, s4 _ _ (s0 _ _ hy), ?_, same_put (sm.trans (s0.trans s4)) hD, ?_⟩
    · rw [List.length_map]
      have := List.length_filter_le p (List.range i)
      rw [List.length_range] at this
      omega
    · rw [upd_same, List.range_succ, List.filter_append, List.map_append]
      show _ = some (HO.lst (_ ++ List.map f (List.filter p [i])))
      rw [List.filter_cons_of_pos e]
      rfl
  · refine ⟨sm.trans (s0.trans s4), ?_⟩
    rw [s4 _ _ (s0 _ _ hy), List.range_succ, List.filter_append]
    rw [List.filter_cons_of_neg (by rw [e]; exact Bool.false_ne_true)]
    simp
end
end Frd
set_option Elab.async false
set_option linter.all false
set_option maxRecDepth 100000
set_option maxHeartbeats 4000000
set_option pp.maxSteps 1000
/-! Pieces: the plain law. -/
namespace Frd
open PySem PySem.Spec PyProof.Rows L2
/-- n is a name of r -/
def Sys.has (S : Sys) (r : Rd2) (n : Str) : Prop := r.1 = n ∨ S.tg r = n
/-- two reads hang together within rs -/
inductive Sys.Lk (S : Sys) (rs : List Rd2) : Rd2 → Rd2 → Prop
  | refl (r : Rd2) : S.Lk rs r r
  | step {r q u : Rd2} {n : Str} : S.Lk rs r q → u ∈ rs → S.has q n → S.has u n → S.Lk rs r u
theorem Sys.Lk.mono {S : Sys} {rs qs : List Rd2} {a b : Rd2} (h : S.Lk rs a b) (s : ∀ x ∈ rs, x ∈ qs) : S.Lk qs a b := by
  induction h with
  | refl => exact .refl _
  | step _ hu h1 h2 ih => exact .step ih (s _ hu) h1 h2
theorem Sys.Lk.trans {S : Sys} {rs : List Rd2} {a b c : Rd2} (h : S.Lk rs a b) (k : S.Lk rs b c) : S.Lk rs a c := by
  induction k with
  | refl => exact h
  | step _ hu h1 h2 ih => exact .step ih hu h1 h2
theorem Sys.Lk.symm {S : Sys} {rs : List Rd2} {a b : Rd2} (h : S.Lk rs a b) (ha : a ∈ rs) : S.Lk rs b a := by
  induction h with
  | refl => exact .refl _
  | @step q u n hq hu h1 h2 ih =>
    have hqm : q ∈ rs := by
      cases hq with
      | refl => exact ha
      | step _ z _ _ => exact z
    exact Sys.Lk.trans (.step (.refl _) hqm h2 h1) ih
/-- a piece: its names and its reads -/
abbrev Pc := List Str × List Rd2
structure PcOk (S : Sys) (p : Pc) : Prop where
  ne : p.2 ≠ []
  key : ∀ n, n ∈ p.1 ↔ ∃ r ∈ p.2, S.has r n
  con : ∀ r ∈ p.2, ∀ q ∈ p.2, S.Lk p.2 r q
def Apart (p q : Pc) : Prop := ∀ n, n ∈ p.1 → n ∉ q.1
theorem Apart.symm {p q : Pc} (h : Apart p q) : Apart q p := fun n hn hq => h n hq hn
structure Parts (S : Sys) (done : List Rd2) (ps : List Pc) : Prop where
  ok : ∀ p ∈ ps, PcOk S p
  apart : ps.Pairwise Apart
  perm : (ps.flatMap (·.2)).Perm done
theorem Parts.perm' {S : Sys} {done : List Rd2} {ps qs : List Pc} (h : Parts S done ps) (p : qs.Perm ps) : Parts S done qs :=
  ⟨fun q hq => h.ok q (p.mem_iff.mp hq), (p.pairwise_iff (fun {a b} h => Apart.symm h)).mpr h.apart, (p.flatMap_right _).trans h.perm⟩
theorem Parts.nil {S : Sys} : Parts S [] [] := ⟨fun p hp => (nomatch hp), List.Pairwise.nil, List.Perm.refl _⟩
def hit (a b : Str) (p : Pc) : Bool := decide (a ∈ p.1) || decide (b ∈ p.1)
/-- the read alone -/
theorem PcOk.one {S : Sys} {r : Rd2} {ks : List Str} (hk : ∀ n, n ∈ ks ↔ n = r.1 ∨ n = S.tg r) : PcOk S (ks, [r]) :=
  ⟨by simp, fun n => by
    rw [hk]
    constructor
    · rintro (rfl | rfl)
      · exact ⟨r, by simp, .inl rfl⟩
      · exact ⟨r, by simp, .inr rfl⟩
    · rintro ⟨q, hq, h⟩
      rw [List.mem_singleton.mp hq] at h
      rcases h with h | h
      · exact .inl h.symm
      · exact .inr h.symm, fun a ha b hb => by
    rw [List.mem_singleton.mp ha, List.mem_singleton.mp hb]
    exact .refl _⟩
theorem hit_iff {a b : Str} {p : Pc} : hit a b p = true ↔ a ∈ p.1 ∨ b ∈ p.1 := by
  unfold hit
  rw [Bool.or_eq_true, decide_eq_true_eq, decide_eq_true_eq]
/-- all that is hit, and the read, become one -/
theorem PcOk.join {S : Sys} {r : Rd2} {js : List Pc} {ks : List Str} {rs : List Rd2} (hj : ∀ p ∈ js, PcOk S p ∧ hit r.1 (S.tg r) p = true) (hk : ∀ n, n ∈ ks ↔ n = r.1 ∨ n = S.tg r ∨ ∃ p ∈ js, n ∈ p.1) (hr : ∀ q, q ∈ rs ↔ q = r ∨ ∃ p ∈ js, q ∈ p.2) : PcOk S (ks, rs) := by
  have hrr : r ∈ rs := (hr r).mpr (.inl rfl)
  have key : ∀ q ∈ rs, S.Lk rs r q := fun q hq => by
    rcases (hr q).mp hq with rfl | ⟨p, hp, hqp⟩
    · exact .refl _
    · obtain ⟨ok, hh⟩ := hj p hp
      have sub : ∀ x ∈ p.2, x ∈ rs := fun x hx => (hr x).mpr (.inr ⟨p, hp, hx⟩)
      rcases hit_iff.mp hh with h | h
      · obtain ⟨u, hu, hn⟩ := (ok.key _).mp h
        exact (Sys.Lk.step (.refl r) (sub u hu) (.inl rfl) hn).trans ((ok.con u hu q hqp).mono sub)
      · obtain ⟨u, hu, hn⟩ := (ok.key _).mp h
        exact (Sys.Lk.step (.refl r) (sub u hu) (.inr rfl) hn).trans ((ok.con u hu q hqp).mono sub)
  refine ⟨fun e => ?_, fun n => ?_, fun a ha b hb => ((key a ha).symm hrr).trans (key b hb)⟩
  · have e' : rs = [] := e
    rw [e'] at hrr
    exact nomatch hrr
  · rw [hk]
    constructor
    · rintro (rfl | rfl | ⟨p, hp, hn⟩)
      · exact ⟨r, hrr, .inl rfl⟩
      · exact ⟨r, hrr, .inr rfl⟩
      · obtain ⟨u, hu, h⟩ := ((hj p hp).1.key n).mp hn
        exact ⟨u, (hr u).mpr (.inr ⟨p, hp, hu⟩), h⟩
    · rintro ⟨q, hq, h⟩
      rcases (hr q).mp hq with rfl | ⟨p, hp, hqp⟩
      · rcases h with h | h
        · exact .inl h.symm
        · exact .inr (.inl h.symm)
      · exact .inr (.inr ⟨p, hp, ((hj p hp).1.key n).mpr ⟨q, hqp, h⟩⟩)
/-- a step: what is hit is joined -/
theorem Parts.step {S : Sys} {done : List Rd2} {ps js rest : List Pc} {r : Rd2} {ks : List Str} {rs : List Rd2} (h : Parts S done ps) (hp : ps.Perm (js ++ rest)) (hj : ∀ p ∈ js, hit r.1 (S.tg r) p = true) (hn : ∀ p ∈ rest, hit r.1 (S.tg r) p = false)
    (hk : ∀ n, n ∈ ks ↔ n = r.1 ∨ n = S.tg r ∨ ∃ p ∈ js, n ∈ p.1) (hr : rs.Perm (r :: js.flatMap (·.2))) : Parts S (done ++ [r]) ((ks, rs) :: rest) := by
  have h2 := h.perm' hp.symm
  have hok : ∀ p ∈ js, PcOk S p := fun p hp' => h2.ok p (List.mem_append_left _ hp')
  refine ⟨fun p hp' => ?_, List.pairwise_cons.mpr ⟨fun q hq n hn1 hn2 => ?_, (List.pairwise_append.mp h2.apart).2.1⟩, ?_⟩
  · rcases List.mem_cons.mp hp' with rfl | hp'
    · refine PcOk.join (js := js) (fun p hp => ⟨hok p hp, hj p hp⟩) hk fun q => ?_
      rw [hr.mem_iff, List.mem_cons, List.mem_flatMap]
    · exact h2.ok p (List.mem_append_right _ hp')
  · have hf := hn q hq
    rcases (hk n).mp hn1 with rfl | rfl | ⟨p, hp', hnp⟩
    · rw [hit_iff.mpr (.inl hn2)] at hf
      cases hf
    · rw [hit_iff.mpr (.inr hn2)] at hf
      cases hf
    · exact (List.pairwise_append.mp h2.apart).2.2 p hp' q hq n hnp hn2
  · rw [List.flatMap_cons]
    have e := h2.perm
    rw [List.flatMap_append] at e
    refine (hr.append_right _).trans ?_
    show (r :: (js.flatMap (·.2) ++ rest.flatMap (·.2))).Perm (done ++ [r])
    exact (List.Perm.cons r e).trans (List.perm_append_comm (l₁ := [r]) (l₂ := done))
end Frd
set_option Elab.async false
set_option linter.all false
set_option maxRecDepth 100000
set_option maxHeartbeats 4000000
set_option pp.maxSteps 1000
/-! Pieces as they lie. -/
namespace Frd
open PySem PySem.Spec PyProof.Rows L2
theorem nodup_le {α : Type} [DecidableEq α] : ∀ {l m : List α}, l.Nodup → (∀ x ∈ l, x ∈ m) → l.length ≤ m.length
  | [], _, _, _ => Nat.zero_le _
  | x :: l, m, hn, hs => by
    have hx : x ∈ m := hs x List.mem_cons_self
    have ih := nodup_le (l := l) (m := m.erase x) (List.nodup_cons.mp hn).2 fun y hy => by
      have ne : y ≠ x := fun e => (List.nodup_cons.mp hn).1 (e ▸ hy)
      exact (List.mem_erase_of_ne ne).mpr (hs y (List.mem_cons_of_mem _ hy))
    rw [List.length_erase_of_mem hx] at ih
    have : 0 < m.length := List.length_pos_of_mem hx
    rw [List.length_cons]
    omega
structure PcR where
  t : Addr
  d : Addr
  l : Addr
  ks : List Str
  vs : List V
  rs : List Rd2
def PcR.pc (c : PcR) : Pc := (c.ks, c.rs)
structure PcRAt (H0 H : Hp) (c : PcR) : Prop where
  nd : H0 c.d = none
  nl : H0 c.l = none
  ht : H c.t = some (.tup [.ref c.d, .ref c.l])
  hd : KsAt H c.d c.ks
  ks : c.ks.Nodup
  hl : H c.l = some (.lst c.vs)
  al : All2 (RdV H0) c.vs c.rs
structure CsAt (H0 : Hp) (F : Addr) (H : Hp) (cs : List PcR) : Prop where
  at_ : ∀ c ∈ cs, PcRAt H0 H c
  nF : ∀ c ∈ cs, F ≠ c.l
  inj : ∀ c ∈ cs, ∀ e ∈ cs, c.t ≠ e.t → c.d ≠ e.d ∧ c.l ≠ e.l
  nodup : (cs.map (·.t)).Nodup
theorem t_inj : ∀ {cs : List PcR}, (cs.map (·.t)).Nodup → ∀ c ∈ cs, ∀ e ∈ cs, c.t = e.t → c = e
  | [], _, _, h, _, _, _ => nomatch h
  | x :: cs, hn, c, hc, e, he, h => by
    have hn' := List.nodup_cons.mp hn
    rcases List.mem_cons.mp hc with h1 | hc'
    · rcases List.mem_cons.mp he with h2 | he'
      · rw [h1, h2]
      · exact absurd (List.mem_map.mpr ⟨e, he', by rw [← h, h1]⟩) hn'.1
    · rcases List.mem_cons.mp he with h2 | he'
      · exact absurd (List.mem_map.mpr ⟨c, hc', by rw [h, h2]⟩) hn'.1
      · exact t_inj hn'.2 c hc' e he' h
theorem PcRAt.mono {H0 H H' : Hp} {c : PcR} (h : PcRAt H0 H c) (s : Same H H') : PcRAt H0 H' c := by
  obtain ⟨a1, a2, a3, ⟨kvs, a4, a4'⟩, a5, a6, a7⟩ := h
  exact ⟨a1, a2, s _ _ a3, ⟨kvs, s _ _ a4, a4'⟩, a5, s _ _ a6, a7⟩
theorem CsAt.mono {H0 H H' : Hp} {F : Addr} {cs : List PcR} (h : CsAt H0 F H cs) (s : Same H H') : CsAt H0 F H' cs := ⟨fun c hc => (h.at_ c hc).mono s, h.nF, h.inj, h.nodup⟩
/-- what is no tuple of it, no dict and no list of it may be stored -/
theorem PcRAt.put {H0 H : Hp} {c : PcR} {a : Addr} {o : HO} (h : PcRAt H0 H c) (h1 : a ≠ c.t) (h2 : a ≠ c.d) (h3 : a ≠ c.l) : PcRAt H0 (upd H a o) c := by
  obtain ⟨a1, a2, a3, ⟨kvs, a4, a4'⟩, a5, a6, a7⟩ := h
  exact ⟨a1, a2, by rw [upd_ne h1.symm]; exact a3, ⟨kvs, by rw [upd_ne h2.symm]; exact a4, a4'⟩, a5, by rw [upd_ne h3.symm]; exact a6, a7⟩
theorem CsAt.list {H0 H : Hp} {F : Addr} {cs : List PcR} {xs ys : List V} (h : CsAt H0 F H cs) (hF : H F = some (.lst xs)) : CsAt H0 F (upd H F (.lst ys)) cs := by
  refine ⟨fun c hc => ?_, h.nF, h.inj, h.nodup⟩
  have k := h.at_ c hc
  obtain ⟨kvs, k4, _⟩ := k.hd
  exact k.put (ne_of hF k.ht (by intro z; cases z)) (ne_of hF k4 (by intro z; cases z)) (h.nF c hc)
/-- fc in place of the one of its tuple -/
def rep (cs : List PcR) (fc : PcR) : List PcR := cs.map fun c => if c.t = fc.t then fc else c
theorem rep_t (cs : List PcR) (fc : PcR) : (rep cs fc).map (·.t) = cs.map (·.t) := by
  unfold rep
  rw [List.map_map]
  refine List.map_congr_left fun c _ => ?_
  show (if c.t = fc.t then fc else c).t = c.t
  split
  · rename_i e
    exact e.symm
  · rfl
theorem mem_rep {cs : List PcR} {fc e : PcR} : e ∈ rep cs fc ↔ (e = fc ∧ ∃ c ∈ cs, c.t = fc.t) ∨ (e ∈ cs ∧ e.t ≠ fc.t) := by
  unfold rep
  rw [List.mem_map]
  constructor
  · rintro ⟨c, hc, h⟩
    by_cases q : c.t = fc.t
    · rw [if_pos q] at h
      exact .inl ⟨h.symm, c, hc, q⟩
    · rw [if_neg q] at h
      subst h
      exact .inr ⟨hc, q⟩
  · rintro (⟨rfl, c, hc, h⟩ | ⟨h, q⟩)
    · exact ⟨c, hc, if_pos h⟩
    · exact ⟨e, h, if_neg q⟩
theorem rep_self {cs : List PcR} {c : PcR} (hn : (cs.map (·.t)).Nodup) (hc : c ∈ cs) : rep cs c = cs := by
  unfold rep
  refine (List.map_congr_left fun e he => ?_).trans (List.map_id cs)
  by_cases q : e.t = c.t
  · rw [if_pos q, t_inj hn e he c hc q]
    rfl
  · rw [if_neg q]
    rfl
/-- one piece is changed -/
theorem CsAt.rep {H0 H H2 : Hp} {F : Addr} {cs : List PcR} {c fc : PcR} (h : CsAt H0 F H (rep cs c)) (hc : ∃ e ∈ cs, e.t = c.t) (e1 : fc.t = c.t) (e2 : fc.d = c.d) (e3 : fc.l = c.l) (hf : PcRAt H0 H2 fc) (ho : ∀ e, PcRAt H0 H e → c.d ≠ e.d → c.l ≠ e.l → PcRAt H0 H2 e) : CsAt H0 F H2 (rep cs fc) := by
  have hcm : c ∈ Frd.rep cs c := mem_rep.mpr (.inl ⟨rfl, hc⟩)
  have back : ∀ e ∈ Frd.rep cs fc, e = fc ∨ (e ∈ Frd.rep cs c ∧ e.t ≠ c.t) := fun e he => by
    rcases mem_rep.mp he with ⟨h1, _⟩ | ⟨h1, h2⟩
    · exact .inl h1
    · rw [e1] at h2
      exact .inr ⟨mem_rep.mpr (.inr ⟨h1, h2⟩), h2⟩
  have twin : ∀ e ∈ Frd.rep cs fc, ∃ u ∈ Frd.rep cs c, u.t = e.t ∧ u.d = e.d ∧ u.l = e.l := fun e he => by
    rcases back e he with rfl | ⟨h1, _⟩
    · exact ⟨c, hcm, e1.symm, e2.symm, e3.symm⟩
    · exact ⟨e, h1, rfl, rfl, rfl⟩
  refine ⟨fun e he => ?_, fun e he => ?_, fun a ha b hb hne => ?_, by rw [rep_t]; have := h.nodup; rwa [rep_t] at this⟩
  · rcases back e he with rfl | ⟨h1, h2⟩
    · exact hf
    · obtain ⟨n1, n2⟩ := h.inj c hcm e h1 (fun z => h2 z.symm)
      exact ho e (h.at_ e h1) n1 n2
  · obtain ⟨u, hu, _, _, z⟩ := twin e he
    rw [← z]
    exact h.nF u hu
  · obtain ⟨u, hu, z1, z2, z3⟩ := twin a ha
    obtain ⟨v, hv, y1, y2, y3⟩ := twin b hb
    rw [← z2, ← z3, ← y2, ← y3]
    exact h.inj u hu v hv (by rw [z1, y1]; exact hne)
theorem CsAt.dict {H0 H : Hp} {F : Addr} {cs : List PcR} {c : PcR} {ks : List Str} {kvs : List (Key × V)} (h : CsAt H0 F H (Frd.rep cs c)) (hc : ∃ e ∈ cs, e.t = c.t) (hk : kvs.map (·.1) = ks.map Sum.inr) (hn : ks.Nodup) : CsAt H0 F (upd H c.d (.dK kvs)) (Frd.rep cs { c with ks := ks }) := by
  have k := h.at_ c (mem_rep.mpr (.inl ⟨rfl, hc⟩))
  obtain ⟨a1, a2, a3, ⟨kv0, a4, a4'⟩, a5, a6, a7⟩ := id k
  refine h.rep hc rfl rfl rfl ⟨a1, a2, ?_, ⟨kvs, upd_same, hk⟩, hn, ?_, a7⟩ fun e he n1 n2 => ?_
  · show upd H c.d _ c.t = _
    rw [upd_ne (ne_of a3 a4 (by intro z; cases z))]
    exact a3
  · show upd H c.d _ c.l = _
    rw [upd_ne (ne_of a6 a4 (by intro z; cases z))]
    exact a6
  · exact he.put (ne_of a4 he.ht (by intro z; cases z)) n1 (ne_of a4 he.hl (by intro z; cases z))
theorem CsAt.more {H0 H : Hp} {F : Addr} {cs : List PcR} {c : PcR} {vs : List V} {rs : List Rd2} (h : CsAt H0 F H (Frd.rep cs c)) (hc : ∃ e ∈ cs, e.t = c.t) (ha : All2 (RdV H0) vs rs) : CsAt H0 F (upd H c.l (.lst vs)) (Frd.rep cs { c with vs := vs, rs := rs }) := by
  have k := h.at_ c (mem_rep.mpr (.inl ⟨rfl, hc⟩))
  obtain ⟨a1, a2, a3, ⟨kv0, a4, a4'⟩, a5, a6, a7⟩ := id k
  refine h.rep hc rfl rfl rfl ⟨a1, a2, ?_, ⟨kv0, ?_, a4'⟩, a5, upd_same, ha⟩ fun e he n1 n2 => ?_
  · show upd H c.l _ c.t = _
    rw [upd_ne (ne_of a3 a6 (by intro z; cases z))]
    exact a3
  · show upd H c.l _ c.d = _
    rw [upd_ne (ne_of a4 a6 (by intro z; cases z))]
    exact a4
  · obtain ⟨kv1, b4, _⟩ := he.hd
    exact he.put (ne_of a6 he.ht (by intro z; cases z)) (ne_of a6 b4 (by intro z; cases z)) n2
/-- a new one -/
theorem CsAt.snoc {H0 H : Hp} {F : Addr} {cs : List PcR} {c : PcR} (h : CsAt H0 F H cs) (hf : PcRAt H0 H c) (hF : F ≠ c.l) (hn : ∀ e ∈ cs, c.t ≠ e.t ∧ c.d ≠ e.d ∧ c.l ≠ e.l) : CsAt H0 F H (cs ++ [c]) := by
  refine ⟨fun e he => ?_, fun e he => ?_, fun a ha b hb hne => ?_, ?_⟩
  · rcases List.mem_append.mp he with he | he
    · exact h.at_ e he
    · rw [List.mem_singleton.mp he]
      exact hf
  · rcases List.mem_append.mp he with he | he
    · exact h.nF e he
    · rw [List.mem_singleton.mp he]
      exact hF
  · rcases List.mem_append.mp ha with ha | ha
    · rcases List.mem_append.mp hb with hb | hb
      · exact h.inj a ha b hb hne
      · rw [List.mem_singleton.mp hb]
        exact ⟨(hn a ha).2.1.symm, (hn a ha).2.2.symm⟩
    · rw [List.mem_singleton.mp ha] at hne ⊢
      rcases List.mem_append.mp hb with hb | hb
      · exact (hn b hb).2
      · rw [List.mem_singleton.mp hb] at hne
        exact absurd rfl hne
  · rw [List.map_append]
    refine List.nodup_append.mpr ⟨h.nodup, by simp, fun a ha b hb e => ?_⟩
    obtain ⟨u, hu, rfl⟩ := List.mem_map.mp ha
    have hb' : b = c.t := by simpa using hb
    exact (hn u hu).1 (by rw [← hb', ← e])
theorem CsAt.filter {H0 H : Hp} {F : Addr} {cs : List PcR} (p : PcR → Bool) (h : CsAt H0 F H cs) : CsAt H0 F H (cs.filter p) := by
  have sub : ∀ c, c ∈ cs.filter p → c ∈ cs := fun c hc => (List.mem_filter.mp hc).1
  exact ⟨fun c hc => h.at_ c (sub c hc), fun c hc => h.nF c (sub c hc), fun a ha b hb => h.inj a (sub a ha) b (sub b hb), h.nodup.sublist (List.filter_sublist.map _)⟩
theorem CsAt.toF {H0 H : Hp} {F F2 : Addr} {cs : List PcR} (h : CsAt H0 F H cs) (hn : ∀ c ∈ cs, F2 ≠ c.l) : CsAt H0 F2 H cs := ⟨h.at_, hn, h.inj, h.nodup⟩
/-- a filter by places -/
theorem filter_at {α : Type} (q : α → Bool) (d : α) (l : List α) : ((List.range l.length).filter fun i => q (l.getD i d)).map (fun i => l.getD i d) = l.filter q := by
  have e := map_range (fun x : α => x) d l
  rw [List.map_id'] at e
  conv => rhs; rw [← e]
  rw [List.filter_map]
  rfl
end Frd
set_option Elab.async false
set_option linter.all false
set_option maxRecDepth 100000
set_option maxHeartbeats 4000000
set_option pp.maxSteps 1000
/-! pieces_of. -/
namespace Frd
open PySem PySem.Spec PyProof.Rows L2
theorem All2.app {α β : Type} {R : α → β → Prop} {xs us : List α} {ys vs : List β} (h : All2 R xs ys) (k : All2 R us vs) : All2 R (xs ++ us) (ys ++ vs) := by
  refine ⟨by rw [List.length_append, List.length_append, h.1, k.1], fun i a b ha hb => ?_⟩
  by_cases q : i < xs.length
  · rw [List.getElem?_append_left q] at ha
    rw [List.getElem?_append_left (by rw [← h.1]; exact q)] at hb
    exact h.2 i a b ha hb
  · rw [List.getElem?_append_right (by omega)] at ha
    rw [List.getElem?_append_right (by rw [← h.1]; omega), ← h.1] at hb
    exact k.2 _ a b ha hb
theorem cut1 {x : V} {xs : List V} : cutV (x :: xs) (some 1) none = xs := by
  unfold cutV HT.sIx
  simp
theorem slB {X : Cx} {K : PySem.W.Frag} (hK : X.K = K) : SlR X (rSlL K) := hK ▸ sl_list
theorem op_notInPcB {X : Cx} {K : PySem.W.Frag} (hK : X.K = K) (hu : X.A.units + 64 < cLine) : OpR X (compareOp .NotIn) (rNotInPc K) := hK ▸ op_notInPc (by omega)
theorem cr_sortedRdB {X : Cx} {K : PySem.W.Frag} (hK : X.K = K) : CallR X (.builtin "sorted") (rSortedRd K) := hK ▸ cr_sortedRd
/-- v is the list of the reads of p, in order -/
def PieceV (H0 H : Hp) (v : V) (p : Pc) : Prop := ∃ l ys, v = .ref l ∧ H0 l = none ∧ H l = some (.lst ys) ∧ All2 (RdV H) ys (rsort p.2)
def pcr0 : PcR := ⟨0, 0, 0, [], [], []⟩
def tv (c : PcR) : V := .ref c.t
theorem for_either {K : PySem.W.Frag} {a : Addr} {xs : List V} {te : TE} {g : TG} {tb : TS} {D : L2.Ends} {σ : L2.St} {H0 H : Hp} (hv : ∀ Q : VK, Q (.ref a) H → te σ H Q) (h : SqE K H0 a xs) (Pv : Nat → L2.St → Hp → Prop) (h0 : Pv 0 σ H) (hG : ∀ i σ H', i ≤ xs.length → Pv i σ H' → Same H0 H')
    (hs : ∀ i x σ H', xs[i]? = some x → Pv i σ H' → g x σ H' fun σ2 H2 => tb { D with nx := Pv (i + 1), ct := Pv (i + 1), bk := D.nx } σ2 H2) (hd : ∀ σ H', Pv xs.length σ H' → D.nx σ H') : tFor (iOr (iList K te) (iTup K te)) g tb D σ H := by
  have s0 := hG 0 σ H (Nat.zero_le _) h0
  rcases h with h | h
  · exact .inl (hv _ ⟨a, rfl, ⟨_, s0.seq h⟩, for_it (walk_list (K := K) (a := a) (xs := xs)) Pv h0 (fun i σ H' hi p => (hG i σ H' hi p).seq h) (fun i x σ H' H'' hi p ⟨e, ex⟩ => e ▸ hs i x σ H' ex p) hd⟩)
  · exact .inr (hv _ ⟨a, rfl, ⟨_, same_sqT s0 h⟩, for_it (walk_tup (K := K) (a := a) (xs := xs)) Pv h0 (fun i σ H' hi p => same_sqT (hG i σ H' hi p) h) (fun i x σ H' H'' hi p ⟨e, ex⟩ => e ▸ hs i x σ H' ex p) hd⟩)
theorem flat_len : ∀ {ps : List Pc}, (∀ p ∈ ps, p.2 ≠ []) → ps.length ≤ (ps.flatMap (·.2)).length
  | [], _ => Nat.le_refl _
  | p :: ps, h => by
    have ih := flat_len (ps := ps) fun q hq => h q (List.mem_cons_of_mem _ hq)
    have : 0 < p.2.length := List.length_pos_iff.mpr (h p List.mem_cons_self)
    rw [List.flatMap_cons, List.length_append, List.length_cons]
    omega
theorem Parts.few {S : Sys} {done : List Rd2} {ps : List Pc} (h : Parts S done ps) : ps.length ≤ done.length := by
  have := flat_len fun p hp => (h.ok p hp).ne
  rw [h.perm.length_eq] at this
  exact this
theorem mem_flat_le {p : Pc} : ∀ {ps : List Pc}, p ∈ ps → p.2.length ≤ (ps.flatMap (·.2)).length
  | q :: ps, h => by
    rw [List.flatMap_cons, List.length_append]
    rcases List.mem_cons.mp h with rfl | h
    · omega
    · have := mem_flat_le h
      omega
theorem Parts.small {S : Sys} {done : List Rd2} {ps : List Pc} (h : Parts S done ps) {p : Pc} (hp : p ∈ ps) : p.2.length ≤ done.length := by
  have := mem_flat_le hp
  rw [h.perm.length_eq] at this
  exact this
theorem pw_all {α : Type} {R : α → α → Prop} (sy : ∀ a b, R a b → R b a) : ∀ {l : List α}, l.Pairwise R → ∀ a ∈ l, ∀ b ∈ l, a ≠ b → R a b
  | x :: l, h, a, ha, b, hb, hne => by
    have h' := List.pairwise_cons.mp h
    rcases List.mem_cons.mp ha with e1 | ha
    · rcases List.mem_cons.mp hb with e2 | hb
      · exact absurd (e1.trans e2.symm) hne
      · rw [e1]
        exact h'.1 b hb
    · rcases List.mem_cons.mp hb with e2 | hb
      · rw [e2]
        exact sy _ _ (h'.1 a ha)
      · exact pw_all sy h'.2 a ha b hb hne
theorem flat_take (l : List Pc) (j : Nat) : ((l.take j).flatMap (·.2)).length ≤ (l.flatMap (·.2)).length := by
  have e : (l.flatMap (·.2)).length = ((l.take j ++ l.drop j).flatMap (·.2)).length := by rw [List.take_append_drop]
  rw [e, List.flatMap_append, List.length_append]
  omega
theorem rep_tv (cs : List PcR) (g : PcR) : (rep cs g).map tv = cs.map tv := by
  have e : ∀ l : List PcR, l.map tv = (l.map (·.t)).map V.ref := fun l => by
    rw [List.map_map]
    rfl
  rw [e, e, rep_t]
theorem ks_len {H : Hp} {d : Addr} {ks : List Str} {kvs : List (Key × V)} (h : kvs.map (·.1) = ks.map Sum.inr) : kvs.length = ks.length := by
  have := congrArg List.length h
  rwa [List.length_map, List.length_map] at this
theorem valV_iff {κ : Type} [DecidableEq κ] {kvs : List (κ × V)} {k : κ} : (valV kvs k).isSome = true ↔ k ∈ kvs.map (·.1) := by
  rw [valV_some]
  exact decide_eq_true_iff
theorem ks_get {H : Hp} {d : Addr} {ks : List Str} (h : KsAt H d ks) (n : Str) : ∃ o, DGet H d (.str n) o ∧ o.isSome = decide (n ∈ ks) := by
  obtain ⟨kvs, e, hk⟩ := h
  refine ⟨_, DGet.k (k := Sum.inr n) e, ?_⟩
  rw [Bool.eq_iff_iff, valV_iff, decide_eq_true_eq, hk, List.mem_map]
  constructor
  · rintro ⟨x, hx, e⟩
    rw [← Sum.inr.inj e]
    exact hx
  · exact fun h => ⟨n, h, rfl⟩
section
variable {P : Program} {w : World} {K : PySem.W.Frag} {mg : Str → Option Value} {base : Heap} {C : Addr}
theorem scPc : FnScope ["system", "reads", "found", "read", "ends", "joined", "first", "other", "piece"] ["system", "reads"] (defScope (topS 26)) := ⟨rfl, rfl, rfl, by decide +kernel, rfl, by decide +kernel, by decide +kernel⟩
def spPc (K : PySem.W.Frag) (C : Addr) : Sp := fun vs H Q _ => ∃ (p a : Addr) (S : Sys) (xs : List V) (rs : List Rd2), vs = [.ref p, .ref a] ∧ SysAt C H p S ∧ SqE K H a xs ∧ All2 (RdV H) xs rs ∧ S.All rs ∧ rs.length ≤ 12 ∧
  ∀ H' F (ys : List V) (ps : List Pc), Same H H' → H F = none → H' F = some (.lst ys) → Parts S rs ps → All2 (PieceV H H') ys ps → Q (.ref F) H'
theorem ok_pc {f : Addr} {fd : FuncData} (F : Fun K "pieces_of" "pieces_of" (topS 26) f fd) (msorted : mg "sorted" = none) (D1 : Dn P w K mg base "target_of" 1 ["system", "read"] (spTo C)) : FnOk P w K mg base CX0 2 f fd ["system", "reads"] (spPc K C) := by
  refine F.ok scPc (fun vs H Q E h => ?_) (fun cdv A outer s H vs Q E hr h => ?_)
  · obtain ⟨p, a, S, xs, rs, rfl, _⟩ := h
    rfl
  · obtain ⟨p, a, S, xs, rs, rfl, hS, hL, hA, hall, hlen, q⟩ := h
    have nd := scPc.nd
    have hu := hu_of hr
    have hu64 := hr.units
    refine ⟨_, pss_cons (ps_set (i := 2) nd rfl (.inl rfl) (pe_lst pa_nil))
      (pss_cons (ps_for PassesOwn.never rfl (pi_or (pi_list (pv 1)) (pi_tup (pv 1))) (pg_name (i := 3) nd rfl (.inl rfl))
        (pss_cons (ps_set (i := 4) nd rfl (.inr rfl) (pe_tup (pa_cons (pe_ix ix_tup (pv 3) pe_int (fun _ _ => rfl)) (pa_cons (pe_def D1 hr (by rfl) (pa_cons (pv 0) (pa_cons (pv 3) pa_nil))) pa_nil))))
        (pss_cons (ps_set (i := 5) nd rfl (.inr rfl) (pe_lc (own := [("piece", 8)]) (g := gName 8) rfl nd (pi_list (pv 2)) (blkOk_by (N := ["system", "reads", "found", "read", "ends", "joined", "first", "other", "piece"]) (sc := defScope (topS 26)) (by decide +kernel))
            (fun _ _ _ _ _ => pg_name (i := 8) nd rfl (Or.inl rfl)) (fun _ _ _ _ _ => pts_one (PW.pt (pw_or (pt_cmp (pc_din hu (pe_ix (ix_tupB (K := K) rfl) (pv 4) pe_int (fun _ _ => rfl)) (pe_ix (ix_tupB (K := K) rfl) (pv 8) pe_int (fun _ _ => rfl)))) (pw_or1 (pt_cmp (pc_din hu (pe_ix (ix_tupB (K := K) rfl) (pv 4) pe_int (fun _ _ => rfl)) (pe_ix (ix_tupB (K := K) rfl) (pv 8) pe_int (fun _ _ => rfl)))))))) (fun _ _ _ _ _ => pv 8)))
        (pss_one (ps_if (pt_cmpR (op_eqNil hr.units0) (pv 5) (pe_lst pa_nil) (nomark _))
          (pss_one (ps_expr (pe_bm PySem.F.plainAttrs_list PySem.F.slot_list_append PySem.F.type_list_append mt_append (pv 2)
            (pa_cons (pe_tup (pa_cons (pe_disp (pps_cons (pe_ix ix_tup (pv 4) pe_int (fun _ _ => rfl)) pe_bl (pps_cons (pe_ix ix_tup (pv 4) pe_int (fun _ _ => rfl)) pe_bl pps_nil)) rfl rfl (by simp) (by decide)) (pa_cons (pe_lst (pa_cons (pv 3) pa_nil)) pa_nil))) pa_nil))))
          (pss_cons (ps_set (i := 6) nd rfl (.inl rfl) (pe_ix ix_list (pv 5) pe_int (fun _ _ => rfl)))
          (pss_cons (ps_expr (pe_bm PySem.F.plainAttrs_dict PySem.F.slot_dict_update PySem.F.type_dict_update mt_update (pe_ix ix_tup (pv 6) pe_int (fun _ _ => rfl))
            (pa_cons (pe_disp (pps_cons (pe_ix ix_tup (pv 4) pe_int (fun _ _ => rfl)) pe_bl (pps_cons (pe_ix ix_tup (pv 4) pe_int (fun _ _ => rfl)) pe_bl pps_nil)) rfl rfl (by simp) (by decide)) pa_nil)))
          (pss_cons (ps_expr (pe_bm PySem.F.plainAttrs_list PySem.F.slot_list_append PySem.F.type_list_append mt_append (pe_ix ix_tup (pv 6) pe_int (fun _ _ => rfl)) (pa_cons (pv 3) pa_nil)))
          (pss_cons (ps_for PassesOwn.never rfl (pi_list (pe_slice sl_list (pv 5) (po_some pe_int) po_none)) (pg_name (i := 7) nd rfl (.inl rfl))
            (pss_cons (ps_expr (pe_bm PySem.F.plainAttrs_dict PySem.F.slot_dict_update PySem.F.type_dict_update mt_update (pe_ix ix_tup (pv 6) pe_int (fun _ _ => rfl)) (pa_cons (pe_ix ix_tup (pv 7) pe_int (fun _ _ => rfl)) pa_nil)))
            (pss_one (ps_expr (pe_bm PySem.F.plainAttrs_list PySem.F.slot_list_extend PySem.F.type_list_extend mt_extend (pe_ix ix_tup (pv 6) pe_int (fun _ _ => rfl)) (pa_cons (pe_ix ix_tup (pv 7) pe_int (fun _ _ => rfl)) pa_nil))))))
          (pss_one (ps_setLc (i := 2) (own := [("piece", 8)]) (g := gName 8) (by rfl) nd rfl rfl (sw_true rfl rfl rfl (by decide +kernel)) (pi_list (pv 2)) (blkOk_by (N := ["system", "reads", "found", "read", "ends", "joined", "first", "other", "piece"]) (sc := defScope (topS 26)) (by decide +kernel))
            (fun _ _ _ _ _ => pg_name (i := 8) nd rfl (Or.inl rfl)) (fun _ _ _ _ _ => pts_one (pt_cmpR (op_notInPcB (K := K) rfl hu64) (pv 8) (pe_slice (slB (K := K) rfl) (pv 5) (po_some pe_int) po_none) rfl)) (fun _ _ _ _ _ => pv 8))))))))))))
      (pss_one (ps_ret (pe_lc (own := [("piece", 8)]) (g := gName 8) (tt := tYes) rfl nd (pi_list (pv 2)) (blkOk_by (N := ["system", "reads", "found", "read", "ends", "joined", "first", "other", "piece"]) (sc := defScope (topS 26)) (by decide +kernel))
            (fun _ _ _ _ _ => pg_name (i := 8) nd rfl (Or.inl rfl)) (fun _ _ _ _ _ => pts_nil) (fun _ _ _ _ _ => pe_callB (cr_sortedRdB (K := K) rfl) (by rfl) msorted (by decide +kernel) (pa_cons (pe_ix (ix_tupB (K := K) rfl) (pv 8) pe_int (fun _ _ => rfl)) pa_nil)))))), ?_⟩
    refine ⟨Nat.zero_le _, fun F0 hF0 => ?_⟩
    have hxl : xs.length = rs.length := hA.1
    refine for_either (H0 := H) (a := a) (fun Q q => ⟨_, rfl, q⟩) hL (fun i σ H' => ∃ (F : Addr) (cs : List PcR), (∃ y3 y4 y5 y6 y7 y8, σ = [some (.ref p), some (.ref a), some (.ref F), y3, y4, y5, y6, y7, y8]) ∧ Same H H' ∧ H F = none ∧ H' F = some (.lst (cs.map tv)) ∧ CsAt H F H' cs ∧
        (∀ c ∈ cs, c.ks.length ≤ 2 * c.rs.length) ∧ Parts S (rs.take i) (cs.map PcR.pc)) ?_ (fun i σ H' _ ⟨_, _, _, sm, _⟩ => sm) ?_ ?_
    · exact ⟨F0, [], ⟨none, none, none, none, none, none, rfl⟩, same_upd hF0, hF0, upd_same, ⟨fun c hc => (nomatch hc), fun c hc => (nomatch hc), fun c hc => (nomatch hc), List.nodup_nil⟩, fun c hc => (nomatch hc), Parts.nil⟩
    · rintro i x σ H1 ex ⟨F, cs, ⟨y3, y4, y5, y6, y7, y8, rfl⟩, sm, hF, hF1, hC, hks, hP⟩
      obtain ⟨r, er, hrv⟩ := hA.at ex
      obtain ⟨t, rfl, ht⟩ := id hrv
      have hi : i < rs.length := (List.getElem?_eq_some_iff.mp er).1
      have etake : rs.take (i + 1) = rs.take i ++ [r] := by
        rw [List.take_add_one, er]
        rfl
      obtain ⟨y, hy⟩ := hall r (List.mem_of_getElem? er)
      have hcl : cs.length ≤ 12 := by
        have := hP.few
        rw [List.length_map, List.length_take] at this
        omega
      -- ends
      refine ⟨_, rfl, t, _, 0, .str r.1, rfl, rfl, SqT.of (sm _ _ ht), atI_nat (j := 0) rfl, ?_⟩
      refine ⟨_, rfl, _, rfl, p, _, S, r, y, rfl, hS.mono sm, hrv.mono sm, hy, ?_⟩
      refine ⟨Nat.le_of_lt (small1000 (by simp)), fun En hEn => ?_⟩
      have s2 : Same H1 (upd H1 En (.tup [.str r.1, .str y.1])) := same_upd hEn
      have hEn2 : (upd H1 En (.tup [.str r.1, .str y.1])) En = some (.tup [.str r.1, .str y.1]) := upd_same
      generalize upd H1 En (.tup [.str r.1, .str y.1]) = H2 at s2 hEn2 ⊢
      -- joined
      refine ⟨_, rfl, F, rfl, ⟨_, SqL.of (s2 _ _ hF1)⟩, fun J hJ => ?_⟩
      refine lc_filter (walk_list (K := K) (a := F) (xs := cs.map tv)) (fun j => hit r.1 y.1 (cs.getD j pcr0).pc) (fun j => tv (cs.getD j pcr0)) (small1000 (by rw [List.length_map]; omega)) hJ (fun H' s' => SqL.of (s' _ _ (s2 _ _ hF1))) (fun j H x H' _ => y_at j H x H') ?_ ?_
      · rintro j u H3 H4 acc Z N hj s4 hk ⟨rfl, eu⟩ hZ hN
        rw [List.length_map] at hj
        obtain ⟨c, ec⟩ : ∃ c, cs[j]? = some c := ⟨cs[j], List.getElem?_eq_getElem hj⟩
        have eu' : u = tv c := by
          rw [List.getElem?_map, ec] at eu
          exact (Option.some.inj eu).symm
        subst eu'
        have k4 := ((hC.at_ c (List.mem_of_getElem? ec)).mono s2).mono s4
        rw [getD_at ec] at hZ hN
        refine ⟨rfl, ?_⟩
        obtain ⟨o1, g1, i1⟩ := ks_get k4.hd r.1
        obtain ⟨o2, g2, i2⟩ := ks_get k4.hd y.1
        refine ⟨_, rfl, En, _, 0, .str r.1, rfl, rfl, SqT.of (s4 _ _ hEn2), atI_nat (j := 0) rfl, ?_⟩
        refine ⟨_, rfl, c.t, _, 0, .ref c.d, rfl, rfl, SqT.of k4.ht, atI_nat (j := 0) rfl, c.d, o1, rfl, g1, _, rfl, ?_⟩
        rw [i1]
        refine ite2 (fun e => ?_) (fun e => ?_)
        · have h : hit r.1 y.1 c.pc = true := hit_iff.mpr (.inl (of_decide_eq_true e))
          exact iteT ⟨_, rfl, hZ _ (Same.refl _) h⟩
        · refine ⟨_, rfl, En, _, 1, .str y.1, rfl, rfl, SqT.of (s4 _ _ hEn2), atI_nat (j := 1) rfl, ?_⟩
          refine ⟨_, rfl, c.t, _, 0, .ref c.d, rfl, rfl, SqT.of k4.ht, atI_nat (j := 0) rfl, c.d, o2, rfl, g2, _, rfl, ?_⟩
          rw [i2]
          refine ite2 (fun e2 => ?_) (fun e2 => ?_)
          · have h : hit r.1 y.1 c.pc = true := hit_iff.mpr (.inr (of_decide_eq_true e2))
            exact ⟨_, rfl, hZ _ (Same.refl _) h⟩
          · have h : hit r.1 y.1 c.pc = false := by
              cases z : hit r.1 y.1 c.pc with
              | false => rfl
              | true =>
                rcases hit_iff.mp z with z | z
                · exact absurd (decide_eq_true z) e
                · exact absurd (decide_eq_true z) e2
            exact hN _ (Same.refl _) h
      · intro H3 s3 hJ3
        have hJl : H3 J = some (.lst ((cs.filter fun c => hit r.1 y.1 c.pc).map tv)) := by
          rw [hJ3, List.length_map, ← filter_at (fun c : PcR => hit r.1 y.1 c.pc) pcr0 cs, List.map_map]
          rfl
        have hEn3 := s3 _ _ hEn2
        have sm3 : Same H H3 := (sm.trans s2).trans s3
        have hF3 := s3 _ _ (s2 _ _ hF1)
        have hC3 := (hC.mono s2).mono s3
        refine ⟨_, rfl, Nat.zero_le _, fun E1 hE1 => ?_⟩
        refine ⟨J, E1, _, rfl, rfl, SqL.of ((same_upd hE1) _ _ hJl), SqL.of upd_same, _, rfl, ?_⟩
        have s4 : Same H3 (upd H3 E1 (.lst [])) := same_upd hE1
        generalize upd H3 E1 (.lst []) = H4 at s4 ⊢
        have sm4 : Same H H4 := sm3.trans s4
        have hF4 := s4 _ _ hF3
        have hC4 := hC3.mono s4
        have hJ4 := s4 _ _ hJl
        have hEn4 := s4 _ _ hEn3
        have hx4 := sm4 _ _ ht
        have tgr : S.tg r = y.1 := tg_of hy
        -- what is hit
        have hperm : (cs.map PcR.pc).Perm (((cs.filter fun c => hit r.1 y.1 c.pc).map PcR.pc) ++ ((cs.filter fun c => !hit r.1 y.1 c.pc).map PcR.pc)) := by
          rw [← List.map_append]
          exact (List.filter_append_perm _ cs).symm.map _
        generalize ejs : (cs.filter fun c => hit r.1 y.1 c.pc) = js at hperm hJ4 ⊢
        have hjm : ∀ c ∈ js, c ∈ cs ∧ hit r.1 y.1 c.pc = true := fun c hc => by
          rw [← ejs] at hc
          exact List.mem_filter.mp hc
        have hrm : ∀ c ∈ cs.filter (fun c => !hit r.1 y.1 c.pc), c ∈ cs ∧ hit r.1 y.1 c.pc = false := fun c hc => by
          have := List.mem_filter.mp hc
          exact ⟨this.1, by simpa using this.2⟩
        refine ite2 (fun e => ?_) (fun e => ?_)
        · have ej : js = [] := List.map_eq_nil_iff.mp (of_decide_eq_true e)
          subst ej
          -- a new piece
          refine ⟨_, rfl, .inl ⟨rfl, _, SqL.of hF4⟩, ?_⟩
          intro D hD
          refine ⟨_, rfl, En, _, 0, .str r.1, rfl, rfl, SqT.of ((same_upd hD) _ _ hEn4), atI_nat (j := 0) rfl, ?_⟩
          refine ⟨_, rfl, En, _, 1, .str y.1, rfl, rfl, SqT.of ((same_upd hD) _ _ hEn4), atI_nat (j := 1) rfl, ?_⟩
          refine ⟨upd_same, [(Sum.inr r.1, .bl true), (Sum.inr y.1, .bl true)], rfl, (by simp), ?_⟩
          have e5 : (mergeK [] [(Sum.inr r.1, .bl true), (Sum.inr y.1, .bl true)]).map (·.1) = (addKs [] [r.1, y.1]).map Sum.inr := by
            rw [keys_merge, ← addKs_inr]
            rfl
          generalize mergeK [] [(Sum.inr r.1, .bl true), (Sum.inr y.1, .bl true)] = kvn at e5 ⊢
          have s5 : Same H4 (upd (upd H4 D (.dK [])) D (.dK kvn)) := same_put (same_upd hD) hD
          have hD5 : (upd (upd H4 D (.dK [])) D (.dK kvn)) D = some (.dK kvn) := upd_same
          generalize upd (upd H4 D (.dK [])) D (.dK kvn) = H5 at s5 hD5 ⊢
          refine ⟨_, rfl, Nat.le_of_lt (small1000 (by simp)), fun L hL => ?_⟩
          have s6 : Same H5 (upd H5 L (.lst [V.ref t])) := same_upd hL
          have hL6 : (upd H5 L (.lst [V.ref t])) L = some (.lst [V.ref t]) := upd_same
          generalize upd H5 L (.lst [V.ref t]) = H6 at s6 hL6 ⊢
          refine ⟨Nat.le_of_lt (small1000 (by simp)), fun T hT => ?_⟩
          have s7 : Same H6 (upd H6 T (.tup [.ref D, .ref L])) := same_upd hT
          have hT7 : (upd H6 T (.tup [.ref D, .ref L])) T = some (.tup [.ref D, .ref L]) := upd_same
          generalize upd H6 T (.tup [.ref D, .ref L]) = H7 at s7 hT7 ⊢
          have s47 : Same H4 H7 := (s5.trans s6).trans s7
          have hF7 := s47 _ _ hF4
          have hC7 := hC4.mono s47
          have nD : H D = none := sm4.free hD
          have nL4 : H4 L = none := s5.free hL
          have nT4 : H4 T = none := (s5.trans s6).free hT
          refine ⟨F, _, _, rfl, rfl, hF7, by rw [List.length_map]; exact small1000 (by omega), ?_⟩
          refine ⟨F, cs ++ [⟨T, D, L, addKs [] [r.1, y.1], [.ref t], [r]⟩], ⟨_, _, _, _, _, _, rfl⟩, same_put (sm4.trans s47) hF, hF, ?_, CsAt.list (CsAt.snoc hC7 ⟨nD, sm4.free nL4, hT7, ⟨kvn, (s6.trans s7) _ _ hD5, e5⟩, nodup_addKs List.nodup_nil, s7 _ _ hL6, All2.snoc All2.nil hrv⟩ ?_ ?_) hF7, ?_, ?_⟩
          · rw [upd_same, List.map_append]
            rfl
          · exact ne_of_none hF4 nL4
          · intro c hc
            have k := hC4.at_ c hc
            obtain ⟨kv, k2, _⟩ := k.hd
            exact ⟨(ne_of_none k.ht nT4).symm, (ne_of_none k2 hD).symm, (ne_of_none k.hl nL4).symm⟩
          · intro c hc
            rcases List.mem_append.mp hc with hc | hc
            · exact hks c hc
            · rw [List.mem_singleton.mp hc]
              have := len_addKs (more := [r.1, y.1]) (l := [])
              simpa using this
          · rw [etake]
            have hN : ∀ p ∈ cs.map PcR.pc, hit r.1 (S.tg r) p = false := fun p hp => by
              obtain ⟨c, hc, rfl⟩ := List.mem_map.mp hp
              rw [tgr]
              cases z : hit r.1 y.1 c.pc with
              | false => rfl
              | true =>
                have : c ∈ ([] : List PcR) := by
                  rw [← ejs]
                  exact List.mem_filter.mpr ⟨hc, z⟩
                exact (nomatch this)
            have st := hP.step (r := r) (js := []) (rest := cs.map PcR.pc) (ks := addKs [] [r.1, y.1]) (rs := [r]) (List.Perm.refl _) (fun p hp => (nomatch hp)) hN (fun n => by
              rw [mem_addKs, tgr]
              simp) (List.Perm.refl _)
            refine st.perm' ?_
            rw [List.map_append]
            exact List.perm_append_comm
        · obtain ⟨fc, os, rfl⟩ : ∃ fc os, js = fc :: os := by
            cases js with
            | nil => exact absurd rfl e
            | cons a b => exact ⟨a, b, rfl⟩
          have hfc := hjm fc List.mem_cons_self
          have kfc := hC4.at_ fc hfc.1
          have l13 : ∀ c ∈ cs, c.rs.length ≤ 12 ∧ c.ks.length ≤ 24 := fun c hc => by
            have a := hP.small (List.mem_map.mpr ⟨c, hc, rfl⟩)
            rw [List.length_take] at a
            have a' : c.rs.length ≤ min i rs.length := a
            have b := hks c hc
            omega
          refine ⟨_, rfl, J, _, 0, .ref fc.t, rfl, rfl, SqL.of hJ4, atI_nat (j := 0) rfl, ?_⟩
          obtain ⟨kvf, hkf, ekf⟩ := id kfc.hd
          have lkf : kvf.length = fc.ks.length := by
            have := congrArg List.length ekf
            rwa [List.length_map, List.length_map] at this
          refine ⟨_, rfl, fc.t, _, 0, .ref fc.d, rfl, rfl, SqT.of kfc.ht, atI_nat (j := 0) rfl, .inr (.inr (.inl ⟨rfl, .inl ⟨kvf, hkf⟩⟩)), ?_⟩
          intro M hM
          refine ⟨_, rfl, En, _, 0, .str r.1, rfl, rfl, SqT.of ((same_upd hM) _ _ hEn4), atI_nat (j := 0) rfl, ?_⟩
          refine ⟨_, rfl, En, _, 1, .str y.1, rfl, rfl, SqT.of ((same_upd hM) _ _ hEn4), atI_nat (j := 1) rfl, ?_⟩
          refine ⟨upd_same, [(Sum.inr r.1, .bl true), (Sum.inr y.1, .bl true)], rfl, (by simp), ?_⟩
          have e5 : (mergeK [] [(Sum.inr r.1, .bl true), (Sum.inr y.1, .bl true)]).map (·.1) = (addKs [] [r.1, y.1]).map Sum.inr := by
            rw [keys_merge, ← addKs_inr]
            rfl
          generalize mergeK [] [(Sum.inr r.1, .bl true), (Sum.inr y.1, .bl true)] = kvn at e5 ⊢
          have l5 : kvn.length ≤ 2 := by
            have := congrArg List.length e5
            rw [List.length_map, List.length_map] at this
            have a := len_addKs (more := [r.1, y.1]) (l := [])
            rw [this]
            simpa using a
          have s5 : Same H4 (upd (upd H4 M (.dK [])) M (.dK kvn)) := same_put (same_upd hM) hM
          have hM5 : (upd (upd H4 M (.dK [])) M (.dK kvn)) M = some (.dK kvn) := upd_same
          generalize upd (upd H4 M (.dK [])) M (.dK kvn) = H5 at s5 hM5 ⊢
          have hC5 := hC4.mono s5
          refine ⟨fc.d, M, kvf, kvn, rfl, rfl, s5 _ _ hkf, hM5, ne_of_none hkf hM, Nat.le_of_lt (small1000 (by have := (l13 fc hfc.1).2; omega)), ?_⟩
          have nFt : F ≠ fc.t := ne_of hF4 kfc.ht (by intro z; cases z)
          have nFd : F ≠ fc.d := ne_of hF4 hkf (by intro z; cases z)
          have nFl : F ≠ fc.l := hC4.nF fc hfc.1
          have nJd : J ≠ fc.d := ne_of hJ4 hkf (by intro z; cases z)
          have nEd : En ≠ fc.d := ne_of hEn4 hkf (by intro z; cases z)
          have nEl : En ≠ fc.l := ne_of hEn4 kfc.hl (by intro z; cases z)
          have nJl : J ≠ fc.l := fun z => by
            have k2 := (hC.mono s2).at_ fc hfc.1
            have := k2.hl
            rw [← z, hJ] at this
            cases this
          have mfc : ∃ e ∈ cs, e.t = fc.t := ⟨fc, hfc.1, rfl⟩
          have g0 : CsAt H F (upd H5 fc.d (.dK (mergeK kvf kvn))) (rep cs { fc with ks := addKs fc.ks (addKs [] [r.1, y.1]) }) := by
            refine CsAt.dict (by rw [rep_self hC5.nodup hfc.1]; exact hC5) mfc ?_ (nodup_addKs kfc.ks)
            rw [keys_merge, ekf, e5, addKs_inr]
          have s6 : Same H (upd H5 fc.d (.dK (mergeK kvf kvn))) := same_put (sm4.trans s5) kfc.nd
          have hF6 : (upd H5 fc.d (.dK (mergeK kvf kvn))) F = some (.lst (cs.map tv)) := by
            rw [upd_ne nFd]
            exact s5 _ _ hF4
          have hJ6 : (upd H5 fc.d (.dK (mergeK kvf kvn))) J = some (.lst ((fc :: os).map tv)) := by
            rw [upd_ne nJd]
            exact s5 _ _ hJ4
          generalize upd H5 fc.d (.dK (mergeK kvf kvn)) = H6 at g0 s6 hF6 hJ6 ⊢
          have k6 := g0.at_ _ (mem_rep.mpr (.inl ⟨rfl, mfc⟩))
          have ht6 : H6 fc.t = some (.tup [.ref fc.d, .ref fc.l]) := k6.ht
          have hl6 : H6 fc.l = some (.lst fc.vs) := k6.hl
          have lvf : fc.vs.length = fc.rs.length := kfc.al.1
          -- first[1].append(read)
          refine ⟨_, rfl, fc.t, _, 1, .ref fc.l, rfl, rfl, SqT.of ht6, atI_nat (j := 1) rfl, .inl ⟨rfl, _, SqL.of hl6⟩, _, rfl, ?_⟩
          refine ⟨fc.l, _, _, rfl, rfl, hl6, small1000 (by have := (l13 fc hfc.1).1; omega), ?_⟩
          have g1 := g0.more mfc (vs := fc.vs ++ [.ref t]) (rs := fc.rs ++ [r]) (kfc.al.snoc hrv)
          have s7 : Same H (upd H6 fc.l (.lst (fc.vs ++ [.ref t]))) := same_put s6 kfc.nl
          have hF7 : (upd H6 fc.l (.lst (fc.vs ++ [.ref t]))) F = some (.lst (cs.map tv)) := by
            rw [upd_ne nFl]
            exact hF6
          have hJ7 : (upd H6 fc.l (.lst (fc.vs ++ [.ref t]))) J = some (.lst ((fc :: os).map tv)) := by
            rw [upd_ne nJl]
            exact hJ6
          have g1' : CsAt H F (upd H6 fc.l (.lst (fc.vs ++ [.ref t]))) (rep cs ⟨fc.t, fc.d, fc.l, addKs fc.ks (addKs [] [r.1, y.1]), fc.vs ++ [.ref t], fc.rs ++ [r]⟩) := g1
          clear g1 g0 k6
          generalize upd H6 fc.l (.lst (fc.vs ++ [.ref t])) = H7 at g1' s7 hF7 hJ7 ⊢
          -- the others
          refine ⟨_, rfl, 1, rfl, J, _, rfl, SqL.of hJ7, fun Cc hCc => ⟨Cc, rfl, ⟨_, SqL.of upd_same⟩, ?_⟩⟩
          have ecut : cutV ((fc :: os).map tv) (some 1) none = os.map tv := cut1
          have nCl : Cc ≠ fc.l := fun z => by
            have k2 := (g1'.at_ _ (mem_rep.mpr (.inl ⟨rfl, mfc⟩))).hl
            have k3 : H7 fc.l = some (.lst (fc.vs ++ [.ref t])) := k2
            rw [← z, hCc] at k3
            cases k3
          rw [ecut]
          have s8 : Same H7 (upd H7 Cc (.lst (os.map tv))) := same_upd hCc
          have hCc8 : (upd H7 Cc (.lst (os.map tv))) Cc = some (.lst (os.map tv)) := upd_same
          generalize upd H7 Cc (.lst (os.map tv)) = H8 at s8 hCc8 ⊢
          have hpR : cs.Perm ((fc :: os) ++ cs.filter fun c => !hit r.1 y.1 c.pc) := by
            have := (List.filter_append_perm (fun c : PcR => hit r.1 y.1 c.pc) cs).symm
            rw [ejs] at this
            exact this
          generalize hrest : (cs.filter fun c => !hit r.1 y.1 c.pc) = rest at hpR hrm hperm
          have hnd : (((fc :: os) ++ rest).map (·.t)).Nodup := (hpR.map _).nodup_iff.mp hC.nodup
          have hP2 := hP.perm' hperm.symm
          have tot : (((fc :: os).map PcR.pc).flatMap (·.2)).length ≤ 12 := by
            have := hP2.perm.length_eq
            rw [List.flatMap_append, List.length_append, List.length_take] at this
            omega
          have nfo : ∀ u ∈ os, u.t ≠ fc.t := fun u hu e => by
            have := (List.nodup_cons.mp hnd).1
            exact this (List.mem_map.mpr ⟨u, List.mem_append_left _ hu, e⟩)
          refine for_it (walk_list (K := K) (a := Cc) (xs := os.map tv)) (fun j σ H9 => (∃ y7 y8, σ = [some (.ref p), some (.ref a), some (.ref F), some (.ref t), some (.ref En), some (.ref J), some (.ref fc.t), y7, y8]) ∧ Same H H9 ∧ H9 F = some (.lst (cs.map tv)) ∧ H9 J = some (.lst ((fc :: os).map tv)) ∧ H9 Cc = some (.lst (os.map tv)) ∧
            ∃ g : PcR, g.t = fc.t ∧ g.d = fc.d ∧ g.l = fc.l ∧ CsAt H F H9 (rep cs g) ∧ (∀ n, n ∈ g.ks ↔ n = r.1 ∨ n = S.tg r ∨ ∃ p ∈ ((fc :: os).map PcR.pc).take (j + 1), n ∈ p.1) ∧ g.rs.Perm (r :: (((fc :: os).map PcR.pc).take (j + 1)).flatMap (·.2)) ∧ g.ks.length ≤ 2 * g.rs.length) ?_ (fun i σ H' _ ⟨_, _, _, _, h, _⟩ => SqL.of h) ?_ ?_
          · refine ⟨⟨_, _, rfl⟩, s7.trans s8, s8 _ _ hF7, s8 _ _ hJ7, hCc8, ⟨fc.t, fc.d, fc.l, addKs fc.ks (addKs [] [r.1, y.1]), fc.vs ++ [.ref t], fc.rs ++ [r]⟩, rfl, rfl, rfl, g1'.mono s8, fun n => ?_, ?_, ?_⟩
            · show n ∈ addKs fc.ks (addKs [] [r.1, y.1]) ↔ _
              rw [mem_addKs, mem_addKs, tgr]
              show _ ↔ n = r.1 ∨ n = y.1 ∨ ∃ p ∈ [fc.pc], n ∈ p.1
              simp only [List.mem_singleton, List.mem_cons, List.not_mem_nil, or_false, false_or, exists_eq_left]
              show n ∈ fc.ks ∨ _ ↔ n = r.1 ∨ n = y.1 ∨ n ∈ fc.ks
              constructor
              · rintro (h | h | h)
                · exact .inr (.inr h)
                · exact .inl h
                · exact .inr (.inl h)
              · rintro (h | h | h)
                · exact .inr (.inl h)
                · exact .inr (.inr h)
                · exact .inl h
            · show (fc.rs ++ [r]).Perm (r :: ([fc.pc].flatMap (·.2)))
              rw [List.flatMap_cons, List.flatMap_nil, List.append_nil]
              exact List.perm_append_comm
            · show (addKs fc.ks (addKs [] [r.1, y.1])).length ≤ 2 * (fc.rs ++ [r]).length
              have a1 := len_addKs (more := addKs [] [r.1, y.1]) (l := fc.ks)
              have a2 := len_addKs (more := [r.1, y.1]) (l := [])
              have a3 := hks fc hfc.1
              rw [List.length_append]
              simp only [List.length_cons, List.length_nil] at a2 ⊢
              omega
          · rintro j x σ H9o H9 hj ⟨⟨y7, y8, rfl⟩, sm9, hF9, hJ9, hC9, g, gt, gd, gl, gC, gk, gr, gl2⟩ ⟨rfl, eu⟩
            rw [List.length_map] at hj
            obtain ⟨u, hu⟩ : ∃ u, os[j]? = some u := ⟨os[j], List.getElem?_eq_getElem hj⟩
            have eu' : x = tv u := by
              rw [List.getElem?_map, hu] at eu
              exact (Option.some.inj eu).symm
            subst eu'
            have huo : u ∈ os := List.mem_of_getElem? hu
            have hucs : u ∈ cs := (hjm u (List.mem_cons_of_mem _ huo)).1
            have mg' : ∃ e ∈ cs, e.t = g.t := ⟨fc, hfc.1, gt.symm⟩
            have kg := gC.at_ g (mem_rep.mpr (.inl ⟨rfl, mg'⟩))
            have hur : u ∈ rep cs g := mem_rep.mpr (.inr ⟨hucs, by rw [gt]; exact nfo u huo⟩)
            have ku := gC.at_ u hur
            have ndl := gC.inj g (mem_rep.mpr (.inl ⟨rfl, mg'⟩)) u hur (by rw [gt]; exact (nfo u huo).symm)
            obtain ⟨kvg, hkg, ekg⟩ := id kg.hd
            obtain ⟨kvu, hku, eku⟩ := id ku.hd
            have lg : g.rs.length ≤ 13 := by
              have := gr.length_eq
              have z := flat_take ((fc :: os).map PcR.pc) (j + 1)
              rw [List.length_cons] at this
              omega
            have lu := l13 u hucs
            have lkg := ks_len (H := H9) (d := g.d) ekg
            have lku := ks_len (H := H9) (d := u.d) eku
            -- first[0].update(other[0])
            have ht9 : H9 fc.t = some (.tup [.ref fc.d, .ref fc.l]) := by
              rw [← gt, ← gd, ← gl]
              exact kg.ht
            refine ⟨_, rfl, fc.t, _, 0, .ref fc.d, rfl, rfl, SqT.of ht9, atI_nat (j := 0) rfl, .inr (.inr (.inl ⟨rfl, .inl ⟨kvg, by rw [← gd]; exact hkg⟩⟩)), ?_⟩
            refine ⟨_, rfl, u.t, _, 0, .ref u.d, rfl, rfl, SqT.of ku.ht, atI_nat (j := 0) rfl, ?_⟩
            refine ⟨fc.d, u.d, kvg, kvu, rfl, rfl, by rw [← gd]; exact hkg, hku, by rw [← gd]; exact ndl.1, Nat.le_of_lt (small1000 (by omega)), ?_⟩
            have q0 : CsAt H F (upd H9 fc.d (.dK (mergeK kvg kvu))) (rep cs { g with ks := addKs g.ks u.ks }) := by
              rw [← gd]
              refine CsAt.dict gC mg' ?_ (nodup_addKs kg.ks)
              rw [keys_merge, ekg, eku, addKs_inr]
            have t6 : Same H (upd H9 fc.d (.dK (mergeK kvg kvu))) := same_put sm9 kfc.nd
            have hF10 : (upd H9 fc.d (.dK (mergeK kvg kvu))) F = some (.lst (cs.map tv)) := by
              rw [upd_ne nFd]
              exact hF9
            have hJ10 : (upd H9 fc.d (.dK (mergeK kvg kvu))) J = some (.lst ((fc :: os).map tv)) := by
              rw [upd_ne nJd]
              exact hJ9
            have hC10 : (upd H9 fc.d (.dK (mergeK kvg kvu))) Cc = some (.lst (os.map tv)) := by
              rw [upd_ne (ne_of hC9 (by rw [← gd]; exact hkg) (by intro z; cases z))]
              exact hC9
            generalize upd H9 fc.d (.dK (mergeK kvg kvu)) = H10 at q0 t6 hF10 hJ10 hC10 ⊢
            have kg2 := q0.at_ _ (mem_rep.mpr (.inl ⟨rfl, mg'⟩))
            have ku2 := q0.at_ u (mem_rep.mpr (.inr ⟨hucs, by show u.t ≠ g.t; rw [gt]; exact nfo u huo⟩))
            have ht10 : H10 fc.t = some (.tup [.ref fc.d, .ref fc.l]) := by
              rw [← gt, ← gd, ← gl]
              exact kg2.ht
            have hl10 : H10 fc.l = some (.lst g.vs) := by
              rw [← gl]
              exact kg2.hl
            have lvg : g.vs.length = g.rs.length := kg.al.1
            have lvu : u.vs.length = u.rs.length := ku.al.1
            refine ⟨_, rfl, fc.t, _, 1, .ref fc.l, rfl, rfl, SqT.of ht10, atI_nat (j := 1) rfl, .inl ⟨rfl, _, SqL.of hl10⟩, ?_⟩
            refine ⟨_, rfl, u.t, _, 1, .ref u.l, rfl, rfl, SqT.of ku2.ht, atI_nat (j := 1) rfl, ?_⟩
            refine ⟨fc.l, u.l, _, _, rfl, rfl, hl10, ku2.hl, Nat.le_of_lt (small1000 (by omega)), ?_⟩
            have q1 := q0.more (c := { g with ks := addKs g.ks u.ks }) mg' (vs := g.vs ++ u.vs) (rs := g.rs ++ u.rs) (kg.al.app ku.al)
            have q1' : CsAt H F (upd H10 g.l (.lst (g.vs ++ u.vs))) (rep cs ⟨g.t, g.d, g.l, addKs g.ks u.ks, g.vs ++ u.vs, g.rs ++ u.rs⟩) := q1
            clear q1
            rw [gl] at q1'
            have etk : ((fc :: os).map PcR.pc).take (j + 1 + 1) = ((fc :: os).map PcR.pc).take (j + 1) ++ [u.pc] := by
              rw [List.take_add_one (i := j + 1), List.getElem?_map, List.getElem?_cons_succ, hu]
              rfl
            refine ⟨⟨_, _, rfl⟩, same_put t6 kfc.nl, by rw [upd_ne nFl]; exact hF10, by rw [upd_ne nJl]; exact hJ10, ?_, ⟨g.t, g.d, fc.l, addKs g.ks u.ks, g.vs ++ u.vs, g.rs ++ u.rs⟩, gt, gd, rfl, q1', fun n => ?_, ?_, ?_⟩
            · rw [upd_ne nCl]
              exact hC10
            · show n ∈ addKs g.ks u.ks ↔ _
              rw [mem_addKs, gk, etk]
              simp only [List.mem_append, List.mem_singleton]
              show _ ∨ n ∈ u.pc.1 ↔ _
              constructor
              · rintro ((h | h | ⟨p, hp, h⟩) | h)
                · exact .inl h
                · exact .inr (.inl h)
                · exact .inr (.inr ⟨p, .inl hp, h⟩)
                · exact .inr (.inr ⟨_, .inr rfl, h⟩)
              · rintro (h | h | ⟨p, hp | rfl, h⟩)
                · exact .inl (.inl h)
                · exact .inl (.inr (.inl h))
                · exact .inl (.inr (.inr ⟨p, hp, h⟩))
                · exact .inr h
            · rw [etk, List.flatMap_append]
              show (g.rs ++ u.rs).Perm _
              rw [List.flatMap_singleton, ← List.cons_append]
              exact gr.append_right _
            · show (addKs g.ks u.ks).length ≤ 2 * (g.rs ++ u.rs).length
              have := len_addKs (more := u.ks) (l := g.ks)
              have z := hks u hucs
              rw [List.length_append]
              omega
          · rintro σ H9 ⟨⟨y7, y8, rfl⟩, sm9, hF9, hJ9, hC9, g, gt, gd, gl, gC, gk, gr, gl2⟩
            rw [List.length_map] at gk gr
            have etk : ((fc :: os).map PcR.pc).take (os.length + 1) = (fc :: os).map PcR.pc := List.take_of_length_le (by simp)
            rw [etk] at gk gr
            have mg' : ∃ e ∈ cs, e.t = g.t := ⟨fc, hfc.1, gt.symm⟩
            have mgr : g ∈ rep cs g := mem_rep.mpr (.inl ⟨rfl, mg'⟩)
            have hst := hP2.step (r := r) (js := (fc :: os).map PcR.pc) (rest := rest.map PcR.pc) (ks := g.ks) (rs := g.rs) (List.Perm.refl _) (fun p hp => by
                obtain ⟨c, hc, rfl⟩ := List.mem_map.mp hp
                rw [tgr]
                exact (hjm c hc).2) (fun p hp => by
                obtain ⟨c, hc, rfl⟩ := List.mem_map.mp hp
                rw [tgr]
                exact (hrm c hc).2) gk gr
            have hlenT : cs.length = (rep cs g).length := by
              have := congrArg List.length (rep_t cs g)
              rwa [List.length_map, List.length_map, eq_comm] at this
            have hF9' : H9 F = some (.lst ((rep cs g).map tv)) := by
              rw [rep_tv]
              exact hF9
            -- who stands
            refine ⟨_, rfl, F, rfl, ⟨_, SqL.of hF9'⟩, fun G hG => ?_⟩
            refine lc_filter (walk_list (K := K) (a := F) (xs := (rep cs g).map tv)) (fun j => !decide (((rep cs g).getD j pcr0).t ∈ os.map (·.t))) (fun j => tv ((rep cs g).getD j pcr0)) (small1000 (by rw [List.length_map]; omega)) hG (fun H' s' => SqL.of (s' _ _ hF9')) (fun j H x H' _ => y_at j H x H') ?_ ?_
            · rintro j u H10o H10 acc Z N hj s10 hk ⟨rfl, eu⟩ hZ hN
              rw [List.length_map] at hj
              obtain ⟨c, ec⟩ : ∃ c, (rep cs g)[j]? = some c := ⟨(rep cs g)[j], List.getElem?_eq_getElem hj⟩
              have eu' : u = tv c := by
                rw [List.getElem?_map, ec] at eu
                exact (Option.some.inj eu).symm
              subst eu'
              rw [getD_at ec] at hZ hN
              refine ⟨rfl, ?_⟩
              refine ⟨_, rfl, _, rfl, 1, rfl, J, _, rfl, SqL.of (s10 _ _ hJ9), fun Cd hCd => ?_⟩
              rw [ecut]
              have s11 : Same H10 (upd H10 Cd (.lst (os.map tv))) := same_upd hCd
              have hCd11 : (upd H10 Cd (.lst (os.map tv))) Cd = some (.lst ((os.map (·.t)).map V.ref)) := by
                rw [upd_same, List.map_map]
                rfl
              generalize upd H10 Cd (.lst (os.map tv)) = H11 at s11 hCd11 ⊢
              have gC11 := gC.mono (s10.trans s11)
              have hcm : c ∈ rep cs g := List.mem_of_getElem? ec
              refine ⟨c.t, Cd, os.map (·.t), rfl, rfl, SqL.of hCd11, fun ut hut hne => ?_, _, rfl, ?_⟩
              · obtain ⟨uo, huo, rfl⟩ := List.mem_map.mp hut
                have hucs : uo ∈ cs := (hjm uo (List.mem_cons_of_mem _ huo)).1
                have hur : uo ∈ rep cs g := mem_rep.mpr (.inr ⟨hucs, by rw [gt]; exact nfo uo huo⟩)
                have ku := gC11.at_ uo hur
                have kc := gC11.at_ c hcm
                obtain ⟨kvu, hku, eku⟩ := id ku.hd
                obtain ⟨kvc, hkc, ekc⟩ := id kc.hd
                have oku := hP.ok uo.pc (List.mem_map.mpr ⟨uo, hucs, rfl⟩)
                have une : uo.ks ≠ [] := fun z => by
                  obtain ⟨r1, hr1⟩ := List.exists_mem_of_ne_nil _ oku.ne
                  have := (oku.key r1.1).mpr ⟨r1, hr1, .inl rfl⟩
                  have : r1.1 ∈ uo.ks := this
                  rw [z] at this
                  exact (nomatch this)
                have apart : ∀ a ∈ cs, ∀ b ∈ cs, a.t ≠ b.t → Apart a.pc b.pc := fun a ha b hb hab => by
                  have := List.pairwise_map.mp hP.apart
                  exact pw_all (fun x y (h : Apart x.pc y.pc) => h.symm) this a ha b hb (fun z => hab (by rw [z]))
                cases kvu with
                | nil =>
                  have : uo.ks = [] := by
                    have := ks_len (H := H11) (d := uo.d) eku
                    exact List.length_eq_zero_iff.mp this.symm
                  exact absurd this une
                | cons kv kvr =>
                  obtain ⟨k0, v0⟩ := kv
                  refine ⟨uo.d, c.d, .ref uo.l, .ref c.l, k0, v0, kvr, kvc, ku.ht, kc.ht, (gC11.inj uo hur c hcm hne).1, hku, hkc, fun hlen' => ?_⟩
                  obtain ⟨n0, en0, hn0⟩ : ∃ n0, k0 = Sum.inr n0 ∧ n0 ∈ uo.ks := by
                    have : k0 ∈ uo.ks.map Sum.inr := by
                      rw [← eku]
                      exact List.mem_map.mpr ⟨(k0, v0), List.mem_cons_self, rfl⟩
                    obtain ⟨n0, h1, h2⟩ := List.mem_map.mp this
                    exact ⟨n0, h2.symm, h1⟩
                  subst en0
                  have notin : n0 ∉ c.ks := fun hin => by
                    rcases mem_rep.mp hcm with ⟨rfl, _⟩ | ⟨hc1, hc2⟩
                    · -- the joined one is longer
                      have ap := apart fc hfc.1 uo hucs (nfo uo huo).symm
                      have nd2 : (fc.ks ++ uo.ks).Nodup := List.nodup_append.mpr ⟨kfc.ks, ku.ks, fun a ha b hb z => ap a ha (z ▸ hb)⟩
                      have sub : ∀ x ∈ fc.ks ++ uo.ks, x ∈ c.ks := fun x hx => by
                        rw [gk]
                        rcases List.mem_append.mp hx with hx | hx
                        · exact .inr (.inr ⟨fc.pc, List.mem_map.mpr ⟨fc, List.mem_cons_self, rfl⟩, hx⟩)
                        · exact .inr (.inr ⟨uo.pc, List.mem_map.mpr ⟨uo, List.mem_cons_of_mem _ huo, rfl⟩, hx⟩)
                      have le := nodup_le nd2 sub
                      have okf := hP.ok fc.pc (List.mem_map.mpr ⟨fc, hfc.1, rfl⟩)
                      have fne : 0 < fc.ks.length := by
                        obtain ⟨r1, hr1⟩ := List.exists_mem_of_ne_nil _ okf.ne
                        have : r1.1 ∈ fc.ks := (okf.key r1.1).mpr ⟨r1, hr1, .inl rfl⟩
                        exact List.length_pos_of_mem this
                      have a1 := ks_len (H := H11) (d := uo.d) eku
                      have a2 := ks_len (H := H11) (d := c.d) ekc
                      rw [List.length_append] at le
                      rw [List.length_cons] at a1
                      omega
                    · exact apart uo hucs c hc1 hne n0 hn0 hin
                  cases z : valV kvc (Sum.inr n0 : Key) with
                  | none => rfl
                  | some v =>
                    have z2 : (valV kvc (Sum.inr n0 : Key)).isSome = true := by rw [z]; rfl
                    have := valV_iff.mp z2
                    rw [ekc] at this
                    obtain ⟨m, hm, em⟩ := List.mem_map.mp this
                    exact absurd (Sum.inr.inj em ▸ hm) notin
              · refine ite2 (fun e => ?_) (fun e => ?_)
                · exact ⟨_, rfl, hZ _ s11 e⟩
                · exact hN _ s11 (by simpa using e)
            · intro H10 s10 hG10
              have eG : H10 G = some (.lst (((rep cs g).filter fun c => !decide (c.t ∈ os.map (·.t))).map tv)) := by
                rw [hG10, List.length_map, ← filter_at (fun c : PcR => !decide (c.t ∈ os.map (·.t))) pcr0 (rep cs g), List.map_map]
                rfl
              have gC10 := gC.mono s10
              have hper : ((rep cs g).filter fun c => !decide (c.t ∈ os.map (·.t))).Perm (g :: rest) := by
                have e1 : (rep cs g).Perm (rep ((fc :: os) ++ rest) g) := hpR.map _
                have e2 : rep ((fc :: os) ++ rest) g = g :: (os ++ rest) := by
                  have hh : ∀ l : List PcR, (∀ u ∈ l, u.t ≠ g.t) → l.map (fun c => if c.t = g.t then g else c) = l := fun l hl => by
                    conv => rhs; rw [← List.map_id l]
                    exact List.map_congr_left fun u hu => if_neg (hl u hu)
                  show (if fc.t = g.t then g else fc) :: (os ++ rest).map _ = _
                  rw [if_pos gt.symm, hh]
                  intro u hu z
                  rw [gt] at z
                  exact (List.nodup_cons.mp hnd).1 (List.mem_map.mpr ⟨u, hu, z⟩)
                rw [e2] at e1
                refine (e1.filter _).trans ?_
                have f1 : (!decide (g.t ∈ os.map (·.t))) = true := by
                  rw [Bool.not_eq_true', decide_eq_false_iff_not]
                  intro z
                  obtain ⟨u, hu, e⟩ := List.mem_map.mp z
                  exact nfo u hu (by rw [← gt]; exact e)
                have f2 : os.filter (fun c => !decide (c.t ∈ os.map (·.t))) = [] := by
                  refine List.filter_eq_nil_iff.mpr fun u hu => ?_
                  have : u.t ∈ os.map (·.t) := List.mem_map.mpr ⟨u, hu, rfl⟩
                  simp only [decide_eq_true this, Bool.not_true]
                  exact Bool.false_ne_true
                have f3 : rest.filter (fun c => !decide (c.t ∈ os.map (·.t))) = rest := by
                  refine List.filter_eq_self.mpr fun u hu => ?_
                  rw [Bool.not_eq_true', decide_eq_false_iff_not]
                  intro z
                  obtain ⟨v, hv, e⟩ := List.mem_map.mp z
                  have n2 := (List.nodup_cons.mp hnd).2
                  have n3 : ((os ++ rest).map (·.t)).Nodup := n2
                  rw [List.map_append] at n3
                  exact (List.nodup_append.mp n3).2.2 v.t (List.mem_map.mpr ⟨v, hv, rfl⟩) u.t (List.mem_map.mpr ⟨u, hu, rfl⟩) e
                rw [List.filter_cons_of_pos (p := fun c : PcR => !decide (c.t ∈ os.map (·.t))) f1, List.filter_append, f2, f3]
                exact List.Perm.refl _
              refine ⟨G, (rep cs g).filter fun c => !decide (c.t ∈ os.map (·.t)), ⟨_, _, _, _, _, _, rfl⟩, sm9.trans s10, sm9.free hG, eG, (gC10.filter _).toF fun c hc => ?_, fun c hc => ?_, ?_⟩
              · have k := gC.at_ c (List.mem_filter.mp hc).1
                exact (ne_of_none k.hl hG).symm
              · rcases mem_rep.mp (List.mem_filter.mp hc).1 with ⟨rfl, _⟩ | ⟨h1, _⟩
                · exact gl2
                · exact hks c h1
              · rw [etake]
                exact hst.perm' (hper.map PcR.pc)
    · rintro σ H1 ⟨F, cs, ⟨y3, y4, y5, y6, y7, y8, rfl⟩, sm, hF, hF1, hC, hks, hP⟩
      rw [hxl, List.take_length] at hP
      have hcl : cs.length ≤ 12 := by
        have := hP.few
        rw [List.length_map] at this
        omega
      refine ⟨_, rfl, F, rfl, ⟨_, SqL.of hF1⟩, fun G hG => ?_⟩
      refine lc_map (walk_list (K := K) (a := F) (xs := cs.map tv)) (fun j H' v => PieceV H H' v (cs.getD j pcr0).pc ∧ v ≠ .ref G) (fun j H1 H2 v acc hD sx ⟨⟨l, ys, e, n, hl, ha⟩, hne⟩ => ⟨⟨l, ys, e, n, sx _ _ (fun z => hne (by rw [e, z])) hl, ha.mono fun v r h => h.monoX hD sx⟩, hne⟩) (small1000 (by rw [List.length_map]; omega)) hG (fun H' s' => SqL.of (s' _ _ hF1)) (fun j H x H' _ => y_at j H x H') ?_ ?_ gm_name
      · rintro j u H3o H3 acc Z hj s4 hk ⟨rfl, eu⟩ hZ
        rw [List.length_map] at hj
        obtain ⟨c, ec⟩ : ∃ c, cs[j]? = some c := ⟨cs[j], List.getElem?_eq_getElem hj⟩
        have eu' : u = tv c := by
          rw [List.getElem?_map, ec] at eu
          exact (Option.some.inj eu).symm
        subst eu'
        rw [getD_at ec] at hZ
        have k := (hC.at_ c (List.mem_of_getElem? ec)).mono s4
        refine ⟨rfl, ?_⟩
        refine ⟨_, rfl, c.t, _, 1, .ref c.l, rfl, rfl, SqT.of k.ht, atI_nat (j := 1) rfl, ?_⟩
        refine ⟨c.l, c.vs, c.rs, rfl, SqL.of k.hl, k.al.mono fun v r h => h.mono (sm.trans s4), fun ys o hys ho => ?_⟩
        have s5 : Same H3 (upd H3 o (.lst ys)) := same_upd ho
        refine hZ _ _ s5 ⟨⟨o, ys, rfl, sm.free (s4.free ho), upd_same, hys.mono fun v r h => h.mono s5⟩, ?_⟩
        intro z
        cases z
        rw [ho] at hk
        cases hk
      · intro H2 zs s2 hz hzl hzv
        rw [List.length_map] at hzl
        refine q H2 G zs (cs.map PcR.pc) (sm.trans s2) (sm.free hG) hz hP ⟨by rw [hzl, List.length_map], fun j v pc' hv hp => ?_⟩
        have e := (hzv j v hv).1
        rw [List.getElem?_map] at hp
        cases ec : cs[j]? with
        | none =>
          rw [ec] at hp
          cases hp
        | some c =>
          rw [ec] at hp
          rw [getD_at ec] at e
          rw [← Option.some.inj hp]
          exact e
end
end Frd
set_option Elab.async false
set_option linter.all false
set_option maxRecDepth 100000
set_option maxHeartbeats 4000000
set_option pp.maxSteps 1000
/-! The piece of a table, whatever the pieces' order. -/
namespace Frd
open PySem PySem.Spec PyProof.Rows L2
def Sys.near (S : Sys) (n : Str) (r : Rd2) : Prop := ∃ q ∈ S.named, S.has q n ∧ S.Lk S.named q r
open Classical in
noncomputable def compOf (S : Sys) (n : Str) : List Rd2 := rsort (S.named.filter fun r => decide (S.near n r))
noncomputable def cnames (S : Sys) (n : Str) : List Str := if compOf S n = [] then [n] else tabsOf S (compOf S n)
theorem rsort_congr {l m : List Rd2} (p : l.Perm m) : rsort l = rsort m := rsort_eq (rsort_sorted l) ((rsort_perm l).trans p)
theorem mem_rsort {l : List Rd2} {r : Rd2} : r ∈ rsort l ↔ r ∈ l := (rsort_perm l).mem_iff
theorem rsort_nodup {l : List Rd2} (h : l.Nodup) : (rsort l).Nodup := (rsort_perm l).symm.nodup h
theorem rsort_nil {l : List Rd2} : rsort l = [] ↔ l = [] := by
  constructor
  · intro h
    have := (rsort_perm l).length_eq
    rw [h] at this
    exact List.length_eq_zero_iff.mp this.symm
  · rintro rfl
    exact (rsort_perm []).eq_nil
open Classical in
theorem mem_compOf {S : Sys} {n : Str} {r : Rd2} : r ∈ compOf S n ↔ r ∈ S.named ∧ S.near n r := by
  unfold compOf
  rw [mem_rsort, List.mem_filter, decide_eq_true_eq]
theorem nodup_flat {p : Pc} : ∀ {ps : List Pc}, p ∈ ps → (ps.flatMap (·.2)).Nodup → p.2.Nodup
  | q :: ps, h, hn => by
    rw [List.flatMap_cons] at hn
    rcases List.mem_cons.mp h with rfl | h
    · exact (List.nodup_append.mp hn).1
    · exact nodup_flat h (List.nodup_append.mp hn).2.1
theorem Parts.same {S : Sys} {done : List Rd2} {ps : List Pc} (h : Parts S done ps) {p q : Pc} (hp : p ∈ ps) (hq : q ∈ ps) {n : Str} (h1 : n ∈ p.1) (h2 : n ∈ q.1) : p = q := by
  by_cases e : p = q
  · exact e
  · exact absurd h2 (pw_all (fun a b (k : Apart a b) => k.symm) h.apart p hp q hq e n h1)
theorem Parts.of {S : Sys} {done : List Rd2} {ps : List Pc} (h : Parts S done ps) {r : Rd2} (hr : r ∈ done) : ∃ p ∈ ps, r ∈ p.2 := by
  have := h.perm.mem_iff.mpr hr
  obtain ⟨p, hp, hr⟩ := List.mem_flatMap.mp this
  exact ⟨p, hp, hr⟩
theorem Parts.sub {S : Sys} {done : List Rd2} {ps : List Pc} (h : Parts S done ps) {p : Pc} (hp : p ∈ ps) : ∀ r ∈ p.2, r ∈ done := fun r hr => h.perm.mem_iff.mp (List.mem_flatMap.mpr ⟨p, hp, hr⟩)
/-- what hangs together lies in one piece -/
theorem Parts.lk {S : Sys} {done : List Rd2} {ps : List Pc} (h : Parts S done ps) {p : Pc} (hp : p ∈ ps) {a b : Rd2} (k : S.Lk done a b) (ha : a ∈ p.2) : b ∈ p.2 := by
  induction k with
  | refl => exact ha
  | @step q u n hq hu h1 h2 ih =>
    obtain ⟨p2, hp2, hu2⟩ := h.of hu
    have e := h.same hp hp2 (((h.ok p hp).key n).mpr ⟨q, ih, h1⟩) (((h.ok p2 hp2).key n).mpr ⟨u, hu2, h2⟩)
    rw [e]
    exact hu2
theorem comp_of_parts {S : Sys} {ps : List Pc} {p : Pc} {n : Str} (h : Parts S S.named ps) (nd : S.named.Nodup) (hp : p ∈ ps) (hn : n ∈ p.1) : rsort p.2 = compOf S n := by
  classical
  unfold compOf
  refine rsort_congr ((List.perm_ext_iff_of_nodup (nodup_flat hp (h.perm.nodup_iff.mpr nd)) (nd.sublist List.filter_sublist)).mpr fun r => ?_)
  rw [List.mem_filter, decide_eq_true_eq]
  constructor
  · intro hr
    obtain ⟨q, hq, hqn⟩ := ((h.ok p hp).key n).mp hn
    exact ⟨h.sub hp r hr, q, h.sub hp q hq, hqn, ((h.ok p hp).con q hq r hr).mono (h.sub hp)⟩
  · rintro ⟨_, q, hq, hqn, k⟩
    obtain ⟨p2, hp2, hq2⟩ := h.of hq
    have e := h.same hp hp2 hn (((h.ok p2 hp2).key n).mpr ⟨q, hq2, hqn⟩)
    rw [e]
    exact h.lk hp2 k hq2
theorem comp_none {S : Sys} {ps : List Pc} {n : Str} (h : Parts S S.named ps) (hn : ∀ p ∈ ps, n ∉ p.1) : compOf S n = [] := by
  refine List.eq_nil_iff_forall_not_mem.mpr fun r hr => ?_
  obtain ⟨_, q, hq, hqn, k⟩ := mem_compOf.mp hr
  obtain ⟨p2, hp2, hq2⟩ := h.of hq
  exact hn p2 hp2 (((h.ok p2 hp2).key n).mpr ⟨q, hq2, hqn⟩)
theorem Sys.find_of {S : Sys} (ok : (S.tabs.map (·.name)).Nodup) {t : Tb} (h : t ∈ S.tabs) : S.tab t.name = some t := by
  unfold Sys.tab
  revert ok h
  generalize S.tabs = ts
  induction ts with
  | nil => exact fun _ h => nomatch h
  | cons u us ih =>
    intro ok h
    have ok' := List.nodup_cons.mp ok
    rw [List.find?_cons]
    rcases List.mem_cons.mp h with e | h
    · rw [← e, decide_eq_true rfl]
    · have ne : ¬ u.name = t.name := fun z => ok'.1 (List.mem_map.mpr ⟨t, h, z.symm⟩)
      rw [decide_eq_false ne]
      exact ih ok'.2 h
theorem mem_namedT {t : Tb} {r : Rd2} : r ∈ namedT t ↔ r.1 = t.name ∧ 0 ≤ r.2 ∧ r.2.toNat < t.reads.length := by
  unfold namedT
  rw [List.mem_map]
  constructor
  · rintro ⟨i, hi, rfl⟩
    rw [List.mem_range] at hi
    exact ⟨rfl, Int.natCast_nonneg _, by simpa using hi⟩
  · rintro ⟨h1, h2, h3⟩
    refine ⟨r.2.toNat, List.mem_range.mpr h3, ?_⟩
    rw [← h1, Int.toNat_of_nonneg h2]
theorem Sys.named_rd {S : Sys} (ok : (S.tabs.map (·.name)).Nodup) {r : Rd2} : r ∈ S.named ↔ ∃ x, S.rd r = some x := by
  unfold Sys.named
  rw [List.mem_flatMap]
  constructor
  · rintro ⟨t, ht, hr⟩
    obtain ⟨h1, h2, h3⟩ := mem_namedT.mp hr
    refine ⟨t.reads[r.2.toNat], ?_⟩
    unfold Sys.rd
    rw [h1, S.find_of ok ht]
    show (if 0 ≤ r.2 then t.reads[r.2.toNat]? else none) = _
    rw [if_pos h2, List.getElem?_eq_getElem h3]
  · rintro ⟨x, hx⟩
    obtain ⟨t, e1, e2, e3⟩ := rd_tab hx
    unfold Sys.tab at e1
    have ht := List.mem_of_find?_eq_some e1
    have hn := List.find?_some e1
    refine ⟨t, ht, mem_namedT.mpr ⟨(of_decide_eq_true hn).symm, e2, (List.getElem?_eq_some_iff.mp e3).1⟩⟩
theorem nodup_namedT (t : Tb) : (namedT t).Nodup := by
  unfold namedT
  refine List.pairwise_map.mpr ((List.nodup_range (n := t.reads.length)).imp fun h e => h ?_)
  have := congrArg Prod.snd e
  exact Int.ofNat.inj this
theorem Sys.named_nodup {S : Sys} (ok : (S.tabs.map (·.name)).Nodup) : S.named.Nodup := by
  unfold Sys.named
  revert ok
  generalize S.tabs = ts
  induction ts with
  | nil => exact fun _ => List.nodup_nil
  | cons u us ih =>
    intro ok
    have ok' := List.nodup_cons.mp ok
    rw [List.flatMap_cons]
    refine List.nodup_append.mpr ⟨nodup_namedT u, ih ok'.2, fun a ha b hb e => ?_⟩
    obtain ⟨t, ht, hb⟩ := List.mem_flatMap.mp hb
    have h1 := (mem_namedT.mp ha).1
    have h2 := (mem_namedT.mp hb).1
    exact ok'.1 (List.mem_map.mpr ⟨t, ht, by rw [← h2, ← e, h1]⟩)
theorem Sys.Ok.all {S : Sys} (ok : S.Ok) : S.All S.named := fun r hr => (Sys.named_rd ok.nodup).mp hr
/-- a read's parts -/
theorem Sys.Ok.read {S : Sys} (ok : S.Ok) {r : Rd2} (hr : r ∈ S.named) : (S.vc r).length = S.d ∧ (∀ v ∈ S.vc r, v.natAbs ≤ 5) ∧ r.1 ∈ S.tabs.map (·.name) ∧ S.tg r ∈ S.tabs.map (·.name) := by
  obtain ⟨x, hx⟩ := ok.all r hr
  obtain ⟨t, e1, e2, e3⟩ := rd_tab hx
  unfold Sys.tab at e1
  have ht := List.mem_of_find?_eq_some e1
  have hn0 := List.find?_some e1
  have hn := of_decide_eq_true hn0
  have hx2 := List.mem_of_getElem? e3
  obtain ⟨v1, v2⟩ := ok.vec t ht x hx2
  obtain ⟨u, hu, he⟩ := ok.tgt t ht x hx2
  rw [vc_of hx, tg_of hx]
  exact ⟨v1, v2, List.mem_map.mpr ⟨t, ht, hn⟩, List.mem_map.mpr ⟨u, hu, he⟩⟩
theorem compOf_all {S : Sys} (ok : S.Ok) (n : Str) : S.All (compOf S n) := fun r hr => ok.all r (mem_compOf.mp hr).1
theorem compOf_nodup {S : Sys} (ok : S.Ok) (n : Str) : (compOf S n).Nodup := by
  classical
  exact rsort_nodup ((Sys.named_nodup ok.nodup).sublist List.filter_sublist)
theorem compOf_len {S : Sys} (ok : S.Ok) (n : Str) : (compOf S n).length ≤ 12 := by
  have := nodup_le (compOf_nodup ok n) fun r hr => (mem_compOf.mp hr).1
  have := ok.few
  omega
theorem cnames_nodup (S : Sys) (n : Str) : (cnames S n).Nodup := by
  unfold cnames
  split
  · simp
  · exact tabsOf_nodup
theorem cnames_mem {S : Sys} {n : Str} (m : Str) : m ∈ cnames S n ↔ m = n ∨ ∃ r ∈ compOf S n, S.has r m := by
  unfold cnames
  split
  · rename_i e
    rw [e]
    simp
  · rename_i e
    rw [mem_tabsOf]
    constructor
    · rintro h
      exact .inr h
    · rintro (rfl | h)
      · obtain ⟨r, hr⟩ := List.exists_mem_of_ne_nil _ e
        obtain ⟨_, q, hq, hqn, _⟩ := mem_compOf.mp hr
        exact ⟨q, mem_compOf.mpr ⟨hq, q, hq, hqn, .refl _⟩, hqn⟩
      · exact h
theorem cnames_len {S : Sys} (ok : S.Ok) {n : Str} (hn : n ∈ S.tabs.map (·.name)) : (cnames S n).length ≤ 6 := by
  have := nodup_le (cnames_nodup S n) (m := S.tabs.map (·.name)) fun m hm => by
    rcases (cnames_mem m).mp hm with rfl | ⟨r, hr, h⟩
    · exact hn
    · have := ok.read (mem_compOf.mp hr).1
      rcases h with rfl | rfl
      · exact this.2.2.1
      · exact this.2.2.2
  rw [List.length_map] at this
  have := ok.t6
  omega
end Frd
set_option Elab.async false
set_option linter.all false
set_option maxRecDepth 100000
set_option maxHeartbeats 4000000
set_option pp.maxSteps 1000
/-! piece_of, program_of, way_bound. -/
namespace Frd
open PySem PySem.Spec PyProof.Rows L2
theorem inV_str (n : Str) (ns : List Str) : inV (.str n) (ns.map V.str) = decide (n ∈ ns) := by
  unfold inV
  rw [List.any_map, Bool.eq_iff_iff, List.any_eq_true, decide_eq_true_eq]
  constructor
  · rintro ⟨x, hx, h⟩
    have : x = n := by
      have h' : (x == n) = true := h
      simpa using h'
    exact this ▸ hx
  · intro h
    refine ⟨n, h, ?_⟩
    show (n == n) = true
    simp
theorem flat_strs (ns : List Str) : (ns.map V.str).all flatV = true := by
  rw [List.all_map, List.all_eq_true]
  exact fun _ _ => rfl
theorem ones {n : Nat} : (List.replicate n [V.int 1]).flatten = fnV n (fun _ => 1) := by
  refine list_of (by rw [List.length_flatten]; simp) fun i y hy => ?_
  have hm := List.mem_of_getElem? hy
  rw [List.mem_flatten] at hm
  obtain ⟨l, h1, h2⟩ := hm
  have := (List.mem_replicate.mp h1).2
  subst this
  exact List.mem_singleton.mp h2
/-- the program of a cell -/
noncomputable def wlp (S : Sys) (n : Str) (pt : List Int) : Lp where
  h := S.d + (cnames S n).length
  w := (compOf S n).length
  a := aOf S (compOf S n) (cnames S n)
  b := fun c => if c < S.d then pt.getD c 0 else b2z (decide ((cnames S n).getD (c - S.d) ⟨#[]⟩ = n))
  g := fun _ => 1
/-- a point that the law draws -/
structure PtOk (S : Sys) (pt : List Int) : Prop where
  len : pt.length = S.d
  nn : ∀ x ∈ pt, 0 ≤ x
  le : ∀ x ∈ pt, x ≤ 10 ^ 30
theorem PtOk.at {S : Sys} {pt : List Int} (hp : PtOk S pt) {c : Nat} (h : c < S.d) : ∃ x, pt[c]? = some x ∧ 0 ≤ x ∧ x ≤ 10 ^ 30 := by
  have hl : c < pt.length := by rw [hp.len]; exact h
  exact ⟨pt[c], List.getElem?_eq_getElem hl, hp.nn _ (List.getElem_mem hl), hp.le _ (List.getElem_mem hl)⟩
theorem b2z_cases (b : Bool) : b2z b = 0 ∨ b2z b = 1 := by
  cases b
  · exact .inl rfl
  · exact .inr rfl
theorem aOf_abs {S : Sys} (ok : S.Ok) {rs : List Rd2} (hrs : ∀ r ∈ rs, r ∈ S.named) (ns : List Str) (c j : Nat) (hj : j < rs.length) : (aOf S rs ns c j).natAbs ≤ 5 := by
  have er : rs[j]? = some rs[j] := List.getElem?_eq_getElem hj
  unfold aOf
  split
  · rename_i hc
    rw [getD_at er]
    obtain ⟨l, v, _⟩ := ok.read (hrs _ (List.getElem_mem hj))
    have : (S.vc rs[j])[c]? = some (S.vc rs[j])[c] := List.getElem?_eq_getElem (by omega)
    rw [getD_at this]
    exact v _ (List.getElem_mem _)
  · rcases b2z_cases (decide ((rs.getD j rd0).1 = ns.getD (c - S.d) ⟨#[]⟩)) with h | h <;> rcases b2z_cases (decide (S.tg (rs.getD j rd0) = ns.getD (c - S.d) ⟨#[]⟩)) with h2 | h2 <;> rw [h, h2] <;> decide
theorem wlp_small {S : Sys} (ok : S.Ok) {n : Str} {pt : List Int} (hn : n ∈ S.tabs.map (·.name)) (hp : PtOk S pt) : (wlp S n pt).Small 100 where
  h := by
    have := cnames_len ok hn
    have := ok.d3
    show S.d + (cnames S n).length ≤ 15
    omega
  a := fun c j hc hj => Nat.le_trans (aOf_abs ok (fun r hr => (mem_compOf.mp hr).1) _ c j hj) (by decide)
  b := fun c hc => by
    show (if c < S.d then pt.getD c 0 else b2z _).natAbs ≤ _
    split
    · rename_i h
      obtain ⟨x, e, h1, h2⟩ := hp.at h
      rw [getD_at e]
      have h3 : (10 : Int) ^ 30 ≤ ((2 ^ 100 : Nat) : Int) := by decide
      generalize (2 ^ 100 : Nat) = B at h3 ⊢
      omega
    · rcases b2z_cases (decide ((cnames S n).getD (c - S.d) ⟨#[]⟩ = n)) with h | h <;> rw [h] <;> decide
  g := fun j hj => (by decide : (1 : Int).natAbs ≤ 2 ^ 100)
theorem wlp_b {S : Sys} {n : Str} {pt : List Int} (hp : PtOk S pt) (c : Nat) : 0 ≤ (wlp S n pt).b c := by
  show 0 ≤ (if c < S.d then pt.getD c 0 else b2z _)
  split
  · rename_i h
    obtain ⟨x, e, h1, _⟩ := hp.at h
    rw [getD_at e]
    exact h1
  · rcases b2z_cases (decide ((cnames S n).getD (c - S.d) ⟨#[]⟩ = n)) with h | h <;> rw [h] <;> decide
section
variable {P : Program} {w : World} {K : PySem.W.Frag} {mg : Str → Option Value} {base : Heap} {C CP : Addr}
theorem scPo : FnScope ["system", "name", "piece", "names"] ["system", "name"] (defScope (topS 33)) := ⟨rfl, rfl, rfl, by decide +kernel, rfl, by decide +kernel, by decide +kernel⟩
def spPo (C : Addr) : Sp := fun vs H Q _ => ∃ (p : Addr) (n : Str) (S : Sys), vs = [.ref p, .str n] ∧ SysAt C H p S ∧ S.Ok ∧
  ∀ H' q a b ys, Same H H' → H' q = some (.tup [.ref a, .ref b]) → H' a = some (.lst ((cnames S n).map V.str)) → H' b = some (.lst ys) → All2 (RdV H') ys (compOf S n) → Q (.ref q) H'
theorem ok_po {f : Addr} {fd : FuncData} (F : Fun K "piece_of" "piece_of" (topS 33) f fd) (T : TxS K C) (D1 : Dn P w K mg base "pieces_of" 2 ["system", "reads"] (spPc K C)) (D2 : Dn P w K mg base "tables_of" 2 ["system", "reads"] (spTs K C)) : FnOk P w K mg base CX0 3 f fd ["system", "name"] (spPo C) := by
  refine F.ok scPo (fun vs H Q E h => ?_) (fun cdv A outer s H vs Q E hr h => ?_)
  · obtain ⟨p, n, S, rfl, _⟩ := h
    rfl
  · obtain ⟨p, n, S, rfl, hS, ok, q⟩ := h
    have nd := scPo.nd
    refine ⟨_, pss_cons (ps_for PassesOwn.never rfl (pi_list (pe_def D1 hr (by rfl) (pa_cons (pv 0) (pa_cons (pe_fld (pv 0) rfl) pa_nil)))) (pg_name (i := 2) nd rfl (.inl rfl))
        (pss_cons (ps_set (i := 3) nd rfl (.inl rfl) (pe_def D2 hr (by rfl) (pa_cons (pv 0) (pa_cons (pv 2) pa_nil))))
        (pss_one (ps_if (pt_cmpR op_in_seq (pv 1) (pv 3) rfl) (pss_one (ps_ret (pe_tup (pa_cons (pv 3) (pa_cons (pv 2) pa_nil))))) pss_nil))))
      (pss_one (ps_ret (pe_tup (pa_cons (pe_lst (pa_cons (pv 1) pa_nil)) (pa_cons (pe_lst pa_nil) pa_nil))))), ?_⟩
    obtain ⟨dx, kt, nr, kvs, nrs, h1, h2, h3, h4, h5, h6⟩ := id hS
    refine ⟨_, rfl, _, rfl, p, C, dx, _, _, rfl, h1, T.cl, T.nn, sf_n, ?_⟩
    refine ⟨p, nr, S, nrs, S.named, rfl, hS, .inr (SqT.of h5), h6, ok.all, ok.few, fun H1 F1 ys ps s1 _ hF hP hys => ?_⟩
    have hyl : ys.length = ps.length := hys.1
    have few := hP.few
    have fw := ok.few
    refine ⟨F1, rfl, ⟨_, SqL.of hF⟩, for_list (K := K) (a := F1) (xs := ys) (fun i σ H' => (∃ y2 y3, σ = [some (.ref p), some (.str n), y2, y3]) ∧ Same H1 H' ∧ ∀ j pc, j < i → ps[j]? = some pc → n ∉ pc.1) ⟨⟨none, none, rfl⟩, Same.refl _, fun j pc hj => absurd hj (Nat.not_lt_zero _)⟩ (fun i σ H' _ ⟨_, s', _⟩ => SqL.of (s' _ _ hF)) ?_ ?_⟩
    · rintro i x σ H2 ex ⟨⟨y2, y3, rfl⟩, s2, hno⟩
      obtain ⟨pc, epc, l, zs, rfl, _, hl, hz⟩ := hys.at ex
      have hpm := List.mem_of_getElem? epc
      have hz2 : All2 (RdV H2) zs (rsort pc.2) := hz.mono fun v r h => h.mono s2
      have hin : ∀ r ∈ rsort pc.2, r ∈ S.named := fun r hr => hP.sub hpm r (mem_rsort.mp hr)
      have hle : (rsort pc.2).length ≤ 12 := by
        have := hP.small hpm
        rw [(rsort_perm pc.2).length_eq]
        omega
      refine ⟨_, rfl, _, rfl, p, l, S, zs, rsort pc.2, rfl, hS.mono (s1.trans s2), SqL.of (s2 _ _ hl), hz2, fun r hr => ok.all r (hin r hr), hle, fun H3 a s3 _ ha => ?_⟩
      refine ⟨_, rfl, _, rfl, a, _, rfl, .inl (SqL.of ha), rfl, flat_strs _, _, rfl, ?_⟩
      rw [inV_str]
      have okp := hP.ok pc hpm
      have nin : n ∈ tabsOf S (rsort pc.2) ↔ n ∈ pc.1 := by
        rw [mem_tabsOf, okp.key]
        constructor
        · rintro ⟨r, hr, h⟩
          exact ⟨r, mem_rsort.mp hr, h⟩
        · rintro ⟨r, hr, h⟩
          exact ⟨r, mem_rsort.mpr hr, h⟩
      refine ite2 (fun e => ?_) (fun e => ?_)
      · have hn := nin.mp (of_decide_eq_true e)
        have ec := comp_of_parts hP (Sys.named_nodup ok.nodup) hpm hn
        have ne : compOf S n ≠ [] := by
          rw [← ec]
          intro z
          exact okp.ne (rsort_nil.mp z)
        have en : cnames S n = tabsOf S (rsort pc.2) := by
          unfold cnames
          rw [if_neg ne, ec]
        refine ⟨_, rfl, _, rfl, Nat.le_of_lt (small1000 (by simp)), fun T1 hT1 => ?_⟩
        have s4 : Same H3 (upd H3 T1 (.tup [.ref a, .ref l])) := same_upd hT1
        refine q _ T1 a l zs (((s1.trans s2).trans s3).trans s4) upd_same (by rw [en]; exact s4 _ _ ha) (s4 _ _ (s3 _ _ (s2 _ _ hl))) ?_
        rw [← ec]
        exact hz2.mono fun v r h => h.mono (s3.trans s4)
      · refine ⟨⟨_, _, rfl⟩, s2.trans s3, fun j pc' hj ej => ?_⟩
        by_cases z : j = i
        · subst z
          rw [epc] at ej
          cases ej
          exact fun hn => e (decide_eq_true (nin.mpr hn))
        · exact hno j pc' (by omega) ej
    · rintro σ H2 ⟨⟨y2, y3, rfl⟩, s2, hno⟩
      have ec : compOf S n = [] := comp_none hP fun pc hpc => by
        obtain ⟨j, hj⟩ := List.getElem?_of_mem hpc
        have := (List.getElem?_eq_some_iff.mp hj).1
        exact hno j pc (by omega) hj
      refine ⟨_, rfl, Nat.le_of_lt (small1000 (by simp)), fun a ha => ?_⟩
      refine ⟨Nat.zero_le _, fun b hb => ?_⟩
      refine ⟨Nat.le_of_lt (small1000 (by simp)), fun T1 hT1 => ?_⟩
      have s3 : Same H2 (upd H2 a (.lst [.str n])) := same_upd ha
      have ha3 : (upd H2 a (.lst [.str n])) a = some (.lst [.str n]) := upd_same
      generalize upd H2 a (.lst [.str n]) = H3 at s3 ha3 hb hT1 ⊢
      have s4 : Same H3 (upd H3 b (.lst [])) := same_upd hb
      have hb4 : (upd H3 b (.lst [])) b = some (.lst []) := upd_same
      generalize upd H3 b (.lst []) = H4 at s4 hb4 hT1 ⊢
      have s5 : Same H4 (upd H4 T1 (.tup [.ref a, .ref b])) := same_upd hT1
      refine q _ T1 a b [] ((((s1.trans s2).trans s3).trans s4).trans s5) upd_same ?_ (s5 _ _ hb4) ?_
      · unfold cnames
        rw [if_pos ec]
        exact s5 _ _ (s4 _ _ ha3)
      · rw [ec]
        exact All2.nil
theorem scPg : FnScope ["system", "cell", "name", "point", "names", "reads", "limits", "other"] ["system", "cell"] (defScope (topS 34)) := ⟨rfl, rfl, rfl, by decide +kernel, rfl, by decide +kernel, by decide +kernel⟩
def spPg (C CP : Addr) : Sp := fun vs H Q _ => ∃ (p : Addr) (v : V) (S : Sys) (n : Str) (pt : List Int), vs = [.ref p, v] ∧ SysAt C H p S ∧ S.Ok ∧ CellV H v n pt ∧ n ∈ S.tabs.map (·.name) ∧ PtOk S pt ∧
  ∀ H' g bs bd, Same H H' → (wlp S n pt).Ends bs bd → PAt CP H H' g (wlp S n pt) bs bd → Q (.ref g) H'
theorem ok_pg {f : Addr} {fd : FuncData} (F : Fun K "program_of" "program_of" (topS 34) f fd) (T : TxS K C) (mi : mg "int" = none) (mlen : mg "len" = none) (D1 : Dn P w K mg base "piece_of" 3 ["system", "name"] (spPo C)) (D2 : Dn P w K mg base "rows_of" 2 ["system", "reads", "names"] (spRo K C))
    (KP : Kn P w K mg base "Program" CP 3 ["self", "rows", "limits", "goal"] (spIn K CP)) : FnOk P w K mg base CX0 5 f fd ["system", "cell"] (spPg C CP) := by
  refine F.ok scPg (fun vs H Q E h => ?_) (fun cdv A outer s H vs Q E hr h => ?_)
  · obtain ⟨p, v, S, n, pt, rfl, _⟩ := h
    rfl
  · obtain ⟨p, v, S, n, pt, rfl, hS, ok, hV, hn, hpt, q⟩ := h
    have nd := scPg.nd
    refine ⟨_, pss_cons (ps_asg (pv 1) (pg_tup rfl (pgs_cons (pg_name (i := 2) nd rfl (.inr rfl)) (pgs_cons (pg_name (i := 3) nd rfl (.inl rfl)) pgs_nil))))
      (pss_cons (ps_asg (pe_def D1 (hr.mono (by decide)) (by rfl) (pa_cons (pv 0) (pa_cons (pv 2) pa_nil))) (pg_tup rfl (pgs_cons (pg_name (i := 4) nd rfl (.inl rfl)) (pgs_cons (pg_name (i := 5) nd rfl (.inl rfl)) pgs_nil))))
      (pss_cons (ps_set (i := 6) nd rfl (.inl rfl) (pe_lst (StX.pa_star (pv 3) (StX.pa_star (pe_lc (own := [("other", 7)]) (g := gName 7) (tt := tYes) rfl nd (pi_list (pv 4)) (blkOk_by (N := ["system", "cell", "name", "point", "names", "reads", "limits", "other"]) (sc := defScope (topS 34)) (by decide +kernel))
            (fun _ _ _ _ _ => pg_name (i := 7) nd rfl (Or.inl rfl)) (fun _ _ _ _ _ => pts_nil) (fun _ _ _ _ _ => pe_callTy call_int1 (by rfl) mi (by decide +kernel) (pa_cons (pe_cmpR op_eq (pv 7) (pv 2) (nomark _)) pa_nil))) pa_nil))))
      (pss_one (ps_ret (pe_new KP hr (by rfl) (pa_cons (pe_def D2 (hr.mono (by decide)) (by rfl) (pa_cons (pv 0) (pa_cons (pv 5) (pa_cons (pv 4) pa_nil)))) (pa_cons (pv 6) (pa_cons (pe_op op_rep (pe_lst (pa_cons pe_int pa_nil)) (pe_callB call_len_seq (by rfl) mlen PySem.boot_len (pa_cons (pv 5) pa_nil))) pa_nil)))))))), ?_⟩
    obtain ⟨a, b, rfl, ha, hb⟩ := id hV
    refine ⟨_, rfl, a, _, rfl, SqT.of ha, rfl, _, _, rfl, _, _, rfl, rfl, ?_⟩
    refine ⟨_, rfl, _, rfl, p, n, S, rfl, hS, ok, fun H1 q1 a1 b1 ys s1 hq1 ha1 hb1 hys => ?_⟩
    refine ⟨q1, _, rfl, SqT.of hq1, rfl, _, _, rfl, _, _, rfl, rfl, ?_⟩
    have cl := cnames_len ok hn
    have rl := compOf_len ok n
    have d3 := ok.d3
    -- limits
    refine ⟨_, rfl, b, _, rfl, .inl (SqT.of (s1 _ _ hb)), ?_⟩
    refine ⟨_, rfl, a1, rfl, ⟨_, SqL.of ha1⟩, fun D hD => ?_⟩
    refine lc_map (walk_list (K := K) (a := a1) (xs := (cnames S n).map V.str)) (fun j _ y => y = .int (b2z (decide ((cnames S n).getD j ⟨#[]⟩ = n)))) (fun _ _ _ _ _ _ _ e => e) (small1000 (by rw [List.length_map]; omega)) hD (fun H' s' => SqL.of (s' _ _ ha1)) (fun j H x H' _ => y_at j H x H') ?_ ?_ gm_name
    · rintro j x H2o H2 acc Z hj s2 hk ⟨rfl, ex⟩ hZ
      rw [List.length_map] at hj
      obtain ⟨m, em⟩ : ∃ m, (cnames S n)[j]? = some m := ⟨(cnames S n)[j], List.getElem?_eq_getElem hj⟩
      have ex' : x = .str m := by
        rw [List.getElem?_map, em] at ex
        exact (Option.some.inj ex).symm
      subst ex'
      refine ⟨rfl, ?_⟩
      refine ⟨_, rfl, _, rfl, rfl, .inr ⟨_, rfl, hZ _ _ (Same.refl _) ?_⟩⟩
      have hbb : decide (V.str m = V.str n) = decide (m = n) := by
        rw [Bool.eq_iff_iff]
        simp
      show V.int (if decide (V.str m = V.str n) = true then 1 else 0) = _
      rw [getD_at em, hbb]
      rfl
    · intro H2 zs s2 hz hzl hzv
      rw [List.length_map] at hzl
      refine ⟨D, zs, rfl, .inr (SqL.of hz), ?_⟩
      have elim : pt.map V.int ++ (zs ++ []) = fnV (wlp S n pt).h (wlp S n pt).b := by
        rw [List.append_nil]
        refine fnV_of (by rw [List.length_append, List.length_map, hzl, hpt.len]; rfl) fun j y hy => ?_
        show y = .int (if j < S.d then pt.getD j 0 else b2z (decide ((cnames S n).getD (j - S.d) ⟨#[]⟩ = n)))
        by_cases hjd : j < S.d
        · rw [List.getElem?_append_left (by rw [List.length_map, hpt.len]; exact hjd), List.getElem?_map] at hy
          obtain ⟨x, e, _⟩ := hpt.at hjd
          rw [e] at hy
          rw [if_pos hjd, getD_at e]
          exact (Option.some.inj hy).symm
        · rw [List.getElem?_append_right (by rw [List.length_map, hpt.len]; omega), List.length_map, hpt.len] at hy
          rw [if_neg hjd]
          exact hzv _ y hy
      have hsz : (pt.map V.int ++ (zs ++ [])).length ≤ sizeLine := by
        rw [elim, fnV_len]
        exact Nat.le_of_lt (small1000 (by show S.d + (cnames S n).length ≤ 1000; omega))
      refine ⟨hsz, fun L1 hL1 => ?_⟩
      rw [elim]
      have s3 : Same H2 (upd H2 L1 (.lst (fnV (wlp S n pt).h (wlp S n pt).b))) := same_upd hL1
      have hL3 : (upd H2 L1 (.lst (fnV (wlp S n pt).h (wlp S n pt).b))) L1 = some (.lst (fnV (wlp S n pt).h (wlp S n pt).b)) := upd_same
      generalize upd H2 L1 (.lst (fnV (wlp S n pt).h (wlp S n pt).b)) = H3 at s3 hL3 ⊢
      have s13 := s2.trans s3
      have s03 := s1.trans s13
      -- the program
      refine ⟨_, rfl, _, rfl, _, rfl, p, b1, a1, S, ys, compOf S n, cnames S n, rfl, hS.mono s03, SqL.of (s13 _ _ hb1), hys.mono fun v r h => h.mono s13, SqL.of (s13 _ _ ha1), compOf_all ok n, fun r hr => (ok.read (mem_compOf.mp hr).1).1, d3, rl, by omega, fun H4 q4 rows s4 _ hq4 hrl hrw => ?_⟩
      refine ⟨_, rfl, ?_⟩
      have hb1s := s4 _ _ (s13 _ _ hb1)
      have hyl : ys.length = (compOf S n).length := hys.1
      refine ⟨Nat.le_of_lt (small1000 (by simp)), fun o ho => ?_⟩
      have s5 : Same H4 (upd H4 o (.lst [.int 1])) := same_upd ho
      have ho5 : (upd H4 o (.lst [.int 1])) o = some (.lst [.int 1]) := upd_same
      generalize upd H4 o (.lst [.int 1]) = H5 at s5 ho5 ⊢
      refine ⟨_, rfl, b1, _, rfl, .inl (SqL.of (s5 _ _ hb1s)), ?_⟩
      refine ⟨o, _, _, rfl, rfl, ho5, by omega, by omega, by rw [Int.toNat_natCast]; exact Nat.le_of_lt (small1000 (by simp; omega)), fun z hz => ?_⟩
      have ez : (List.replicate ((ys.length : Nat) : Int).toNat [V.int 1]).flatten = fnV (wlp S n pt).w (wlp S n pt).g := by
        rw [Int.toNat_natCast, hyl]
        exact ones
      rw [ez]
      have s6 : Same H5 (upd H5 z (.lst (fnV (wlp S n pt).w (wlp S n pt).g))) := same_upd hz
      have hz6 : (upd H5 z (.lst (fnV (wlp S n pt).w (wlp S n pt).g))) z = some (.lst (fnV (wlp S n pt).w (wlp S n pt).g)) := upd_same
      generalize upd H5 z (.lst (fnV (wlp S n pt).w (wlp S n pt).g)) = H6 at s6 hz6 ⊢
      intro x dx hx hdx hne
      have s46 := s5.trans s6
      have s7 : Same H6 (upd (upd H6 dx (.own x)) x (.ins CP dx [])) := same_put (same_upd hdx) hx
      refine ⟨x, q4, L1, z, dx, H6, wlp S n pt, rfl, s7, hx, upd_same, ⟨rows, SqL.of (s46 _ _ hq4), hrl, fun c r hc => SqL.of (s46 _ _ (hrw c r hc).1)⟩, SqL.of (s46 _ _ (s4 _ _ hL3)), SqL.of hz6, wlp_small ok hn hpt, (by show (compOf S n).length ≤ 15; omega), fun c _ => wlp_b hpt c, fun bs bd H' E1 P1 => ⟨rfl, ?_⟩⟩
      have sAll : Same H H6 := s03.trans (s4.trans s46)
      exact q H' x bs bd (sAll.trans P1.same) E1 (P1.back sAll)
end
end Frd
set_option Elab.async false
set_option linter.all false
set_option maxRecDepth 100000
set_option maxHeartbeats 4000000
set_option pp.maxSteps 1000
/-! dict(zip(a, b)). -/
namespace Frd
open PySem PySem.Spec PyProof.Rows L2
theorem mergeK_nodup : ∀ {more acc : List (Key × V)}, ((acc ++ more).map (·.1)).Nodup → mergeK acc more = acc ++ more
  | [], acc, _ => (List.append_nil acc).symm
  | p :: more, acc, h => by
    have hk : (acc.any fun kv => decide (kv.1 = p.1)) = false := by
      cases q : acc.any fun kv => decide (kv.1 = p.1) with
      | false => rfl
      | true =>
        obtain ⟨x, hx, e⟩ := List.any_eq_true.mp q
        rw [List.map_append] at h
        exact absurd (of_decide_eq_true e) ((List.nodup_append.mp h).2.2 x.1 (List.mem_map.mpr ⟨x, hx, rfl⟩) p.1 (by simp))
    have e : putK acc p.1 p.2 = acc ++ [p] := by
      unfold putK
      rw [hk]
      rfl
    show mergeK (putK acc p.1 p.2) more = _
    rw [e, mergeK_nodup (by rw [List.append_assoc]; exact h), List.append_assoc]
    rfl
theorem storedAllH_nodup {K : Type} [DecidableEq K] : ∀ {more acc : List (K × Addr × Value)}, ((acc ++ more).map (·.1)).Nodup → storedAllH acc more = acc ++ more
  | [], acc, _ => (List.append_nil acc).symm
  | p :: more, acc, h => by
    have hk : (atKey acc p.1).isSome = false := by
      unfold atKey
      rw [Option.isSome_map]
      cases q : acc.find? fun x => decide (x.1 = p.1) with
      | none => rfl
      | some x =>
        have h1 := List.mem_of_find?_eq_some q
        have h2 := List.find?_some q
        rw [List.map_append] at h
        exact absurd (of_decide_eq_true h2) ((List.nodup_append.mp h).2.2 x.1 (List.mem_map.mpr ⟨x, h1, rfl⟩) p.1 (by simp))
    have e : storedH acc p.1 p.2.1 p.2.2 = acc ++ [p] := by
      unfold storedH
      rw [hk]
      rfl
    show storedAllH (storedH acc p.1 p.2.1 p.2.2) more = _
    rw [e, storedAllH_nodup (by rw [List.append_assoc]; exact h), List.append_assoc]
    rfl
theorem vals_at {xs : List V} {us : List Value} (r : Vals xs us) {i : Nat} {u : Value} (h : us[i]? = some u) : ∃ x, xs[i]? = some x ∧ RelV x u := by
  have hl := (List.getElem?_eq_some_iff.mp h).1
  have ex : xs[i]? = some (xs[i]'(by rw [r.length]; exact hl)) := List.getElem?_eq_getElem _
  obtain ⟨u', hu, ru⟩ := r.get ex
  rw [h] at hu
  cases hu
  exact ⟨_, ex, ru⟩
theorem paired_at {α β : Type} {R : α → β → Prop} : ∀ {xs : List α} {ys : List β}, Paired R xs ys → ∀ {i : Nat} {x : α} {y : β}, xs[i]? = some x → ys[i]? = some y → R x y
  | _, _, .nil, i, x, y, h, _ => by simp at h
  | _, _, .cons r t, i, x, y, h1, h2 => by
    cases i with
    | zero =>
      cases h1
      cases h2
      exact r
    | succ i => exact paired_at t h1 h2
theorem kv_zip : ∀ {ks : List Key} {ys : List V} {us : List Value}, Vals ys us → KV (ks.zip ys) (ks.zip us)
  | [], _, _, _ => .nil
  | k :: ks, [], us, r => by
    cases r
    exact .nil
  | k :: ks, y :: ys, us, r => by
    cases r with
    | cons h t => exact .cons ⟨rfl, h⟩ (kv_zip t)
theorem old4 {c n : Nat} (h : c < n) : c ∉ [n + 4, n + 3, n, n + 1] := fun hm => by
  have e : c = n + 4 ∨ c = n + 3 ∨ c = n ∨ c = n + 1 := by simpa using hm
  omega
def rk (r : Rd2) : List Key := [Sum.inr r.1, Sum.inl r.2]
theorem rk_inj {r q : Rd2} (h : rk r = rk q) : r = q := by
  unfold rk at h
  injection h with a b
  injection b with b _
  exact Prod.ext (Sum.inr.inj a) (Sum.inl.inj b)
theorem rk_nodup {rs : List Rd2} (h : rs.Nodup) : (rs.map rk).Nodup := List.pairwise_map.mpr (h.imp fun n e => n (rk_inj e))
section
variable {X : Cx} {e e2 : Expr} {ta : TA} {p p2 pos pos2 : Pos}
/-- dict(zip(names, values)) -/
def tDzK (K : PySem.W.Frag) (ta : TA) : TE := fun σ H Q => ta σ H fun vs H1 => ∃ (a b : Addr) (ks : List Str) (ys : List V), vs = [.ref a, .ref b] ∧ SqL K H1 a (ks.map V.str) ∧ SqL K H1 b ys ∧ ks.Nodup ∧ ks.length = ys.length ∧ ks.length ≤ 1000 ∧
  ∀ q kvs, kvs.map (·.1) = ks.map Sum.inr → kvs.map (·.2) = ys → H1 q = none → Q (.ref q) (upd H1 q (.dK kvs))
theorem pe_dzK (hcalm : X.calm = true) (hg : Gl X "dict") (hm : X.mg "dict" = none) (hg2 : Gl X "zip") (hm2 : X.mg "zip" = none) (ha : PA X [e, e2] ta)
    (hs : starEach [e, e2] X.env = (false, eval e X.env) :: starEach [e2] X.env := by rfl) (hpl : (backTo pos2 (starEach [e2] X.env)).any (·.1) = false := by rfl)
    (hs2 : starEach [.Call (.Name "zip" p2) [e, e2] [] pos2] X.env = (false, eval (.Call (.Name "zip" p2) [e, e2] [] pos2) X.env) :: starEach [] X.env := by rfl) :
    PE X (.Call (.Name "dict" p) [.Call (.Name "zip" p2) [e, e2] [] pos2] [] pos) (tDzK X.K ta) := by
  refine ⟨fun pins s σ H Q I h => ?_⟩
  refine wpAny_Call_Name_kw (ld_blt I hg hm (show bootBuiltins "dict" = some (.type "dict") by decide +kernel) ?_ (by decide) (by decide))
  refine PyProof.Rows.callWith_type1 ?_ hs2 rfl
  rw [hs2]
  show wpAny _ _ (spliced ((false, eval _ X.env) :: backTo pos (starEach [] X.env))) _ _ s
  refine Calls.spliced_cons ?_
  refine Call_ (ld_blt I hg2 hm2 PyProof.Rows.boot_zip (PyProof.Rows.callWith_type1 (thn (ha.run pos2 pins s σ H _ I h) fun us s1 ⟨vs, H1, I1, r1, q1⟩ => ?_) hs hpl))
  obtain ⟨a, b, ks, ys, ex, hqx, hqy, nd, hl, hz, q⟩ := q1
  subst ex
  cases r1 with
  | cons r rr =>
    cases rr with
    | cons r' rr =>
      cases rr
      cases r
      cases r'
      obtain ⟨its, rv, pl1, _⟩ := I1.list hqx
      obtain ⟨its2, rv2, pl2, _⟩ := I1.list hqy
      have la : a < s1.heap.objs.size := pl1.lt
      have lb : b < s1.heap.objs.size := pl2.lt
      refine call_zip_2 pl1.isList pl2.isList fun h' hz' hTI hTO h1 h2 hsz hk => ?_
      show wpAny _ _ (spliced []) _ _ _
      refine Calls.spliced_nil ?_
      have I2 : Inv X pins σ H1 { s1 with heap := h' } := I1.kept (t' := s1.toks) hk
      have lz : its.length = ks.length := by rw [← rv.length, List.length_map]
      have lz2 : its2.length = ys.length := rv2.length.symm
      refine PySem.call_dict_pairs (knd := mixKind X.prog X.w) (kvs := (ks.map Sum.inr).zip its2) (PairArg.zip (s1.heap.objs.size + 4) (s1.heap.objs.size + 2) (s1.heap.objs.size + 3) s1.heap.objs.size (s1.heap.objs.size + 1) a b (PySem.W.ktu_apart s1.heap.objs.size a b la lb) its.toArray its2.toArray)
        (I1.ok.hd hcalm) ⟨hz', hTI, ⟨_, _, hTO⟩, h1, h2, pl1.isList.at fun o e => hk _ o e, pl2.isList.at fun o e => hk _ o e⟩ ⟨?_, fun i key v hr => ?_⟩ (by
          rw [List.size_toArray, List.size_toArray]
          exact Nat.le_of_lt (small1000 (by omega))) fun h'' tk hd' hk2 => ?_
      · rw [List.length_zip, List.length_map, List.size_toArray, List.size_toArray, lz]
      · obtain ⟨hx, hy⟩ := hr
        rw [List.getElem?_toArray] at hx hy
        obtain ⟨x, hx2, rx⟩ := vals_at rv hx
        rw [List.getElem?_map] at hx2
        cases ek : ks[i]? with
        | none =>
          rw [ek] at hx2
          cases hx2
        | some k =>
          rw [ek] at hx2
          have := Option.some.inj hx2
          subst this
          refine ⟨Sum.inr k, ?_, kV_is (k := Sum.inr k) rx⟩
          rw [List.getElem?_zip_eq_some]
          exact ⟨by rw [List.getElem?_map, ek]; rfl, hy⟩
      · have hkk : ∀ c o, s1.heap.get? c = some o → h''.get? c = some o := fun c o ec => by
          have hlt := Heap.lt_size ec
          exact hk2 c o (old4 hlt) (hk c o ec)
        have hnew : ((ks.map Sum.inr).zip ys : List (Key × V)).map (·.1) = ks.map Sum.inr := by
          rw [← List.unzip_fst, List.unzip_zip_left (by rw [List.length_map]; omega)]
        have hnd2 : ((ks.map Sum.inr : List Key)).Nodup := List.pairwise_map.mpr (nd.imp fun n z => n (Sum.inr.inj z))
        have em : mergeK [] ((ks.map Sum.inr).zip ys) = (ks.map Sum.inr).zip ys := mergeK_nodup (by rw [List.nil_append, hnew]; exact hnd2)
        have rel := KV.merge (kvs := []) (vs := []) (kv_zip (ks := ks.map Sum.inr) rv2) .nil
        rw [em] at rel
        have hle : s1.heap.objs.size ≤ h'.objs.size := by omega
        refine ⟨.ref h'.objs.size, upd H1 h'.objs.size (.dK ((ks.map Sum.inr).zip ys)), I1.laid (t' := tk) hkk hle (dk_new ?_ ?_ rel hd'), rfl, q _ _ hnew ?_ (I1.hok.fresh hle)⟩
        · rw [List.length_zip, List.length_map]
          exact Nat.le_of_lt (small1000 (by omega))
        · exact beq_eq_false_iff_ne.mpr (Nat.ne_of_gt (Nat.lt_of_lt_of_le I1.big hle))
        · rw [← List.unzip_snd, List.unzip_zip_right (by rw [List.length_map]; omega)]
/-- dict(zip(reads, values)) -/
def tDzT (K : PySem.W.Frag) (ta : TA) : TE := fun σ H Q => ta σ H fun vs H1 => ∃ (a b : Addr) (xs : List V) (rs : List Rd2) (ys : List V), vs = [.ref a, .ref b] ∧ SqL K H1 a xs ∧ All2 (RdV H1) xs rs ∧ SqL K H1 b ys ∧ rs.Nodup ∧ rs.length = ys.length ∧ rs.length ≤ 1000 ∧
  ∀ q kvs, kvs.map (·.1) = rs.map rk → kvs.map (·.2) = ys → H1 q = none → Q (.ref q) (upd H1 q (.dT kvs))
theorem pe_dzT (hu : X.A.units + 64 < cLine) (hcalm : X.calm = true) (hg : Gl X "dict") (hm : X.mg "dict" = none) (hg2 : Gl X "zip") (hm2 : X.mg "zip" = none) (ha : PA X [e, e2] ta)
    (hs : starEach [e, e2] X.env = (false, eval e X.env) :: starEach [e2] X.env := by rfl) (hpl : (backTo pos2 (starEach [e2] X.env)).any (·.1) = false := by rfl)
    (hs2 : starEach [.Call (.Name "zip" p2) [e, e2] [] pos2] X.env = (false, eval (.Call (.Name "zip" p2) [e, e2] [] pos2) X.env) :: starEach [] X.env := by rfl) :
    PE X (.Call (.Name "dict" p) [.Call (.Name "zip" p2) [e, e2] [] pos2] [] pos) (tDzT X.K ta) := by
  refine ⟨fun pins s σ H Q I h => ?_⟩
  refine wpAny_Call_Name_kw (ld_blt I hg hm (show bootBuiltins "dict" = some (.type "dict") by decide +kernel) ?_ (by decide) (by decide))
  refine PyProof.Rows.callWith_type1 ?_ hs2 rfl
  rw [hs2]
  show wpAny _ _ (spliced ((false, eval _ X.env) :: backTo pos (starEach [] X.env))) _ _ s
  refine Calls.spliced_cons ?_
  refine Call_ (ld_blt I hg2 hm2 PyProof.Rows.boot_zip (PyProof.Rows.callWith_type1 (thn (ha.run pos2 pins s σ H _ I h) fun us s1 ⟨vs, H1, I1, r1, q1⟩ => ?_) hs hpl))
  obtain ⟨a, b, xs, rs, ys, ex, hqx, hA, hqy, nd, hl, hz, q⟩ := q1
  subst ex
  cases r1 with
  | cons r rr =>
    cases rr with
    | cons r' rr =>
      cases rr
      cases r
      cases r'
      obtain ⟨its, rv, pl1, _⟩ := I1.list hqx
      obtain ⟨its2, rv2, pl2, _⟩ := I1.list hqy
      have la : a < s1.heap.objs.size := pl1.lt
      have lb : b < s1.heap.objs.size := pl2.lt
      refine call_zip_2 pl1.isList pl2.isList fun h' hz' hTI hTO h1 h2 hsz hk => ?_
      show wpAny _ _ (spliced []) _ _ _
      refine Calls.spliced_nil ?_
      have I2 : Inv X pins σ H1 { s1 with heap := h' } := I1.kept (t' := s1.toks) hk
      have lx : xs.length = rs.length := hA.1
      have lz : its.length = rs.length := by rw [← rv.length, lx]
      have lz2 : its2.length = ys.length := rv2.length.symm
      -- the items
      obtain ⟨ts, ets⟩ : ∃ ts : List Addr, xs = ts.map V.ref := by
        refine ⟨xs.map (fun v => match v with | .ref t => t | _ => 0), ?_⟩
        rw [List.map_map]
        refine List.ext_getElem? fun i => ?_
        rw [List.getElem?_map]
        cases ei : xs[i]? with
        | none => rfl
        | some x =>
          obtain ⟨r, _, t, rfl, _⟩ := hA.at ei
          rfl
      subst ets
      have ei := refs_at rv
      subst ei
      rw [List.length_map] at lx lz
      have htr : ∀ (i : Nat) (t : Addr) (r : Rd2), ts[i]? = some t → rs[i]? = some r → H1 t = some (.tup ((rk r).map kV)) := fun i t r et er => by
        obtain ⟨t', e1, e2⟩ := hA.2 i (.ref t) r (by rw [List.getElem?_map, et]; rfl) er
        cases e1
        exact e2
      have gen : ∀ (ts : List Addr) (rs : List Rd2) (ys : List V) (us : List Value), Vals ys us → (∀ (i : Nat) (t : Addr) (r : Rd2), ts[i]? = some t → rs[i]? = some r → H1 t = some (.tup ((rk r).map kV))) → ts.length = rs.length → rs.length = ys.length →
          ∃ kvs : List (List Key × V), ∃ ps : List (List Key × Addr × Value), Paired (fun (p : List Key × V) (q : List Key × Addr × Value) => p.1 = q.1 ∧ H1 q.2.1 = some (.tup (p.1.map kV)) ∧ RelV p.2 q.2.2) kvs ps ∧ kvs.map (·.1) = rs.map rk ∧ kvs.map (·.2) = ys ∧ ps.length = ts.length ∧
            ps.map (·.1) = rs.map rk ∧ (∀ (i : Nat) (t : Addr) (u : Value), ts[i]? = some t → us[i]? = some u → ∃ k, ps[i]? = some (k, t, u)) := by
        intro ts
        induction ts with
        | nil =>
          intro rs ys us r h l1 l2
          have : rs = [] := List.length_eq_zero_iff.mp l1.symm
          subst this
          have : ys = [] := List.length_eq_zero_iff.mp l2.symm
          subst this
          exact ⟨[], [], .nil, rfl, rfl, rfl, rfl, fun i t u h => by simp at h⟩
        | cons t ts ih =>
          intro rs ys us r h l1 l2
          cases rs with
          | nil => simp at l1
          | cons rd rs =>
            cases r with
            | nil => simp at l2
            | @cons y u ys us ry rr =>
              obtain ⟨kvs, ps, g1, g2, g3, g4, g5, g6⟩ := ih rs ys us rr (fun i t r a b => h (i + 1) t r a b) (by simpa using l1) (by simpa using l2)
              refine ⟨(rk rd, y) :: kvs, (rk rd, t, u) :: ps, .cons ⟨rfl, h 0 t rd rfl rfl, ry⟩ g1, by rw [List.map_cons, List.map_cons, g2], by rw [List.map_cons, g3], by rw [List.length_cons, List.length_cons, g4], by rw [List.map_cons, List.map_cons, g5], fun i t' u' a b => ?_⟩
              cases i with
              | zero =>
                cases a
                cases b
                exact ⟨_, rfl⟩
              | succ i => exact g6 i t' u' a b
      obtain ⟨kvs, ps, g1, g2, g3, g4, g5, g6⟩ := gen ts rs ys its2 rv2 htr lx hl
      have hold : ∀ x ∈ ps, ∃ t, x.2.1 = t ∧ (tupleKind (mixKind X.prog X.w)).is s1.heap x.1 t := fun x hx => by
        obtain ⟨i, hi⟩ := List.getElem?_of_mem hx
        have hil := (List.getElem?_eq_some_iff.mp hi).1
        have gl := Paired.length g1
        obtain ⟨kv, hkv⟩ : ∃ kv, kvs[i]? = some kv := ⟨kvs[i], List.getElem?_eq_getElem (by omega)⟩
        have hp := paired_at g1 hkv hi
        exact ⟨_, rfl, key_of I1.hok (by rw [← hp.1]; exact hp.2.1)⟩
      refine PySem.call_dict_pairsH (knd := tupleKind (mixKind X.prog X.w)) (ps := ps) (PairArg.zip (s1.heap.objs.size + 4) (s1.heap.objs.size + 2) (s1.heap.objs.size + 3) s1.heap.objs.size (s1.heap.objs.size + 1) a b (PySem.W.ktu_apart s1.heap.objs.size a b la lb) (ts.map Value.ref).toArray its2.toArray)
        (I1.ok.hd hcalm) (show X.A.units + 1 + 1 < cLine by omega) ⟨hz', hTI, ⟨_, _, hTO⟩, h1, h2, pl1.isList.at fun o e => hk _ o e, pl2.isList.at fun o e => hk _ o e⟩ ⟨?_, fun i key v hr => ?_⟩ (fun hh hkeep x hx => ?_) (by
          rw [List.size_toArray, List.size_toArray]
          exact Nat.le_of_lt (small1000 (by omega))) fun h'' tk hd' hk2 => ?_
      · rw [List.size_toArray, List.size_toArray, List.length_map]
        omega
      · obtain ⟨hx, hy⟩ := hr
        rw [List.getElem?_toArray] at hx hy
        rw [List.getElem?_map] at hx
        cases et : ts[i]? with
        | none =>
          rw [et] at hx
          cases hx
        | some t =>
          rw [et] at hx
          obtain ⟨k, hp⟩ := g6 i t v et hy
          exact ⟨k, t, hp, (Option.some.inj hx).symm⟩
      · obtain ⟨t, et, o, items, n, i1, i2, i3, i4⟩ := hold x hx
        rw [et]
        have hlt := Heap.lt_size i1
        have hne : t ≠ h'.objs.size := by
          exact Nat.ne_of_lt (Nat.lt_of_lt_of_le hlt (by omega))
        exact ⟨o, items, n, hkeep _ _ hne (old4 hlt) (hk _ _ i1), i2, i3, i4⟩
      · have hkk : ∀ c o, s1.heap.get? c = some o → h''.get? c = some o := fun c o ec => by
          have hlt := Heap.lt_size ec
          exact hk2 c o (old4 hlt) (hk c o ec)
        have hnd2 : ((([] : List (List Key × Addr × Value)) ++ ps).map (·.1)).Nodup := by
          rw [List.nil_append, g5]
          exact rk_nodup nd
        have em : storedAllH [] ps = ps := storedAllH_nodup hnd2
        rw [em] at hd'
        have hle : s1.heap.objs.size ≤ h'.objs.size := by omega
        have hfr := I1.hok.fresh hle
        obtain ⟨qo, es, ep, hq, d2, d3, d4, _, d5⟩ := hd'
        refine ⟨.ref h'.objs.size, upd H1 h'.objs.size (.dT kvs), I1.laid (t' := tk) hkk hle ⟨?_, ?_, ps, ?_, qo, es, ep, hq, d2, d3, d4, d5⟩, rfl, q _ _ g2 g3 hfr⟩
        · rw [Paired.length g1, g4]
          exact Nat.le_of_lt (small1000 (by omega))
        · exact beq_eq_false_iff_ne.mpr (Nat.ne_of_gt (Nat.lt_of_lt_of_le I1.big hle))
        · exact KT.keeps g1 fun b ys eb => by
            rw [upd_ne (ne_of_none eb hfr)]
            exact eb
end
end Frd
set_option Elab.async false
set_option linter.all false
set_option maxRecDepth 100000
set_option maxHeartbeats 4000000
set_option pp.maxSteps 1000
/-! way_bound, bound_numbers, flow_weights. -/
namespace Frd
open PySem PySem.Spec PyProof.Rows L2
/-- v is a cell of the system at p that the law draws -/
structure CellOk (C : Addr) (H : Hp) (p : Addr) (v : V) (S : Sys) (n : Str) (pt : List Int) : Prop where
  sys : SysAt C H p S
  ok : S.Ok
  cell : CellV H v n pt
  mem : n ∈ S.tabs.map (·.name)
  pt : PtOk S pt
theorem CellOk.mono {C : Addr} {H H' : Hp} {p : Addr} {v : V} {S : Sys} {n : Str} {pt : List Int} (s : Same H H') (h : CellOk C H p v S n pt) : CellOk C H' p v S n pt := ⟨h.sys.mono s, h.ok, h.cell.mono s, h.mem, h.pt⟩
theorem CellOk.tab {C : Addr} {H : Hp} {p : Addr} {v : V} {S : Sys} {n : Str} {pt : List Int} (h : CellOk C H p v S n pt) : ∃ t, S.tab n = some t := by
  obtain ⟨t, ht, e⟩ := List.mem_map.mp h.mem
  exact ⟨t, by rw [← e]; exact S.find_of h.ok.nodup ht⟩
theorem wlp_hw {S : Sys} (ok : S.Ok) {n : Str} {pt : List Int} (hn : n ∈ S.tabs.map (·.name)) : (wlp S n pt).h ≤ 15 ∧ (wlp S n pt).w ≤ 15 := by
  have a := cnames_len ok hn
  have b := compOf_len ok n
  have c := ok.d3
  exact ⟨by show S.d + (cnames S n).length ≤ 15; omega, by show (compOf S n).length ≤ 15; omega⟩
theorem wlp_good {S : Sys} {n : Str} {pt : List Int} (hp : PtOk S pt) : (wlp S n pt).Good (wlp S n pt).bs0 := Lp.good0 fun c _ => wlp_b hp c
theorem d9000 {L : Lp} {bs : Nat → Nat} (S : L.Small 100) : (L.D bs).natAbs < 2 ^ 9000 := Nat.lt_of_le_of_lt (Lp.D_abs S) (Nat.pow_lt_pow_right (by omega) (by omega))
section
variable {P : Program} {w : World} {K : PySem.W.Frag} {mg : Str → Option Value} {base : Heap} {C CP : Addr}
theorem scWb : FnScope ["system", "cell", "program"] ["system", "cell"] (defScope (topS 38)) := ⟨rfl, rfl, rfl, by decide +kernel, rfl, by decide +kernel, by decide +kernel⟩
def spWb (C : Addr) : Sp := fun vs H Q _ => ∃ (p : Addr) (v : V) (S : Sys) (n : Str) (pt : List Int), vs = [.ref p, v] ∧ CellOk C H p v S n pt ∧
  ∀ H' u bs bd, Same H H' → (wlp S n pt).Ends bs bd → ((bd = true ∧ ∃ q, u = .ref q ∧ H' q = some (frV (red ((wlp S n pt).T bs (wlp S n pt).h (wlp S n pt).n) ((wlp S n pt).D bs)))) ∨ (bd = false ∧ u = .non)) → Q u H'
theorem ok_wb {f : Addr} {fd : FuncData} (F : Fun K "way_bound" "way_bound" (topS 38) f fd) (T : TxS K C) (TP : TxP K CP) (D1 : Dn P w K mg base "check_cell" 2 ["system", "cell"] (spCc C)) (D2 : Dn P w K mg base "program_of" 5 ["system", "cell"] (spPg C CP)) (D3 : Dn P w K mg base "fraction_of" 2 ["top", "bottom"] spFr)
    (MG : Mn P w K mg base CP "greatest" 1 ["self"] (spGr CP)) : FnOk P w K mg base CX0 6 f fd ["system", "cell"] (spWb C) := by
  refine F.ok scWb (fun vs H Q E h => ?_) (fun cdv A outer s H vs Q E hr h => ?_)
  · obtain ⟨p, v, S, n, pt, rfl, _⟩ := h
    rfl
  · obtain ⟨p, v, S, n, pt, rfl, hC, q⟩ := h
    have nd := scWb.nd
    refine ⟨_, pss_cons (ps_expr (pe_def D1 (hr.mono (by decide)) (by rfl) (pa_cons (pv 0) (pa_cons (pv 1) pa_nil))))
      (pss_cons (ps_set (i := 2) nd rfl (.inl rfl) (pe_def D2 hr (by rfl) (pa_cons (pv 0) (pa_cons (pv 1) pa_nil))))
      (pss_one (ps_ret (pe_ifExp (pt_val (pe_fld (pv 2) rfl)) (pe_def D3 (hr.mono (by decide)) (by rfl) (pa_cons (pe_mth0 TP.cl MG (hr.mono (by decide)) (pv 2)) (pa_cons (pe_fld (pv 2) rfl) pa_nil))) pe_non)))), ?_⟩
    obtain ⟨t, ht⟩ := hC.tab
    refine ⟨_, rfl, _, rfl, p, v, S, n, pt, t, rfl, hC.sys, hC.cell, ht, hC.pt.len, hC.ok.d1, hC.pt.nn, ?_⟩
    refine ⟨_, rfl, _, rfl, p, v, S, n, pt, rfl, hC.sys, hC.ok, hC.cell, hC.mem, hC.pt, fun H1 g bs bd s1 E1 P1 => ?_⟩
    have G := E1.good (wlp_good hC.pt)
    obtain ⟨sm, np, dx, gg, b, rs, g0, b0, hp, hg, hl, hr', hb⟩ := id P1
    refine ⟨_, rfl, g, CP, dx, _, _, rfl, hp, TP.cl, TP.nk, pf_k, ?_⟩
    have hw := wlp_hw hC.ok hC.mem (pt := pt)
    have sS := wlp_small hC.ok hC.mem hC.pt
    cases bd with
    | true =>
      refine ⟨_, rfl, ?_⟩
      refine iteT ?_
      refine ⟨_, rfl, g, dx, _, rfl, hp, pf_no (by decide +kernel) (by decide +kernel) (by decide +kernel) (by decide +kernel) (by decide +kernel) (by decide +kernel), ?_⟩
      refine ⟨g, H, wlp S n pt, bs, true, rfl, P1, ?_⟩
      refine ⟨_, rfl, g, CP, dx, _, _, rfl, hp, TP.cl, TP.nd, pf_d, ?_⟩
      refine ⟨_, _, rfl, G.pos, d9000 sS, fun q1 hq1 => ?_⟩
      exact q _ _ bs true (s1.trans (same_upd hq1)) E1 (.inl ⟨rfl, q1, rfl, upd_same⟩)
    | false =>
      refine ⟨_, rfl, ?_⟩
      refine iteF ?_
      exact q _ _ bs false s1 E1 (.inr ⟨rfl, rfl⟩)
theorem scFw : FnScope ["system", "cell", "program", "reads", "weights", "number"] ["system", "cell"] (defScope (topS 40)) := ⟨rfl, rfl, rfl, by decide +kernel, rfl, by decide +kernel, by decide +kernel⟩
/-- the weights that the program tells -/
def WsAt (H : Hp) (q : Addr) (L : Lp) (bs : Nat → Nat) (rs : List Rd2) : Prop := ∃ kvs : List (List Key × V), H q = some (.dT kvs) ∧ kvs.map (·.1) = rs.map rk ∧ ∀ (j : Nat) kv, kvs[j]? = some kv → ∃ o, kv.2 = .ref o ∧ H o = some (frV (red (L.num bs j) (L.D bs)))
theorem WsAt.mono {H H' : Hp} {q : Addr} {L : Lp} {bs : Nat → Nat} {rs : List Rd2} (s : Same H H') (h : WsAt H q L bs rs) : WsAt H' q L bs rs := by
  obtain ⟨kvs, h1, h2, h3⟩ := h
  exact ⟨kvs, s _ _ h1, h2, fun j kv e => by
    obtain ⟨o, e1, e2⟩ := h3 j kv e
    exact ⟨o, e1, s _ _ e2⟩⟩
def spFw (C : Addr) : Sp := fun vs H Q _ => ∃ (p : Addr) (v : V) (S : Sys) (n : Str) (pt : List Int), vs = [.ref p, v] ∧ CellOk C H p v S n pt ∧ (∃ bs, (wlp S n pt).Ends bs true) ∧
  ∀ H' q bs, Same H H' → H q = none → (wlp S n pt).Ends bs true → WsAt H' q (wlp S n pt) bs (compOf S n) → Q (.ref q) H'
theorem ok_fw {f : Addr} {fd : FuncData} (F : Fun K "flow_weights" "flow_weights" (topS 40) f fd) (T : TxS K C) (TP : TxP K CP) (mdict : mg "dict" = none) (mzip : mg "zip" = none) (D1 : Dn P w K mg base "check_cell" 2 ["system", "cell"] (spCc C)) (D2 : Dn P w K mg base "program_of" 5 ["system", "cell"] (spPg C CP)) (D3 : Dn P w K mg base "fraction_of" 2 ["top", "bottom"] spFr)
    (D4 : Dn P w K mg base "piece_of" 3 ["system", "name"] (spPo C)) (MN : Mn P w K mg base CP "numbers" 1 ["self"] (spNu CP)) : FnOk P w K mg base CX0 6 f fd ["system", "cell"] (spFw C) := by
  refine F.ok scFw (fun vs H Q E h => ?_) (fun cdv A outer s H vs Q E hr h => ?_)
  · obtain ⟨p, v, S, n, pt, rfl, _⟩ := h
    rfl
  · obtain ⟨p, v, S, n, pt, rfl, hC, ⟨bs0, hE⟩, q⟩ := h
    have nd := scFw.nd
    refine ⟨_, pss_cons (ps_expr (pe_def D1 (hr.mono (by decide)) (by rfl) (pa_cons (pv 0) (pa_cons (pv 1) pa_nil))))
      (pss_cons (ps_set (i := 2) nd rfl (.inr rfl) (pe_def D2 hr (by rfl) (pa_cons (pv 0) (pa_cons (pv 1) pa_nil))))
      (pss_cons (ps_if (pt_not (pt_val (pe_fld (pv 2) rfl))) pss_never pss_nil)
      (pss_cons (ps_set (i := 3) nd rfl (.inl rfl) (pe_ix ix_tup (pe_def D4 (hr.mono (by decide)) (by rfl) (pa_cons (pv 0) (pa_cons (pe_ix ix_tup (pv 1) pe_int (fun _ _ => rfl)) pa_nil))) pe_int (fun _ _ => rfl)))
      (pss_cons (ps_setLc (i := 4) (own := [("number", 5)]) (g := gName 5) (tt := tYes) (by rfl) nd rfl rfl (sw_true rfl rfl rfl (by decide +kernel)) (pi_list (pe_mth0 TP.cl MN (hr.mono (by decide)) (pv 2)))
          (blkOk_by (N := ["system", "cell", "program", "reads", "weights", "number"]) (sc := defScope (topS 40)) (by decide +kernel))
          (fun _ _ _ _ _ => pg_name (i := 5) nd rfl (Or.inl rfl)) (fun _ _ _ _ _ => pts_nil) (fun _ _ _ _ _ => pe_def D3 (hr.mono (by decide)) (by rfl) (pa_cons (pv 5) (pa_cons (pe_fldB (K := K) (pv 2) rfl rfl) pa_nil))))
      (pss_one (ps_ret (pe_dzT hr.units rfl (by rfl) mdict (by rfl) mzip (pa_cons (pv 3) (pa_cons (pv 4) pa_nil))))))))), ?_⟩
    obtain ⟨t, ht⟩ := hC.tab
    refine ⟨_, rfl, _, rfl, p, v, S, n, pt, t, rfl, hC.sys, hC.cell, ht, hC.pt.len, hC.ok.d1, hC.pt.nn, ?_⟩
    refine ⟨_, rfl, _, rfl, p, v, S, n, pt, rfl, hC.sys, hC.ok, hC.cell, hC.mem, hC.pt, fun H1 g bs bd s1 E1 P1 => ?_⟩
    have eb := (E1.det (wlp_good hC.pt) hE).2
    subst eb
    have hE' := E1
    have G := E1.good (wlp_good hC.pt)
    obtain ⟨sm, np, dx, gg, b, rs, g0, b0, hp, hg, hl, hr', hb⟩ := id P1
    have hw := wlp_hw hC.ok hC.mem (pt := pt)
    have sS := wlp_small hC.ok hC.mem hC.pt
    refine ⟨_, rfl, g, CP, dx, _, _, rfl, hp, TP.cl, TP.nk, pf_k, ?_⟩
    refine ⟨_, rfl, ?_⟩
    refine iteF ?_
    obtain ⟨ca, cb, rfl, hca, hcb⟩ := id hC.cell
    refine ⟨_, rfl, _, rfl, ca, _, 0, .str n, rfl, rfl, SqT.of (s1 _ _ hca), atI_nat (j := 0) rfl, p, n, S, rfl, hC.sys.mono s1, hC.ok, fun H2 q2 a2 b2 ys s2 hq2 ha2 hb2 hys => ?_⟩
    refine ⟨q2, _, 1, .ref b2, rfl, rfl, SqT.of hq2, atI_nat (j := 1) rfl, ?_⟩
    refine ⟨_, rfl, g, dx, _, rfl, s2 _ _ hp, pf_no (by decide +kernel) (by decide +kernel) (by decide +kernel) (by decide +kernel) (by decide +kernel) (by decide +kernel), ?_⟩
    refine ⟨g, H, wlp S n pt, bs, true, rfl, P1.mono s2, hw.1, hw.2, fun H3 a3 s3 n3 h3 => ?_⟩
    refine ⟨a3, rfl, ⟨_, SqL.of h3⟩, fun D hD => ?_⟩
    have hnl : (numV (wlp S n pt) bs).length = (wlp S n pt).w := by
      unfold numV
      rw [List.length_map, List.length_range]
    refine lc_map (walk_list (K := K) (a := a3) (xs := numV (wlp S n pt) bs)) (fun j H' x => ∃ o, x = .ref o ∧ o ≠ D ∧ H' o = some (frV (red ((wlp S n pt).num bs j) ((wlp S n pt).D bs)))) (fun j H1 H2 y acc hD sx ⟨o, e, n, h⟩ => ⟨o, e, n, sx _ _ n h⟩) (small1000 (by omega)) hD (fun H' s' => SqL.of (s' _ _ h3)) (fun j H x H' _ => y_at j H x H') ?_ ?_ gm_name
    · rintro j x H4o H4 acc Z hj s4 hk ⟨rfl, ex⟩ hZ
      rw [hnl] at hj
      have ex' : x = .int ((wlp S n pt).num bs j) := by
        unfold numV at ex
        rw [List.getElem?_map, List.getElem?_range hj] at ex
        exact (Option.some.inj ex).symm
      subst ex'
      refine ⟨rfl, ?_⟩
      refine ⟨_, rfl, _, rfl, g, CP, dx, _, _, rfl, s4 _ _ (s3 _ _ (s2 _ _ hp)), TP.cl, TP.nd, pf_d, ?_⟩
      refine ⟨_, _, rfl, G.pos, d9000 sS, fun o ho => hZ _ _ (same_upd ho) ⟨o, rfl, (ne_of_none hk ho).symm, upd_same⟩⟩
    · intro H4 zs s4 hz hzl hzv
      rw [hnl] at hzl
      have s24 := (s2.trans s3).trans s4
      refine ⟨_, rfl, _, rfl, b2, D, ys, compOf S n, zs, rfl, SqL.of ((s3.trans s4) _ _ hb2), hys.mono fun v r h => h.mono (s3.trans s4), SqL.of hz, compOf_nodup hC.ok n, hzl.symm, by have := compOf_len hC.ok n; omega, fun q5 kvs k1 k2 hq5 => ?_⟩
      have sAll : Same H H4 := s1.trans s24
      refine q _ q5 bs (sAll.trans (same_upd hq5)) (sAll.free hq5) hE' ⟨kvs, upd_same, k1, fun j kv ek => ?_⟩
      have e2 : zs[j]? = some kv.2 := by
        rw [← k2, List.getElem?_map, ek]
        rfl
      obtain ⟨o, e, _, h⟩ := hzv j kv.2 e2
      exact ⟨o, e, same_upd hq5 _ _ h⟩
theorem scBn : FnScope ["system", "cell", "program", "names", "prices", "many", "price"] ["system", "cell"] (defScope (topS 39)) := ⟨rfl, rfl, rfl, by decide +kernel, rfl, by decide +kernel, by decide +kernel⟩
/-- a list of fractions: f told place by place -/
def FrsAt (H : Hp) (vs : List V) (f : Nat → Int × Int) : Prop := ∀ (j : Nat) v, vs[j]? = some v → ∃ o, v = .ref o ∧ H o = some (frV (f j))
theorem FrsAt.mono {H H' : Hp} {vs : List V} {f : Nat → Int × Int} (s : Same H H') (h : FrsAt H vs f) : FrsAt H' vs f := fun j v e => by
  obtain ⟨o, e1, e2⟩ := h j v e
  exact ⟨o, e1, s _ _ e2⟩
/-- (vector, heights) as they lie -/
def NumsAt (H : Hp) (q : Addr) (d : Nat) (ns : List Str) (f : Nat → Int × Int) : Prop := ∃ (a b : Addr) (vs : List V) (kvs : List (Key × V)), H q = some (.tup [.ref a, .ref b]) ∧ H a = some (.tup vs) ∧ vs.length = d ∧ FrsAt H vs f ∧
  H b = some (.dK kvs) ∧ kvs.map (·.1) = ns.map Sum.inr ∧ FrsAt H (kvs.map (·.2)) (fun j => f (d + j))
theorem NumsAt.mono {H H' : Hp} {q : Addr} {d : Nat} {ns : List Str} {f : Nat → Int × Int} (s : Same H H') (h : NumsAt H q d ns f) : NumsAt H' q d ns f := by
  obtain ⟨a, b, vs, kvs, h1, h2, h3, h4, h5, h6, h7⟩ := h
  exact ⟨a, b, vs, kvs, s _ _ h1, s _ _ h2, h3, h4.mono s, s _ _ h5, h6, h7.mono s⟩
def spBn (C : Addr) : Sp := fun vs H Q _ => ∃ (p : Addr) (v : V) (S : Sys) (n : Str) (pt : List Int), vs = [.ref p, v] ∧ CellOk C H p v S n pt ∧ (∃ bs, (wlp S n pt).Ends bs true) ∧
  ∀ H' q bs, Same H H' → H q = none → (wlp S n pt).Ends bs true → NumsAt H' q S.d (cnames S n) (fun c => red ((wlp S n pt).price bs c) ((wlp S n pt).D bs)) → Q (.ref q) H'
theorem cut_front (xs : List V) {m : Nat} (h : m ≤ xs.length) : cutV xs none (some (m : Int)) = xs.take m := by
  unfold cutV
  rw [HT.sIx_nat, HT.sIx_none, List.drop_zero, Nat.sub_zero, Nat.min_eq_left h]
theorem cut_back (xs : List V) {m : Nat} (h : m ≤ xs.length) : cutV xs (some (m : Int)) none = xs.drop m := by
  unfold cutV
  rw [HT.sIx_nat, HT.sIx_none, Nat.min_eq_left h]
  exact List.take_of_length_le (by rw [List.length_drop]; omega)
theorem ok_bn {f : Addr} {fd : FuncData} (F : Fun K "bound_numbers" "bound_numbers" (topS 39) f fd) (T : TxS K C) (TP : TxP K CP) (mdict : mg "dict" = none) (mzip : mg "zip" = none) (mtuple : mg "tuple" = none) (D1 : Dn P w K mg base "check_cell" 2 ["system", "cell"] (spCc C)) (D2 : Dn P w K mg base "program_of" 5 ["system", "cell"] (spPg C CP)) (D3 : Dn P w K mg base "fraction_of" 2 ["top", "bottom"] spFr)
    (D4 : Dn P w K mg base "piece_of" 3 ["system", "name"] (spPo C)) (MP : Mn P w K mg base CP "prices" 1 ["self"] (spPr CP)) : FnOk P w K mg base CX0 6 f fd ["system", "cell"] (spBn C) := by
  refine F.ok scBn (fun vs H Q E h => ?_) (fun cdv A outer s H vs Q E hr h => ?_)
  · obtain ⟨p, v, S, n, pt, rfl, _⟩ := h
    rfl
  · obtain ⟨p, v, S, n, pt, rfl, hC, ⟨bs0, hE⟩, q⟩ := h
    have nd := scBn.nd
    refine ⟨_, pss_cons (ps_expr (pe_def D1 (hr.mono (by decide)) (by rfl) (pa_cons (pv 0) (pa_cons (pv 1) pa_nil))))
      (pss_cons (ps_set (i := 2) nd rfl (.inr rfl) (pe_def D2 hr (by rfl) (pa_cons (pv 0) (pa_cons (pv 1) pa_nil))))
      (pss_cons (ps_if (pt_not (pt_val (pe_fld (pv 2) rfl))) pss_never pss_nil)
      (pss_cons (ps_set (i := 3) nd rfl (.inl rfl) (pe_ix ix_tup (pe_def D4 (hr.mono (by decide)) (by rfl) (pa_cons (pv 0) (pa_cons (pe_ix ix_tup (pv 1) pe_int (fun _ _ => rfl)) pa_nil))) pe_int (fun _ _ => rfl)))
      (pss_cons (ps_setLc (i := 4) (own := [("price", 6)]) (g := gName 6) (tt := tYes) (by rfl) nd rfl rfl (sw_true rfl rfl rfl (by decide +kernel)) (pi_list (pe_mth0 TP.cl MP (hr.mono (by decide)) (pv 2)))
          (blkOk_by (N := ["system", "cell", "program", "names", "prices", "many", "price"]) (sc := defScope (topS 39)) (by decide +kernel))
          (fun _ _ _ _ _ => pg_name (i := 6) nd rfl (Or.inl rfl)) (fun _ _ _ _ _ => pts_nil) (fun _ _ _ _ _ => pe_def D3 (hr.mono (by decide)) (by rfl) (pa_cons (pv 6) (pa_cons (pe_fldB (K := K) (pv 2) rfl rfl) pa_nil))))
      (pss_cons (ps_set (i := 5) nd rfl (.inl rfl) (pe_fld (pv 0) rfl))
      (pss_one (ps_ret (pe_tup (pa_cons (pe_tupleOf (by rfl) mtuple (pe_slice sl_list (pv 4) po_none (po_some (pv 5)))) (pa_cons (pe_dzK rfl (by rfl) mdict (by rfl) mzip (pa_cons (pv 3) (pa_cons (pe_slice sl_list (pv 4) (po_some (pv 5)) po_none) pa_nil))) pa_nil)))))))))), ?_⟩
    obtain ⟨t, ht⟩ := hC.tab
    refine ⟨_, rfl, _, rfl, p, v, S, n, pt, t, rfl, hC.sys, hC.cell, ht, hC.pt.len, hC.ok.d1, hC.pt.nn, ?_⟩
    refine ⟨_, rfl, _, rfl, p, v, S, n, pt, rfl, hC.sys, hC.ok, hC.cell, hC.mem, hC.pt, fun H1 g bs bd s1 E1 P1 => ?_⟩
    have eb := (E1.det (wlp_good hC.pt) hE).2
    subst eb
    have hE' := E1
    have G := E1.good (wlp_good hC.pt)
    obtain ⟨sm, np, dx, gg, b, rs, g0, b0, hp, hg, hl, hr', hb⟩ := id P1
    have hw := wlp_hw hC.ok hC.mem (pt := pt)
    have sS := wlp_small hC.ok hC.mem hC.pt
    refine ⟨_, rfl, g, CP, dx, _, _, rfl, hp, TP.cl, TP.nk, pf_k, ?_⟩
    refine ⟨_, rfl, ?_⟩
    refine iteF ?_
    obtain ⟨ca, cb, rfl, hca, hcb⟩ := id hC.cell
    refine ⟨_, rfl, _, rfl, ca, _, 0, .str n, rfl, rfl, SqT.of (s1 _ _ hca), atI_nat (j := 0) rfl, p, n, S, rfl, hC.sys.mono s1, hC.ok, fun H2 q2 a2 b2 ys s2 hq2 ha2 hb2 hys => ?_⟩
    refine ⟨q2, _, 0, .ref a2, rfl, rfl, SqT.of hq2, atI_nat (j := 0) rfl, ?_⟩
    refine ⟨_, rfl, g, dx, _, rfl, s2 _ _ hp, pf_no (by decide +kernel) (by decide +kernel) (by decide +kernel) (by decide +kernel) (by decide +kernel) (by decide +kernel), ?_⟩
    refine ⟨g, H, wlp S n pt, bs, true, rfl, P1.mono s2, hw.1, hw.2, fun a3 n3 => ?_⟩
    have s3 : Same H2 (upd H2 a3 (.lst (priV (wlp S n pt) bs))) := same_upd n3
    have h3 : (upd H2 a3 (.lst (priV (wlp S n pt) bs))) a3 = some (.lst (priV (wlp S n pt) bs)) := upd_same
    generalize upd H2 a3 (.lst (priV (wlp S n pt) bs)) = H3 at s3 h3 ⊢
    refine ⟨a3, rfl, ⟨_, SqL.of h3⟩, fun D hD => ?_⟩
    have hnl : (priV (wlp S n pt) bs).length = (wlp S n pt).h := by
      unfold priV
      rw [List.length_map, List.length_range]
    refine lc_map (walk_list (K := K) (a := a3) (xs := priV (wlp S n pt) bs)) (fun j H' x => ∃ o, x = .ref o ∧ o ≠ D ∧ H' o = some (frV (red ((wlp S n pt).price bs j) ((wlp S n pt).D bs)))) (fun j H1 H2 y acc hD sx ⟨o, e, n, h⟩ => ⟨o, e, n, sx _ _ n h⟩) (small1000 (by omega)) hD (fun H' s' => SqL.of (s' _ _ h3)) (fun j H x H' _ => y_at j H x H') ?_ ?_ gm_name
    · rintro j x H4o H4 acc Z hj s4 hk ⟨rfl, ex⟩ hZ
      rw [hnl] at hj
      have ex' : x = .int ((wlp S n pt).price bs j) := by
        unfold priV at ex
        rw [List.getElem?_map, List.getElem?_range hj] at ex
        exact (Option.some.inj ex).symm
      subst ex'
      refine ⟨rfl, ?_⟩
      refine ⟨_, rfl, _, rfl, g, CP, dx, _, _, rfl, s4 _ _ (s3 _ _ (s2 _ _ hp)), TP.cl, TP.nd, pf_d, ?_⟩
      refine ⟨_, _, rfl, G.pos, d9000 sS, fun o ho => hZ _ _ (same_upd ho) ⟨o, rfl, (ne_of_none hk ho).symm, upd_same⟩⟩
    · intro H4 zs s4 hz hzl hzv
      rw [hnl] at hzl
      have hzl' : zs.length = S.d + (cnames S n).length := hzl
      have s24 := (s2.trans s3).trans s4
      have fz : FrsAt H4 zs (fun c => red ((wlp S n pt).price bs c) ((wlp S n pt).D bs)) := fun j x e => by
        obtain ⟨o, e1, _, e2⟩ := hzv j x e
        exact ⟨o, e1, e2⟩
      obtain ⟨sdx, kt, nr, skv, nrs, k1, _⟩ := (hC.sys.mono (s1.trans s24)).ex
      refine ⟨_, rfl, p, C, sdx, _, _, rfl, k1, T.cl, T.nd, sf_d, ?_⟩
      refine ⟨_, rfl, _, rfl, (S.d : Int), rfl, D, zs, rfl, SqL.of hz, fun u hu => ?_⟩
      rw [cut_front zs (by omega)]
      have s5 : Same H4 (upd H4 u (.lst (zs.take S.d))) := same_upd hu
      have hu5 : (upd H4 u (.lst (zs.take S.d))) u = some (.lst (zs.take S.d)) := upd_same
      generalize upd H4 u (.lst (zs.take S.d)) = H5 at s5 hu5 ⊢
      refine .inl ⟨u, _, rfl, SqL.of hu5, fun tt htt => ?_⟩
      have s6 : Same H5 (upd H5 tt (.tup (zs.take S.d))) := same_upd htt
      have ht6 : (upd H5 tt (.tup (zs.take S.d))) tt = some (.tup (zs.take S.d)) := upd_same
      generalize upd H5 tt (.tup (zs.take S.d)) = H6 at s6 ht6 ⊢
      refine ⟨_, rfl, _, rfl, _, rfl, (S.d : Int), rfl, D, zs, rfl, SqL.of ((s5.trans s6) _ _ hz), fun y hy => ?_⟩
      rw [cut_back zs (by omega)]
      have s7 : Same H6 (upd H6 y (.lst (zs.drop S.d))) := same_upd hy
      have hy7 : (upd H6 y (.lst (zs.drop S.d))) y = some (.lst (zs.drop S.d)) := upd_same
      generalize upd H6 y (.lst (zs.drop S.d)) = H7 at s7 hy7 ⊢
      have s47 := (s5.trans s6).trans s7
      refine ⟨a2, y, cnames S n, zs.drop S.d, rfl, SqL.of (((s3.trans s4).trans s47) _ _ ha2), SqL.of hy7, cnames_nodup S n, by rw [List.length_drop]; omega, by have := cnames_len hC.ok hC.mem; omega, fun q5 kvs k1 k2 hq5 => ?_⟩
      have s8 : Same H7 (upd H7 q5 (.dK kvs)) := same_upd hq5
      have hq8 : (upd H7 q5 (.dK kvs)) q5 = some (.dK kvs) := upd_same
      generalize upd H7 q5 (.dK kvs) = H8 at s8 hq8 ⊢
      refine ⟨Nat.le_of_lt (small1000 (by simp)), fun q9 hq9 => ?_⟩
      have s9 : Same H8 (upd H8 q9 (.tup [.ref tt, .ref q5])) := same_upd hq9
      have s49 := (s47.trans s8).trans s9
      have sAll : Same H H8 := (s1.trans s24).trans (s47.trans s8)
      refine q _ q9 bs (sAll.trans s9) (sAll.free hq9) hE' ⟨tt, q5, zs.take S.d, kvs, upd_same, s9 _ _ (s8 _ _ (s7 _ _ ht6)), by rw [List.length_take]; omega, fun j x e => ?_, s9 _ _ hq8, k1, fun j x e => ?_⟩
      · have e2 : zs[j]? = some x := by
          rw [List.getElem?_take] at e
          split at e
          · exact e
          · cases e
        exact (fz.mono s49) j x e2
      · rw [k2, List.getElem?_drop] at e
        exact (fz.mono s49) _ x e
end
end Frd
set_option Elab.async false
set_option linter.all false
set_option maxRecDepth 100000
set_option maxHeartbeats 4000000
set_option pp.maxSteps 1000
/-! sorted of a dict whose keys are reads. -/
namespace Frd
open PySem PyProof.Rows Srt SrtO
section
variable {prog : Program} {w : World} {A : Around} {E : Value → Shared → Prop} {s : Shared}
theorem sorted_srcS {T : String} {r d : Addr} {n : Nat} {P : Nat → Value → Prop} {OK : Heap → Prop} {k : Value → Str × Int} {vs : List Value} {Q : Value → Shared → Prop} (S : PySem.W.KdlSrc prog w T r d n P OK) (hh : A.handled = none) (hok : OK s.heap) (hn : n ≤ sizeLine)
    (hv : ∀ acc : Array Value, ItemsOf P acc n → acc.toList = vs) (hz : vs.length ≤ sizeLine) (hp : ∀ v ∈ vs, IsPairS s.heap v (k v).1 (k v).2)
    (h : ∀ (h' h'' : Heap) (tk : Nat) (out : List Value), Srtd (fun v u => rLt (k v) (k u)) out → Stb (fun v u => rLt (k v) (k u)) out vs → (∀ b o, s.heap.get? b = some o → h'.get? b = some o) → (∀ b o, h'.get? b = some o → h''.get? b = some o) → (∃ n, h''.get? h'.objs.size = some (seqObj "list" out.toArray n)) → Q (.ref h'.objs.size) { s with heap := h'', toks := tk }) :
    wpAny (model prog w) A (call (.builtin "sorted") [.ref r]) Q E s := by
  refine Calls.call_function_entry PyProof.Rows.kind_sorted PyProof.Rows.plain_sorted PyProof.Rows.entry_sorted (PyProof.Rows.args_sorted1 _) ?_
  unfold Builtin.«sorted»
  refine wpAny_bind (m := checkCount "sorted" 1 1 _) (wpAny_pure ?_)
  refine wpAny_bind (PySem.W.kdu_collect (A := A.in1) S hh hok hn fun h' tk acc hk hacc => ?_)
  have ev := hv acc hacc
  rw [ev]
  refine wpAny_bind (wpAny_newList ?_ hz)
  have hoL : (h'.push (seqObj "list" vs.toArray 0)).get? h'.objs.size = some (seqObj "list" vs.toArray 0) := Heap.get?_push_size _ rfl
  show wpAny _ _ _ _ _ { s with heap := h'.push (seqObj "list" vs.toArray 0), toks := tk }
  have keep : ∀ b o, s.heap.get? b = some o → (h'.push (seqObj "list" vs.toArray 0)).get? b = some o := fun b o e => Heap.get?_push_of_some _ (hk b o e)
  refine wpAny_bind (wpAny_holding (wpAny_call_entry PyProof.Rows.slot_list_sort ⟨_, hoL, rfl⟩ PyProof.Rows.entry_list_sort
    (list_sort_ord (s := { s with heap := h'.push (seqObj "list" vs.toArray 0), toks := tk }) (swo_r k) hoL hz (fun h2 => ?_) fun out hs hb => ⟨_, rfl, ?_⟩) (PyProof.Rows.args_list_sort _)))
  · refine pairsS_sortableO (by omega) (fun v hm => (hp v hm).keeps fun b o e _ => keep b o e) fun o e => ?_
    have e' : some o = some (seqObj "list" vs.toArray 0) := e.symm.trans hoL
    cases e'
    intro c
    exact absurd (Value.type.inj c) (by decide)
  · obtain ⟨e', he'⟩ := PyProof.Rows.sortedHeap_at (vs := vs) (out := out.toArray) hoL
    refine wpAny_pure ⟨_, rfl, h h' _ tk out hs hb hk (fun b o e => ?_) ⟨e', he'⟩⟩
    have hb2 : b < h'.objs.size := Heap.lt_size e
    rw [PyProof.Rows.sortedHeap_old (Nat.ne_of_lt hb2) (by rw [size_push']; exact Nat.lt_succ_of_lt hb2)]
    exact Heap.get?_push_of_some _ e
end
end Frd
namespace Frd
open PySem PySem.Spec PyProof.Rows L2
section
variable {X : Cx}
def rSortedDT : List V → Hp → VK → Prop := fun vs H Q => ∃ (a : Addr) (kvs : List (List Key × V)) (rs : List Rd2), vs = [V.ref a] ∧ H a = some (.dT kvs) ∧ kvs.map (·.1) = rs.map rk ∧ rs.length ≤ 1000 ∧
  ∀ ys p, All2 (RdV H) ys (rsort rs) → H p = none → Q (.ref p) (upd H p (.lst ys))
theorem cr_sortedDT (hcalm : X.calm = true) : CallR X (.builtin "sorted") rSortedDT := by
  intro pins s σ H vs us Q I r h
  obtain ⟨a, kvs, rs, rfl, hd, hkr, hlr, q⟩ := h
  obtain ⟨u, rfl, rx⟩ := r.one
  cases rx
  obtain ⟨z, hs, ks, pr, o, es, ep, ho, hx, hdt, he, hn⟩ := (show ObjOk X.prog X.w H s.heap a (.dT kvs) from I.hok _ _ hd)
  have l1 : es.size = ks.length := size_of_entries he
  have l2 : kvs.length = ks.length := Paired.length pr
  have l3 : kvs.length = rs.length := by
    have := congrArg List.length hkr
    rwa [List.length_map, List.length_map] at this
  have htr : ∀ (i : Nat) (x : List Key × Addr × Value) (r : Rd2), ks[i]? = some x → rs[i]? = some r → H x.2.1 = some (.tup [.str r.1, .int r.2]) := fun i x r ex er => by
    obtain ⟨kv, hkv⟩ : ∃ kv, kvs[i]? = some kv := ⟨kvs[i]'(by have := (List.getElem?_eq_some_iff.mp er).1; omega), List.getElem?_eq_getElem _⟩
    have hp := paired_at pr hkv ex
    have e1 : (kvs.map (·.1))[i]? = some kv.1 := by rw [List.getElem?_map, hkv]; rfl
    rw [hkr, List.getElem?_map, er] at e1
    have e2 : rk r = kv.1 := Option.some.inj e1
    have := hp.2.1
    rw [← e2] at this
    exact this
  have hA : All2 (RdV H) (ks.map fun x => V.ref x.2.1) rs := ⟨by rw [List.length_map]; omega, fun i v r ev er => by
    rw [List.getElem?_map] at ev
    cases ex : ks[i]? with
    | none =>
      rw [ex] at ev
      cases ev
    | some x =>
      rw [ex] at ev
      have := Option.some.inj ev
      subst this
      exact ⟨_, rfl, htr i x r ex er⟩⟩
  have hb : ∀ v ∈ ks.map (fun x => Value.ref x.2.1), ∃ t, v = .ref t ∧ RdV H (.ref t) (rdOf H (.ref t)) := fun v hv => by
    obtain ⟨x, hx2, rfl⟩ := List.mem_map.mp hv
    obtain ⟨i, hi⟩ := List.getElem?_of_mem hx2
    obtain ⟨y, hy, r⟩ := hA.at (i := i) (x := V.ref x.2.1) (by rw [List.getElem?_map, hi]; rfl)
    exact ⟨_, rfl, by rw [r.of]; exact r⟩
  refine sorted_srcS (k := fun u => rdOf H (backV u)) (vs := ks.map fun x => Value.ref x.2.1) (kdl_raw hs hx hdt) (I.ok.hd hcalm) ho (by omega) (fun acc it => ?_) (by rw [List.length_map]; omega) (fun v hv => ?_) fun h' h'' tk out h1 h2 kp kp2 hnn => ?_
  · have hl : acc.toList.length = ks.length := by rw [Array.length_toList, it.1]; exact l1
    apply List.ext_getElem?
    intro j
    rw [List.getElem?_map]
    cases hj : acc.toList[j]? with
    | none =>
      have h1 := List.getElem?_eq_none_iff.mp hj
      rw [List.getElem?_eq_none (by omega)]
      rfl
    | some v =>
      obtain ⟨en, hen, hv⟩ := it.2 j v (by rw [← Array.getElem?_toList]; exact hj)
      have qe := entry_at he j
      rw [hen] at qe
      cases hb : ks[j]? with
      | none =>
        rw [hb] at qe
        exact nomatch (show some en = none from qe)
      | some b =>
        rw [hb] at qe
        have e2 : en = entryOfKey (tupleKind (mixKind X.prog X.w)) b := Option.some.inj qe
        rw [hv, e2]
        rfl
  · obtain ⟨t, rfl, t', e, ht⟩ := hb v hv
    cases e
    obtain ⟨_, its2, r2, o, ho, hc, n, hd⟩ := I.hok _ _ ht
    obtain ⟨u1, u2, rfl, ri, rj⟩ := vals2 r2
    obtain ⟨t1, rfl⟩ := ri
    obtain ⟨t2, rfl⟩ := rj
    exact ⟨_, o, t1, t2, n, rfl, ho, hc, hd⟩
  · have e1 : (ks.map fun x => V.ref x.2.1) = (ks.map fun x => Value.ref x.2.1).map backV := by
      rw [List.map_map]
      rfl
    have e2 : ∀ v ∈ ks.map (fun x => Value.ref x.2.1), ∃ a, v = Value.ref a := fun v hv => by
      obtain ⟨t, e, _⟩ := hb v hv
      exact ⟨t, e⟩
    have h3 : ∀ u ∈ out, ∃ a, u = Value.ref a := fun u hu => e2 u (h2.perm.mem_iff.mp hu)
    obtain ⟨n, hn⟩ := hnn
    have hperm : (out.map backV).Perm (ks.map fun x => V.ref x.2.1) := by
      rw [e1]
      exact h2.perm.map backV
    have hso : ((out.map backV).map (rdOf H)).Pairwise fun a b => rLt b a = false := by
      rw [List.map_map]
      exact List.pairwise_map.mpr h1
    have hE : (out.map backV).map (rdOf H) = rsort rs := by
      refine rsort_eq hso ?_
      rw [← all2_map hA]
      exact hperm.map _
    have hA2 : All2 (RdV H) (out.map backV) (rsort rs) := by
      rw [← hE]
      refine all2_of_map fun x hm => ?_
      have := hperm.mem_iff.mp hm
      rw [e1] at this
      obtain ⟨v, hv, rfl⟩ := List.mem_map.mp this
      obtain ⟨t, rfl, hr⟩ := hb v hv
      exact hr
    have I1 : Inv X pins σ H { s with heap := h', toks := tk } := I.kept kp
    refine ⟨.ref h'.objs.size, upd H h'.objs.size (.lst (out.map backV)), I1.laid (t' := tk) kp2 (Nat.le_refl _) ⟨?_, out, n, vals_back h3, hn⟩, rfl, q _ _ hA2 (I1.hok.fresh (Nat.le_refl _))⟩
    rw [hperm.length_eq, List.length_map]
    exact Nat.le_of_lt (small1000 (by omega))
end
end Frd
set_option Elab.async false
set_option linter.all false
set_option maxRecDepth 100000
set_option maxHeartbeats 4000000
set_option pp.maxSteps 1000
/-! list(d.values()). -/
namespace Frd
open PySem PySem.Spec PyProof.Rows L2
theorem vals_snd : ∀ {α β : Type} {R : α × V → β → Prop} {f : β → Value} {kvs : List (α × V)} {ps : List β}, (∀ a b, R a b → RelV a.2 (f b)) → Paired R kvs ps → Vals (kvs.map (·.2)) (ps.map f)
  | _, _, _, _, _, _, _, .nil => .nil
  | _, _, _, _, _, _, h, .cons r t => .cons (h _ _ r) (vals_snd h t)
section
variable {X : Cx} {pins : List (Addr × Obj)} {σ : L2.St} {H : Hp} {s : Shared} {d : Addr}
theorem raw_K {kvs : List (Key × V)} (I : Inv X pins σ H s) (h : H d = some (.dK kvs)) : (d == sysModules) = false ∧ kvs.length ≤ sizeLine ∧ ∃ es ep, s.heap.DictRaw d es ep ∧ es.size = kvs.length ∧ Vals (kvs.map (·.2)) (es.toList.map (·.val)) := by
  obtain ⟨z, hs, vs, rel, dd⟩ := dk_of I.hok h
  obtain ⟨es, ep, hr, hsz, he⟩ := dd.raw
  have l := Paired.length rel
  refine ⟨hs, z, es, ep, hr, by omega, ?_⟩
  have e : es.toList.map (·.val) = vs.map (·.2) := by
    refine List.ext_getElem? fun i => ?_
    rw [List.getElem?_map, List.getElem?_map]
    by_cases hi : i < es.size
    · obtain ⟨kv, hkv⟩ : ∃ kv, vs[i]? = some kv := ⟨vs[i], List.getElem?_eq_getElem (by omega)⟩
      have := (he i hi kv.1 kv.2 hkv).2
      rw [hkv, Array.getElem?_toList, Array.getElem?_eq_getElem hi]
      exact congrArg some this
    · rw [List.getElem?_eq_none (by rw [Array.length_toList]; omega), List.getElem?_eq_none (by omega)]
      rfl
  rw [e]
  exact vals_snd (fun a b r => r.2) rel
theorem raw_T {kvs : List (List Key × V)} (I : Inv X pins σ H s) (h : H d = some (.dT kvs)) : (d == sysModules) = false ∧ kvs.length ≤ sizeLine ∧ ∃ es ep, s.heap.DictRaw d es ep ∧ es.size = kvs.length ∧ Vals (kvs.map (·.2)) (es.toList.map (·.val)) := by
  obtain ⟨z, hs, xs, rel, dd⟩ := dt_of I.hok h
  obtain ⟨es, ep, hr, hsz, he⟩ := dd.raw
  have l := Paired.length rel
  refine ⟨hs, z, es, ep, hr, by omega, ?_⟩
  have e : es.toList.map (·.val) = xs.map (·.2.2) := by
    refine List.ext_getElem? fun i => ?_
    rw [List.getElem?_map, List.getElem?_map]
    by_cases hi : i < es.size
    · obtain ⟨y, hy, _, e2, _⟩ := he i hi
      rw [hy, Array.getElem?_toList, Array.getElem?_eq_getElem hi]
      exact congrArg some e2
    · rw [List.getElem?_eq_none (by rw [Array.length_toList]; omega), List.getElem?_eq_none (by omega)]
      rfl
  rw [e]
  exact vals_snd (fun a b r => r.2.2) rel
end
/-- the values of the dict at d -/
def DvAt (H : Hp) (d : Addr) (vs : List V) : Prop := (∃ kvs, H d = some (.dK kvs) ∧ vs = kvs.map (·.2)) ∨ ∃ kvs, H d = some (.dT kvs) ∧ vs = kvs.map (·.2)
def tLv (td : TE) : TE := fun σ H Q => td σ H fun x H1 => ∃ (d : Addr) (vs : List V), x = .ref d ∧ DvAt H1 d vs ∧ ∀ q, H1 q = none → Q (.ref q) (upd H1 q (.lst vs))
section
variable {X : Cx} {e : Expr} {td : TE} {p pos apos cpos : Pos}
theorem pe_listVals (hcalm : X.calm = true) (hg : Gl X "list") (hm : X.mg "list" = none) (he : PE X e td) (hbase : attributeBase e "values" X.env (eval e X.env) = eval e X.env := by rfl) (hline : (apos.endLine == cpos.line) = true := by rfl)
    (hs2 : starEach [.Call (.Attribute e "values" apos) [] [] cpos] X.env = (false, eval (.Call (.Attribute e "values" apos) [] [] cpos) X.env) :: starEach [] X.env := by rfl) :
    PE X (.Call (.Name "list" p) [.Call (.Attribute e "values" apos) [] [] cpos] [] pos) (tLv td) := by
  refine ⟨fun pins s σ H Q I h => ?_⟩
  refine wpAny_Call_Name_kw (ld_blt I hg hm (show bootBuiltins "list" = some (.type "list") by decide +kernel) ?_ (by decide) (by decide))
  refine PyProof.Rows.callWith_type1 ?_ hs2 rfl
  rw [hs2]
  show wpAny _ _ (spliced ((false, eval _ X.env) :: backTo pos (starEach [] X.env))) _ _ s
  refine Calls.spliced_cons ?_
  refine wpAny_Call_method (T := "dict") (id := "dict.values") hbase rfl hline PySem.F.plainAttrs_dict PySem.F.slot_dict_values PySem.F.type_dict_values (thn (he.run pins s σ H _ I h) fun u s1 ⟨x, H1, I1, rx, d, vs, ex, hd, q⟩ => ?_)
  subst ex
  obtain rfl : u = Value.ref d := rx
  obtain ⟨hs, hz, es, ep, hr, hsz, hv⟩ : (d == sysModules) = false ∧ vs.length ≤ sizeLine ∧ ∃ es ep, s1.heap.DictRaw d es ep ∧ es.size = vs.length ∧ Vals vs (es.toList.map (·.val)) := by
    rcases hd with ⟨kvs, hd, rfl⟩ | ⟨kvs, hd, rfl⟩
    · obtain ⟨a, b, es, ep, c1, c2, c3⟩ := raw_K I1 hd
      exact ⟨a, by rw [List.length_map]; exact b, es, ep, c1, by rw [List.length_map]; exact c2, c3⟩
    · obtain ⟨a, b, es, ep, c1, c2, c3⟩ := raw_T I1 hd
      exact ⟨a, by rw [List.length_map]; exact b, es, ep, c1, by rw [List.length_map]; exact c2, c3⟩
  obtain ⟨o, ho, hx, hdt⟩ := id hr
  refine ⟨hr.typeIs, fun b eb => by cases eb; exact ⟨o, ho, hx.2.1⟩, ?_⟩
  have I2 : Inv X pins σ H1 { s1 with heap := s1.heap.push { cls := .type "dict_values", data := .fields #[.ref d] } } := I1.kept (t' := s1.toks) fun b ob q => Heap.get?_push_of_some _ q
  have fin : wpAny (model X.prog X.w) X.A (spliced []) (fun vs' s₂ => wpAny (model X.prog X.w) X.A (call (.type "list") (.ref s1.heap.objs.size :: vs')) (EP X pins σ Q) X.xe s₂) X.xe { s1 with heap := s1.heap.push { cls := .type "dict_values", data := .fields #[.ref d] } } := by
    refine Calls.spliced_nil ?_
    refine PySem.W.kdl_call (KdlSrc.rawValues (d := d) (es := es) (ep := ep)) (I.ok.hd hcalm) ⟨⟨_, Heap.get?_push_size _ rfl, rfl, rfl⟩, hr.at fun o e => Heap.get?_push_of_some _ e⟩ (by omega) fun h' tk acc' c' kp e it => ?_
    have ea : acc'.toList = es.toList.map (·.val) := by
      refine List.ext_getElem? fun i => ?_
      rw [List.getElem?_map]
      by_cases hi : i < es.size
      · have hl : acc'.size = es.size := it.1
        obtain ⟨hi2, ev⟩ := it.2 i acc'[i] (Array.getElem?_eq_getElem (by omega))
        rw [Array.getElem?_toList, Array.getElem?_toList, Array.getElem?_eq_getElem hi, Array.getElem?_eq_getElem (by omega)]
        exact congrArg some ev
      · have hl : acc'.size = es.size := it.1
        rw [List.getElem?_eq_none (by rw [Array.length_toList]; omega), List.getElem?_eq_none (by rw [Array.length_toList]; omega)]
        rfl
    have rv : Vals vs acc'.toList := by rw [ea]; exact hv
    refine ⟨.ref _, _, I2.laid (t' := tk) (o := .lst vs) kp (Nat.le_refl _) ⟨hz, acc'.toList, c', rv, by rw [Array.toArray_toList]; exact e⟩, rfl, q _ (I2.hok.fresh (Nat.le_refl _))⟩
  show wpAny _ _ (callWith cpos (.builtin "dict.values") [.ref d] [] []) _ X.xe s1
  exact method_meetsIn PySem.F.slot_dict_values PySem.F.entry_dict_values rfl (PySem.evalArgs_none ⟨rfl, hr.typeIs, PySem.F.args_dict_values_1 _, _, meets_dict_values_raw d hs, ⟨es, ep, hr⟩, fin⟩)
end
end Frd
set_option Elab.async false
set_option linter.all false
set_option maxRecDepth 100000
set_option maxHeartbeats 4000000
set_option pp.maxSteps 1000
/-! flow_worth. -/
namespace Frd
open PySem PySem.Spec PyProof.Rows L2
/-- read in reads -/
def rInRd (K : PySem.W.Frag) : R2 := fun x y H Q => ∃ (r : Rd2) (a : Addr) (xs : List V) (rs : List Rd2), RdV H x r ∧ y = .ref a ∧ SqL K H a xs ∧ All2 (RdV H) xs rs ∧ Q (.bl (decide (r ∈ rs))) H
theorem rd_eqAt {X : Cx} {pins : List (Addr × Obj)} {σ : L2.St} {H : Hp} {s : Shared} {A : Around} (I : Inv X pins σ H s) (hu : A.units + 1 < cLine) {t u : Addr} {r q : Rd2} (ht : H t = some (.tup [.str r.1, .int r.2])) (hq : H u = some (.tup [.str q.1, .int q.2])) : SeqAt.EqAt A.in1 s (.ref t) (.ref u) (decide (r = q)) := by
  by_cases e : t = u
  · subst e
    rw [ht] at hq
    have := Option.some.inj hq
    injection this with a
    injection a with a1 a2
    injection a2 with a2 _
    have : r = q := Prod.ext (V.str.inj a1) (V.int.inj a2)
    rw [decide_eq_true this]
    exact SeqAt.EqAt.same _
  · obtain ⟨i1, r1, t1, _⟩ := I.tuple (SqT.of ht)
    obtain ⟨i2, r2, t2, _⟩ := I.tuple (SqT.of hq)
    obtain ⟨a1, a2, rfl, p1, p2⟩ := vals2 r1
    obtain ⟨b1, b2, rfl, q1, q2⟩ := vals2 r2
    obtain ⟨k1, rfl⟩ := p1
    obtain ⟨k2, rfl⟩ := p2
    obtain ⟨l1, rfl⟩ := q1
    obtain ⟨l2, rfl⟩ := q2
    have h := SeqAt.RcAt.tuples (A := A.in1) (s := s) (e := fun j => if j = 0 then (r.1 == q.1) else (r.2 == q.2)) t1 t2 (by show A.units + 1 < cLine; exact hu) (fun j h1 h2 => by
      have hj : j = 0 ∨ j = 1 := by simp at h1; omega
      rcases hj with rfl | rfl
      · exact SeqAt.EqAt.str_str _ _ _ _
      · exact SeqAt.EqAt.int_int _ _ _ _)
    have e2 : ((List.range (min (#[Value.str r.1 k1, Value.int r.2 k2] : Array Value).size (#[Value.str q.1 l1, Value.int q.2 l2] : Array Value).size)).all (fun j => if j = 0 then (r.1 == q.1) else (r.2 == q.2)) && ((#[Value.str r.1 k1, Value.int r.2 k2] : Array Value).size == (#[Value.str q.1 l1, Value.int q.2 l2] : Array Value).size)) = decide (r = q) := by
      show (([0, 1] : List Nat).all (fun j => if j = 0 then (r.1 == q.1) else (r.2 == q.2)) && (2 == 2)) = decide (r = q)
      rw [Bool.eq_iff_iff]
      simp [Prod.ext_iff]
    refine SeqAt.EqAt.of_refs e ?_
    rw [← e2]
    exact h
section
variable {X : Cx}
theorem op_inRd (hu : X.A.units + 64 < cLine) : OpR X (compareOp .In) (rInRd X.K) := by
  intro pins s σ H x y v u Q I rx ry h
  obtain ⟨r, a, xs, rs, ⟨t, rfl, ht⟩, rfl, hs, hA, q⟩ := h
  cases rx
  cases ry
  obtain ⟨its, rv, pl, _⟩ := I.list hs
  have hx : ∀ x ∈ xs, RdV H x (rdOf H x) := fun x hm => by
    obtain ⟨i, hi⟩ := List.getElem?_of_mem hm
    obtain ⟨y, hy, r⟩ := hA.at hi
    rw [r.of]
    exact r
  obtain ⟨e1, e2⟩ := refs_back rv fun x m => by
    obtain ⟨t, e, _⟩ := hx x m
    exact ⟨t, e⟩
  refine SeqAt.in_listAt (fun y => decide (rdOf H (backV y) = r)) pl.isList (fun y hy => ?_) ?_
  · have hy' : y ∈ its := by simpa using hy
    obtain ⟨t', rfl⟩ := e2 y hy'
    have hm : V.ref t' ∈ xs := by
      rw [e1]
      exact List.mem_map.mpr ⟨_, hy', rfl⟩
    obtain ⟨t2, e, ht2⟩ := hx _ hm
    cases e
    exact rd_eqAt I (by omega) ht2 ht
  · have e : its.toArray.any (fun y => decide (rdOf H (backV y) = r)) = decide (r ∈ rs) := by
      rw [Bool.eq_iff_iff, decide_eq_true_eq, ← all2_map hA, e1, List.map_map]
      simp
    rw [e]
    exact ⟨.bl _, H, I, rfl, q⟩
theorem op_inRdB {K : PySem.W.Frag} (hK : X.K = K) (hu : X.A.units + 64 < cLine) : OpR X (compareOp .In) (rInRd K) := hK ▸ op_inRd hu
end
/-- the entry of a row at a read -/
def aRd (S : Sys) (ns : List Str) (c : Nat) (r : Rd2) : Int :=
  if c < S.d then (S.vc r).getD c 0 else b2z (decide (r.1 = ns.getD (c - S.d) ⟨#[]⟩)) - b2z (decide (S.tg r = ns.getD (c - S.d) ⟨#[]⟩))
theorem aOf_rd (S : Sys) (rs : List Rd2) (ns : List Str) (c j : Nat) : aOf S rs ns c j = aRd S ns c (rs.getD j rd0) := rfl
/-- a dict of fractions over one denominator, by reads -/
def WsIn (H : Hp) (q : Addr) (ks : List Rd2) (m : Rd2 → Int) (E : Int) : Prop := ∃ kvs : List (List Key × V), H q = some (.dT kvs) ∧ kvs.map (·.1) = ks.map rk ∧ ∀ (j : Nat) kv k, kvs[j]? = some kv → ks[j]? = some k → ∃ o, kv.2 = .ref o ∧ H o = some (frV (red (m k) E))
theorem WsIn.mono {H H' : Hp} {q : Addr} {ks : List Rd2} {m : Rd2 → Int} {E : Int} (s : Same H H') (h : WsIn H q ks m E) : WsIn H' q ks m E := by
  obtain ⟨kvs, h1, h2, h3⟩ := h
  exact ⟨kvs, s _ _ h1, h2, fun j kv k a b => by
    obtain ⟨o, e1, e2⟩ := h3 j kv k a b
    exact ⟨o, e1, s _ _ e2⟩⟩
theorem perm_sum {α : Type} {f : α → Int} {l m : List α} (h : l.Perm m) : (l.map f).sum = (m.map f).sum := by
  induction h with
  | nil => rfl
  | cons x _ ih => rw [List.map_cons, List.map_cons, List.sum_cons, List.sum_cons, ih]
  | swap x y l =>
    rw [List.map_cons, List.map_cons, List.map_cons, List.map_cons, List.sum_cons, List.sum_cons, List.sum_cons, List.sum_cons]
    omega
  | trans _ _ a b => rw [a, b]
theorem aRd_abs {S : Sys} (ok : S.Ok) {r : Rd2} (hr : r ∈ S.named) (ns : List Str) (c : Nat) : (aRd S ns c r).natAbs ≤ 5 := aOf_abs ok (rs := [r]) (fun q hq => by rw [List.mem_singleton.mp hq]; exact hr) ns c 0 (by simp)
theorem valV_mem {κ : Type} [DecidableEq κ] {kvs : List (κ × V)} {k : κ} (h : k ∈ kvs.map (·.1)) : ∃ (j : Nat) (kv : κ × V), kvs[j]? = some kv ∧ kv.1 = k ∧ valV kvs k = some kv.2 := by
  have hs := valV_iff.mpr h
  unfold valV at hs ⊢
  cases q : kvs.find? fun kv => decide (kv.1 = k) with
  | none =>
    rw [q] at hs
    cases hs
  | some kv =>
    obtain ⟨j, hj⟩ := List.getElem?_of_mem (List.mem_of_find?_eq_some q)
    have hf := List.find?_some q
    exact ⟨j, kv, hj, of_decide_eq_true hf, rfl⟩
theorem WsIn.val {H : Hp} {q : Addr} {ks : List Rd2} {m : Rd2 → Int} {E : Int} (h : WsIn H q ks m E) {r : Rd2} (hr : r ∈ ks) : ∃ kvs o, H q = some (.dT kvs) ∧ valV kvs (rk r) = some (.ref o) ∧ H o = some (frV (red (m r) E)) := by
  obtain ⟨kvs, h1, h2, h3⟩ := h
  obtain ⟨j, kv, e1, e2, e3⟩ := valV_mem (kvs := kvs) (k := rk r) (by rw [h2]; exact List.mem_map.mpr ⟨r, hr, rfl⟩)
  have ek : (ks.map rk)[j]? = some (rk r) := by
    rw [← h2, List.getElem?_map, e1, ← e2]
    rfl
  rw [List.getElem?_map] at ek
  cases er : ks[j]? with
  | none =>
    rw [er] at ek
    cases ek
  | some r' =>
    rw [er] at ek
    have := rk_inj (Option.some.inj ek)
    subst this
    obtain ⟨o, o1, o2⟩ := h3 j kv _ e1 er
    exact ⟨kvs, o, h1, by rw [e3, o1], o2⟩
theorem bd_a {x a : Int} (hx : x.natAbs ≤ 2 ^ 3900) (ha : a.natAbs ≤ 5) : Bd (x * a) := by
  unfold Bd
  rw [Int.natAbs_mul]
  have h1 : x.natAbs * a.natAbs ≤ 2 ^ 3900 * 5 := Nat.mul_le_mul hx ha
  have h2 : 2 ^ 3900 * 5 < 2 ^ 4000 := by decide +kernel
  omega
theorem bd_3900 {x : Int} (hx : x.natAbs ≤ 2 ^ 3900) : Bd x := Nat.lt_of_le_of_lt hx (Nat.pow_lt_pow_right (by omega) (by omega))
theorem bd_100 {x : Int} (hx : x.natAbs ≤ 2 ^ 100) : Bd x := Nat.lt_of_le_of_lt hx (Nat.pow_lt_pow_right (by omega) (by omega))
/-- what is locked and let go again -/
theorem unlock_same {H H' : Hp} {q : Addr} {o u : HO} (h : H q = some u) (s : Same (upd H q o) H') : Same H (upd H' q u) := fun b x e => by
  by_cases z : b = q
  · subst z
    rw [upd_same, ← h]
    exact e
  · rw [upd_ne z]
    exact s b x (by rw [upd_ne z]; exact e)
theorem RdV.lock {H : Hp} {q : Addr} {kvs : List (List Key × V)} {o : HO} {v : V} {r : Rd2} (hq : H q = some (.dT kvs)) (h : RdV H v r) : RdV (upd H q o) v r := by
  obtain ⟨t, e, ht⟩ := h
  exact ⟨t, e, by rw [upd_ne (ne_of ht hq (by intro z; cases z))]; exact ht⟩
section
variable {P : Program} {w : World} {K : PySem.W.Frag} {mg : Str → Option Value} {base : Heap} {C CP : Addr}
theorem scFl : FnScope ["system", "cell", "found", "name", "point", "names", "reads", "used", "limits", "row", "limit", "read", "weight", "other", "factor"] ["system", "cell", "found"] (defScope (topS 42)) := ⟨rfl, rfl, rfl, by decide +kernel, rfl, by decide +kernel, by decide +kernel⟩
def spFl (C : Addr) : Sp := fun vs H Q _ => ∃ (p q : Addr) (v : V) (S : Sys) (n : Str) (pt : List Int) (ks : List Rd2) (m : Rd2 → Int) (E : Int), vs = [.ref p, v, .ref q] ∧ CellOk C H p v S n pt ∧ WsIn H q ks m E ∧ ks.Nodup ∧ (∀ k ∈ ks, k ∈ compOf S n) ∧ 0 < E ∧ Bd E ∧ (∀ k ∈ ks, 0 ≤ m k ∧ (m k).natAbs ≤ 2 ^ 3900) ∧
  (∀ c, c < (wlp S n pt).h → (ks.map fun k => aRd S (cnames S n) c k * m k).sum ≤ (wlp S n pt).b c * E) ∧ ∀ H' o, Same H H' → H' o = some (frV (red (ks.map m).sum E)) → Q (.ref o) H'
theorem ok_fl {f : Addr} {fd : FuncData} (F : Fun K "flow_worth" "flow_worth" (topS 42) f fd) (T : TxS K C) (mall : mg "all" = none) (mlist : mg "list" = none) (msorted : mg "sorted" = none) (mi : mg "int" = none) (mzip : mg "zip" = none)
    (D1 : Dn P w K mg base "check_cell" 2 ["system", "cell"] (spCc C)) (D2 : Dn P w K mg base "piece_of" 3 ["system", "name"] (spPo C)) (D3 : Dn P w K mg base "rows_of" 2 ["system", "reads", "names"] (spRo K C)) (D4 : Dn P w K mg base "so_often" 3 ["fraction", "number"] (spOft K))
    (D5 : Dn P w K mg base "sum_of_fractions" 3 ["fractions"] (spSum K)) (D6 : Dn P w K mg base "is_small" 1 ["fraction", "number"] (spSml K)) : FnOk P w K mg base CX0 6 f fd ["system", "cell", "found"] (spFl C) := by
  refine F.ok scFl (fun vs H Q E h => ?_) (fun cdv A outer s H vs Q E hr h => ?_)
  · obtain ⟨p, q, v, S, n, pt, ks, m, E, rfl, _⟩ := h
    rfl
  · obtain ⟨p, qd, v, S, n, pt, ks, m, E, rfl, hC, hW, hnd, hin, hE, bE, hm, hfe, q⟩ := h
    have nd := scFl.nd
    have hu := hu_of hr
    have hu64 := hr.units
    refine ⟨_, pss_cons (ps_expr (pe_def D1 (hr.mono (by decide)) (by rfl) (pa_cons (pv 0) (pa_cons (pv 1) pa_nil))))
      (pss_cons (ps_asg (pv 1) (pg_tup rfl (pgs_cons (pg_name (i := 3) nd rfl (.inr rfl)) (pgs_cons (pg_name (i := 4) nd rfl (.inl rfl)) pgs_nil))))
      (pss_cons (ps_asg (pe_def D2 (hr.mono (by decide)) (by rfl) (pa_cons (pv 0) (pa_cons (pv 3) pa_nil))) (pg_tup rfl (pgs_cons (pg_name (i := 5) nd rfl (.inl rfl)) (pgs_cons (pg_name (i := 6) nd rfl (.inr rfl)) pgs_nil))))
      (pss_cons (ps_if (pt_not (pt_val (pe_callB (cr_all rfl) (by rfl) mall (by decide +kernel) (pa_cons (pe_lock (pe_lc (own := [("read", 11)]) (g := gName 11) (tt := tYes) rfl nd (pi_keys (pv 2)) (blkOk_by (N := ["system", "cell", "found", "name", "point", "names", "reads", "used", "limits", "row", "limit", "read", "weight", "other", "factor"]) (sc := defScope (topS 42)) (by decide +kernel))
            (fun _ _ _ _ _ => pg_name (i := 11) nd rfl (Or.inl rfl)) (fun _ _ _ _ _ => pts_nil) (fun _ _ _ _ _ => pe_cmpR (op_inRdB (K := K) rfl hu64) (pv 11) (pv 6) rfl))) pa_nil)))) pss_never pss_nil)
      (pss_cons (ps_if (pt_not (pt_val (pe_callB (cr_all rfl) (by rfl) mall (by decide +kernel) (pa_cons (pe_lc (own := [("weight", 12)]) (g := gName 12) (tt := tYes) rfl nd (pi_list (pe_listVals rfl (by rfl) mlist (pv 2))) (blkOk_by (N := ["system", "cell", "found", "name", "point", "names", "reads", "used", "limits", "row", "limit", "read", "weight", "other", "factor"]) (sc := defScope (topS 42)) (by decide +kernel))
            (fun _ _ _ _ _ => pg_name (i := 12) nd rfl (Or.inl rfl)) (fun _ _ _ _ _ => pts_nil) (fun _ _ _ _ _ => pe_cmpR op_ge (pe_ix (ix_tupB (K := K) rfl) (pv 12) pe_int (fun _ _ => rfl)) pe_int rfl)) pa_nil)))) pss_never pss_nil)
      (pss_cons (ps_set (i := 7) nd rfl (.inl rfl) (pe_callB (cr_sortedDT rfl) (by rfl) msorted (by decide +kernel) (pa_cons (pv 2) pa_nil)))
      (pss_cons (ps_set (i := 8) nd rfl (.inl rfl) (pe_lst (StX.pa_star (pv 4) (StX.pa_star (pe_lc (own := [("other", 13)]) (g := gName 13) (tt := tYes) rfl nd (pi_list (pv 5)) (blkOk_by (N := ["system", "cell", "found", "name", "point", "names", "reads", "used", "limits", "row", "limit", "read", "weight", "other", "factor"]) (sc := defScope (topS 42)) (by decide +kernel))
            (fun _ _ _ _ _ => pg_name (i := 13) nd rfl (Or.inl rfl)) (fun _ _ _ _ _ => pts_nil) (fun _ _ _ _ _ => pe_callTy call_int1 (by rfl) mi (by decide +kernel) (pa_cons (pe_cmpR op_eq (pv 13) (pv 3) (nomark _)) pa_nil))) pa_nil))))
      (pss_cons (ps_for PassesOwn.never rfl (pi_zip (by rfl) mzip (pa_cons (pe_def D3 (hr.mono (by decide)) (by rfl) (pa_cons (pv 0) (pa_cons (pv 7) (pa_cons (pv 5) pa_nil)))) (pa_cons (pv 8) pa_nil))) (pg_tup rfl (pgs_cons (pg_name (i := 9) nd rfl (.inl rfl)) (pgs_cons (pg_name (i := 10) nd rfl (.inl rfl)) pgs_nil)))
        (pss_one (ps_if (pt_not (pt_val (pe_def D6 (hr.mono (by decide)) (by rfl) (pa_cons (pe_def D5 (hr.mono (by decide)) (by rfl) (pa_cons (pe_lc (own := [("read", 11), ("factor", 14)]) (g := gTup K 2 (gCons (gName 11) (gCons (gName 14) gNil))) (tt := tYes) rfl nd (pi_zip (by rfl) mzip (pa_cons (pv 7) (pa_cons (pv 9) pa_nil)))
            (blkOk_by (N := ["system", "cell", "found", "name", "point", "names", "reads", "used", "limits", "row", "limit", "read", "weight", "other", "factor"]) (sc := defScope (topS 42)) (by decide +kernel))
            (fun _ _ _ _ _ => pg_tup rfl (pgs_cons (pg_name (i := 11) nd rfl (Or.inl rfl)) (pgs_cons (pg_name (i := 14) nd rfl (Or.inl rfl)) pgs_nil))) (fun _ _ _ _ _ => pts_nil)
            (fun _ _ _ _ _ => pe_def D4 (hr.mono (by decide)) (by rfl) (pa_cons (pe_dget hu (pv 2) (pv 11) (fun _ _ => rfl)) (pa_cons (pv 14) pa_nil)))) pa_nil)) (pa_cons (pv 10) pa_nil))))) pss_never pss_nil)))
      (pss_one (ps_ret (pe_def D5 (hr.mono (by decide)) (by rfl) (pa_cons (pe_listVals rfl (by rfl) mlist (pv 2)) pa_nil))))))))))), ?_⟩
    obtain ⟨t, ht⟩ := hC.tab
    obtain ⟨a, b, rfl, ha, hb⟩ := id hC.cell
    have hS := hC.sys
    have ok := hC.ok
    have cl := cnames_len ok hC.mem
    have rl := compOf_len ok n
    have d3 := ok.d3
    have kl : ks.length ≤ 12 := by
      have := nodup_le hnd hin
      omega
    obtain ⟨kvs, hq0, hkk, hkv⟩ := id hW
    have kvl : kvs.length = ks.length := by
      have := congrArg List.length hkk
      rwa [List.length_map, List.length_map] at this
    refine ⟨_, rfl, _, rfl, p, .ref a, S, n, pt, t, rfl, hS, hC.cell, ht, hC.pt.len, ok.d1, hC.pt.nn, ?_⟩
    refine ⟨_, rfl, a, _, rfl, SqT.of ha, rfl, _, _, rfl, _, _, rfl, rfl, ?_⟩
    refine ⟨_, rfl, _, rfl, p, n, S, rfl, hS, ok, fun H1 q1 a1 b1 ys s1 hq1 ha1 hb1 hys => ?_⟩
    refine ⟨q1, _, rfl, SqT.of hq1, rfl, _, _, rfl, _, _, rfl, rfl, ?_⟩
    have hq := s1 _ _ hq0
    -- the keys are reads of the piece
    refine ⟨qd, .dT kvs, hq, True.intro, fun od => ?_⟩
    have hqL : (upd H1 qd (.frz od (.dT kvs))) qd = some (.frz od (.dT kvs)) := upd_same
    have sL : SameX qd H1 (upd H1 qd (.frz od (.dT kvs))) := sameX_upd
    have un : ∀ H', Same (upd H1 qd (.frz od (.dT kvs))) H' → Same H1 (upd H' qd (.dT kvs)) := fun H' s' => unlock_same hq s'
    have hbL : (upd H1 qd (.frz od (.dT kvs))) b1 = some (.lst ys) := sL _ _ (ne_of hb1 hq (by intro z; cases z)) hb1
    have hysL : All2 (RdV (upd H1 qd (.frz od (.dT kvs)))) ys (compOf S n) := hys.mono fun v r h => h.lock hq
    generalize upd H1 qd (.frz od (.dT kvs)) = HL at hqL sL un hbL hysL ⊢
    refine ⟨_, rfl, qd, od, rfl, .inr ⟨kvs, hqL, fun D hD => ?_⟩⟩
    refine lc_map (walk_keysT (d := qd) (o := od) (kvs := kvs)) (fun j _ y => y = .bl true) (fun _ _ _ _ _ _ _ e => e) (small1000 (by omega)) hD (fun H' s' => s' _ _ hqL) (fun j H x H' _ ⟨e, _⟩ => e ▸ Same.refl _) ?_ ?_ gm_name
    · rintro j x H2o H2 acc Z hj s2 hk ⟨rfl, k, w, q2, ek, rfl, hq2⟩ hZ
      refine ⟨rfl, ?_⟩
      obtain ⟨r, er⟩ : ∃ r, ks[j]? = some r := ⟨ks[j]'(by omega), List.getElem?_eq_getElem _⟩
      have ek2 : k = rk r := by
        have e1 : (kvs.map (·.1))[j]? = some k := by rw [List.getElem?_map, ek]; rfl
        rw [hkk, List.getElem?_map, er] at e1
        exact (Option.some.inj e1).symm
      subst ek2
      refine ⟨_, rfl, _, rfl, r, b1, ys, compOf S n, ⟨q2, rfl, hq2⟩, rfl, SqL.of (s2 _ _ hbL), hysL.mono fun v r h => h.mono s2, hZ _ _ (Same.refl _) ?_⟩
      rw [decide_eq_true (hin r (List.mem_of_getElem? er))]
    intro H2 zs s2 hz hzl hzv
    have ez : zs = (List.replicate kvs.length true).map V.bl := by
      rw [List.map_replicate]
      refine List.eq_replicate_iff.mpr ⟨hzl, fun y hy => ?_⟩
      obtain ⟨i, hi⟩ := List.getElem?_of_mem hy
      exact hzv i y hi
    subst ez
    refine ⟨s2 _ _ hqL, ?_⟩
    have s3 : Same H1 (upd H2 qd (.dT kvs)) := un H2 s2
    have hD3 : (upd H2 qd (.dT kvs)) D = some (.lst ((List.replicate kvs.length true).map V.bl)) := by
      rw [upd_ne (ne_of hz (s2 _ _ hqL) (by intro z; cases z))]
      exact hz
    generalize upd H2 qd (.dT kvs) = H3 at s3 hD3 ⊢
    refine ⟨D, _, rfl, SqL.of hD3, _, rfl, ?_⟩
    have eall : (List.replicate kvs.length true).all id = true := by
      rw [List.all_eq_true]
      exact fun x hx => (List.mem_replicate.mp hx).2
    rw [eall]
    refine iteF ?_
    -- no weight below 0
    have hq3 := s3 _ _ hq
    refine ⟨_, rfl, qd, _, rfl, .inr ⟨kvs, hq3, rfl⟩, fun l hl => ?_⟩
    have s4 : Same H3 (upd H3 l (.lst (kvs.map (·.2)))) := same_upd hl
    have hl4 : (upd H3 l (.lst (kvs.map (·.2)))) l = some (.lst (kvs.map (·.2))) := upd_same
    generalize upd H3 l (.lst (kvs.map (·.2))) = H4 at s4 hl4 ⊢
    have s04 : Same H H4 := (s1.trans s3).trans s4
    refine ⟨l, rfl, ⟨_, SqL.of hl4⟩, fun D2 hD2 => ?_⟩
    refine lc_map (walk_list (K := K) (a := l) (xs := kvs.map (·.2))) (fun j _ y => y = .bl true) (fun _ _ _ _ _ _ _ e => e) (small1000 (by rw [List.length_map]; omega)) hD2 (fun H' s' => SqL.of (s' _ _ hl4)) (fun j H x H' _ => y_at j H x H') ?_ ?_ gm_name
    · rintro j x H5o H5 acc Z hj s5 hk ⟨rfl, ex⟩ hZ
      rw [List.length_map] at hj
      refine ⟨rfl, ?_⟩
      obtain ⟨kv, ekv⟩ : ∃ kv, kvs[j]? = some kv := ⟨kvs[j], List.getElem?_eq_getElem hj⟩
      obtain ⟨r, er⟩ : ∃ r, ks[j]? = some r := ⟨ks[j]'(by omega), List.getElem?_eq_getElem _⟩
      obtain ⟨o, e1, e2⟩ := hkv j kv r ekv er
      have ex' : x = .ref o := by
        rw [List.getElem?_map, ekv] at ex
        rw [← e1]
        exact (Option.some.inj ex).symm
      subst ex'
      refine ⟨_, rfl, o, _, 0, .int (red (m r) E).1, rfl, rfl, SqT.of (s5 _ _ (s04 _ _ e2)), atI_nat (j := 0) rfl, _, _, rfl, rfl, hZ _ _ (Same.refl _) ?_⟩
      have := (red_nonneg (n := m r) hE).mpr (hm r (List.mem_of_getElem? er)).1
      exact congrArg V.bl (decide_eq_true this)
    intro H5 zs s5 hz5 hzl5 hzv5
    rw [List.length_map] at hzl5
    have ez : zs = (List.replicate kvs.length true).map V.bl := by
      rw [List.map_replicate]
      refine List.eq_replicate_iff.mpr ⟨hzl5, fun y hy => ?_⟩
      obtain ⟨i, hi⟩ := List.getElem?_of_mem hy
      exact hzv5 i y hi
    subst ez
    refine ⟨D2, _, rfl, SqL.of hz5, _, rfl, ?_⟩
    rw [eall]
    refine iteF ?_
    have s05 := s04.trans s5
    -- used
    refine ⟨_, rfl, qd, kvs, ks, rfl, s05 _ _ hq0, hkk, by omega, fun us u hus hu1 => ?_⟩
    have s6 : Same H5 (upd H5 u (.lst us)) := same_upd hu1
    have hu6 : (upd H5 u (.lst us)) u = some (.lst us) := upd_same
    generalize upd H5 u (.lst us) = H6 at s6 hu6 ⊢
    have s06 := s05.trans s6
    have hus6 : All2 (RdV H6) us (rsort ks) := hus.mono fun v r h => h.mono s6
    -- limits
    have ha6 := ((((s3.trans s4).trans s5).trans s6) _ _ ha1)
    refine ⟨_, rfl, b, _, rfl, .inl (SqT.of (s06 _ _ hb)), ?_⟩
    refine ⟨_, rfl, a1, rfl, ⟨_, SqL.of ha6⟩, fun D3 hD3' => ?_⟩
    refine lc_map (walk_list (K := K) (a := a1) (xs := (cnames S n).map V.str)) (fun j _ y => y = .int (b2z (decide ((cnames S n).getD j ⟨#[]⟩ = n)))) (fun _ _ _ _ _ _ _ e => e) (small1000 (by rw [List.length_map]; omega)) hD3' (fun H' s' => SqL.of (s' _ _ ha6)) (fun j H x H' _ => y_at j H x H') ?_ ?_ gm_name
    · rintro j x H2o H2 acc Z hj s2 hk ⟨rfl, ex⟩ hZ
      rw [List.length_map] at hj
      obtain ⟨m, em⟩ : ∃ m, (cnames S n)[j]? = some m := ⟨(cnames S n)[j], List.getElem?_eq_getElem hj⟩
      have ex' : x = .str m := by
        rw [List.getElem?_map, em] at ex
        exact (Option.some.inj ex).symm
      subst ex'
      refine ⟨rfl, ?_⟩
      refine ⟨_, rfl, _, rfl, rfl, .inr ⟨_, rfl, hZ _ _ (Same.refl _) ?_⟩⟩
      have hbb : decide (V.str m = V.str n) = decide (m = n) := by
        rw [Bool.eq_iff_iff]
        simp
      show V.int (if decide (V.str m = V.str n) = true then 1 else 0) = _
      rw [getD_at em, hbb]
      rfl
    intro H7 zs s7 hz7 hzl7 hzv7
    rw [List.length_map] at hzl7
    refine ⟨D3, zs, rfl, .inr (SqL.of hz7), ?_⟩
    have hpt := hC.pt
    have elim : pt.map V.int ++ (zs ++ []) = fnV (wlp S n pt).h (wlp S n pt).b := by
      rw [List.append_nil]
      refine fnV_of (by rw [List.length_append, List.length_map, hzl7, hpt.len]; rfl) fun j y hy => ?_
      show y = .int (if j < S.d then pt.getD j 0 else b2z (decide ((cnames S n).getD (j - S.d) ⟨#[]⟩ = n)))
      by_cases hjd : j < S.d
      · rw [List.getElem?_append_left (by rw [List.length_map, hpt.len]; exact hjd), List.getElem?_map] at hy
        obtain ⟨x, e, _⟩ := hpt.at hjd
        rw [e] at hy
        rw [if_pos hjd, getD_at e]
        exact (Option.some.inj hy).symm
      · rw [List.getElem?_append_right (by rw [List.length_map, hpt.len]; omega), List.length_map, hpt.len] at hy
        rw [if_neg hjd]
        exact hzv7 _ y hy
    have hsz : (pt.map V.int ++ (zs ++ [])).length ≤ sizeLine := by
      rw [elim, fnV_len]
      exact Nat.le_of_lt (small1000 (by show S.d + (cnames S n).length ≤ 1000; omega))
    refine ⟨hsz, fun L1 hL1 => ?_⟩
    rw [elim]
    have s8 : Same H7 (upd H7 L1 (.lst (fnV (wlp S n pt).h (wlp S n pt).b))) := same_upd hL1
    have hL8 : (upd H7 L1 (.lst (fnV (wlp S n pt).h (wlp S n pt).b))) L1 = some (.lst (fnV (wlp S n pt).h (wlp S n pt).b)) := upd_same
    generalize upd H7 L1 (.lst (fnV (wlp S n pt).h (wlp S n pt).b)) = H8 at s8 hL8 ⊢
    have s68 := s7.trans s8
    have s08 := s06.trans s68
    have rsl : (rsort ks).length = ks.length := (rsort_perm ks).length_eq
    have hinr : ∀ r ∈ rsort ks, r ∈ ks := fun r hr => mem_rsort.mp hr
    have hnamed : ∀ r ∈ ks, r ∈ S.named := fun r hr => (mem_compOf.mp (hin r hr)).1
    refine ⟨_, rfl, _, rfl, _, rfl, p, u, a1, S, us, rsort ks, cnames S n, rfl, hS.mono s08, SqL.of (s68 _ _ hu6), hus6.mono fun v r h => h.mono s68, SqL.of (s68 _ _ ha6), fun r hr => ok.all r (hnamed r (hinr r hr)), fun r hr => (ok.read (hnamed r (hinr r hr))).1, d3, by omega, by omega, fun H9 q9 rows s9 _ hq9 hrl hrw => ?_⟩
    have s09 := s08.trans s9
    refine ⟨_, rfl, q9, L1, rows.map V.ref, fnV (wlp S n pt).h (wlp S n pt).b, rfl, SqL.of hq9, SqL.of (s9 _ _ hL8), ?_⟩
    have hh : (wlp S n pt).h = S.d + (cnames S n).length := rfl
    refine for_it (walk_zip (K := K) (a := q9) (b := L1) (xs := rows.map V.ref) (ys := fnV (wlp S n pt).h (wlp S n pt).b) (n := (wlp S n pt).h) (by rw [fnV_len, List.length_map, hrl, hh]; omega))
      (fun i σ H' => (∃ y9 y10 y11 y12 y13 y14, σ = [some (.ref p), some (.ref a), some (.ref qd), some (.str n), some (.ref b), some (.ref a1), some (.ref b1), some (.ref u), some (.ref L1), y9, y10, y11, y12, y13, y14]) ∧ Same H9 H') ⟨⟨none, none, none, none, none, none, rfl⟩, Same.refl _⟩ (fun i σ H' _ ⟨_, s'⟩ => ⟨SqL.of (s' _ _ hq9), SqL.of (s' _ _ (s9 _ _ hL8))⟩) ?_ ?_
    · rintro i x σ H10 H11 hi ⟨⟨y9, y10, y11, y12, y13, y14, rfl⟩, s10⟩ ⟨tt, x1, x2, rfl, nt, rfl, e1, e2⟩
      rw [hh] at hi
      obtain ⟨ra, era⟩ : ∃ ra, rows[i]? = some ra := ⟨rows[i]'(by omega), List.getElem?_eq_getElem _⟩
      have ex1 : x1 = .ref ra := Option.some.inj (e1.symm.trans (ref_at era))
      have ex2 : x2 = .int ((wlp S n pt).b i) := Option.some.inj (e2.symm.trans (fnV_at (by rw [hh]; exact hi)))
      subst ex1
      subst ex2
      have s11 : Same H10 (upd H10 tt (.tup [.ref ra, .int ((wlp S n pt).b i)])) := same_upd nt
      have ht11 : (upd H10 tt (.tup [.ref ra, .int ((wlp S n pt).b i)])) tt = some (.tup [.ref ra, .int ((wlp S n pt).b i)]) := upd_same
      generalize upd H10 tt (.tup [.ref ra, .int ((wlp S n pt).b i)]) = H11 at s11 ht11 ⊢
      refine ⟨tt, _, rfl, SqT.of ht11, rfl, _, _, rfl, _, _, rfl, rfl, ?_⟩
      have s911 := s10.trans s11
      have s011 := s09.trans s911
      have hrow := s911 _ _ (hrw i ra era).1
      have hu11 := s911 _ _ (s9 _ _ (s68 _ _ hu6))
      have husl : us.length = (rsort ks).length := hus6.1
      refine ⟨_, rfl, _, rfl, u, ra, us, fnV (rsort ks).length (aOf S (rsort ks) (cnames S n) i), rfl, SqL.of hu11, SqL.of hrow, fun D4 hD4 => ?_⟩
      refine lc_map (walk_zip (K := K) (a := u) (b := ra) (xs := us) (ys := fnV (rsort ks).length (aOf S (rsort ks) (cnames S n) i)) (n := ks.length) (by rw [fnV_len, husl, rsl]; omega)) (fun j H' y => ∃ o, y = .ref o ∧ o ≠ D4 ∧ H' o = some (frV (red (m ((rsort ks).getD j rd0) * aRd S (cnames S n) i ((rsort ks).getD j rd0)) E))) (fun j H1 H2 y acc hD sx ⟨o, e, n, h⟩ => ⟨o, e, n, sx _ _ n h⟩) (small1000 (by omega)) hD4
          (fun H' s' => ⟨SqL.of (s' _ _ hu11), SqL.of (s' _ _ hrow)⟩) (fun j H x H' _ => y_pair j H x H') ?_ ?_ gm_pair
      · rintro j x H12 H13 acc Z hj s12 hacc ⟨t3, x3, x4, rfl, nt3, rfl, e3, e4⟩ hZ
        obtain ⟨r, er, tr, rfl, htr⟩ := hus6.at e3
        have hrks := hinr r (List.mem_of_getElem? er)
        have ex4 : x4 = .int (aRd S (cnames S n) i r) := by
          have := Option.some.inj (e4.symm.trans (fnV_at (by omega)))
          rw [this, aOf_rd, getD_at er]
        subst ex4
        rw [getD_at er] at hZ
        have s13 : Same H12 (upd H12 t3 (.tup [.ref tr, .int (aRd S (cnames S n) i r)])) := same_upd nt3
        have ht13 : (upd H12 t3 (.tup [.ref tr, .int (aRd S (cnames S n) i r)])) t3 = some (.tup [.ref tr, .int (aRd S (cnames S n) i r)]) := upd_same
        generalize upd H12 t3 (.tup [.ref tr, .int (aRd S (cnames S n) i r)]) = H13 at s13 ht13 hacc s12 hZ ⊢
        refine ⟨t3, _, rfl, SqT.of ht13, rfl, _, _, rfl, _, _, rfl, rfl, ?_⟩
        refine ⟨rfl, ?_⟩
        obtain ⟨kvs', o, g1, g2, g3⟩ := (hW.mono (s011.trans s12)).val hrks
        have htr13 : H13 tr = some (.tup ((rk r).map kV)) := s12 _ _ (s911 _ _ (s9 _ _ (s68 _ _ htr)))
        refine ⟨_, rfl, _, rfl, qd, .ref o, rfl, by rw [← g2]; exact DGet.t g1 htr13, ?_⟩
        have mr := hm r hrks
        refine ⟨_, rfl, .ref o, (red (m r) E).1, (red (m r) E).2, _, rfl, ⟨o, rfl, SqT.of g3⟩, red_pos hE, Nat.lt_of_le_of_lt (red_abs2 _ _) bE, Nat.lt_of_le_of_lt (red_abs1 _ _) (bd_3900 mr.2), bd_100 (Nat.le_trans (aRd_abs ok (hnamed r hrks) _ _) (by decide)), fun o2 ho2 => ?_⟩
        rw [red_times hE]
        exact hZ _ _ (same_upd ho2) ⟨o2, rfl, (ne_of_none hacc ho2).symm, upd_same⟩
      · intro H12 zs s12 hz hzl hzv
        have hns : All2 (fun x nn => FrAt K H12 x (red nn E)) zs ((rsort ks).map fun r => m r * aRd S (cnames S n) i r) := ⟨by rw [hzl, List.length_map, rsl], fun j x nn hx hn => by
          rw [List.getElem?_map] at hn
          cases er : (rsort ks)[j]? with
          | none =>
            rw [er] at hn
            cases hn
          | some r =>
            rw [er] at hn
            have := Option.some.inj hn
            subst this
            obtain ⟨o, e, _, h⟩ := hzv j x hx
            rw [getD_at er] at h
            exact ⟨o, e, SqT.of h⟩⟩
        refine ⟨D4, zs, _, E, rfl, SqL.of hz, hns, hE, bE, fun nn hn => ?_, by rw [List.length_map, rsl]; omega, fun H13 o s13 _ ho => ?_⟩
        · obtain ⟨r, hr, rfl⟩ := List.mem_map.mp hn
          have hrk := hinr r hr
          exact bd_a (hm r hrk).2 (aRd_abs ok (hnamed r hrk) _ _)
        · have hbS := wlp_small ok hC.mem hC.pt
          refine ⟨_, rfl, .ref o, _, E, (wlp S n pt).b i, rfl, ⟨o, rfl, SqT.of ho⟩, hE, bE, bd_100 (hbS.b i (by rw [hh]; exact hi)), ?_⟩
          have hsum : ((rsort ks).map fun r => m r * aRd S (cnames S n) i r).sum ≤ (wlp S n pt).b i * E := by
            rw [perm_sum (rsort_perm ks)]
            have := hfe i (by rw [hh]; exact hi)
            have e : (ks.map fun r => m r * aRd S (cnames S n) i r) = ks.map fun k => aRd S (cnames S n) i k * m k := List.map_congr_left fun k _ => Int.mul_comm _ _
            rw [e]
            exact this
          rw [decide_eq_true hsum]
          refine ⟨_, rfl, ?_⟩
          refine iteF ?_
          exact ⟨⟨_, _, _, _, _, _, rfl⟩, (s911.trans s12).trans s13⟩
    · rintro σ H10 ⟨⟨y9, y10, y11, y12, y13, y14, rfl⟩, s10⟩
      have s010 := s09.trans s10
      refine ⟨_, rfl, qd, _, rfl, .inr ⟨kvs, s010 _ _ hq0, rfl⟩, fun l2 hl2 => ?_⟩
      have s11 : Same H10 (upd H10 l2 (.lst (kvs.map (·.2)))) := same_upd hl2
      have hl11 : (upd H10 l2 (.lst (kvs.map (·.2)))) l2 = some (.lst (kvs.map (·.2))) := upd_same
      generalize upd H10 l2 (.lst (kvs.map (·.2))) = H11 at s11 hl11 ⊢
      have s011 := s010.trans s11
      refine ⟨l2, _, ks.map m, E, rfl, SqL.of hl11, ⟨by rw [List.length_map, List.length_map, kvl], fun j x nn hx hn => ?_⟩, hE, bE, fun nn hn => ?_, by rw [List.length_map]; omega, fun H12 o s12 _ ho => ?_⟩
      · rw [List.getElem?_map] at hx hn
        cases ek : kvs[j]? with
        | none =>
          rw [ek] at hx
          cases hx
        | some kv =>
          cases er : ks[j]? with
          | none =>
            rw [er] at hn
            cases hn
          | some r =>
            rw [ek] at hx
            rw [er] at hn
            obtain ⟨o, e1, e2⟩ := hkv j kv r ek er
            have h1 := Option.some.inj hx
            have h2 := Option.some.inj hn
            subst h1
            subst h2
            exact ⟨o, e1, SqT.of (s011 _ _ e2)⟩
      · obtain ⟨r, hr, rfl⟩ := List.mem_map.mp hn
        exact bd_3900 (hm r hr).2
      · exact q H12 o (s011.trans s12) ho
end
end Frd
set_option Elab.async false
set_option linter.all false
set_option maxRecDepth 100000
set_option maxHeartbeats 4000000
set_option pp.maxSteps 1000
/-! bound_worth. -/
namespace Frd
open PySem PySem.Spec PyProof.Rows L2
theorem walk_zipT {K : PySem.W.Frag} {a b : Addr} {xs ys : List V} {n : Nat} (hn : n = min xs.length ys.length) : Walk (RZ.ItzT K a b) n (fun H => SqT K H a xs ∧ SqT K H b ys) (YPair (fun i => xs[i]?) (fun i => ys[i]?)) := by
  subst hn
  refine ⟨fun i _ hi q => ?_, fun _ q => ⟨xs, ys, q.1, q.2, by omega⟩, fun i H v H' _ q y => ?_⟩
  · have h1 : i < xs.length := by omega
    have h2 : i < ys.length := by omega
    exact ⟨xs, ys, xs[i], ys[i], q.1, q.2, by simp [h1], by simp [h2]⟩
  · obtain ⟨T, x, y, h1, h2, h3, h4, h5⟩ := y
    exact ⟨T, x, y, h1, h2, h3, h4 xs q.1, h5 ys q.2⟩
section
variable {X : Cx}
def rNeSame (K : PySem.W.Frag) : R2 := fun x y H Q => ∃ (a b : Addr) (ns : List Str), x = .ref a ∧ y = .ref b ∧ SqL K H a (ns.map V.str) ∧ SqL K H b (ns.map V.str) ∧ Q (.bl false) H
theorem op_neSame (hu : X.A.units < cLine) : OpR X (compareOp .NotEq) (rNeSame X.K) := by
  intro pins s σ H x y v u Q I rx ry h
  obtain ⟨a, b, ns, rfl, rfl, ha, hb, q⟩ := h
  cases rx
  cases ry
  obtain ⟨us, r1, p1, _⟩ := I.list ha
  obtain ⟨ws, r2, p2, _⟩ := I.list hb
  have l1 := r1.length
  have l2 := r2.length
  have h := SeqAt.RcNeAt.lists p1.isList p2.isList (by rw [List.size_toArray, List.size_toArray, ← l1, ← l2]) hu (e := fun _ => true) (fun j h1 h2 => ?_)
  · have e : (!(List.range us.toArray.size).all fun _ => true) = false := by
      rw [List.all_eq_true.mpr fun _ _ => rfl]
      rfl
    rw [e] at h
    exact h _ _ _ _ ⟨.bl false, H, I, rfl, q⟩
  · obtain ⟨x1, e1, q1⟩ := vals_at r1 (i := j) (u := us.toArray[j]) (by simp)
    obtain ⟨x2, e2, q2⟩ := vals_at r2 (i := j) (u := ws.toArray[j]) (by simp)
    rw [e1] at e2
    have := Option.some.inj e2
    subst this
    rw [List.getElem?_map] at e1
    cases en : ns[j]? with
    | none =>
      rw [en] at e1
      cases e1
    | some n =>
      rw [en] at e1
      have := Option.some.inj e1
      subst this
      obtain ⟨t1, z1⟩ := q1
      obtain ⟨t2, z2⟩ := q2
      rw [z1, z2]
      have := SeqAt.EqAt.str_str (A := X.A.in1) (s := s) n t1 n t2
      simpa using this
end
theorem range_sum (d : Nat) (g : Nat → Int) : ((List.range d).map g).sum = sumN d g := by
  induction d with
  | zero => rfl
  | succ d ih =>
    rw [List.range_succ, List.map_append, List.sum_append, ih]
    show sumN d g + (g d + 0) = sumN d g + g d
    omega
theorem nodup_at {ns : List Str} (hn : ns.Nodup) {i j : Nat} {x : Str} (h1 : ns[i]? = some x) (h2 : ns[j]? = some x) : i = j := by
  have a := (List.getElem?_eq_some_iff.mp h1)
  have b := (List.getElem?_eq_some_iff.mp h2)
  obtain ⟨a1, a2⟩ := a
  obtain ⟨b1, b2⟩ := b
  exact (List.getElem_inj hn).mp (a2.trans b2.symm)
theorem pick_sum {ns : List Str} (hn : ns.Nodup) {i : Nat} {x : Str} (h : ns[i]? = some x) (g : Nat → Int) : sumN ns.length (fun k => b2z (decide (x = ns.getD k ⟨#[]⟩)) * g k) = g i := by
  have hi := (List.getElem?_eq_some_iff.mp h).1
  rw [sumN_one hi fun k hk hne => ?_]
  · show b2z (decide (x = ns.getD i ⟨#[]⟩)) * g i = g i
    rw [getD_at h, decide_eq_true rfl]
    show 1 * g i = g i
    omega
  · have e : ns[k]? = some ns[k] := List.getElem?_eq_getElem hk
    show b2z (decide (x = ns.getD k ⟨#[]⟩)) * g k = 0
    rw [getD_at e, decide_eq_false]
    · show 0 * g k = 0
      omega
    · intro z
      exact hne (nodup_at hn e (by rw [h, z])).symm.symm
/-- a read's column against f -/
theorem col_sum {S : Sys} {ns : List Str} (hn : ns.Nodup) {r : Rd2} {i1 i2 : Nat} (h1 : ns[i1]? = some r.1) (h2 : ns[i2]? = some (S.tg r)) (f : Nat → Int) : sumN (S.d + ns.length) (fun c => aRd S ns c r * f c) = sumN S.d (fun c => (S.vc r).getD c 0 * f c) + f (S.d + i1) - f (S.d + i2) := by
  rw [sumN_split]
  have e1 : sumN S.d (fun c => aRd S ns c r * f c) = sumN S.d (fun c => (S.vc r).getD c 0 * f c) := sumN_congr fun c hc => by
    unfold aRd
    rw [if_pos hc]
  have e2 : sumN ns.length (fun i => aRd S ns (S.d + i) r * f (S.d + i)) = f (S.d + i1) - f (S.d + i2) := by
    have : ∀ i, aRd S ns (S.d + i) r * f (S.d + i) = b2z (decide (r.1 = ns.getD i ⟨#[]⟩)) * f (S.d + i) - b2z (decide (S.tg r = ns.getD i ⟨#[]⟩)) * f (S.d + i) := fun i => by
      unfold aRd
      rw [if_neg (by omega), Nat.add_sub_cancel_left, Int.sub_mul]
    rw [sumN_congr fun i _ => this i, sumN_sub, pick_sum hn h1 (fun i => f (S.d + i)), pick_sum hn h2 (fun i => f (S.d + i))]
  rw [e1, e2]
  omega
/-- a cell's limits against f -/
theorem lim_sum {S : Sys} {n : Str} {pt : List Int} {i : Nat} (h : (cnames S n)[i]? = some n) (f : Nat → Int) : sumN (wlp S n pt).h (fun c => (wlp S n pt).b c * f c) = sumN S.d (fun c => pt.getD c 0 * f c) + f (S.d + i) := by
  show sumN (S.d + (cnames S n).length) _ = _
  rw [sumN_split]
  have e1 : sumN S.d (fun c => (wlp S n pt).b c * f c) = sumN S.d (fun c => pt.getD c 0 * f c) := sumN_congr fun c hc => by
    show (if c < S.d then pt.getD c 0 else _) * _ = _
    rw [if_pos hc]
  have e2 : sumN (cnames S n).length (fun i => (wlp S n pt).b (S.d + i) * f (S.d + i)) = f (S.d + i) := by
    have : ∀ i, (wlp S n pt).b (S.d + i) * f (S.d + i) = b2z (decide (n = (cnames S n).getD i ⟨#[]⟩)) * f (S.d + i) := fun i => by
      show (if S.d + i < S.d then _ else b2z (decide ((cnames S n).getD (S.d + i - S.d) ⟨#[]⟩ = n))) * _ = _
      rw [if_neg (by omega), Nat.add_sub_cancel_left]
      have : decide ((cnames S n).getD i ⟨#[]⟩ = n) = decide (n = (cnames S n).getD i ⟨#[]⟩) := decide_eq_decide.mpr eq_comm
      rw [this]
    rw [sumN_congr fun i _ => this i, pick_sum (cnames_nodup S n) h (fun i => f (S.d + i))]
  rw [e1, e2]
theorem nums_at {H : Hp} {hd : Addr} {ns : List Str} {kvs : List (Key × V)} {f : Nat → Int × Int} (h5 : H hd = some (.dK kvs)) (h6 : kvs.map (·.1) = ns.map Sum.inr) (h7 : FrsAt H (kvs.map (·.2)) f) (hn : ns.Nodup) {i : Nat} {x : Str} (hx : ns[i]? = some x) : ∃ o, DGet H hd (.str x) (some (.ref o)) ∧ H o = some (frV (f i)) := by
  have hm : (Sum.inr x : Key) ∈ kvs.map (·.1) := by
    rw [h6]
    exact List.mem_map.mpr ⟨x, List.mem_of_getElem? hx, rfl⟩
  obtain ⟨j, kv, e1, e2, e3⟩ := valV_mem hm
  have ek : (ns.map (Sum.inr : Str → Key))[j]? = some (Sum.inr x) := by
    rw [← h6, List.getElem?_map, e1, ← e2]
    rfl
  rw [List.getElem?_map] at ek
  cases er : ns[j]? with
  | none =>
    rw [er] at ek
    cases ek
  | some y =>
    rw [er] at ek
    have ey : y = x := Sum.inr.inj (Option.some.inj ek)
    subst ey
    have ej := nodup_at hn hx er
    subst ej
    obtain ⟨o, o1, o2⟩ := h7 i kv.2 (by rw [List.getElem?_map, e1]; rfl)
    refine ⟨o, ?_, o2⟩
    have := DGet.k (k := Sum.inr y) h5
    rw [e3, o1] at this
    exact this
theorem bd_3800 {x a : Int} (hx : x.natAbs ≤ 2 ^ 3800) (ha : a.natAbs ≤ 2 ^ 100) : Bd (x * a) := by
  unfold Bd
  rw [Int.natAbs_mul]
  have h1 : x.natAbs * a.natAbs ≤ 2 ^ 3800 * 2 ^ 100 := Nat.mul_le_mul hx ha
  have h2 : 2 ^ 3800 * 2 ^ 100 < 2 ^ 4000 := by decide +kernel
  omega
theorem bd_38 {x : Int} (hx : x.natAbs ≤ 2 ^ 3800) : Bd x := Nat.lt_of_le_of_lt hx (Nat.pow_lt_pow_right (by omega) (by omega))
theorem abs_30 {x : Int} (h1 : 0 ≤ x) (h2 : x ≤ 10 ^ 30) : x.natAbs ≤ 2 ^ 100 := by
  have h3 : (10 : Int) ^ 30 ≤ ((2 ^ 100 : Nat) : Int) := by decide
  generalize (2 ^ 100 : Nat) = B at h3 ⊢
  omega
theorem idx_of {ns : List Str} {x : Str} (h : x ∈ ns) : ∃ i : Nat, ns[i]? = some x := List.getElem?_of_mem h
section
variable {P : Program} {w : World} {K : PySem.W.Frag} {mg : Str → Option Value} {base : Heap} {C CP : Addr}
theorem scBw : FnScope ["system", "cell", "found", "name", "point", "vector", "heights", "names", "reads", "read", "parts", "fall", "top", "bottom", "one", "number"] ["system", "cell", "found"] (defScope (topS 41)) := ⟨rfl, rfl, rfl, by decide +kernel, rfl, by decide +kernel, by decide +kernel⟩
def spBw (C : Addr) : Sp := fun vs H Q _ => ∃ (p q : Addr) (v : V) (S : Sys) (n : Str) (pt : List Int) (f : Nat → Int) (E : Int), vs = [.ref p, v, .ref q] ∧ CellOk C H p v S n pt ∧ NumsAt H q S.d (cnames S n) (fun c => red (f c) E) ∧ 0 < E ∧ Bd E ∧ (∀ c, c < (wlp S n pt).h → 0 ≤ f c ∧ (f c).natAbs ≤ 2 ^ 3800) ∧
  (∀ r ∈ compOf S n, E ≤ sumN (wlp S n pt).h (fun c => aRd S (cnames S n) c r * f c)) ∧ ∀ H' o, Same H H' → H' o = some (frV (red (sumN (wlp S n pt).h (fun c => (wlp S n pt).b c * f c)) E)) → Q (.ref o) H'
theorem ok_bw {f : Addr} {fd : FuncData} (F : Fun K "bound_worth" "bound_worth" (topS 41) f fd) (T : TxS K C) (mlen : mg "len" = none) (mlist : mg "list" = none) (msorted : mg "sorted" = none) (mmin : mg "min" = none) (mzip : mg "zip" = none)
    (D1 : Dn P w K mg base "check_cell" 2 ["system", "cell"] (spCc C)) (D2 : Dn P w K mg base "piece_of" 3 ["system", "name"] (spPo C)) (D3 : Dn P w K mg base "vector_of" 1 ["system", "read"] (spVo C)) (D4 : Dn P w K mg base "so_often" 3 ["fraction", "number"] (spOft K))
    (D5 : Dn P w K mg base "sum_of_fractions" 3 ["fractions"] (spSum K)) (D6 : Dn P w K mg base "target_of" 1 ["system", "read"] (spTo C)) : FnOk P w K mg base CX0 6 f fd ["system", "cell", "found"] (spBw C) := by
  refine F.ok scBw (fun vs H Q E h => ?_) (fun cdv A outer s H vs Q E hr h => ?_)
  · obtain ⟨p, q, v, S, n, pt, f, E, rfl, _⟩ := h
    rfl
  · obtain ⟨p, qd, v, S, n, pt, g, E, rfl, hC, hW, hE, bE, hg, hge, q⟩ := h
    have nd := scBw.nd
    have hu := hu_of hr
    refine ⟨_, pss_cons (ps_expr (pe_def D1 (hr.mono (by decide)) (by rfl) (pa_cons (pv 0) (pa_cons (pv 1) pa_nil))))
      (pss_cons (ps_asg (pv 1) (pg_tup rfl (pgs_cons (pg_name (i := 3) nd rfl (.inl rfl)) (pgs_cons (pg_name (i := 4) nd rfl (.inl rfl)) pgs_nil))))
      (pss_cons (ps_asg (pv 2) (pg_tup rfl (pgs_cons (pg_name (i := 5) nd rfl (.inl rfl)) (pgs_cons (pg_name (i := 6) nd rfl (.inl rfl)) pgs_nil))))
      (pss_cons (ps_asg (pe_def D2 (hr.mono (by decide)) (by rfl) (pa_cons (pv 0) (pa_cons (pv 3) pa_nil))) (pg_tup rfl (pgs_cons (pg_name (i := 7) nd rfl (.inl rfl)) (pgs_cons (pg_name (i := 8) nd rfl (.inl rfl)) pgs_nil))))
      (pss_cons (ps_if (PW.pt (pw_or (pt_cmpR op_ne (pe_callB call_len_seq (by rfl) mlen PySem.boot_len (pa_cons (pv 5) pa_nil)) (pe_fld (pv 0) rfl) (nomark _)) (pw_or1 (pt_cmpR (op_neSame hr.units0) (pe_callB (call_sortedD rfl) (by rfl) msorted (by decide +kernel) (pa_cons (pv 6) pa_nil)) (pv 7) (nomark _))))) pss_never pss_nil)
      (pss_cons (ps_if (pt_cmpR op_lt (pe_callB (cr_min rfl) (by rfl) mmin (by decide +kernel) (pa_cons (pe_lc (own := [("top", 12), ("bottom", 13)]) (g := gTup K 2 (gCons (gName 12) (gCons (gName 13) gNil))) (tt := tYes) rfl nd
            (pi_list (pe_lst (StX.pa_star (pv 5) (StX.pa_star (pe_listVals rfl (by rfl) mlist (pv 6)) pa_nil)))) (blkOk_by (N := ["system", "cell", "found", "name", "point", "vector", "heights", "names", "reads", "read", "parts", "fall", "top", "bottom", "one", "number"]) (sc := defScope (topS 41)) (by decide +kernel))
            (fun _ _ _ _ _ => pg_tup rfl (pgs_cons (pg_name (i := 12) nd rfl (Or.inl rfl)) (pgs_cons (pg_name (i := 13) nd rfl (Or.inl rfl)) pgs_nil))) (fun _ _ _ _ _ => pts_nil) (fun _ _ _ _ _ => pv 12)) pa_nil)) pe_int (nomark _)) pss_never pss_nil)
      (pss_cons (ps_for PassesOwn.never rfl (pi_list (pv 8)) (pg_name (i := 9) nd rfl (.inl rfl))
        (pss_cons (ps_setLc (i := 10) (own := [("one", 14), ("number", 15)]) (g := gTup K 2 (gCons (gName 14) (gCons (gName 15) gNil))) (tt := tYes) (by rfl) nd rfl rfl (sw_true rfl rfl rfl (by decide +kernel)) (RZ.pi_zipA (by rfl) mzip (pa_cons (pv 5) (pa_cons (pe_def D3 (hr.mono (by decide)) (by rfl) (pa_cons (pv 0) (pa_cons (pv 9) pa_nil))) pa_nil))) (blkOk_by (N := ["system", "cell", "found", "name", "point", "vector", "heights", "names", "reads", "read", "parts", "fall", "top", "bottom", "one", "number"]) (sc := defScope (topS 41)) (by decide +kernel))
            (fun _ _ _ _ _ => pg_tup rfl (pgs_cons (pg_name (i := 14) nd rfl (Or.inl rfl)) (pgs_cons (pg_name (i := 15) nd rfl (Or.inl rfl)) pgs_nil))) (fun _ _ _ _ _ => pts_nil) (fun _ _ _ _ _ => pe_def D4 (hr.mono (by decide)) (by rfl) (pa_cons (pv 14) (pa_cons (pv 15) pa_nil))))
        (pss_cons (ps_set (i := 11) nd rfl (.inl rfl) (pe_def D5 (hr.mono (by decide)) (by rfl) (pa_cons (pe_lst (StX.pa_star (pv 10) (pa_cons (pe_dget hu (pv 6) (pe_ix ix_tup (pv 9) pe_int (fun _ _ => rfl)) (fun _ _ => rfl)) (pa_cons (pe_def D4 (hr.mono (by decide)) (by rfl) (pa_cons (pe_dget hu (pv 6) (pe_def D6 (hr.mono (by decide)) (by rfl) (pa_cons (pv 0) (pa_cons (pv 9) pa_nil))) (fun _ _ => rfl)) (pa_cons (pe_un un_neg pe_int) pa_nil))) pa_nil)))) pa_nil)))
        (pss_one (ps_if (pt_cmpR op_lt (pe_ix ix_tup (pv 11) pe_int (fun _ _ => rfl)) (pe_ix ix_tup (pv 11) pe_int (fun _ _ => rfl)) (nomark _)) pss_never pss_nil)))))
      (pss_one (ps_ret (pe_def D5 (hr.mono (by decide)) (by rfl) (pa_cons (pe_lst (StX.pa_star (pe_lc (own := [("one", 14), ("number", 15)]) (g := gTup K 2 (gCons (gName 14) (gCons (gName 15) gNil))) (tt := tYes) rfl nd (RZ.pi_zipA (by rfl) mzip (pa_cons (pv 5) (pa_cons (pv 4) pa_nil))) (blkOk_by (N := ["system", "cell", "found", "name", "point", "vector", "heights", "names", "reads", "read", "parts", "fall", "top", "bottom", "one", "number"]) (sc := defScope (topS 41)) (by decide +kernel))
            (fun _ _ _ _ _ => pg_tup rfl (pgs_cons (pg_name (i := 14) nd rfl (Or.inl rfl)) (pgs_cons (pg_name (i := 15) nd rfl (Or.inl rfl)) pgs_nil))) (fun _ _ _ _ _ => pts_nil) (fun _ _ _ _ _ => pe_def D4 (hr.mono (by decide)) (by rfl) (pa_cons (pv 14) (pa_cons (pv 15) pa_nil))))
            (pa_cons (pe_dget hu (pv 6) (pv 3) (fun _ _ => rfl)) pa_nil))) pa_nil)))))))))), ?_⟩
    obtain ⟨t, ht⟩ := hC.tab
    obtain ⟨a, b, rfl, ha, hb⟩ := id hC.cell
    have hS := hC.sys
    have ok := hC.ok
    have cl := cnames_len ok hC.mem
    have rl := compOf_len ok n
    have d3 := ok.d3
    have hh : (wlp S n pt).h = S.d + (cnames S n).length := rfl
    rw [hh] at hg hge q
    obtain ⟨va, hd, vs, kvs, h1, h2, h3, h4, h5, h6, h7⟩ := id hW
    have kvl := ks_len (H := H) (d := hd) h6
    refine ⟨_, rfl, _, rfl, p, .ref a, S, n, pt, t, rfl, hS, hC.cell, ht, hC.pt.len, ok.d1, hC.pt.nn, ?_⟩
    refine ⟨_, rfl, a, _, rfl, SqT.of ha, rfl, _, _, rfl, _, _, rfl, rfl, ?_⟩
    refine ⟨_, rfl, qd, _, rfl, SqT.of h1, rfl, _, _, rfl, _, _, rfl, rfl, ?_⟩
    refine ⟨_, rfl, _, rfl, p, n, S, rfl, hS, ok, fun H1 q1 a1 b1 ys s1 hq1 ha1 hb1 hys => ?_⟩
    refine ⟨q1, _, rfl, SqT.of hq1, rfl, _, _, rfl, _, _, rfl, rfl, ?_⟩
    obtain ⟨sdx, kt, nr, skv, nrs, k1, _⟩ := (hS.mono s1).ex
    refine ⟨_, rfl, va, vs, rfl, .inr (SqT.of (s1 _ _ h2)), _, rfl, p, C, sdx, _, _, rfl, k1, T.cl, T.nd, sf_d, rfl, _, rfl, ?_⟩
    rw [h3, decide_eq_true rfl]
    refine iteF ?_
    refine ⟨_, rfl, hd, kvs, cnames S n, rfl, .inl (s1 _ _ h5), h6, by omega, fun zs u hp hs hu2 => ?_⟩
    have ez : zs = cnames S n := by
      have e1 := ssort_eq hs hp
      rw [e1]
      unfold cnames
      split
      · exact (ssort_perm [n]).eq_singleton
      · unfold tabsOf
        exact ssort_set (nodup_ssort (nodup_addKs List.nodup_nil)) (nodup_addKs List.nodup_nil) fun x => mem_ssort
    subst ez
    have s2 : Same H1 (upd H1 u (.lst ((cnames S n).map V.str))) := same_upd hu2
    have hu3 : (upd H1 u (.lst ((cnames S n).map V.str))) u = some (.lst ((cnames S n).map V.str)) := upd_same
    generalize upd H1 u (.lst ((cnames S n).map V.str)) = H2 at s2 hu3 ⊢
    have s02 := s1.trans s2
    refine ⟨_, rfl, u, a1, cnames S n, rfl, rfl, SqL.of hu3, SqL.of (s2 _ _ ha1), _, rfl, ?_⟩
    refine iteF ?_
    -- nothing below 0
    refine ⟨_, rfl, va, vs, rfl, .inl (SqT.of (s02 _ _ h2)), ?_⟩
    refine ⟨_, rfl, hd, _, rfl, .inl ⟨kvs, s02 _ _ h5, rfl⟩, fun l hl => ?_⟩
    have s3 : Same H2 (upd H2 l (.lst (kvs.map (·.2)))) := same_upd hl
    have hl3 : (upd H2 l (.lst (kvs.map (·.2)))) l = some (.lst (kvs.map (·.2))) := upd_same
    generalize upd H2 l (.lst (kvs.map (·.2))) = H3 at s3 hl3 ⊢
    have s03 := s02.trans s3
    refine ⟨l, _, rfl, .inr (SqL.of hl3), ?_⟩
    have lall : (vs ++ ((kvs.map fun kv : Key × V => kv.2) ++ [])).length = S.d + (cnames S n).length := by
      rw [List.append_nil, List.length_append, List.length_map, h3, kvl]
    have hsz : (vs ++ ((kvs.map fun kv : Key × V => kv.2) ++ [])).length ≤ sizeLine := by
      rw [lall]
      exact Nat.le_of_lt (small1000 (by omega))
    refine ⟨hsz, fun L hL => ?_⟩
    have fall : FrsAt H (vs ++ ((kvs.map fun kv : Key × V => kv.2) ++ [])) (fun c => red (g c) E) := fun j x e => by
      rw [List.append_nil] at e
      by_cases hj : j < S.d
      · rw [List.getElem?_append_left (by omega)] at e
        exact h4 j x e
      · rw [List.getElem?_append_right (by omega), h3] at e
        obtain ⟨o, e1, e2⟩ := h7 _ x e
        refine ⟨o, e1, ?_⟩
        rw [e2]
        show some (frV (red (g (S.d + (j - S.d))) E)) = some (frV (red (g j) E))
        rw [show S.d + (j - S.d) = j by omega]
    generalize vs ++ ((kvs.map fun kv : Key × V => kv.2) ++ []) = all at lall hsz fall hL ⊢
    have s4 : Same H3 (upd H3 L (.lst all)) := same_upd hL
    have hL4 : (upd H3 L (.lst all)) L = some (.lst all) := upd_same
    generalize upd H3 L (.lst all) = H4 at s4 hL4 ⊢
    have s04 := s03.trans s4
    refine ⟨L, rfl, ⟨_, SqL.of hL4⟩, fun D hD => ?_⟩
    refine lc_map (walk_list (K := K) (a := L) (xs := all)) (fun j _ y => y = .int (red (g j) E).1) (fun _ _ _ _ _ _ _ e => e) (small1000 (by omega)) hD (fun H' s' => SqL.of (s' _ _ hL4)) (fun j H x H' _ => y_at j H x H') ?_ ?_ gm_pair
    · rintro j x H5o H5 acc Z hj s5 hk ⟨rfl, ex⟩ hZ
      obtain ⟨o, rfl, ho⟩ := fall j x ex
      refine ⟨o, _, rfl, SqT.of (s5 _ _ (s04 _ _ ho)), rfl, _, _, rfl, _, _, rfl, rfl, ?_⟩
      exact ⟨rfl, _, rfl, hZ _ _ (Same.refl _) rfl⟩
    intro H5 zs s5 hz5 hzl5 hzv5
    have ez : zs = ((List.range all.length).map fun j => (red (g j) E).1).map V.int := by
      rw [List.map_map]
      exact list_of hzl5 hzv5
    subst ez
    have s05 := s04.trans s5
    refine ⟨D, _, rfl, SqL.of hz5, by rw [List.length_map, List.length_range, lall]; have := ok.d1; omega, fun mn hmn _ => ?_⟩
    obtain ⟨jm, hjm, rfl⟩ := List.mem_map.mp hmn
    rw [List.mem_range, lall] at hjm
    have hnn : 0 ≤ (red (g jm) E).1 := (red_nonneg hE).mpr (hg jm hjm).1
    refine ⟨_, _, rfl, rfl, _, rfl, ?_⟩
    rw [decide_eq_false (by omega)]
    refine iteF ?_
    -- the reads
    have hb5 := (((s2.trans s3).trans s4).trans s5) _ _ hb1
    have hys5 : All2 (RdV H5) ys (compOf S n) := hys.mono fun v r h => h.mono (((s2.trans s3).trans s4).trans s5)
    have hyl : ys.length = (compOf S n).length := hys.1
    refine ⟨_, rfl, b1, rfl, ⟨_, SqL.of hb5⟩, for_list (K := K) (a := b1) (xs := ys) (fun i σ H' => (∃ y9 y10 y11 y12 y13 y14 y15, σ = [some (.ref p), some (.ref a), some (.ref qd), some (.str n), some (.ref b), some (.ref va), some (.ref hd), some (.ref a1), some (.ref b1), y9, y10, y11, y12, y13, y14, y15]) ∧ Same H5 H') ⟨⟨none, none, none, none, none, none, none, rfl⟩, Same.refl _⟩ (fun i σ H' _ ⟨_, s'⟩ => SqL.of (s' _ _ hb5)) ?_ ?_⟩
    · rintro i x σ H6 ex ⟨⟨y9, y10, y11, y12, y13, y14, y15, rfl⟩, s6⟩
      obtain ⟨r, er, hrv⟩ := hys5.at ex
      have hrc := List.mem_of_getElem? er
      have hrn := (mem_compOf.mp hrc).1
      obtain ⟨y, hy⟩ := ok.all r hrn
      obtain ⟨rvl, rva, _, _⟩ := ok.read hrn
      have s06 := s05.trans s6
      refine ⟨_, rfl, _, rfl, _, rfl, p, x, S, r, y, rfl, hS.mono s06, hrv.mono s6, hy, fun vb hvb => ?_⟩
      rw [← vc_of hy] at hvb
      refine ⟨va, vb, vs, (S.vc r).map V.int, rfl, .inr ⟨SqT.of (s06 _ _ h2), SqT.of hvb, fun D2 hD2 => ?_⟩⟩
      refine lc_map (walk_zipT (K := K) (a := va) (b := vb) (xs := vs) (ys := (S.vc r).map V.int) (n := S.d) (by rw [List.length_map, rvl, h3]; omega)) (fun j H' y => ∃ o, y = .ref o ∧ o ≠ D2 ∧ H' o = some (frV (red (g j * (S.vc r).getD j 0) E))) (fun j H1 H2 y acc hD sx ⟨o, e, n, h⟩ => ⟨o, e, n, sx _ _ n h⟩) (small1000 (by omega)) hD2
          (fun H' s' => ⟨SqT.of (s' _ _ (s06 _ _ h2)), SqT.of (s' _ _ hvb)⟩) (fun j H x H' _ => y_pair j H x H') ?_ ?_ gm_pair
      · rintro j x H7 H8 acc Z hj s7 hacc ⟨t3, x3, x4, rfl, nt3, rfl, e3, e4⟩ hZ
        obtain ⟨o, rfl, ho⟩ := h4 j x3 e3
        obtain ⟨w0, ew⟩ : ∃ w0, (S.vc r)[j]? = some w0 := ⟨(S.vc r)[j]'(by omega), List.getElem?_eq_getElem _⟩
        have ex4 : x4 = .int w0 := by
          have e4' : ((S.vc r).map V.int)[j]? = some x4 := e4
          rw [List.getElem?_map, ew] at e4'
          exact (Option.some.inj e4').symm
        subst ex4
        rw [getD_at ew] at hZ
        have s8 : Same H7 (upd H7 t3 (.tup [.ref o, .int w0])) := same_upd nt3
        have ht8 : (upd H7 t3 (.tup [.ref o, .int w0])) t3 = some (.tup [.ref o, .int w0]) := upd_same
        generalize upd H7 t3 (.tup [.ref o, .int w0]) = H8 at s8 ht8 hacc s7 hZ ⊢
        refine ⟨t3, _, rfl, SqT.of ht8, rfl, _, _, rfl, _, _, rfl, rfl, ?_⟩
        refine ⟨rfl, ?_⟩
        have gj := hg j (by omega)
        refine ⟨_, rfl, _, rfl, .ref o, (red (g j) E).1, (red (g j) E).2, _, rfl, ⟨o, rfl, SqT.of (s7 _ _ (s06 _ _ ho))⟩, red_pos hE, Nat.lt_of_le_of_lt (red_abs2 _ _) bE, Nat.lt_of_le_of_lt (red_abs1 _ _) (bd_38 gj.2), bd_100 (Nat.le_trans (rva w0 (List.mem_of_getElem? ew)) (by decide)), fun o2 ho2 => ?_⟩
        rw [red_times hE]
        exact hZ _ _ (same_upd ho2) ⟨o2, rfl, (ne_of_none hacc ho2).symm, upd_same⟩
      intro H7 zs s7 hz hzl hzv
      have s07 := s06.trans s7
      have m1 : r.1 ∈ cnames S n := (cnames_mem _).mpr (.inr ⟨r, hrc, .inl rfl⟩)
      have m2 : S.tg r ∈ cnames S n := (cnames_mem _).mpr (.inr ⟨r, hrc, .inr rfl⟩)
      obtain ⟨i1, ei1⟩ := idx_of m1
      obtain ⟨i2, ei2⟩ := idx_of m2
      have li1 := (List.getElem?_eq_some_iff.mp ei1).1
      have li2 := (List.getElem?_eq_some_iff.mp ei2).1
      obtain ⟨o1, dg1, ho1⟩ := nums_at (s07 _ _ h5) h6 (h7.mono s07) (cnames_nodup S n) ei1
      obtain ⟨tr, rfl, htr⟩ := hrv.mono (s6.trans s7)
      -- fall
      refine ⟨_, rfl, D2, zs, rfl, .inr (SqL.of hz), ?_⟩
      refine ⟨_, rfl, _, rfl, tr, _, 0, .str r.1, rfl, rfl, SqT.of htr, atI_nat (j := 0) rfl, hd, .ref o1, rfl, dg1, ?_⟩
      obtain ⟨o2, dg2, ho2⟩ := nums_at (s07 _ _ h5) h6 (h7.mono s07) (cnames_nodup S n) ei2
      refine ⟨_, rfl, _, rfl, _, rfl, p, .ref tr, S, r, y, rfl, hS.mono s07, ⟨tr, rfl, htr⟩, hy, ?_⟩
      rw [← tg_of hy]
      refine ⟨hd, .ref o2, rfl, dg2, 1, rfl, ?_⟩
      have g2 := hg (S.d + i2) (by omega)
      refine ⟨.ref o2, (red (g (S.d + i2)) E).1, (red (g (S.d + i2)) E).2, -1, rfl, ⟨o2, rfl, SqT.of ho2⟩, red_pos hE, Nat.lt_of_le_of_lt (red_abs2 _ _) bE, Nat.lt_of_le_of_lt (red_abs1 _ _) (bd_38 g2.2), bd_100 (by decide), fun o3 ho3 => ?_⟩
      rw [red_times hE]
      have s8 : Same H7 (upd H7 o3 (frV (red (g (S.d + i2) * -1) E))) := same_upd ho3
      have ho8 : (upd H7 o3 (frV (red (g (S.d + i2) * -1) E))) o3 = some (frV (red (g (S.d + i2) * -1) E)) := upd_same
      generalize upd H7 o3 (frV (red (g (S.d + i2) * -1) E)) = H8 at s8 ho8 ⊢
      have hsz2 : (zs ++ [V.ref o1, V.ref o3]).length ≤ sizeLine := by
        rw [List.length_append, hzl]
        exact Nat.le_of_lt (small1000 (by simp; omega))
      refine ⟨hsz2, fun LL hLL => ?_⟩
      have s9 : Same H8 (upd H8 LL (.lst (zs ++ [V.ref o1, V.ref o3]))) := same_upd hLL
      have hLL9 : (upd H8 LL (.lst (zs ++ [V.ref o1, V.ref o3]))) LL = some (.lst (zs ++ [V.ref o1, V.ref o3])) := upd_same
      generalize upd H8 LL (.lst (zs ++ [V.ref o1, V.ref o3])) = H9 at s9 hLL9 ⊢
      have s79 := s8.trans s9
      have hns : All2 (fun x nn => FrAt K H9 x (red nn E)) (zs ++ [V.ref o1, V.ref o3]) (((List.range S.d).map fun j => g j * (S.vc r).getD j 0) ++ [g (S.d + i1), g (S.d + i2) * -1]) := by
        refine All2.app ⟨by rw [hzl, List.length_map, List.length_range], fun j x nn hx hn => ?_⟩ ⟨rfl, fun j x nn hx hn => ?_⟩
        · have hj := (List.getElem?_eq_some_iff.mp hx).1
          rw [List.getElem?_map, List.getElem?_range (by omega)] at hn
          have := Option.some.inj hn
          subst this
          obtain ⟨o, e, _, h⟩ := hzv j x hx
          exact ⟨o, e, SqT.of (s79 _ _ h)⟩
        · rcases j with _ | _ | j
          · cases hx
            cases hn
            exact ⟨o1, rfl, SqT.of (s79 _ _ ho1)⟩
          · cases hx
            cases hn
            exact ⟨o3, rfl, SqT.of (s9 _ _ ho8)⟩
          · simp at hx
      have gi1 := hg (S.d + i1) (by omega)
      have hsum : E ≤ (((List.range S.d).map fun j => g j * (S.vc r).getD j 0) ++ [g (S.d + i1), g (S.d + i2) * -1]).sum := by
        have h := hge r hrc
        rw [col_sum (cnames_nodup S n) ei1 ei2 g] at h
        rw [List.sum_append, range_sum, sumN_congr (g := fun c => (S.vc r).getD c 0 * g c) fun c _ => Int.mul_comm _ _]
        simp only [List.sum_cons, List.sum_nil]
        omega
      refine ⟨LL, _, _, E, rfl, SqL.of hLL9, hns, hE, bE, fun nn hn => ?_, by rw [List.length_append, List.length_map, List.length_range]; simp; omega, fun H10 o s10 _ ho => ?_⟩
      · rcases List.mem_append.mp hn with hn | hn
        · obtain ⟨j, hj, rfl⟩ := List.mem_map.mp hn
          rw [List.mem_range] at hj
          have e : (S.vc r)[j]? = some (S.vc r)[j] := List.getElem?_eq_getElem (by omega)
          rw [getD_at e]
          exact bd_3800 (hg j (by omega)).2 (Nat.le_trans (rva _ (List.mem_of_getElem? e)) (by decide))
        · rcases List.mem_cons.mp hn with rfl | hn
          · exact bd_38 gi1.2
          · rw [List.mem_singleton.mp hn]
            exact bd_3800 g2.2 (by decide)
      · generalize (((List.range S.d).map fun j => g j * (S.vc r).getD j 0) ++ [g (S.d + i1), g (S.d + i2) * -1]).sum = N at hsum ho
        refine ⟨_, rfl, o, _, 0, .int (red N E).1, rfl, rfl, SqT.of ho, atI_nat (j := 0) rfl, ?_⟩
        refine ⟨_, rfl, o, _, 1, .int (red N E).2, rfl, rfl, SqT.of ho, atI_nat (j := 1) rfl, _, _, rfl, rfl, _, rfl, ?_⟩
        have := (red_ge (n := N) (D := E) (l := 1) hE).mpr (by omega)
        rw [decide_eq_false (by omega)]
        refine iteF ?_
        exact ⟨⟨_, _, _, _, _, _, _, rfl⟩, ((s6.trans s7).trans s79).trans s10⟩
    · rintro σ H6 ⟨⟨y9, y10, y11, y12, y13, y14, y15, rfl⟩, s6⟩
      have s06 := s05.trans s6
      refine ⟨_, rfl, _, rfl, va, b, vs, pt.map V.int, rfl, .inr ⟨SqT.of (s06 _ _ h2), SqT.of (s06 _ _ hb), fun D2 hD2 => ?_⟩⟩
      refine lc_map (walk_zipT (K := K) (a := va) (b := b) (xs := vs) (ys := pt.map V.int) (n := S.d) (by rw [List.length_map, hC.pt.len, h3]; omega)) (fun j H' y => ∃ o, y = .ref o ∧ o ≠ D2 ∧ H' o = some (frV (red (g j * pt.getD j 0) E))) (fun j H1 H2 y acc hD sx ⟨o, e, n, h⟩ => ⟨o, e, n, sx _ _ n h⟩) (small1000 (by omega)) hD2
          (fun H' s' => ⟨SqT.of (s' _ _ (s06 _ _ h2)), SqT.of (s' _ _ (s06 _ _ hb))⟩) (fun j H x H' _ => y_pair j H x H') ?_ ?_ gm_pair
      · rintro j x H7 H8 acc Z hj s7 hacc ⟨t3, x3, x4, rfl, nt3, rfl, e3, e4⟩ hZ
        obtain ⟨o, rfl, ho⟩ := h4 j x3 e3
        obtain ⟨w0, ew, w1, w2⟩ := hC.pt.at hj
        have ex4 : x4 = .int w0 := by
          have e4' : (pt.map V.int)[j]? = some x4 := e4
          rw [List.getElem?_map, ew] at e4'
          exact (Option.some.inj e4').symm
        subst ex4
        rw [getD_at ew] at hZ
        have s8 : Same H7 (upd H7 t3 (.tup [.ref o, .int w0])) := same_upd nt3
        have ht8 : (upd H7 t3 (.tup [.ref o, .int w0])) t3 = some (.tup [.ref o, .int w0]) := upd_same
        generalize upd H7 t3 (.tup [.ref o, .int w0]) = H8 at s8 ht8 hacc s7 hZ ⊢
        refine ⟨t3, _, rfl, SqT.of ht8, rfl, _, _, rfl, _, _, rfl, rfl, ?_⟩
        refine ⟨rfl, ?_⟩
        have gj := hg j (by omega)
        refine ⟨_, rfl, _, rfl, .ref o, (red (g j) E).1, (red (g j) E).2, _, rfl, ⟨o, rfl, SqT.of (s7 _ _ (s06 _ _ ho))⟩, red_pos hE, Nat.lt_of_le_of_lt (red_abs2 _ _) bE, Nat.lt_of_le_of_lt (red_abs1 _ _) (bd_38 gj.2), bd_100 (abs_30 w1 w2), fun o2 ho2 => ?_⟩
        rw [red_times hE]
        exact hZ _ _ (same_upd ho2) ⟨o2, rfl, (ne_of_none hacc ho2).symm, upd_same⟩
      intro H7 zs s7 hz hzl hzv
      have s07 := s06.trans s7
      have m1 : n ∈ cnames S n := (cnames_mem _).mpr (.inl rfl)
      obtain ⟨i1, ei1⟩ := idx_of m1
      have li1 := (List.getElem?_eq_some_iff.mp ei1).1
      obtain ⟨o1, dg1, ho1⟩ := nums_at (s07 _ _ h5) h6 (h7.mono s07) (cnames_nodup S n) ei1
      refine ⟨D2, zs, rfl, .inr (SqL.of hz), ?_⟩
      refine ⟨_, rfl, _, rfl, hd, .ref o1, rfl, dg1, ?_⟩
      have hsz2 : (zs ++ [V.ref o1]).length ≤ sizeLine := by
        rw [List.length_append, hzl]
        exact Nat.le_of_lt (small1000 (by simp; omega))
      refine ⟨hsz2, fun LL hLL => ?_⟩
      have s9 : Same H7 (upd H7 LL (.lst (zs ++ [V.ref o1]))) := same_upd hLL
      have hLL9 : (upd H7 LL (.lst (zs ++ [V.ref o1]))) LL = some (.lst (zs ++ [V.ref o1])) := upd_same
      generalize upd H7 LL (.lst (zs ++ [V.ref o1])) = H9 at s9 hLL9 ⊢
      have hns : All2 (fun x nn => FrAt K H9 x (red nn E)) (zs ++ [V.ref o1]) (((List.range S.d).map fun j => g j * pt.getD j 0) ++ [g (S.d + i1)]) := by
        refine All2.app ⟨by rw [hzl, List.length_map, List.length_range], fun j x nn hx hn => ?_⟩ ⟨rfl, fun j x nn hx hn => ?_⟩
        · have hj := (List.getElem?_eq_some_iff.mp hx).1
          rw [List.getElem?_map, List.getElem?_range (by omega)] at hn
          have := Option.some.inj hn
          subst this
          obtain ⟨o, e, _, h⟩ := hzv j x hx
          exact ⟨o, e, SqT.of (s9 _ _ h)⟩
        · rcases j with _ | j
          · cases hx
            cases hn
            exact ⟨o1, rfl, SqT.of (s9 _ _ ho1)⟩
          · simp at hx
      have gi1 := hg (S.d + i1) (by omega)
      have hsum : (((List.range S.d).map fun j => g j * pt.getD j 0) ++ [g (S.d + i1)]).sum = sumN (S.d + (cnames S n).length) (fun c => (wlp S n pt).b c * g c) := by
        have h := lim_sum (pt := pt) ei1 g
        rw [hh] at h
        rw [h, List.sum_append, range_sum, sumN_congr (g := fun c => pt.getD c 0 * g c) fun c _ => Int.mul_comm _ _]
        simp only [List.sum_cons, List.sum_nil]
        omega
      refine ⟨LL, _, _, E, rfl, SqL.of hLL9, hns, hE, bE, fun nn hn => ?_, by rw [List.length_append, List.length_map, List.length_range]; simp; omega, fun H10 o s10 _ ho => ?_⟩
      · rcases List.mem_append.mp hn with hn | hn
        · obtain ⟨j, hj, rfl⟩ := List.mem_map.mp hn
          rw [List.mem_range] at hj
          obtain ⟨w0, ew, w1, w2⟩ := hC.pt.at hj
          rw [getD_at ew]
          exact bd_3800 (hg j (by omega)).2 (abs_30 w1 w2)
        · rw [List.mem_singleton.mp hn]
          exact bd_38 gi1.2
      · rw [hsum] at ho
        exact q H10 o ((s07.trans s9).trans s10) ho
end
end Frd
set_option Elab.async false
set_option linter.all false
set_option maxRecDepth 100000
set_option maxHeartbeats 4000000
set_option pp.maxSteps 1000
/-! Settling. -/
namespace Frd
open PySem PySem.Spec PyProof.Rows L2
/-- the program of a piece at weights -/
def slp (S : Sys) (rs : List Rd2) (ws : List Int) : Lp where
  h := S.d + (tabsOf S rs).length + 1
  w := rs.length
  a := fun c j => if c < S.d + (tabsOf S rs).length then aOf S rs (tabsOf S rs) c j else 1
  b := fun c => if c < S.d + (tabsOf S rs).length then 0 else 1
  g := fun j => if ws.getD j 0 = 0 then 1 else 0
theorem tabs_few {S : Sys} (ok : S.Ok) {rs : List Rd2} (hrs : ∀ r ∈ rs, r ∈ S.named) : (tabsOf S rs).length ≤ 6 := by
  have := nodup_le (tabsOf_nodup (S := S) (rs := rs)) (m := S.tabs.map (·.name)) fun m hm => by
    obtain ⟨r, hr, h⟩ := mem_tabsOf.mp hm
    have := ok.read (hrs r hr)
    rcases h with rfl | rfl
    · exact this.2.2.1
    · exact this.2.2.2
  rw [List.length_map] at this
  have := ok.t6
  omega
theorem slp_small {S : Sys} (ok : S.Ok) {rs : List Rd2} (hrs : ∀ r ∈ rs, r ∈ S.named) (ws : List Int) : (slp S rs ws).Small 100 where
  h := by
    have := tabs_few ok hrs
    have := ok.d3
    show S.d + (tabsOf S rs).length + 1 ≤ 15
    omega
  a := fun c j hc hj => by
    show (if c < S.d + (tabsOf S rs).length then aOf S rs (tabsOf S rs) c j else 1).natAbs ≤ 2 ^ 100
    split
    · exact Nat.le_trans (aOf_abs ok hrs _ c j hj) (by decide)
    · decide
  b := fun c hc => by
    show (if c < S.d + (tabsOf S rs).length then (0 : Int) else 1).natAbs ≤ 2 ^ 100
    split <;> decide
  g := fun j hj => by
    show (if ws.getD j 0 = 0 then (1 : Int) else 0).natAbs ≤ 2 ^ 100
    split <;> decide
theorem slp_b {S : Sys} {rs : List Rd2} {ws : List Int} (c : Nat) : 0 ≤ (slp S rs ws).b c := by
  show 0 ≤ (if c < S.d + (tabsOf S rs).length then (0 : Int) else 1)
  split <;> decide
theorem slp_good {S : Sys} {rs : List Rd2} {ws : List Int} : (slp S rs ws).Good (slp S rs ws).bs0 := Lp.good0 fun c _ => slp_b c
theorem slp_true {S : Sys} {rs : List Rd2} {ws : List Int} {bs : Nat → Nat} {bd : Bool} (E : (slp S rs ws).Ends bs bd) : bd = true :=
  E.bounded slp_good (c0 := S.d + (tabsOf S rs).length) (by show _ < S.d + (tabsOf S rs).length + 1; omega) fun j _ => by
    show (if S.d + (tabsOf S rs).length < S.d + (tabsOf S rs).length then _ else (1 : Int)) = 1
    rw [if_neg (Nat.lt_irrefl _)]
/-- no read is stuck: the prices settle all -/
theorem slp_drop {S : Sys} {rs : List Rd2} {ws : List Int} {bs : Nat → Nat} (E : (slp S rs ws).Ends bs true) (h0 : (slp S rs ws).T bs (slp S rs ws).h (slp S rs ws).n ≤ 0) {j : Nat} {r : Rd2} (hr : rs[j]? = some r) (hw : ws.getD j 0 = 0) :
    1 ≤ sumN (S.d + (tabsOf S rs).length) (fun c => aRd S (tabsOf S rs) c r * (slp S rs ws).price bs c) := by
  have G := E.good slp_good
  have hj : j < (slp S rs ws).w := (List.getElem?_eq_some_iff.mp hr).1
  have p1 := E.price_ge hj
  have p2 := E.price_nn (c := S.d + (tabsOf S rs).length) (by show _ < S.d + (tabsOf S rs).length + 1; omega)
  have p3 := Lp.price_worth (L := slp S rs ws) (bs := bs)
  have e1 : sumN (slp S rs ws).h (fun c => (slp S rs ws).b c * (slp S rs ws).price bs c) = (slp S rs ws).price bs (S.d + (tabsOf S rs).length) := by
    show sumN (S.d + (tabsOf S rs).length + 1) _ = _
    rw [sumN_split]
    have z : sumN (S.d + (tabsOf S rs).length) (fun c => (slp S rs ws).b c * (slp S rs ws).price bs c) = 0 := sumN_zero fun c hc => by
      show (if c < S.d + (tabsOf S rs).length then (0 : Int) else 1) * _ = 0
      rw [if_pos hc, Int.zero_mul]
    rw [z]
    show 0 + (0 + (if S.d + (tabsOf S rs).length + 0 < S.d + (tabsOf S rs).length then (0 : Int) else 1) * _) = _
    rw [if_neg (by omega)]
    simp
  have e2 : sumN (slp S rs ws).h (fun c => (slp S rs ws).a c j * (slp S rs ws).price bs c) = sumN (S.d + (tabsOf S rs).length) (fun c => aRd S (tabsOf S rs) c r * (slp S rs ws).price bs c) + (slp S rs ws).price bs (S.d + (tabsOf S rs).length) := by
    show sumN (S.d + (tabsOf S rs).length + 1) _ = _
    rw [sumN_split]
    have z : sumN (S.d + (tabsOf S rs).length) (fun c => (slp S rs ws).a c j * (slp S rs ws).price bs c) = sumN (S.d + (tabsOf S rs).length) (fun c => aRd S (tabsOf S rs) c r * (slp S rs ws).price bs c) := sumN_congr fun c hc => by
      show (if c < S.d + (tabsOf S rs).length then aOf S rs (tabsOf S rs) c j else 1) * _ = _
      rw [if_pos hc, aOf_rd, getD_at hr]
    rw [z]
    show _ + (0 + (if S.d + (tabsOf S rs).length + 0 < S.d + (tabsOf S rs).length then _ else (1 : Int)) * _) = _
    rw [if_neg (by omega)]
    simp
  rw [e1] at p3
  rw [e2] at p1
  have hg : (slp S rs ws).g j = 1 := by
    show (if ws.getD j 0 = 0 then (1 : Int) else 0) = 1
    rw [if_pos hw]
  rw [hg, Int.one_mul] at p1
  have := G.pos
  omega
/-- how many weights are 0 -/
def zc (n : Nat) (ws : List Int) : Nat := ((List.range n).filter fun j => decide (ws.getD j 0 = 0)).length
theorem filter_lt {α : Type} : ∀ {l : List α} {p q : α → Bool}, (∀ x ∈ l, p x = true → q x = true) → (∃ x ∈ l, q x = true ∧ p x = false) → (l.filter p).length < (l.filter q).length
  | [], _, _, _, ⟨_, h, _⟩ => nomatch h
  | x :: l, p, q, h, ⟨y, hy, hq, hp⟩ => by
    have le : (l.filter p).length ≤ (l.filter q).length := by
      rw [← List.countP_eq_length_filter, ← List.countP_eq_length_filter]
      exact List.countP_mono_left fun z hz => h z (List.mem_cons_of_mem _ hz)
    rcases List.mem_cons.mp hy with rfl | hy
    · rw [List.filter_cons, List.filter_cons, hq, hp]
      simp
      omega
    · have ih := filter_lt (fun z hz => h z (List.mem_cons_of_mem _ hz)) ⟨y, hy, hq, hp⟩
      rw [List.filter_cons, List.filter_cons]
      cases e1 : p x with
      | false =>
        cases e2 : q x with
        | false => simpa using ih
        | true =>
          simp
          omega
      | true =>
        rw [h x List.mem_cons_self e1]
        simpa using ih
theorem slp_less {S : Sys} {rs : List Rd2} {ws vs : List Int} {bs : Nat → Nat} (G : (slp S rs ws).Good bs) (hpos : 0 < (slp S rs ws).T bs (slp S rs ws).h (slp S rs ws).n) (hw : ∀ j, 0 ≤ ws.getD j 0) (hv : ∀ j, j < rs.length → vs.getD j 0 = ws.getD j 0 + (slp S rs ws).num bs j) : zc rs.length vs < zc rs.length ws := by
  have hs := Lp.num_worth G
  have hex : ∃ j, j < rs.length ∧ ws.getD j 0 = 0 ∧ 0 < (slp S rs ws).num bs j := by
    by_cases q : ∃ j, j < rs.length ∧ ws.getD j 0 = 0 ∧ 0 < (slp S rs ws).num bs j
    · exact q
    · exfalso
      have z : sumN (slp S rs ws).w (fun j => (slp S rs ws).g j * (slp S rs ws).num bs j) = 0 := sumN_zero fun j hj => by
        show (if ws.getD j 0 = 0 then (1 : Int) else 0) * _ = 0
        split
        · rename_i e
          have n1 := Lp.num_nn G j
          have : ¬ 0 < (slp S rs ws).num bs j := fun h => q ⟨j, hj, e, h⟩
          omega
        · rw [Int.zero_mul]
      omega
  obtain ⟨j, hj, e, hn⟩ := hex
  unfold zc
  refine filter_lt (fun i hi h => ?_) ⟨j, List.mem_range.mpr hj, decide_eq_true e, decide_eq_false ?_⟩
  · have h' := of_decide_eq_true h
    rw [hv i (List.mem_range.mp hi)] at h'
    have := hw i
    have := Lp.num_nn G i
    exact decide_eq_true (by omega)
  · rw [hv j hj]
    omega
theorem fnV_congr {n : Nat} {f g : Nat → Int} (h : ∀ j, j < n → f j = g j) : fnV n f = fnV n g := by
  unfold fnV
  exact List.map_congr_left fun j hj => by rw [h j (List.mem_range.mp hj)]
theorem fnV_map {n : Nat} {f : Nat → Int} : ((List.range n).map f).map V.int = fnV n f := by
  rw [List.map_map]
  rfl
theorem getD_range {n j : Nat} {f : Nat → Int} (h : j < n) : ((List.range n).map f).getD j 0 = f j := by
  rw [List.getD_eq_getElem?_getD, List.getElem?_map, List.getElem?_range h]
  rfl
theorem int_fn (ws : List Int) : ws.map V.int = fnV ws.length (fun j => ws.getD j 0) := by
  refine list_of (List.length_map _) fun j y hy => ?_
  rw [List.getElem?_map] at hy
  cases e : ws[j]? with
  | none =>
    rw [e] at hy
    cases hy
  | some w =>
    rw [e] at hy
    show y = V.int (ws.getD j 0)
    rw [getD_at e]
    exact (Option.some.inj hy).symm
theorem cut_mid (xs : List V) {m k : Nat} (h : xs.length = m + k + 1) : cutV xs (some (m : Int)) (some (-1)) = (xs.drop m).take k := by
  unfold cutV
  rw [HT.sIx_nat, Nat.min_eq_left (show m ≤ xs.length by omega)]
  have : HT.sIx xs.length xs.length (some (-1)) = xs.length - 1 := by
    show (if (-1 : Int) < 0 then ((-1 : Int) + (xs.length : Int)).toNat else min (-1 : Int).toNat xs.length) = _
    rw [if_pos (by decide)]
    omega
  rw [this]
  congr 1
  omega
theorem PAt.putX {C : Addr} {H0 H H' : Hp} {g p : Addr} {L : Lp} {bs : Nat → Nat} {bd : Bool} {Cp dx : Addr} {fs : List (Str × V)} (h : PAt C H0 H g L bs bd) (hp : H p = some (.ins Cp dx fs)) (hgp : g ≠ p) (sx : SameX p H H') (sm : Same H0 H') : PAt C H0 H' g L bs bd := by
  obtain ⟨s0, np, dx2, gg, b, rs, g0, b0, h1, h2, h3, h4, h5⟩ := h
  exact ⟨sm, np, dx2, gg, b, rs, g0, b0, sx _ _ hgp h1, sx _ _ (ne_of h2 hp (by intro z; cases z)) h2, h3, fun i r e => sx _ _ (ne_of (h4 i r e) hp (by intro z; cases z)) (h4 i r e), sx _ _ (ne_of h5 hp (by intro z; cases z)) h5⟩
structure TxE (K : PySem.W.Frag) (C : Addr) : Prop where
  cl : Cls K C
  n1 : NoAttr K C "piece_reads"
  n2 : NoAttr K C "piece_names"
  n3 : NoAttr K C "weights"
  n4 : NoAttr K C "stuck"
  n5 : NoAttr K C "vector"
  n6 : NoAttr K C "heights"
section
variable {P : Program} {w : World} {K : PySem.W.Frag} {mg : Str → Option Value} {base : Heap} {C CP CE : Addr}
theorem scSe : FnScope ["self", "system", "reads", "rows", "limits", "program", "prices", "one", "other", "weight", "read"] ["self", "system", "reads"] (defScope (metS 29 0)) := ⟨rfl, rfl, rfl, by decide +kernel, rfl, by decide +kernel, by decide +kernel⟩
def se3 (a b c : Addr) : List (Str × V) := [("piece_reads", .ref a), ("piece_names", .ref b), ("weights", .ref c)]
theorem se3_1 {a b c : Addr} : (se3 a b c).lookup ("piece_reads" : Str) = some (.ref a) := by kernel_rfl
theorem se3_2 {a b c : Addr} : (se3 a b c).lookup ("piece_names" : Str) = some (.ref b) := by kernel_rfl
theorem se3_3 {a b c : Addr} : (se3 a b c).lookup ("weights" : Str) = some (.ref c) := by kernel_rfl
theorem se3_put {a b c d : Addr} : putF "weights" (.ref d) (se3 a b c) = se3 a b d := by kernel_rfl
def se6 (a b c d e f : Addr) : List (Str × V) := [("piece_reads", .ref a), ("piece_names", .ref b), ("weights", .ref c), ("stuck", .ref d), ("vector", .ref e), ("heights", .ref f)]
/-- a settled piece at p -/
structure SeAt (CE : Addr) (H0 H : Hp) (p : Addr) (S : Sys) (rs : List Rd2) : Prop where
  same : Same H0 H
  np : H0 p = none
  ex : ∃ (dx a b c d e f : Addr) (zs : List V) (st : List Rd2) (y : Nat → Int), H p = some (.ins CE dx (se6 a b c d e f)) ∧ H0 d = none ∧ H d = some (.lst zs) ∧ All2 (RdV H) zs st ∧ st.Sublist rs ∧ H b = some (.lst ((tabsOf S rs).map V.str)) ∧
    H e = some (.tup ((List.range S.d).map fun c => V.int (y c))) ∧ H f = some (.lst ((List.range (tabsOf S rs).length).map fun i => V.int (y (S.d + i)))) ∧ (∀ c, c < S.d + (tabsOf S rs).length → 0 ≤ y c ∧ (y c).natAbs ≤ 2 ^ 1664) ∧
    (st = [] → ∀ r ∈ rs, 1 ≤ sumN (S.d + (tabsOf S rs).length) (fun c => aRd S (tabsOf S rs) c r * y c))
def spSe (K : PySem.W.Frag) (C CE : Addr) : Sp := fun vs H Q _ => ∃ (p ps a dx : Addr) (H0 : Hp) (S : Sys) (xs : List V) (rs : List Rd2), vs = [.ref p, .ref ps, .ref a] ∧ Same H0 H ∧ H0 p = none ∧ H p = some (.ins CE dx []) ∧ SysAt C H0 ps S ∧ S.Ok ∧ SqL K H0 a xs ∧ All2 (RdV H0) xs rs ∧ (∀ r ∈ rs, r ∈ S.named) ∧ rs.length ≤ 12 ∧
  ∀ H', SeAt CE H0 H' p S rs → Q .non H'
theorem ok_se {f : Addr} {fd : FuncData} (F : Fun K "__init__" "Settling.__init__" (metS 29 0) f fd) (T : TxS K C) (TP : TxP K CP) (TE : TxE K CE) (mlen : mg "len" = none) (mzip : mg "zip" = none) (mi : mg "int" = none) (mtuple : mg "tuple" = none)
    (D1 : Dn P w K mg base "tables_of" 2 ["system", "reads"] (spTs K C)) (D2 : Dn P w K mg base "rows_of" 2 ["system", "reads", "names"] (spRo K C)) (KP : Kn P w K mg base "Program" CP 3 ["self", "rows", "limits", "goal"] (spIn K CP))
    (MG : Mn P w K mg base CP "greatest" 1 ["self"] (spGr CP)) (MN : Mn P w K mg base CP "numbers" 1 ["self"] (spNu CP)) (MP : Mn P w K mg base CP "prices" 1 ["self"] (spPr CP)) : FnOk P w K mg base CX0 5 f fd ["self", "system", "reads"] (spSe K C CE) := by
  refine F.ok scSe (fun vs H Q E h => ?_) (fun cdv A outer sh H vs Q E hr h => ?_)
  · obtain ⟨p, ps, a, dx, H0, S, xs, rs, rfl, _⟩ := h
    rfl
  · obtain ⟨p, ps, a, dx, H0, S, xs, rs, rfl, sm, np, hp, hS, ok, hL, hA, hin, hlen, q⟩ := h
    have nd := scSe.nd
    refine ⟨_, pss_cons (ps_fld (pv 0) (pv 2) rfl)
      (pss_cons (ps_fld (pv 0) (pe_def D1 (hr.mono (by decide)) (by rfl) (pa_cons (pv 1) (pa_cons (pv 2) pa_nil))) rfl)
      (pss_cons (ps_fld (pv 0) (pe_op op_rep (pe_lst (pa_cons pe_int pa_nil)) (pe_callB call_len_seq (by rfl) mlen PySem.boot_len (pa_cons (pv 2) pa_nil))) rfl)
      (pss_cons (ps_set (i := 3) nd rfl (.inl rfl) (pe_def D2 (hr.mono (by decide)) (by rfl) (pa_cons (pv 1) (pa_cons (pv 2) (pa_cons (pe_fld (pv 0) rfl) pa_nil)))))
      (pss_cons (ps_set (i := 4) nd rfl (.inl rfl) (pe_op op_cat (pe_op op_rep (pe_lst (pa_cons pe_int pa_nil)) (pe_callB call_len_seq (by rfl) mlen PySem.boot_len (pa_cons (pv 3) pa_nil))) (pe_lst (pa_cons pe_int pa_nil))))
      (pss_cons (ps_expr (pe_bm PySem.F.plainAttrs_list PySem.F.slot_list_append PySem.F.type_list_append mt_append (pv 3) (pa_cons (pe_op op_rep (pe_lst (pa_cons pe_int pa_nil)) (pe_callB call_len_seq (by rfl) mlen PySem.boot_len (pa_cons (pv 2) pa_nil))) pa_nil)))
      (pss_cons (ps_set (i := 5) nd rfl (.inl rfl) (pe_new KP hr (by rfl) (pa_cons (pv 3) (pa_cons (pv 4) (pa_cons (pe_op op_rep (pe_lst (pa_cons pe_int pa_nil)) (pe_callB call_len_seq (by rfl) mlen PySem.boot_len (pa_cons (pv 2) pa_nil))) pa_nil)))))
      (pss_cons (ps_while PassesOwn.never (pt_cmpR op_gt (pe_mth0 TP.cl MG (hr.mono (by decide)) (pv 5)) pe_int (nomark _))
        (pss_cons (ps_fld (pv 0) (pe_lc (own := [("one", 7), ("other", 8)]) (g := gTup K 2 (gCons (gName 7) (gCons (gName 8) gNil))) (tt := tYes) rfl nd (pi_zip (by rfl) mzip (pa_cons (pe_fld (pv 0) rfl) (pa_cons (pe_mth0 TP.cl MN (hr.mono (by decide)) (pv 5)) pa_nil))) (blkOk_by (N := ["self", "system", "reads", "rows", "limits", "program", "prices", "one", "other", "weight", "read"]) (sc := defScope (metS 29 0)) (by decide +kernel))
            (fun _ _ _ _ _ => pg_tup rfl (pgs_cons (pg_name (i := 7) nd rfl (Or.inl rfl)) (pgs_cons (pg_name (i := 8) nd rfl (Or.inl rfl)) pgs_nil))) (fun _ _ _ _ _ => pts_nil) (fun _ _ _ _ _ => pe_op op_add (pv 7) (pv 8))) rfl)
        (pss_one (ps_set (i := 5) nd rfl (.inl rfl) (pe_new KP hr (by rfl) (pa_cons (pv 3) (pa_cons (pv 4) (pa_cons (pe_lc (own := [("weight", 9)]) (g := gName 9) (tt := tYes) rfl nd (pi_list (pe_fld (pv 0) rfl)) (blkOk_by (N := ["self", "system", "reads", "rows", "limits", "program", "prices", "one", "other", "weight", "read"]) (sc := defScope (metS 29 0)) (by decide +kernel))
            (fun _ _ _ _ _ => pg_name (i := 9) nd rfl (Or.inl rfl)) (fun _ _ _ _ _ => pts_nil) (fun _ _ _ _ _ => pe_callTy call_int1 (by rfl) mi (by decide +kernel) (pa_cons (pe_cmpR op_eq (pv 9) pe_int (nomark _)) pa_nil))) pa_nil))))))))
      (pss_cons (ps_fld (pv 0) (pe_lc (own := [("read", 10), ("weight", 9)]) (g := gTup K 2 (gCons (gName 10) (gCons (gName 9) gNil))) rfl nd (pi_zip (by rfl) mzip (pa_cons (pv 2) (pa_cons (pe_fld (pv 0) rfl) pa_nil))) (blkOk_by (N := ["self", "system", "reads", "rows", "limits", "program", "prices", "one", "other", "weight", "read"]) (sc := defScope (metS 29 0)) (by decide +kernel))
            (fun _ _ _ _ _ => pg_tup rfl (pgs_cons (pg_name (i := 10) nd rfl (Or.inl rfl)) (pgs_cons (pg_name (i := 9) nd rfl (Or.inl rfl)) pgs_nil))) (fun _ _ _ _ _ => pts_one (pt_cmpR op_gt (pv 9) pe_int (nomark _))) (fun _ _ _ _ _ => pv 10)) rfl)
      (pss_cons (ps_set (i := 6) nd rfl (.inl rfl) (pe_mth0 TP.cl MP (hr.mono (by decide)) (pv 5)))
      (pss_cons (ps_fld (pv 0) (pe_tupleOf (by rfl) mtuple (pe_slice sl_list (pv 6) po_none (po_some (pe_fld (pv 1) rfl)))) rfl)
      (pss_one (ps_fld (pv 0) (pe_slice sl_list (pv 6) (po_some (pe_fld (pv 1) rfl)) (po_some (pe_un un_neg pe_int))) rfl)))))))))))), ?_⟩
    have d3 := ok.d3
    have tf := tabs_few ok hin
    have hall : S.All rs := fun r hr => ok.all r (hin r hr)
    have hxl : xs.length = rs.length := hA.1
    -- piece_reads
    refine ⟨_, rfl, _, rfl, p, CE, dx, _, rfl, hp, TE.cl, TE.n1, (by show 0 < 1000; decide), ?_⟩
    have m1 : Same H0 (upd H p (.ins CE dx (putF "piece_reads" (.ref a) []))) := same_put sm np
    have hp1 : (upd H p (.ins CE dx (putF "piece_reads" (.ref a) []))) p = some (.ins CE dx [("piece_reads", .ref a)]) := by
      rw [upd_same]
      exact congrArg (fun z => some (HO.ins CE dx z)) (by kernel_rfl)
    generalize upd H p (.ins CE dx (putF "piece_reads" (.ref a) [])) = H1 at m1 hp1 ⊢
    -- piece_names
    refine ⟨_, rfl, _, rfl, ps, a, S, xs, rs, rfl, hS.mono m1, m1.seq hL, hA.mono fun v r h => h.mono m1, hall, hlen, fun H2 b s2 n2 hb2 => ?_⟩
    refine ⟨_, rfl, p, CE, dx, _, rfl, s2 _ _ hp1, TE.cl, TE.n2, (by show 1 < 1000; decide), ?_⟩
    have m2 : Same H0 (upd H2 p (.ins CE dx (putF "piece_names" (.ref b) [("piece_reads", .ref a)]))) := same_put (m1.trans s2) np
    have hp2 : (upd H2 p (.ins CE dx (putF "piece_names" (.ref b) [("piece_reads", .ref a)]))) p = some (.ins CE dx [("piece_reads", .ref a), ("piece_names", .ref b)]) := by
      rw [upd_same]
      exact congrArg (fun z => some (HO.ins CE dx z)) (by kernel_rfl)
    have hb3 : (upd H2 p (.ins CE dx (putF "piece_names" (.ref b) [("piece_reads", .ref a)]))) b = some (.lst ((tabsOf S rs).map V.str)) := by
      rw [upd_ne (ne_of hb2 (s2 _ _ hp1) (by intro z; cases z))]
      exact hb2
    generalize upd H2 p (.ins CE dx (putF "piece_names" (.ref b) [("piece_reads", .ref a)])) = H3 at m2 hp2 hb3 ⊢
    -- weights
    refine ⟨by show 1 ≤ sizeLine; decide, fun o ho => ?_⟩
    have s3 : Same H3 (upd H3 o (.lst [.int 0])) := same_upd ho
    have ho3 : (upd H3 o (.lst [.int 0])) o = some (.lst [.int 0]) := upd_same
    generalize upd H3 o (.lst [.int 0]) = H4 at s3 ho3 ⊢
    refine ⟨_, rfl, a, xs, rfl, .inl ((m2.trans s3).seq hL), ?_⟩
    refine ⟨o, _, _, rfl, rfl, ho3, by omega, by omega, by rw [Int.toNat_natCast]; exact Nat.le_of_lt (small1000 (by simp; omega)), fun c hc => ?_⟩
    have ez : (List.replicate ((xs.length : Nat) : Int).toNat [V.int 0]).flatten = (((List.range rs.length).map fun _ => (0 : Int))).map V.int := by
      rw [Int.toNat_natCast, hxl, fnV_map]
      exact zeros
    rw [ez]
    have s4 : Same H4 (upd H4 c (.lst (((List.range rs.length).map fun _ => (0 : Int)).map V.int))) := same_upd hc
    have hc4 : (upd H4 c (.lst (((List.range rs.length).map fun _ => (0 : Int)).map V.int))) c = some (.lst (((List.range rs.length).map fun _ => (0 : Int)).map V.int)) := upd_same
    generalize upd H4 c (.lst (((List.range rs.length).map fun _ => (0 : Int)).map V.int)) = H5 at s4 hc4 ⊢
    have s35 := s3.trans s4
    refine ⟨_, rfl, p, CE, dx, _, rfl, s35 _ _ hp2, TE.cl, TE.n3, (by show 2 < 1000; decide), ?_⟩
    have m5 : Same H0 (upd H5 p (.ins CE dx (putF "weights" (.ref c) [("piece_reads", .ref a), ("piece_names", .ref b)]))) := same_put (m2.trans s35) np
    have hp5 : (upd H5 p (.ins CE dx (putF "weights" (.ref c) [("piece_reads", .ref a), ("piece_names", .ref b)]))) p = some (.ins CE dx (se3 a b c)) := by
      rw [upd_same]
      exact congrArg (fun z => some (HO.ins CE dx z)) (by kernel_rfl)
    have hb5 : (upd H5 p (.ins CE dx (putF "weights" (.ref c) [("piece_reads", .ref a), ("piece_names", .ref b)]))) b = some (.lst ((tabsOf S rs).map V.str)) := by
      rw [upd_ne (ne_of (s35 _ _ hb3) (s35 _ _ hp2) (by intro z; cases z))]
      exact s35 _ _ hb3
    have hc5 : (upd H5 p (.ins CE dx (putF "weights" (.ref c) [("piece_reads", .ref a), ("piece_names", .ref b)]))) c = some (.lst (((List.range rs.length).map fun _ => (0 : Int)).map V.int)) := by
      rw [upd_ne (ne_of hc4 (s35 _ _ hp2) (by intro z; cases z))]
      exact hc4
    generalize upd H5 p (.ins CE dx (putF "weights" (.ref c) [("piece_reads", .ref a), ("piece_names", .ref b)])) = H6 at m5 hp5 hb5 hc5 ⊢
    -- rows
    refine ⟨_, rfl, _, rfl, _, rfl, p, CE, dx, _, _, rfl, hp5, TE.cl, TE.n2, se3_2, ?_⟩
    refine ⟨ps, a, b, S, xs, rs, tabsOf S rs, rfl, hS.mono m5, m5.seq hL, hA.mono fun v r h => h.mono m5, SqL.of hb5, hall, fun r hr => (ok.read (hin r hr)).1, d3, hlen, by omega, fun H7 q7 rows s7 n7 hq7 hrl hrw => ?_⟩
    -- limits
    refine ⟨by show 1 ≤ sizeLine; decide, fun o2 ho2 => ?_⟩
    have s8 : Same H7 (upd H7 o2 (.lst [.int 0])) := same_upd ho2
    have ho8 : (upd H7 o2 (.lst [.int 0])) o2 = some (.lst [.int 0]) := upd_same
    generalize upd H7 o2 (.lst [.int 0]) = H8 at s8 ho8 ⊢
    refine ⟨_, rfl, q7, _, rfl, .inl (SqL.of (s8 _ _ hq7)), ?_⟩
    refine ⟨o2, _, _, rfl, rfl, ho8, by omega, by rw [List.length_map, hrl]; omega, by rw [Int.toNat_natCast, List.length_map, hrl]; exact Nat.le_of_lt (small1000 (by simp; omega)), fun z hz => ?_⟩
    have ez2 : (List.replicate ((((rows.map V.ref).length) : Nat) : Int).toNat [V.int 0]).flatten = fnV (S.d + (tabsOf S rs).length) (fun _ => 0) := by
      rw [Int.toNat_natCast, List.length_map, hrl]
      exact zeros
    rw [ez2]
    have s9 : Same H8 (upd H8 z (.lst (fnV (S.d + (tabsOf S rs).length) (fun _ => 0)))) := same_upd hz
    have hz9 : (upd H8 z (.lst (fnV (S.d + (tabsOf S rs).length) (fun _ => 0)))) z = some (.lst (fnV (S.d + (tabsOf S rs).length) (fun _ => 0))) := upd_same
    generalize upd H8 z (.lst (fnV (S.d + (tabsOf S rs).length) (fun _ => 0))) = H9 at s9 hz9 ⊢
    refine ⟨by show 1 ≤ sizeLine; decide, fun o3 ho3' => ?_⟩
    have s10 : Same H9 (upd H9 o3 (.lst [.int 1])) := same_upd ho3'
    have ho10 : (upd H9 o3 (.lst [.int 1])) o3 = some (.lst [.int 1]) := upd_same
    generalize upd H9 o3 (.lst [.int 1]) = H10 at s10 ho10 ⊢
    refine ⟨z, o3, _, _, rfl, rfl, s10 _ _ hz9, ho10, by rw [fnV_len]; exact Nat.le_of_lt (small1000 (by simp; omega)), fun lim hlim => ?_⟩
    have elim : fnV (S.d + (tabsOf S rs).length) (fun _ => 0) ++ [V.int 1] = fnV (S.d + (tabsOf S rs).length + 1) (fun c => if c < S.d + (tabsOf S rs).length then 0 else 1) := by
      refine fnV_of (by rw [List.length_append, fnV_len]; rfl) fun j y hy => ?_
      by_cases hj : j < S.d + (tabsOf S rs).length
      · rw [List.getElem?_append_left (by rw [fnV_len]; exact hj), fnV_at hj] at hy
        rw [if_pos hj]
        exact (Option.some.inj hy).symm
      · rw [List.getElem?_append_right (by rw [fnV_len]; omega), fnV_len] at hy
        rw [if_neg hj]
        rcases hk : j - (S.d + (tabsOf S rs).length) with _ | k
        · rw [hk] at hy
          exact (Option.some.inj hy).symm
        · rw [hk] at hy
          simp at hy
    rw [elim]
    have s11 : Same H10 (upd H10 lim (.lst (fnV (S.d + (tabsOf S rs).length + 1) (fun c => if c < S.d + (tabsOf S rs).length then 0 else 1)))) := same_upd hlim
    have hlim11 : (upd H10 lim (.lst (fnV (S.d + (tabsOf S rs).length + 1) (fun c => if c < S.d + (tabsOf S rs).length then 0 else 1)))) lim = some (.lst (fnV (S.d + (tabsOf S rs).length + 1) (fun c => if c < S.d + (tabsOf S rs).length then 0 else 1))) := upd_same
    generalize upd H10 lim (.lst (fnV (S.d + (tabsOf S rs).length + 1) (fun c => if c < S.d + (tabsOf S rs).length then 0 else 1))) = H11 at s11 hlim11 ⊢
    have s711 := ((s8.trans s9).trans s10).trans s11
    have m11 := (m5.trans s7).trans s711
    -- the row of all reads
    have n7' : H0 q7 = none := m5.free n7
    have hq11 := s711 _ _ hq7
    refine ⟨_, rfl, .inl ⟨rfl, _, SqL.of hq11⟩, ?_⟩
    refine ⟨by show 1 ≤ sizeLine; decide, fun o4 ho4 => ?_⟩
    have s12 : Same H11 (upd H11 o4 (.lst [.int 1])) := same_upd ho4
    have ho12 : (upd H11 o4 (.lst [.int 1])) o4 = some (.lst [.int 1]) := upd_same
    generalize upd H11 o4 (.lst [.int 1]) = H12 at s12 ho12 ⊢
    refine ⟨_, rfl, a, xs, rfl, .inl ((m11.trans s12).seq hL), ?_⟩
    refine ⟨o4, _, _, rfl, rfl, ho12, by omega, by omega, by rw [Int.toNat_natCast]; exact Nat.le_of_lt (small1000 (by simp; omega)), fun one hone => ?_⟩
    have ez3 : (List.replicate ((xs.length : Nat) : Int).toNat [V.int 1]).flatten = fnV rs.length (fun _ => 1) := by
      rw [Int.toNat_natCast, hxl]
      exact ones
    rw [ez3]
    have s13 : Same H12 (upd H12 one (.lst (fnV rs.length (fun _ => 1)))) := same_upd hone
    have hone13 : (upd H12 one (.lst (fnV rs.length (fun _ => 1)))) one = some (.lst (fnV rs.length (fun _ => 1))) := upd_same
    have nq1 : q7 ≠ one := ne_of_none (s12 _ _ hq11) hone
    generalize upd H12 one (.lst (fnV rs.length (fun _ => 1))) = H13 at s13 hone13 ⊢
    have s1113 := s12.trans s13
    refine ⟨q7, _, _, rfl, rfl, s1113 _ _ hq11, small1000 (by rw [List.length_map, hrl]; omega), ?_⟩
    have m14 : Same H0 (upd H13 q7 (.lst (rows.map V.ref ++ [V.ref one]))) := same_put (m11.trans s1113) n7'
    have sx14 : SameX q7 H7 (upd H13 q7 (.lst (rows.map V.ref ++ [V.ref one]))) := SameX.trans (Same.x (s711.trans s1113) q7) sameX_upd
    have hq14 : (upd H13 q7 (.lst (rows.map V.ref ++ [V.ref one]))) q7 = some (.lst ((rows ++ [one]).map V.ref)) := by
      rw [upd_same, List.map_append]
      rfl
    have hone14 : (upd H13 q7 (.lst (rows.map V.ref ++ [V.ref one]))) one = some (.lst (fnV rs.length (fun _ => 1))) := by
      rw [upd_ne nq1.symm]
      exact hone13
    have hlim14 : (upd H13 q7 (.lst (rows.map V.ref ++ [V.ref one]))) lim = some (.lst (fnV (S.d + (tabsOf S rs).length + 1) (fun c => if c < S.d + (tabsOf S rs).length then 0 else 1))) := by
      have nl : lim ≠ q7 := (ne_of_none (((s8.trans s9).trans s10) _ _ hq7) hlim).symm
      rw [upd_ne nl]
      exact s1113 _ _ hlim11
    generalize upd H13 q7 (.lst (rows.map V.ref ++ [V.ref one])) = H14 at m14 sx14 hq14 hone14 hlim14 ⊢
    have hrow14 : ∀ c r, rows[c]? = some r → H14 r = some (.lst (fnV rs.length (aOf S rs (tabsOf S rs) c))) := fun c r e => sx14 _ _ (hrw c r e).2 (hrw c r e).1
    have np7 : ∀ {o}, H6 p = some o → p ≠ q7 := fun h => ne_of_none h n7
    have hp14 : H14 p = some (.ins CE dx (se3 a b c)) := sx14 _ _ (np7 hp5) (s7 _ _ hp5)
    have hb14 : H14 b = some (.lst ((tabsOf S rs).map V.str)) := sx14 _ _ (ne_of_none hb5 n7) (s7 _ _ hb5)
    have hc14 : H14 c = some (.lst (((List.range rs.length).map fun _ => (0 : Int)).map V.int)) := sx14 _ _ (ne_of_none hc5 n7) (s7 _ _ hc5)
    clear sx14 s711 s1113 hq11 hlim11 hone13 hq7
    have hRows : ∀ ws H', SameX p H14 H' → RowsAt K H' q7 (slp S rs ws) := fun ws H' sx => by
      have ne1 : ∀ {x : Addr} {l : List V}, H14 x = some (.lst l) → x ≠ p := fun h => ne_of h hp14 (by intro z; cases z)
      refine ⟨rows ++ [one], SqL.of (sx _ _ (ne1 hq14) hq14), by rw [List.length_append, hrl]; rfl, fun cc r er => ?_⟩
      by_cases hcc : cc < rows.length
      · rw [List.getElem?_append_left hcc] at er
        have h := hrow14 cc r er
        have e : fnV rs.length (aOf S rs (tabsOf S rs) cc) = fnV (slp S rs ws).w ((slp S rs ws).a cc) := fnV_congr fun j _ => by
          show _ = (if cc < S.d + (tabsOf S rs).length then aOf S rs (tabsOf S rs) cc j else 1)
          rw [if_pos (by omega)]
        rw [← e]
        exact SqL.of (sx _ _ (ne1 h) h)
      · rw [List.getElem?_append_right (by omega)] at er
        rcases hk : cc - rows.length with _ | k
        · rw [hk] at er
          have e1 : one = r := Option.some.inj er
          subst e1
          have e : fnV rs.length (fun _ => 1) = fnV (slp S rs ws).w ((slp S rs ws).a cc) := fnV_congr fun j _ => by
            show _ = (if cc < S.d + (tabsOf S rs).length then aOf S rs (tabsOf S rs) cc j else 1)
            rw [if_neg (by omega)]
          rw [← e]
          exact SqL.of (sx _ _ (ne1 hone14) hone14)
        · rw [hk] at er
          simp at er
    have hLim : ∀ ws H', SameX p H14 H' → SqL K H' lim (fnV (slp S rs ws).h (slp S rs ws).b) := fun ws H' sx => SqL.of (sx _ _ (ne_of hlim14 hp14 (by intro z; cases z)) hlim14)
    -- the first program
    refine ⟨_, rfl, _, rfl, ?_⟩
    refine ⟨by show 1 ≤ sizeLine; decide, fun o5 ho5 => ?_⟩
    have s15 : Same H14 (upd H14 o5 (.lst [.int 1])) := same_upd ho5
    have ho15 : (upd H14 o5 (.lst [.int 1])) o5 = some (.lst [.int 1]) := upd_same
    generalize upd H14 o5 (.lst [.int 1]) = H15 at s15 ho15 ⊢
    refine ⟨_, rfl, a, xs, rfl, .inl ((m14.trans s15).seq hL), ?_⟩
    refine ⟨o5, _, _, rfl, rfl, ho15, by omega, by omega, by rw [Int.toNat_natCast]; exact Nat.le_of_lt (small1000 (by simp; omega)), fun gl hgl => ?_⟩
    have ez4 : (List.replicate ((xs.length : Nat) : Int).toNat [V.int 1]).flatten = fnV (slp S rs ((List.range rs.length).map fun _ => (0 : Int))).w (slp S rs ((List.range rs.length).map fun _ => (0 : Int))).g := by
      rw [Int.toNat_natCast, hxl]
      refine ones.trans (fnV_congr fun j hj => ?_)
      show (1 : Int) = if ((List.range rs.length).map fun _ => (0 : Int)).getD j 0 = 0 then 1 else 0
      rw [getD_range hj]
      rfl
    rw [ez4]
    generalize hws0 : ((List.range rs.length).map fun _ => (0 : Int)) = ws0 at hc14 ez4 ⊢
    have s16 : Same H15 (upd H15 gl (.lst (fnV (slp S rs ws0).w (slp S rs ws0).g))) := same_upd hgl
    have hgl16 : (upd H15 gl (.lst (fnV (slp S rs ws0).w (slp S rs ws0).g))) gl = some (.lst (fnV (slp S rs ws0).w (slp S rs ws0).g)) := upd_same
    generalize upd H15 gl (.lst (fnV (slp S rs ws0).w (slp S rs ws0).g)) = H16 at s16 hgl16 ⊢
    have s1416 := s15.trans s16
    intro x dxx hx hdx hne
    have s17 : Same H16 (upd (upd H16 dxx (.own x)) x (.ins CP dxx [])) := same_put (same_upd hdx) hx
    refine ⟨x, q7, lim, gl, dxx, H16, slp S rs ws0, rfl, s17, hx, upd_same, hRows ws0 H16 (Same.x s1416 p), hLim ws0 H16 (Same.x s1416 p), SqL.of hgl16, slp_small ok hin ws0, (by show rs.length ≤ 15; omega), fun c _ => slp_b c, fun bs0 bd0 H17 E0 P0 => ⟨rfl, ?_⟩⟩
    have eb := slp_true E0
    subst eb
    have s1617 := P0.same
    have s1417 := s1416.trans s1617
    have nxp : x ≠ p := (ne_of_none (s1416 _ _ hp14) hx).symm
    have hw0l : ws0.length = rs.length := by rw [← hws0, List.length_map, List.length_range]
    have hw0n : ∀ j, 0 ≤ ws0.getD j 0 := fun j => by
      rw [← hws0, List.getD_eq_getElem?_getD, List.getElem?_map]
      cases (List.range rs.length)[j]? with
      | none => exact Int.le_refl _
      | some k => exact Int.le_refl _
    have hwl : (slp S rs ws0).h ≤ 15 := (slp_small ok hin ws0).h
    -- the loop
    refine ⟨fun m σ H' => ∃ (g cw : Addr) (ws : List Int) (bs : Nat → Nat), (∃ y6 y7 y8 y9 y10, σ = [some (.ref p), some (.ref ps), some (.ref a), some (.ref q7), some (.ref lim), some (.ref g), y6, y7, y8, y9, y10]) ∧ Same H0 H' ∧ SameX p H14 H' ∧ H' p = some (.ins CE dx (se3 a b cw)) ∧ H' cw = some (.lst (ws.map V.int)) ∧ ws.length = rs.length ∧ (∀ j, 0 ≤ ws.getD j 0) ∧
      (slp S rs ws).Ends bs true ∧ PAt CP H0 H' g (slp S rs ws) bs true ∧ g ≠ p ∧ m = zc rs.length ws, ⟨zc rs.length ws0, x, c, ws0, bs0, ⟨_, _, _, _, _, rfl⟩, m14.trans s1417, Same.x s1417 p, s1417 _ _ hp14, s1417 _ _ hc14, hw0l, hw0n, E0, P0.back (m14.trans s1416), nxp, rfl⟩, ?_⟩
    rintro m σ H' ⟨g, cw, ws, bs, ⟨y6, y7, y8, y9, y10, rfl⟩, sm', sx', hp', hcw, hwl', hwn, EE, PP, ngp, rfl⟩
    have G := EE.good slp_good
    obtain ⟨_, _, dxg, gg, gb, grs, _, _, hg, _⟩ := id PP
    have sS := slp_small ok hin ws
    have hh15 : (slp S rs ws).h ≤ 15 := sS.h
    have hw15 : (slp S rs ws).w ≤ 15 := by show rs.length ≤ 15; omega
    refine ⟨_, rfl, g, dxg, _, rfl, hg, pf_no (by decide +kernel) (by decide +kernel) (by decide +kernel) (by decide +kernel) (by decide +kernel) (by decide +kernel), ?_⟩
    refine ⟨g, H0, slp S rs ws, bs, true, rfl, PP, ?_⟩
    refine ⟨_, _, rfl, rfl, _, rfl, ite2 (fun e => ?_) (fun e => ?_)⟩
    · have hpos := of_decide_eq_true e
      have lt := slp_less (vs := (List.range rs.length).map fun j => ws.getD j 0 + (slp S rs ws).num bs j) G hpos hwn fun j hj => getD_range hj
      refine ⟨fun σ' H2 => ∃ (g cw : Addr) (ws2 : List Int) (bs : Nat → Nat), (∃ y6 y7 y8 y9 y10, σ' = [some (.ref p), some (.ref ps), some (.ref a), some (.ref q7), some (.ref lim), some (.ref g), y6, y7, y8, y9, y10]) ∧ Same H0 H2 ∧ SameX p H14 H2 ∧ H2 p = some (.ins CE dx (se3 a b cw)) ∧ H2 cw = some (.lst (ws2.map V.int)) ∧ ws2.length = rs.length ∧ (∀ j, 0 ≤ ws2.getD j 0) ∧
        (slp S rs ws2).Ends bs true ∧ PAt CP H0 H2 g (slp S rs ws2) bs true ∧ g ≠ p ∧ zc rs.length ws2 < zc rs.length ws, fun σ' H2 ⟨g, cw, ws2, bs, h1, h2, h3, h4, h5, h6, h7, h8, h9, h11, h12⟩ => ⟨_, h12, g, cw, ws2, bs, h1, h2, h3, h4, h5, h6, h7, h8, h9, h11, rfl⟩, ?_⟩
      -- new weights
      refine ⟨_, rfl, p, CE, dx, _, _, rfl, hp', TE.cl, TE.n3, se3_3, ?_⟩
      refine ⟨_, rfl, g, dxg, _, rfl, hg, pf_no (by decide +kernel) (by decide +kernel) (by decide +kernel) (by decide +kernel) (by decide +kernel) (by decide +kernel), ?_⟩
      refine ⟨g, H0, slp S rs ws, bs, true, rfl, PP, hh15, hw15, fun H2 nb s2 _ hnb => ?_⟩
      refine ⟨cw, nb, ws.map V.int, numV (slp S rs ws) bs, rfl, SqL.of (s2 _ _ hcw), SqL.of hnb, fun D hD => ?_⟩
      have hnl : (numV (slp S rs ws) bs).length = rs.length := by
        unfold numV
        rw [List.length_map, List.length_range]
        rfl
      refine lc_map (walk_zip (K := K) (a := cw) (b := nb) (xs := ws.map V.int) (ys := numV (slp S rs ws) bs) (n := rs.length) (by rw [hnl, List.length_map, hwl']; omega)) (fun j _ y => y = .int (ws.getD j 0 + (slp S rs ws).num bs j)) (fun _ _ _ _ _ _ _ e => e) (small1000 (by omega)) hD
          (fun H' s' => ⟨SqL.of (s' _ _ (s2 _ _ hcw)), SqL.of (s' _ _ hnb)⟩) (fun j H x H' _ => y_pair j H x H') ?_ ?_ gm_pair
      · rintro j x H3 H4 acc Z hj s3 hacc ⟨t3, x3, x4, rfl, nt3, rfl, e3, e4⟩ hZ
        obtain ⟨w0, ew⟩ : ∃ w0, ws[j]? = some w0 := ⟨ws[j]'(by omega), List.getElem?_eq_getElem _⟩
        have ex3 : x3 = .int w0 := by
          have e3' : (ws.map V.int)[j]? = some x3 := e3
          rw [List.getElem?_map, ew] at e3'
          exact (Option.some.inj e3').symm
        have ex4 : x4 = .int ((slp S rs ws).num bs j) := by
          have e4' : (numV (slp S rs ws) bs)[j]? = some x4 := e4
          unfold numV at e4'
          rw [List.getElem?_map, List.getElem?_range (show j < (slp S rs ws).w from hj)] at e4'
          exact (Option.some.inj e4').symm
        subst ex3
        subst ex4
        refine ⟨t3, _, rfl, SqT.of upd_same, rfl, _, _, rfl, _, _, rfl, rfl, ?_⟩
        refine ⟨rfl, _, rfl, _, rfl, _, _, rfl, rfl, hZ _ _ (Same.refl _) ?_⟩
        rw [getD_at ew]
      intro H3 zs s3 hz hzl hzv
      have ez : zs = ((List.range rs.length).map fun j => ws.getD j 0 + (slp S rs ws).num bs j).map V.int := by
        rw [List.map_map]
        exact list_of hzl hzv
      subst ez
      generalize hws2 : ((List.range rs.length).map fun j => ws.getD j 0 + (slp S rs ws).num bs j) = ws2 at hz lt ⊢
      have hw2l : ws2.length = rs.length := by rw [← hws2, List.length_map, List.length_range]
      have hw2n : ∀ j, 0 ≤ ws2.getD j 0 := fun j => by
        by_cases hj : j < rs.length
        · rw [← hws2, getD_range hj]
          have := hwn j
          have := Lp.num_nn G j
          omega
        · rw [List.getD_eq_getElem?_getD, List.getElem?_eq_none (by omega)]
          exact Int.le_refl _
      have s23 := s2.trans s3
      refine ⟨_, rfl, p, CE, dx, _, rfl, s23 _ _ hp', TE.cl, TE.n3, (by show 3 < 1000; decide), ?_⟩
      rw [se3_put]
      have m4 : Same H0 (upd H3 p (.ins CE dx (se3 a b D))) := same_put (sm'.trans s23) np
      have sx4 : SameX p H14 (upd H3 p (.ins CE dx (se3 a b D))) := SameX.trans (SameX.trans sx' (Same.x s23 p)) sameX_upd
      have hp4 : (upd H3 p (.ins CE dx (se3 a b D))) p = some (.ins CE dx (se3 a b D)) := upd_same
      have hD4 : (upd H3 p (.ins CE dx (se3 a b D))) D = some (.lst (ws2.map V.int)) := by
        rw [upd_ne (ne_of hz (s23 _ _ hp') (by intro z; cases z))]
        exact hz
      generalize upd H3 p (.ins CE dx (se3 a b D)) = H4 at m4 sx4 hp4 hD4 ⊢
      -- the next program
      refine ⟨_, rfl, _, rfl, ?_⟩
      refine ⟨_, rfl, p, CE, dx, _, _, rfl, hp4, TE.cl, TE.n3, se3_3, ?_⟩
      refine ⟨D, rfl, ⟨_, SqL.of hD4⟩, fun gl hgl => ?_⟩
      refine lc_map (walk_list (K := K) (a := D) (xs := ws2.map V.int)) (fun j _ y => y = .int (if ws2.getD j 0 = 0 then 1 else 0)) (fun _ _ _ _ _ _ _ e => e) (small1000 (by rw [List.length_map]; omega)) hgl (fun H' s' => SqL.of (s' _ _ hD4)) (fun j H x H' _ => y_at j H x H') ?_ ?_ gm_name
      · rintro j x H5o H5 acc Z hj s5 hk ⟨rfl, ex⟩ hZ
        rw [List.length_map] at hj
        obtain ⟨w0, ew⟩ : ∃ w0, ws2[j]? = some w0 := ⟨ws2[j], List.getElem?_eq_getElem hj⟩
        have ex' : x = .int w0 := by
          rw [List.getElem?_map, ew] at ex
          exact (Option.some.inj ex).symm
        subst ex'
        refine ⟨rfl, ?_⟩
        refine ⟨_, rfl, rfl, .inr ⟨_, rfl, hZ _ _ (Same.refl _) ?_⟩⟩
        rw [getD_at ew]
        show V.int (if decide (V.int w0 = V.int 0) = true then 1 else 0) = V.int (if w0 = 0 then 1 else 0)
        by_cases q2 : w0 = 0
        · subst q2
          rw [if_pos rfl, decide_eq_true rfl]
          rfl
        · rw [if_neg q2, decide_eq_false (fun z => q2 (V.int.inj z))]
          rfl
      intro H5 zs s5 hz5 hzl5 hzv5
      rw [List.length_map] at hzl5
      have ez : zs = fnV (slp S rs ws2).w (slp S rs ws2).g := list_of (by rw [hzl5, hw2l]; rfl) hzv5
      subst ez
      have sx5 : SameX p H14 H5 := SameX.trans sx4 (Same.x s5 p)
      have m5' := m4.trans s5
      intro x2 dx2 hx2 hdx2 hne2
      have s6 : Same H5 (upd (upd H5 dx2 (.own x2)) x2 (.ins CP dx2 [])) := same_put (same_upd hdx2) hx2
      refine ⟨x2, q7, lim, gl, dx2, H5, slp S rs ws2, rfl, s6, hx2, upd_same, hRows ws2 H5 sx5, hLim ws2 H5 sx5, SqL.of hz5, slp_small ok hin ws2, (by show rs.length ≤ 15; omega), fun c _ => slp_b c, fun bs2 bd2 H6' E2 P2 => ⟨rfl, ?_⟩⟩
      have eb2 := slp_true E2
      subst eb2
      have s56 := P2.same
      exact ⟨x2, D, ws2, bs2, ⟨_, _, _, _, _, rfl⟩, m5'.trans s56, SameX.trans sx5 (Same.x s56 p), s56 _ _ (s5 _ _ hp4), s56 _ _ (s5 _ _ hD4), hw2l, hw2n, E2, P2.back m5', (ne_of_none (s5 _ _ hp4) hx2).symm, lt⟩
    · have hneg : (slp S rs ws).T bs (slp S rs ws).h (slp S rs ws).n ≤ 0 := by
        have : ¬ 0 < (slp S rs ws).T bs (slp S rs ws).h (slp S rs ws).n := fun z => e (decide_eq_true z)
        omega
      -- stuck
      refine ⟨_, rfl, _, rfl, p, CE, dx, _, _, rfl, hp', TE.cl, TE.n3, se3_3, ?_⟩
      refine ⟨a, cw, xs, ws.map V.int, rfl, sm'.seq hL, SqL.of hcw, fun D hD => ?_⟩
      refine lc_filter (walk_zip (K := K) (a := a) (b := cw) (xs := xs) (ys := ws.map V.int) (n := rs.length) (by rw [List.length_map, hwl', hxl]; omega)) (fun j => decide (0 < ws.getD j 0)) (fun j => xs.getD j .non) (small1000 (by omega)) hD
          (fun H' s' => ⟨s'.seq (sm'.seq hL), SqL.of (s' _ _ hcw)⟩) (fun j H x H' _ => y_pair j H x H') ?_ ?_
      · rintro j x H3 H4 acc Z N hj s3 hacc ⟨t3, x3, x4, rfl, nt3, rfl, e3, e4⟩ hZ hN
        obtain ⟨w0, ew⟩ : ∃ w0, ws[j]? = some w0 := ⟨ws[j]'(by omega), List.getElem?_eq_getElem _⟩
        have ex4 : x4 = .int w0 := by
          have e4' : (ws.map V.int)[j]? = some x4 := e4
          rw [List.getElem?_map, ew] at e4'
          exact (Option.some.inj e4').symm
        subst ex4
        rw [getD_at ew] at hZ hN
        rw [getD_at e3] at hZ
        refine ⟨t3, _, rfl, SqT.of upd_same, rfl, _, _, rfl, _, _, rfl, rfl, ?_⟩
        refine ⟨rfl, ?_⟩
        refine ⟨_, rfl, _, _, rfl, rfl, _, rfl, ite2 (fun e => ?_) (fun e => ?_)⟩
        · exact ⟨_, rfl, hZ _ (Same.refl _) e⟩
        · exact hN _ (Same.refl _) (by
            cases z : decide (0 < w0) with
            | false => rfl
            | true => exact absurd z e)
      intro H3 s3 hz3
      have hp3 := s3 _ _ hp'
      refine ⟨_, rfl, p, CE, dx, _, rfl, hp3, TE.cl, TE.n4, (by show 3 < 1000; decide), ?_⟩
      have mA : Same H0 (upd H3 p (.ins CE dx (putF "stuck" (.ref D) (se3 a b cw)))) := same_put (sm'.trans s3) np
      have hpA : (upd H3 p (.ins CE dx (putF "stuck" (.ref D) (se3 a b cw)))) p = some (.ins CE dx [("piece_reads", .ref a), ("piece_names", .ref b), ("weights", .ref cw), ("stuck", .ref D)]) := by
        rw [upd_same]
        exact congrArg (fun z => some (HO.ins CE dx z)) (by kernel_rfl)
      have xA : SameX p H' (upd H3 p (.ins CE dx (putF "stuck" (.ref D) (se3 a b cw)))) := SameX.trans (Same.x s3 p) sameX_upd
      have hDA : (upd H3 p (.ins CE dx (putF "stuck" (.ref D) (se3 a b cw)))) D = some (.lst (((List.range rs.length).filter fun j => decide (0 < ws.getD j 0)).map fun j => xs.getD j .non)) := by
        rw [upd_ne (ne_of hz3 hp3 (by intro z; cases z))]
        exact hz3
      have nD0 : H0 D = none := sm'.free hD
      have bA : (upd H3 p (.ins CE dx (putF "stuck" (.ref D) (se3 a b cw)))) b = some (.lst ((tabsOf S rs).map V.str)) := xA _ _ (ne_of hb14 hp14 (by intro z; cases z)) (sx' _ _ (ne_of hb14 hp14 (by intro z; cases z)) hb14)
      have PA := PP.putX hp' ngp xA mA
      generalize upd H3 p (.ins CE dx (putF "stuck" (.ref D) (se3 a b cw))) = HA at mA hpA hDA bA PA ⊢
      -- prices
      obtain ⟨_, _, dxg2, gg2, gb2, grs2, _, _, hg2, _⟩ := id PA
      refine ⟨_, rfl, g, dxg2, _, rfl, hg2, pf_no (by decide +kernel) (by decide +kernel) (by decide +kernel) (by decide +kernel) (by decide +kernel) (by decide +kernel), ?_⟩
      refine ⟨g, H0, slp S rs ws, bs, true, rfl, PA, hh15, hw15, fun pr hpr => ?_⟩
      have sB : Same HA (upd HA pr (.lst (priV (slp S rs ws) bs))) := same_upd hpr
      have prB : (upd HA pr (.lst (priV (slp S rs ws) bs))) pr = some (.lst (priV (slp S rs ws) bs)) := upd_same
      generalize upd HA pr (.lst (priV (slp S rs ws) bs)) = HB at sB prB ⊢
      have prl : (priV (slp S rs ws) bs).length = S.d + (tabsOf S rs).length + 1 := by
        unfold priV
        rw [List.length_map, List.length_range]
        rfl
      have mB := mA.trans sB
      obtain ⟨sdx, kt, nr, skv, nrs, k1, _⟩ := (hS.mono mB).ex
      refine ⟨_, rfl, _, rfl, ps, C, sdx, _, _, rfl, k1, T.cl, T.nd, sf_d, (S.d : Int), rfl, pr, _, rfl, SqL.of prB, fun v1 hv1 => ?_⟩
      rw [cut_front _ (by omega)]
      have sC : Same HB (upd HB v1 (.lst ((priV (slp S rs ws) bs).take S.d))) := same_upd hv1
      have hvC : (upd HB v1 (.lst ((priV (slp S rs ws) bs).take S.d))) v1 = some (.lst ((priV (slp S rs ws) bs).take S.d)) := upd_same
      generalize upd HB v1 (.lst ((priV (slp S rs ws) bs).take S.d)) = HC at sC hvC ⊢
      refine .inl ⟨v1, _, rfl, SqL.of hvC, fun vt hvt => ?_⟩
      have sD : Same HC (upd HC vt (.tup ((priV (slp S rs ws) bs).take S.d))) := same_upd hvt
      have vtD : (upd HC vt (.tup ((priV (slp S rs ws) bs).take S.d))) vt = some (.tup ((priV (slp S rs ws) bs).take S.d)) := upd_same
      generalize upd HC vt (.tup ((priV (slp S rs ws) bs).take S.d)) = HD at sD vtD ⊢
      have sAD := (sB.trans sC).trans sD
      refine ⟨_, rfl, p, CE, dx, _, rfl, sAD _ _ hpA, TE.cl, TE.n5, (by show 4 < 1000; decide), ?_⟩
      have mE : Same H0 (upd HD p (.ins CE dx (putF "vector" (.ref vt) [("piece_reads", .ref a), ("piece_names", .ref b), ("weights", .ref cw), ("stuck", .ref D)]))) := same_put (mA.trans sAD) np
      have hpE : (upd HD p (.ins CE dx (putF "vector" (.ref vt) [("piece_reads", .ref a), ("piece_names", .ref b), ("weights", .ref cw), ("stuck", .ref D)]))) p = some (.ins CE dx [("piece_reads", .ref a), ("piece_names", .ref b), ("weights", .ref cw), ("stuck", .ref D), ("vector", .ref vt)]) := by
        rw [upd_same]
        exact congrArg (fun z => some (HO.ins CE dx z)) (by kernel_rfl)
      have xE : SameX p HD (upd HD p (.ins CE dx (putF "vector" (.ref vt) [("piece_reads", .ref a), ("piece_names", .ref b), ("weights", .ref cw), ("stuck", .ref D)]))) := sameX_upd
      have hpD := sAD _ _ hpA
      have nL : ∀ {x : Addr} {l : List V}, HD x = some (.lst l) → x ≠ p := fun h => ne_of h hpD (by intro z; cases z)
      have nT : ∀ {x : Addr} {l : List V}, HD x = some (.tup l) → x ≠ p := fun h => ne_of h hpD (by intro z; cases z)
      have prE := xE _ _ (nL ((sC.trans sD) _ _ prB)) ((sC.trans sD) _ _ prB)
      have DE := xE _ _ (nL (sAD _ _ hDA)) (sAD _ _ hDA)
      have bE := xE _ _ (nL (sAD _ _ bA)) (sAD _ _ bA)
      have vtE := xE _ _ (nT vtD) vtD
      clear xE
      generalize upd HD p (.ins CE dx (putF "vector" (.ref vt) [("piece_reads", .ref a), ("piece_names", .ref b), ("weights", .ref cw), ("stuck", .ref D)])) = HE at mE hpE prE DE bE vtE ⊢
      obtain ⟨sdx, kt, nr, skv, nrs, k1, _⟩ := (hS.mono mE).ex
      refine ⟨_, rfl, _, rfl, ps, C, sdx, _, _, rfl, k1, T.cl, T.nd, sf_d, (S.d : Int), rfl, 1, rfl, -1, rfl, pr, _, rfl, SqL.of prE, fun v2 hv2 => ?_⟩
      have ecut : cutV (priV (slp S rs ws) bs) (some (S.d : Int)) (some (-1)) = ((priV (slp S rs ws) bs).drop S.d).take (tabsOf S rs).length := cut_mid _ prl
      have sF : Same HE (upd HE v2 (.lst (((priV (slp S rs ws) bs).drop S.d).take (tabsOf S rs).length))) := same_upd hv2
      have hvF : (upd HE v2 (.lst (((priV (slp S rs ws) bs).drop S.d).take (tabsOf S rs).length))) v2 = some (.lst (((priV (slp S rs ws) bs).drop S.d).take (tabsOf S rs).length)) := upd_same
      rw [ecut]
      generalize upd HE v2 (.lst (((priV (slp S rs ws) bs).drop S.d).take (tabsOf S rs).length)) = HF at sF hvF ⊢
      refine ⟨_, rfl, p, CE, dx, _, rfl, sF _ _ hpE, TE.cl, TE.n6, (by show 5 < 1000; decide), ?_⟩
      have mG : Same H0 (upd HF p (.ins CE dx (putF "heights" (.ref v2) [("piece_reads", .ref a), ("piece_names", .ref b), ("weights", .ref cw), ("stuck", .ref D), ("vector", .ref vt)]))) := same_put (mE.trans sF) np
      have hpG : (upd HF p (.ins CE dx (putF "heights" (.ref v2) [("piece_reads", .ref a), ("piece_names", .ref b), ("weights", .ref cw), ("stuck", .ref D), ("vector", .ref vt)]))) p = some (.ins CE dx (se6 a b cw D vt v2)) := by
        rw [upd_same]
        exact congrArg (fun z => some (HO.ins CE dx z)) (by kernel_rfl)
      have xG : SameX p HF (upd HF p (.ins CE dx (putF "heights" (.ref v2) [("piece_reads", .ref a), ("piece_names", .ref b), ("weights", .ref cw), ("stuck", .ref D), ("vector", .ref vt)]))) := sameX_upd
      have hpF := sF _ _ hpE
      have DG := xG _ _ (ne_of (sF _ _ DE) hpF (by intro z; cases z)) (sF _ _ DE)
      have bG := xG _ _ (ne_of (sF _ _ bE) hpF (by intro z; cases z)) (sF _ _ bE)
      have vtG := xG _ _ (ne_of (sF _ _ vtE) hpF (by intro z; cases z)) (sF _ _ vtE)
      have v2G := xG _ _ (ne_of hvF hpF (by intro z; cases z)) hvF
      generalize upd HF p (.ins CE dx (putF "heights" (.ref v2) [("piece_reads", .ref a), ("piece_names", .ref b), ("weights", .ref cw), ("stuck", .ref D), ("vector", .ref vt)])) = HG at mG hpG DG bG vtG v2G ⊢
      have esub : ((List.range rs.length).filter fun j => decide (0 < ws.getD j 0)).map (fun j => rs.getD j rd0) = [] → ∀ j, j < rs.length → ws.getD j 0 = 0 := fun h j hj => by
        have h1 := List.map_eq_nil_iff.mp h
        have h2 := List.filter_eq_nil_iff.mp h1 j (List.mem_range.mpr hj)
        have h3 : ¬ 0 < ws.getD j 0 := fun z => h2 (decide_eq_true z)
        have := hwn j
        omega
      refine q HG ⟨mG, np, dx, a, b, cw, D, vt, v2, _, ((List.range rs.length).filter fun j => decide (0 < ws.getD j 0)).map (fun j => rs.getD j rd0), fun c => (slp S rs ws).price bs c, hpG, nD0, DG, ?_, ?_, bG, ?_, ?_, fun cc hcc => ⟨EE.price_nn (by show cc < S.d + (tabsOf S rs).length + 1; omega), ?_⟩, fun hst r hr => ?_⟩
      · refine ⟨by rw [List.length_map, List.length_map], fun j v r hv hr => ?_⟩
        rw [List.getElem?_map] at hv hr
        cases ei : ((List.range rs.length).filter fun j => decide (0 < ws.getD j 0))[j]? with
        | none =>
          rw [ei] at hv
          cases hv
        | some k =>
          rw [ei] at hv hr
          have hk := List.mem_range.mp (List.mem_filter.mp (List.mem_of_getElem? ei)).1
          have ev : xs[k]? = some (xs[k]'(by omega)) := List.getElem?_eq_getElem _
          have er : rs[k]? = some rs[k] := List.getElem?_eq_getElem hk
          have h1 : xs.getD k .non = v := Option.some.inj hv
          have h2 : rs.getD k rd0 = r := Option.some.inj hr
          rw [getD_at ev] at h1
          rw [getD_at er] at h2
          rw [← h1, ← h2]
          exact (hA.2 k _ _ ev er).mono mG
      · have e := map_range (fun r : Rd2 => r) rd0 rs
        rw [List.map_id'] at e
        conv => rhs; rw [← e]
        exact List.filter_sublist.map _
      · rw [vtG]
        refine congrArg (fun z => some (HO.tup z)) ?_
        unfold priV
        rw [← List.map_take, List.take_range]
        rw [show min S.d (slp S rs ws).h = S.d from Nat.min_eq_left (by show S.d ≤ S.d + (tabsOf S rs).length + 1; omega)]
      · rw [v2G]
        refine congrArg (fun z => some (HO.lst z)) ?_
        refine list_of ?_ fun i y hy => ?_
        · rw [List.length_take, List.length_drop, prl]
          omega
        · rw [List.getElem?_take] at hy
          split at hy
          · rename_i hi
            rw [List.getElem?_drop] at hy
            unfold priV at hy
            rw [List.getElem?_map, List.getElem?_range (by show S.d + i < S.d + (tabsOf S rs).length + 1; omega)] at hy
            exact (Option.some.inj hy).symm
          · cases hy
      · exact Lp.T_abs sS _ _
      · obtain ⟨j, hj⟩ := List.getElem?_of_mem hr
        have hjl := (List.getElem?_eq_some_iff.mp hj).1
        exact slp_drop EE hneg hj (esub hst j hjl)
end
end Frd
set_option Elab.async false
set_option linter.all false
set_option maxRecDepth 100000
set_option maxHeartbeats 4000000
set_option pp.maxSteps 1000
/-! Settling.level, levels_in, schedule. -/
namespace Frd
open PySem PySem.Spec PyProof.Rows L2
theorem se6_d {a b c d e f : Addr} : (se6 a b c d e f).lookup ("stuck" : Str) = some (.ref d) := by kernel_rfl
theorem se6_b {a b c d e f : Addr} : (se6 a b c d e f).lookup ("piece_names" : Str) = some (.ref b) := by kernel_rfl
theorem se6_e {a b c d e f : Addr} : (se6 a b c d e f).lookup ("vector" : Str) = some (.ref e) := by kernel_rfl
theorem se6_f {a b c d e f : Addr} : (se6 a b c d e f).lookup ("heights" : Str) = some (.ref f) := by kernel_rfl
theorem se6_l {a b c d e f : Addr} : (se6 a b c d e f).lookup ("level" : Str) = none := by kernel_rfl
/-- the names ns stand in a level's dict with the vector and the heights y -/
def EntAt (H : Hp) (kvs : List (Key × V)) (d : Nat) (ns : List Str) (y : Nat → Int) : Prop := ∀ (k : Nat) (x : Str), ns[k]? = some x → ∃ t e, valV kvs (Sum.inr x) = some (.ref t) ∧ H t = some (.tup [.ref e, .int (y (d + k))]) ∧ H e = some (.tup ((List.range d).map fun c => V.int (y c)))
theorem EntAt.mono {H H' : Hp} {kvs : List (Key × V)} {d : Nat} {ns : List Str} {y : Nat → Int} (h : EntAt H kvs d ns y) (s : ∀ t l, H t = some (.tup l) → H' t = some (.tup l)) : EntAt H' kvs d ns y := fun k x e => by
  obtain ⟨t, e, h1, h2, h3⟩ := h k x e
  exact ⟨t, e, h1, s _ _ h2, s _ _ h3⟩
section
variable {P : Program} {w : World} {K : PySem.W.Frag} {mg : Str → Option Value} {base : Heap} {C CP CE : Addr}
theorem scLe : FnScope ["self", "name", "height"] ["self"] (defScope (metS 29 1)) := ⟨rfl, rfl, rfl, by decide +kernel, rfl, by decide +kernel, by decide +kernel⟩
def spLe (CE : Addr) : Sp := fun vs H Q _ => ∃ (p dx a b c d e f : Addr) (dd : Nat) (ns : List Str) (y : Nat → Int), vs = [.ref p] ∧ H p = some (.ins CE dx (se6 a b c d e f)) ∧ H b = some (.lst (ns.map V.str)) ∧ ns.Nodup ∧ ns.length ≤ 100 ∧ H e = some (.tup ((List.range dd).map fun c => V.int (y c))) ∧
  H f = some (.lst ((List.range ns.length).map fun i => V.int (y (dd + i)))) ∧ ∀ H' q kvs, Same H H' → H q = none → H' q = some (.dK kvs) → kvs.map (·.1) = ns.map Sum.inr → EntAt H' kvs dd ns y → Q (.ref q) H'
theorem ok_le {fa : Addr} {fd : FuncData} (F : Fun K "level" "Settling.level" (metS 29 1) fa fd) (TE : TxE K CE) (mzip : mg "zip" = none) : FnOk P w K mg base CX0 1 fa fd ["self"] (spLe CE) := by
  refine F.ok scLe (fun vs H Q E h => ?_) (fun cdv A outer s H vs Q E hr h => ?_)
  · obtain ⟨p, dx, a, b, c, d, e, f, dd, ns, y, rfl, _⟩ := h
    rfl
  · obtain ⟨p, dx, a, b, c, d, e, f, dd, ns, y, rfl, hp, hb, hnd, hnl, he, hf, q⟩ := h
    have nd := scLe.nd
    refine ⟨_, pss_one (ps_ret (pe_dc (own := [("name", 1), ("height", 2)]) (g := gTup K 2 (gCons (gName 1) (gCons (gName 2) gNil))) (tt := tYes) rfl nd (pi_zip (by rfl) mzip (pa_cons (pe_fld (pv 0) rfl) (pa_cons (pe_fld (pv 0) rfl) pa_nil))) (blkOk_by (N := ["self", "name", "height"]) (sc := defScope (metS 29 1)) (by decide +kernel))
            (fun _ _ _ _ _ => pg_tup rfl (pgs_cons (pg_name (i := 1) nd rfl (Or.inl rfl)) (pgs_cons (pg_name (i := 2) nd rfl (Or.inl rfl)) pgs_nil))) (fun _ _ _ _ _ => pts_nil) (fun _ _ _ _ _ => pv 1) (fun _ _ _ _ _ => pe_tup (pa_cons (pe_fldB (K := K) (pv 0) rfl rfl) (pa_cons (pv 2) pa_nil))))), ?_⟩
    refine ⟨_, rfl, p, CE, dx, _, _, rfl, hp, TE.cl, TE.n2, se6_b, ?_⟩
    refine ⟨_, rfl, p, CE, dx, _, _, rfl, hp, TE.cl, TE.n6, se6_f, ?_⟩
    refine ⟨b, f, _, _, rfl, SqL.of hb, SqL.of hf, fun D hD => ?_⟩
    refine dc_map (walk_zip (K := K) (a := b) (b := f) (xs := ns.map V.str) (ys := (List.range ns.length).map fun i => V.int (y (dd + i))) (n := ns.length) (by rw [List.length_map, List.length_map, List.length_range]; omega)) (fun i => Sum.inr (ns.getD i ⟨#[]⟩)) (fun i H' v => ∃ t, v = .ref t ∧ t ≠ D ∧ H' t = some (.tup [.ref e, .int (y (dd + i))])) (fun i H1 H2 y kvs hD sx ⟨t, e1, n, h⟩ => ⟨t, e1, n, sx _ _ n h⟩) (small1000 (by omega)) hD
        (fun H' s' => ⟨SqL.of (s' _ _ hb), SqL.of (s' _ _ hf)⟩) (fun j H x H' _ => y_pair j H x H') ?_ ?_ gm_pair
    · rintro i x H2 H3 kvs Z hi sm hk ⟨t3, x3, x4, rfl, nt3, rfl, e3, e4⟩ hZ
      obtain ⟨n, en⟩ : ∃ n, ns[i]? = some n := ⟨ns[i], List.getElem?_eq_getElem hi⟩
      have ex3 : x3 = .str n := by
        have e3' : (ns.map V.str)[i]? = some x3 := e3
        rw [List.getElem?_map, en] at e3'
        exact (Option.some.inj e3').symm
      have ex4 : x4 = .int (y (dd + i)) := by
        have e4' : ((List.range ns.length).map fun i => V.int (y (dd + i)))[i]? = some x4 := e4
        rw [List.getElem?_map, List.getElem?_range hi] at e4'
        exact (Option.some.inj e4').symm
      subst ex3
      subst ex4
      refine ⟨t3, _, rfl, SqT.of upd_same, rfl, _, _, rfl, _, _, rfl, rfl, ?_⟩
      refine ⟨rfl, _, rfl, _, rfl, p, CE, dx, _, _, rfl, sm _ _ hp, TE.cl, TE.n5, se6_e, _, rfl, Nat.le_of_lt (small1000 (by simp)), fun t ht => ?_⟩
      have := hZ (.ref t) _ (same_upd ht) ⟨t, rfl, (ne_of_none hk ht).symm, upd_same⟩
      rw [getD_at en] at this
      exact this
    · intro H1 kvs sm hk hkk hv
      have ek : kvs.map (·.1) = ns.map Sum.inr := by
        rw [hkk]
        have e : (List.range ns.length).map (fun i => (Sum.inr (ns.getD i ⟨#[]⟩) : Key)) = ns.map Sum.inr := map_range (fun n : Str => (Sum.inr n : Key)) ⟨#[]⟩ ns
        rw [e]
        exact addKs_nodup (by rw [List.nil_append]; exact List.pairwise_map.mpr (hnd.imp fun n z => n (Sum.inr.inj z)))
      refine q H1 D kvs sm hD hk ek fun k x ex => ?_
      have hm : (Sum.inr x : Key) ∈ kvs.map (·.1) := by
        rw [ek]
        exact List.mem_map.mpr ⟨x, List.mem_of_getElem? ex, rfl⟩
      obtain ⟨j, kv, e1, e2, e3⟩ := valV_mem hm
      obtain ⟨j2, hj2, ej2, t, et, _, ht⟩ := hv _ _ e3
      have ex2 : ns.getD j2 ⟨#[]⟩ = x := Sum.inr.inj ej2
      have ej : ns[j2]? = some ns[j2] := List.getElem?_eq_getElem hj2
      rw [getD_at ej] at ex2
      have : j2 = k := nodup_at hnd (by rw [ej, ex2]) ex
      subst this
      exact ⟨t, e, by rw [e3, et], ht, sm _ _ he⟩
end
end Frd
set_option Elab.async false
set_option linter.all false
set_option maxRecDepth 100000
set_option maxHeartbeats 4000000
set_option pp.maxSteps 1000
/-! levels_in, schedule. -/
namespace Frd
open PySem PySem.Spec PyProof.Rows L2
theorem valV_merge_old : ∀ {more kvs : List (Key × V)} {k : Key}, k ∉ more.map (·.1) → valV (mergeK kvs more) k = valV kvs k
  | [], _, _, _ => rfl
  | p :: more, kvs, k, h => by
    rw [List.map_cons, List.mem_cons, not_or] at h
    show valV (mergeK (putK kvs p.1 p.2) more) k = _
    rw [valV_merge_old h.2, valV_putK, if_neg h.1]
theorem valV_merge_new : ∀ {more kvs : List (Key × V)} {k : Key}, (more.map (·.1)).Nodup → k ∈ more.map (·.1) → valV (mergeK kvs more) k = valV more k
  | p :: more, kvs, k, hn, h => by
    rw [List.map_cons] at hn h
    have hn' := List.nodup_cons.mp hn
    show valV (mergeK (putK kvs p.1 p.2) more) k = _
    by_cases e : k = p.1
    · subst e
      rw [valV_merge_old hn'.1, valV_putK, if_pos rfl]
      exact (valV_pos rfl).symm
    · have hm : k ∈ more.map (·.1) := by
        rcases List.mem_cons.mp h with z | z
        · exact absurd z e
        · exact z
      rw [valV_merge_new hn'.2 hm]
      exact (valV_neg (fun z => e z.symm)).symm
/-- one settled piece as the level tells it -/
structure PcLev (S : Sys) (H : Hp) (kvs : List (Key × V)) (ns : List Str) (rs : List Rd2) : Prop where
  ex : ∃ y : Nat → Int, (∀ c, c < S.d + ns.length → 0 ≤ y c ∧ (y c).natAbs ≤ 2 ^ 1664) ∧ (∀ r ∈ rs, 1 ≤ sumN (S.d + ns.length) (fun c => aRd S ns c r * y c)) ∧ EntAt H kvs S.d ns y
theorem PcLev.mono {S : Sys} {H H' : Hp} {kvs : List (Key × V)} {ns : List Str} {rs : List Rd2} (h : PcLev S H kvs ns rs) (s : ∀ t l, H t = some (.tup l) → H' t = some (.tup l)) : PcLev S H' kvs ns rs := by
  obtain ⟨y, h1, h2, h3⟩ := h
  exact ⟨y, h1, h2, h3.mono s⟩
/-- the only level of a schedule -/
def LevelAt (S : Sys) (H : Hp) (L : Addr) : Prop := ∃ kvs, H L = some (.dK kvs) ∧ ∀ n : Str, (Sum.inr n : Key) ∈ kvs.map (·.1) → PcLev S H kvs (cnames S n) (compOf S n)
theorem LevelAt.mono {S : Sys} {H H' : Hp} {L : Addr} (h : LevelAt S H L) (s : Same H H') : LevelAt S H' L := by
  obtain ⟨kvs, h1, h2⟩ := h
  exact ⟨kvs, s _ _ h1, fun n hn => (h2 n hn).mono fun t l e => s _ _ e⟩
theorem LevelAt.monoX {S : Sys} {H H' : Hp} {L F : Addr} {l : List V} (h : LevelAt S H L) (hF : H F = some (.lst l)) (s : SameX F H H') : LevelAt S H' L := by
  obtain ⟨kvs, h1, h2⟩ := h
  exact ⟨kvs, s _ _ (ne_of h1 hF (by intro z; cases z)) h1, fun n hn => (h2 n hn).mono fun t l e => s _ _ (ne_of e hF (by intro z; cases z)) e⟩
/-- what was found so far, the reads that are left -/
def FsOk (S : Sys) (H : Hp) (fs : List V) (rs : List Rd2) : Prop := (fs = [] ∧ rs = S.named) ∨ (∃ L, fs = [.ref L] ∧ (rs = [] → LevelAt S H L)) ∨ 2 ≤ fs.length
section
variable {P : Program} {w : World} {K : PySem.W.Frag} {mg : Str → Option Value} {base : Heap} {C CP CE : Addr}
theorem scLi : FnScope ["system", "found", "reads", "level", "left", "piece", "settling"] ["system"] (defScope (topS 30)) := ⟨rfl, rfl, rfl, by decide +kernel, rfl, by decide +kernel, by decide +kernel⟩
def spLi (C : Addr) : Sp := fun vs H Q _ => ∃ (p : Addr) (S : Sys), vs = [.ref p] ∧ SysAt C H p S ∧ S.Ok ∧ ∀ H' v, Same H H' → (v = .non ∨ ∃ F fs, v = .ref F ∧ H' F = some (.lst fs) ∧ (fs.length = 1 → ∃ L, fs = [.ref L] ∧ LevelAt S H' L)) → Q v H'
theorem ok_li {fa : Addr} {fd : FuncData} (F : Fun K "levels_in" "levels_in" (topS 30) fa fd) (T : TxS K C) (TE : TxE K CE) (mlist : mg "list" = none) (mlen : mg "len" = none) (msorted : mg "sorted" = none) (D1 : Dn P w K mg base "pieces_of" 2 ["system", "reads"] (spPc K C))
    (KE : Kn P w K mg base "Settling" CE 5 ["self", "system", "reads"] (spSe K C CE)) (ML : Mn P w K mg base CE "level" 1 ["self"] (spLe CE)) : FnOk P w K mg base CX0 7 fa fd ["system"] (spLi C) := by
  refine F.ok scLi (fun vs H Q E h => ?_) (fun cdv A outer s H vs Q E hr h => ?_)
  · obtain ⟨p, S, rfl, _⟩ := h
    rfl
  · obtain ⟨p, S, rfl, hS, ok, q⟩ := h
    have nd := scLi.nd
    refine ⟨_, pss_cons (ps_par (i := 1) (j := 2) rfl nd rfl rfl (by decide) rfl rfl (pa_cons (pe_lst pa_nil) (pa_cons (pe_callTy call_list_of (by rfl) mlist (by decide +kernel) (pa_cons (pe_fld (pv 0) rfl) pa_nil)) pa_nil)) (by rfl))
      (pss_cons (ps_while PassesOwn.never (pt_cmpR (op_neNil hr.units0) (pv 2) (pe_lst pa_nil) (nomark _))
        (pss_cons (ps_par (i := 3) (j := 4) rfl nd rfl rfl (by decide) rfl rfl (pa_cons pe_dnewK (pa_cons (pe_lst pa_nil) pa_nil)) (by rfl))
        (pss_cons (ps_for PassesOwn.never rfl (pi_list (pe_def D1 (hr.mono (by decide)) (by rfl) (pa_cons (pv 0) (pa_cons (pv 2) pa_nil)))) (pg_name (i := 5) nd rfl (.inl rfl))
          (pss_cons (ps_set (i := 6) nd rfl (.inl rfl) (pe_new KE hr (by rfl) (pa_cons (pv 0) (pa_cons (pv 5) pa_nil))))
          (pss_cons (ps_if (pt_cmpR op_eq (pe_callB call_len_seq (by rfl) mlen PySem.boot_len (pa_cons (pe_fld (pv 6) rfl) pa_nil)) (pe_callB call_len_seq (by rfl) mlen PySem.boot_len (pa_cons (pv 5) pa_nil)) (nomark _)) (pss_one (ps_ret pe_non)) pss_nil)
          (pss_cons (ps_expr (pe_bm PySem.F.plainAttrs_dict PySem.F.slot_dict_update PySem.F.type_dict_update mt_update (pv 3) (pa_cons (pe_mth0 TE.cl ML (hr.mono (by decide)) (pv 6)) pa_nil)))
          (pss_one (ps_expr (pe_bm PySem.F.plainAttrs_list PySem.F.slot_list_extend PySem.F.type_list_extend mt_extend (pv 4) (pa_cons (pe_fld (pv 6) rfl) pa_nil))))))))
        (pss_cons (ps_expr (pe_bm PySem.F.plainAttrs_list PySem.F.slot_list_append PySem.F.type_list_append mt_append (pv 1) (pa_cons (pv 3) pa_nil)))
        (pss_one (ps_set (i := 2) nd rfl (.inl rfl) (pe_callB cr_sortedRd (by rfl) msorted (by decide +kernel) (pa_cons (pv 4) pa_nil)))))))) 
      (pss_one (ps_ret (pv 1)))), ?_⟩
    obtain ⟨dx, kt, nr, skvs, nrs, h1, h2, h3, h4, h5, h6⟩ := id hS
    have few := ok.few
    refine ⟨Nat.zero_le _, fun F0 hF0 => ?_⟩
    have s1 : Same H (upd H F0 (.lst [])) := same_upd hF0
    have hF1 : (upd H F0 (.lst [])) F0 = some (.lst []) := upd_same
    generalize upd H F0 (.lst []) = H1 at s1 hF1 ⊢
    refine ⟨_, rfl, p, C, dx, _, _, rfl, s1 _ _ h1, T.cl, T.nn, sf_n, nr, nrs, rfl, .inr (SqT.of (s1 _ _ h5)), fun R0 hR0 => ?_⟩
    have s2 : Same H1 (upd H1 R0 (.lst nrs)) := same_upd hR0
    have hR2 : (upd H1 R0 (.lst nrs)) R0 = some (.lst nrs) := upd_same
    generalize upd H1 R0 (.lst nrs) = H2 at s2 hR2 ⊢
    refine ⟨_, _, rfl, ?_⟩
    have s02 := s1.trans s2
    refine ⟨fun m σ H' => ∃ (R : Addr) (zs fs : List V) (rs : List Rd2), (∃ y3 y4 y5 y6, σ = [some (.ref p), some (.ref F0), some (.ref R), y3, y4, y5, y6]) ∧ Same H H' ∧ H' F0 = some (.lst fs) ∧ H' R = some (.lst zs) ∧ All2 (RdV H') zs rs ∧ rs.Nodup ∧ (∀ r ∈ rs, r ∈ S.named) ∧ fs.length + rs.length ≤ 12 ∧ FsOk S H' fs rs ∧ m = rs.length,
      ⟨S.named.length, R0, nrs, [], S.named, ⟨none, none, none, none, rfl⟩, s02, s2 _ _ hF1, hR2, h6.mono fun v r h => h.mono s02, Sys.named_nodup ok.nodup, fun r hr => hr, by simpa using few, .inl ⟨rfl, rfl⟩, rfl⟩, ?_⟩
    rintro m σ H3 ⟨R, zs, fs, rs, ⟨y3, y4, y5, y6, rfl⟩, s3, hF3, hR3, hA3, hnd3, hin3, hle3, hfs3, rfl⟩
    have hzl : zs.length = rs.length := hA3.1
    refine ⟨_, rfl, Nat.zero_le _, fun E1 hE1 => ?_⟩
    have s4 : Same H3 (upd H3 E1 (.lst [])) := same_upd hE1
    have hE4 : (upd H3 E1 (.lst [])) E1 = some (.lst []) := upd_same
    generalize upd H3 E1 (.lst []) = H4 at s4 hE4 ⊢
    have s04 := s3.trans s4
    refine ⟨R, E1, zs, rfl, rfl, SqL.of (s4 _ _ hR3), SqL.of hE4, _, rfl, ite2 (fun e => ?_) (fun e => ?_)⟩
    · have hzne : zs ≠ [] := fun z => by
        subst z
        cases e
      have hrpos : 0 < rs.length := by
        rw [← hzl]
        exact List.length_pos_iff.mpr hzne
      refine ⟨fun σ' H2 => ∃ (R : Addr) (zs fs : List V) (rs2 : List Rd2), (∃ y3 y4 y5 y6, σ' = [some (.ref p), some (.ref F0), some (.ref R), y3, y4, y5, y6]) ∧ Same H H2 ∧ H2 F0 = some (.lst fs) ∧ H2 R = some (.lst zs) ∧ All2 (RdV H2) zs rs2 ∧ rs2.Nodup ∧ (∀ r ∈ rs2, r ∈ S.named) ∧ fs.length + rs2.length ≤ 12 ∧ FsOk S H2 fs rs2 ∧ rs2.length < rs.length,
        fun σ' H2 ⟨R, zs, fs, rs2, a1, a2, a3, a4, a5, a6, a7, a8, a9, a10⟩ => ⟨_, a10, R, zs, fs, rs2, a1, a2, a3, a4, a5, a6, a7, a8, a9, rfl⟩, ?_⟩
      -- level, left
      intro L hL
      have s5 : Same H4 (upd H4 L (.dK [])) := same_upd hL
      have hL5 : (upd H4 L (.dK [])) L = some (.dK []) := upd_same
      have nL0 : H L = none := s04.free hL
      generalize upd H4 L (.dK []) = H5 at s5 hL5 ⊢
      refine ⟨Nat.zero_le _, fun Lf hLf => ?_⟩
      have s6 : Same H5 (upd H5 Lf (.lst [])) := same_upd hLf
      have hLf6 : (upd H5 Lf (.lst [])) Lf = some (.lst []) := upd_same
      have nLf0 : H Lf = none := (s04.trans s5).free hLf
      have hL6 := s6 _ _ hL5
      have nLF : L ≠ Lf := ne_of_none hL5 hLf
      generalize upd H5 Lf (.lst []) = H6 at s6 hLf6 hL6 ⊢
      have s46 := s5.trans s6
      have s06 := s04.trans s46
      have hF6 := s46 _ _ (s4 _ _ hF3)
      have nF0L : F0 ≠ L := ne_of_none (s4 _ _ hF3) hL
      have nF0Lf : F0 ≠ Lf := ne_of_none (s5 _ _ (s4 _ _ hF3)) hLf
      refine ⟨_, _, rfl, ?_⟩
      refine ⟨_, rfl, _, rfl, ?_⟩
      refine ⟨p, R, S, zs, rs, rfl, hS.mono s06, .inl (SqL.of ((s4.trans s46) _ _ hR3)), hA3.mono fun v r h => h.mono (s4.trans s46), fun r hr => ok.all r (hin3 r hr), by omega, fun H7 F1 ys ps s7 nF1 hF7 hP hys => ?_⟩
      have hyl : ys.length = ps.length := hys.1
      have hpl : ps.length ≤ 12 := by
        have := hP.few
        omega
      have hL7 := s7 _ _ hL6
      have hLf7 := s7 _ _ hLf6
      have nF1L : F1 ≠ L := (ne_of_none hL6 nF1).symm
      have nF1Lf : F1 ≠ Lf := (ne_of_none hLf6 nF1).symm
      have s07 := s06.trans s7
      refine ⟨F1, rfl, ⟨_, SqL.of hF7⟩, for_list (K := K) (a := F1) (xs := ys) (fun i σ H' => (∃ y5 y6, σ = [some (.ref p), some (.ref F0), some (.ref R), some (.ref L), some (.ref Lf), y5, y6]) ∧ Same H H' ∧ (∀ b o, b ≠ L → b ≠ Lf → H7 b = some o → H' b = some o) ∧
        ∃ (kvs : List (Key × V)) (lz : List V) (left : List Rd2), H' L = some (.dK kvs) ∧ H' Lf = some (.lst lz) ∧ All2 (RdV H') lz left ∧ left.Sublist ((ps.take i).flatMap fun pc => rsort pc.2) ∧ left.length + i ≤ ((ps.take i).flatMap fun pc => rsort pc.2).length ∧ kvs.length ≤ 6 * i ∧
          (∀ n : Str, (Sum.inr n : Key) ∈ kvs.map (·.1) → ∃ pc ∈ ps.take i, n ∈ pc.1) ∧ (left = [] → ∀ pc ∈ ps.take i, PcLev S H' kvs (tabsOf S (rsort pc.2)) (rsort pc.2)))
        ⟨⟨_, _, rfl⟩, s07, fun b o _ _ h => h, [], [], [], hL7, hLf7, All2.nil, List.Sublist.refl _, Nat.le_refl _, Nat.le_refl _, fun n hn => (nomatch hn), fun _ pc hpc => (nomatch hpc)⟩ (fun i σ H' _ ⟨_, _, hk, _⟩ => SqL.of (hk _ _ nF1L nF1Lf hF7)) ?_ ?_⟩
      · rintro i x σ H8 ex ⟨⟨y5, y6, rfl⟩, s8, hk8, kvs, lz, left, hL8, hLf8, hlz, hsub, hlen8, hkl, hkn, hlev⟩
        obtain ⟨pc, epc, l, us, rfl, nl, hl7, hus7⟩ := hys.at ex
        have hpm := List.mem_of_getElem? epc
        have hi := (List.getElem?_eq_some_iff.mp epc).1
        have nlL : l ≠ L := (ne_of_none hL6 nl).symm
        have nlLf : l ≠ Lf := (ne_of_none hLf6 nl).symm
        have hl8 := hk8 _ _ nlL nlLf hl7
        have hus8 : All2 (RdV H8) us (rsort pc.2) := hus7.mono fun v r ⟨t, e, ht⟩ => ⟨t, e, hk8 _ _ (ne_of ht hL7 (by intro z; cases z)) (ne_of ht hLf7 (by intro z; cases z)) ht⟩
        have hinp : ∀ r ∈ rsort pc.2, r ∈ S.named := fun r hr => hin3 r (hP.sub hpm r (mem_rsort.mp hr))
        have hpcl : (rsort pc.2).length ≤ 12 := by
          have := hP.small hpm
          rw [(rsort_perm pc.2).length_eq]
          omega
        have hul : us.length = (rsort pc.2).length := hus8.1
        refine ⟨_, rfl, _, rfl, ?_⟩
        intro x dx2 hx hdx hne
        have s9 : Same H8 (upd (upd H8 dx2 (.own x)) x (.ins CE dx2 [])) := same_put (same_upd hdx) hx
        refine ⟨x, p, l, dx2, H8, S, us, rsort pc.2, rfl, s9, hx, upd_same, hS.mono s8, ok, SqL.of hl8, hus8, hinp, hpcl, fun H9 se => ⟨rfl, ?_⟩⟩
        obtain ⟨s89, _, dx3, a1, b1, c1, d1, e1, f1, sz, st, y, hx9, nd1, hd9, hst, hsubst, hb9, he9, hf9, hy9, hdrop⟩ := se
        have hL9 := s89 _ _ hL8
        have hLf9 := s89 _ _ hLf8
        have hl9 := s89 _ _ hl8
        have szl : sz.length = st.length := hst.1
        refine ⟨_, rfl, x, CE, dx3, _, _, rfl, hx9, TE.cl, TE.n4, se6_d, d1, sz, rfl, .inl (SqL.of hd9), _, rfl, l, us, rfl, .inl (SqL.of hl9), rfl, _, rfl, ?_⟩
        refine ite2 (fun e1' => ?_) (fun e1' => ?_)
        · exact q H9 .non (s8.trans s89) (.inl rfl)
        · have hlt : st.length < (rsort pc.2).length := by
            have h1 := hsubst.length_le
            have h2 : st.length ≠ (rsort pc.2).length := fun z => e1' (decide_eq_true (congrArg V.int (by rw [szl, hul, z])))
            omega
          have tl := tabs_few ok hinp
          -- level.update
          refine ⟨_, rfl, .inr (.inr (.inl ⟨rfl, .inl ⟨kvs, hL9⟩⟩)), ?_⟩
          refine ⟨_, rfl, x, dx3, _, rfl, hx9, se6_l, ?_⟩
          refine ⟨x, dx3, a1, b1, c1, d1, e1, f1, S.d, tabsOf S (rsort pc.2), y, rfl, hx9, hb9, tabsOf_nodup, by omega, he9, hf9, fun H10 nq kvn s10 nnq hnq hkn2 hent => ?_⟩
          have hL10 := s10 _ _ hL9
          have lkn := ks_len (H := H10) (d := nq) hkn2
          refine ⟨L, nq, kvs, kvn, rfl, rfl, hL10, hnq, ne_of_none hL9 nnq, Nat.le_of_lt (small1000 (by omega)), ?_⟩
          have s810 := s89.trans s10
          have sx11 : SameX L H10 (upd H10 L (.dK (mergeK kvs kvn))) := sameX_upd
          have hL11 : (upd H10 L (.dK (mergeK kvs kvn))) L = some (.dK (mergeK kvs kvn)) := upd_same
          have m11 : Same H (upd H10 L (.dK (mergeK kvs kvn))) := same_put (s8.trans s810) nL0
          have hLf11 := sx11 _ _ nLF.symm (s10 _ _ hLf9)
          have hx11 := sx11 _ _ (ne_of (s10 _ _ hx9) hL10 (by intro z; cases z)) (s10 _ _ hx9)
          have hd11 := sx11 _ _ (ne_of (s10 _ _ hd9) hL10 (by intro z; cases z)) (s10 _ _ hd9)
          generalize upd H10 L (.dK (mergeK kvs kvn)) = H11 at sx11 hL11 m11 hLf11 hx11 hd11 ⊢
          have tup11 : ∀ t l, H10 t = some (.tup l) → H11 t = some (.tup l) := fun t l h => sx11 _ _ (ne_of h hL10 (by intro z; cases z)) h
          -- left.extend
          refine ⟨_, rfl, .inl ⟨rfl, _, SqL.of hLf11⟩, ?_⟩
          refine ⟨_, rfl, x, CE, dx3, _, _, rfl, hx11, TE.cl, TE.n4, se6_d, ?_⟩
          have ll := hlz.1
          have lsub := hsub.length_le
          have tot : ((ps.take i).flatMap fun pc => rsort pc.2).length ≤ 12 := by
            have e1 : ∀ l : List Pc, (l.flatMap fun pc => rsort pc.2).length = (l.flatMap (·.2)).length := fun l => by
              induction l with
              | nil => rfl
              | cons a l ih => rw [List.flatMap_cons, List.flatMap_cons, List.length_append, List.length_append, ih, (rsort_perm a.2).length_eq]
            rw [e1]
            have := flat_take ps i
            have := hP.perm.length_eq
            omega
          refine ⟨Lf, d1, _, _, rfl, rfl, hLf11, hd11, Nat.le_of_lt (small1000 (by omega)), ?_⟩
          have sx12 : SameX Lf H11 (upd H11 Lf (.lst (lz ++ sz))) := sameX_upd
          have hLf12 : (upd H11 Lf (.lst (lz ++ sz))) Lf = some (.lst (lz ++ sz)) := upd_same
          have m12 : Same H (upd H11 Lf (.lst (lz ++ sz))) := same_put m11 nLf0
          have hL12 := sx12 _ _ nLF hL11
          generalize upd H11 Lf (.lst (lz ++ sz)) = H12 at sx12 hLf12 m12 hL12 ⊢
          have tup12 : ∀ t l, H10 t = some (.tup l) → H12 t = some (.tup l) := fun t l h => sx12 _ _ (ne_of (tup11 t l h) hLf11 (by intro z; cases z)) (tup11 t l h)
          have etk : ps.take (i + 1) = ps.take i ++ [pc] := by
            rw [List.take_add_one, epc]
            rfl
          have hndn : (kvn.map (·.1)).Nodup := by
            rw [hkn2]
            exact List.pairwise_map.mpr ((tabsOf_nodup (S := S) (rs := rsort pc.2)).imp fun n z => n (Sum.inr.inj z))
          have hkeyn : ∀ x : Str, (Sum.inr x : Key) ∈ kvn.map (·.1) ↔ x ∈ tabsOf S (rsort pc.2) := fun x => by
            rw [hkn2, List.mem_map]
            constructor
            · rintro ⟨z, hz, e⟩
              exact Sum.inr.inj e ▸ hz
            · exact fun h => ⟨x, h, rfl⟩
          have okp := hP.ok pc hpm
          have tabp : ∀ pc : Pc, PcOk S pc → ∀ x, x ∈ tabsOf S (rsort pc.2) ↔ x ∈ pc.1 := fun pc okp x => by
            rw [mem_tabsOf, okp.key]
            constructor
            · rintro ⟨r, hr, h⟩
              exact ⟨r, mem_rsort.mp hr, h⟩
            · rintro ⟨r, hr, h⟩
              exact ⟨r, mem_rsort.mpr hr, h⟩
          refine ⟨⟨_, _, rfl⟩, m12, fun b o n1 n2 h => sx12 _ _ n2 (sx11 _ _ n1 (s810 _ _ (hk8 b o n1 n2 h))), mergeK kvs kvn, lz ++ sz, left ++ st, hL12, hLf12, ?_, ?_, ?_, ?_, fun n hn => ?_, fun hz pc2 hpc2 => ?_⟩
          · refine All2.app (hlz.mono fun v r ⟨t, e, ht⟩ => ⟨t, e, tup12 _ _ (s810 _ _ ht)⟩) (hst.mono fun v r ⟨t, e, ht⟩ => ⟨t, e, tup12 _ _ (s10 _ _ ht)⟩)
          · rw [etk, List.flatMap_append, List.flatMap_singleton]
            exact hsub.append hsubst
          · rw [etk, List.flatMap_append, List.flatMap_singleton, List.length_append, List.length_append]
            omega
          · have := length_mergeK kvn kvs
            omega
          · rw [etk]
            by_cases hnn : (Sum.inr n : Key) ∈ kvn.map (·.1)
            · exact ⟨pc, List.mem_append_right _ (List.mem_singleton.mpr rfl), (tabp pc okp n).mp ((hkeyn n).mp hnn)⟩
            · have : (valV (mergeK kvs kvn) (Sum.inr n : Key)).isSome = true := valV_iff.mpr hn
              rw [valV_merge_old hnn] at this
              obtain ⟨pc2, h1, h2⟩ := hkn n (valV_iff.mp this)
              exact ⟨pc2, List.mem_append_left _ h1, h2⟩
          · have hz1 : left = [] := (List.append_eq_nil_iff.mp hz).1
            have hz2 : st = [] := (List.append_eq_nil_iff.mp hz).2
            rw [etk] at hpc2
            rcases List.mem_append.mp hpc2 with h | h
            · -- an earlier piece
              obtain ⟨y2, g1, g2, g3⟩ := hlev hz1 pc2 h
              refine ⟨y2, g1, g2, fun k x ek => ?_⟩
              obtain ⟨t, e, v1, v2, v3⟩ := g3 k x ek
              have hpm2 := List.mem_of_mem_take h
              have ok2 := hP.ok pc2 hpm2
              have hx2 : x ∈ pc2.1 := (tabp pc2 ok2 x).mp (List.mem_of_getElem? ek)
              have hnx : (Sum.inr x : Key) ∉ kvn.map (·.1) := fun z => by
                have hx1 : x ∈ pc.1 := (tabp pc okp x).mp ((hkeyn x).mp z)
                have := hP.same hpm2 hpm hx2 hx1
                subst this
                obtain ⟨j, hj⟩ := List.getElem?_of_mem h
                have hji := (List.getElem?_eq_some_iff.mp hj).1
                rw [List.length_take] at hji
                have hj2 : ps[j]? = some pc2 := by
                  rw [List.getElem?_take] at hj
                  split at hj
                  · exact hj
                  · cases hj
                -- the same piece at two places
                have hd := List.pairwise_iff_getElem.mp hP.apart j i (by omega) hi (by omega)
                have e1 : ps[j]'(by omega) = pc2 := (List.getElem?_eq_some_iff.mp hj2).2
                have e2 : ps[i] = pc2 := (List.getElem?_eq_some_iff.mp epc).2
                rw [e1, e2] at hd
                exact hd x hx2 hx2
              exact ⟨t, e, by rw [valV_merge_old hnx]; exact v1, tup12 _ _ (s810 _ _ v2), tup12 _ _ (s810 _ _ v3)⟩
            · rw [List.mem_singleton.mp h]
              refine ⟨y, hy9, hdrop hz2, fun k x ek => ?_⟩
              obtain ⟨t, e, v1, v2, v3⟩ := hent k x ek
              have hnx : (Sum.inr x : Key) ∈ kvn.map (·.1) := (hkeyn x).mpr (List.mem_of_getElem? ek)
              exact ⟨t, e, by rw [valV_merge_new hndn hnx]; exact v1, tup12 _ _ v2, tup12 _ _ v3⟩
      · rintro σ H8 ⟨⟨y5, y6, rfl⟩, s8, hk8, kvs, lz, left, hL8, hLf8, hlz, hsub, hlen8, hkl, hkn, hlev⟩
        rw [hyl] at hkl
        rw [hyl, List.take_length] at hsub hlen8 hkn hlev
        have hF8 := hk8 _ _ nF0L nF0Lf (s7 _ _ hF6)
        have efl : ∀ l : List Pc, (l.flatMap fun pc => rsort pc.2).Perm (l.flatMap (·.2)) := fun l => by
          induction l with
          | nil => exact List.Perm.refl _
          | cons a l ih =>
            rw [List.flatMap_cons, List.flatMap_cons]
            exact (rsort_perm a.2).append ih
        have hpr : (ps.flatMap fun pc => rsort pc.2).Perm rs := (efl ps).trans hP.perm
        have hlr : left.length + ps.length ≤ rs.length := by
          have := hpr.length_eq
          omega
        have hpp : 0 < ps.length := by
          rcases ps with _ | ⟨a, b⟩
          · have := hpr.length_eq
            simp at this
            omega
          · simp
        have hndl : left.Nodup := (hpr.nodup_iff.mpr hnd3).sublist hsub
        have hinl : ∀ r ∈ left, r ∈ rs := fun r hr => hpr.mem_iff.mp (hsub.subset hr)
        refine ⟨_, rfl, .inl ⟨rfl, _, SqL.of hF8⟩, _, rfl, ?_⟩
        refine ⟨F0, fs, .ref L, rfl, rfl, hF8, small1000 (by omega), ?_⟩
        have sx9 : SameX F0 H8 (upd H8 F0 (.lst (fs ++ [.ref L]))) := sameX_upd
        have hF9 : (upd H8 F0 (.lst (fs ++ [.ref L]))) F0 = some (.lst (fs ++ [.ref L])) := upd_same
        have m9 : Same H (upd H8 F0 (.lst (fs ++ [.ref L]))) := same_put s8 hF0
        have hL9 := sx9 _ _ nF0L.symm hL8
        have hLf9 := sx9 _ _ nF0Lf.symm hLf8
        have tup9 : ∀ t l, H8 t = some (.tup l) → (upd H8 F0 (.lst (fs ++ [.ref L]))) t = some (.tup l) := fun t l h => sx9 _ _ (ne_of h hF8 (by intro z; cases z)) h
        generalize upd H8 F0 (.lst (fs ++ [.ref L])) = H9 at sx9 hF9 m9 hL9 hLf9 tup9 ⊢
        refine ⟨_, rfl, Lf, lz, left, rfl, SqL.of hLf9, hlz.mono fun v r ⟨t, e, ht⟩ => ⟨t, e, tup9 _ _ ht⟩, fun us R2 hus hR2 => ?_⟩
        have s10 : Same H9 (upd H9 R2 (.lst us)) := same_upd hR2
        refine ⟨R2, us, fs ++ [.ref L], rsort left, ⟨_, _, _, _, rfl⟩, m9.trans s10, s10 _ _ hF9, upd_same, hus.mono fun v r h => h.mono s10, rsort_nodup hndl, fun r hr => hin3 r (hinl r (mem_rsort.mp hr)), ?_, ?_, ?_⟩
        · rw [List.length_append, (rsort_perm left).length_eq]
          simp
          omega
        · rcases hfs3 with ⟨h, hn⟩ | ⟨L0, h, _⟩ | h
          · refine .inr (.inl ⟨L, by rw [h]; rfl, fun hz => ?_⟩)
            have hz' : left = [] := rsort_nil.mp hz
            refine ⟨kvs, s10 _ _ hL9, fun n hn2 => ?_⟩
            obtain ⟨pc, hpc, hnp⟩ := hkn n hn2
            rw [hn] at hP
            have ec := comp_of_parts hP (Sys.named_nodup ok.nodup) hpc hnp
            have ne : compOf S n ≠ [] := by
              rw [← ec]
              intro z
              exact (hP.ok pc hpc).ne (rsort_nil.mp z)
            have en : cnames S n = tabsOf S (rsort pc.2) := by
              unfold cnames
              rw [if_neg ne, ec]
            rw [en, ← ec]
            exact (hlev hz' pc hpc).mono fun t l h => s10 _ _ (tup9 _ _ h)
          · refine .inr (.inr ?_)
            rw [h]
            simp
          · refine .inr (.inr ?_)
            rw [List.length_append]
            omega
        · rw [(rsort_perm left).length_eq]
          omega
    · have hz0 : zs = [] := by
        cases zs with
        | nil => rfl
        | cons z zs => exact absurd rfl e
      have hr0 : rs = [] := by
        rw [hz0] at hzl
        exact List.length_eq_zero_iff.mp hzl.symm
      refine ⟨_, rfl, q H4 (.ref F0) s04 (.inr ⟨F0, fs, rfl, s4 _ _ hF3, fun hl => ?_⟩)⟩
      rcases hfs3 with ⟨h, _⟩ | ⟨L, h, hlev⟩ | h
      · rw [h] at hl
        cases hl
      · exact ⟨L, h, (hlev hr0).mono s4⟩
      · omega
theorem scSc : FnScope ["system"] ["system"] (defScope (topS 31)) := ⟨rfl, rfl, rfl, by decide +kernel, rfl, by decide +kernel, by decide +kernel⟩
theorem ok_sc {fa : Addr} {fd : FuncData} (F : Fun K "schedule" "schedule" (topS 31) fa fd) (D1 : Dn P w K mg base "levels_in" 7 ["system"] (spLi C)) : FnOk P w K mg base CX0 8 fa fd ["system"] (spLi C) := by
  refine F.ok scSc (fun vs H Q E h => ?_) (fun cdv A outer s H vs Q E hr h => ?_)
  · obtain ⟨p, S, rfl, _⟩ := h
    rfl
  · obtain ⟨p, S, rfl, hS, ok, q⟩ := h
    refine ⟨_, pss_one (ps_ret (pe_def D1 hr (by rfl) (pa_cons (pv 0) pa_nil))), ?_⟩
    exact ⟨_, rfl, p, S, rfl, hS, ok, q⟩
end
end Frd
set_option Elab.async false
set_option linter.all false
set_option maxRecDepth 100000
set_option maxHeartbeats 4000000
set_option pp.maxSteps 1000
/-! is_name, is_read, check_system. -/
namespace Frd
open PySem PySem.Spec PyProof.Rows L2
def letters : Str := "abcdefghijklmnopqrstuvwxyz"
structure NameOk (n : Str) : Prop where
  l1 : 1 ≤ n.cps.size
  l8 : n.cps.size ≤ 8
  inn : ∀ c ∈ n.cps.toList, c ∈ letters.cps.toList
section
variable {P : Program} {w : World} {K : PySem.W.Frag} {mg : Str → Option Value} {base : Heap}
theorem scIsN : FnScope ["word", "sign"] ["word"] (defScope (topS 17)) := ⟨rfl, rfl, rfl, by decide +kernel, rfl, by decide +kernel, by decide +kernel⟩
def spIsN : Sp := fun vs H Q _ => ∃ n : Str, vs = [.str n] ∧ NameOk n ∧ ∀ H', Same H H' → Q (.bl true) H'
theorem ok_isn {f : Addr} {fd : FuncData} (F : Fun K "is_name" "is_name" (topS 17) f fd) (mlen : mg "len" = none) (mall : mg "all" = none) (hM : ∃ u, mg "MOST_LETTERS" = some u ∧ RelV (.int 8) u) (hL : ∃ u, mg "LETTERS" = some u ∧ RelV (.str letters) u) : FnOk P w K mg base CX0 1 f fd ["word"] spIsN := by
  refine F.ok scIsN (fun vs H Q E h => ?_) (fun cdv A outer s H vs Q E hr h => ?_)
  · obtain ⟨n, rfl, _⟩ := h
    rfl
  · obtain ⟨n, rfl, hn, q⟩ := h
    have nd := scIsN.nd
    obtain ⟨uM, hM8, rM8⟩ := hM
    obtain ⟨uL, hLl, rLl⟩ := hL
    refine ⟨_, pss_one (ps_ret (pe_and (pe_chain op_le op_le pe_int (pe_callB call_len_str (by rfl) mlen PySem.boot_len (pa_cons (pv 0) pa_nil)) (pe_glob (by rfl) hM8 rM8))
      (pe_one (pe_callB (cr_all rfl) (by rfl) mall (by decide +kernel) (pa_cons (pe_lc (own := [("sign", 1)]) (g := gName 1) (tt := tYes) rfl nd (pi_str (pv 0)) (blkOk_by (N := ["word", "sign"]) (sc := defScope (topS 17)) (by decide +kernel))
        (fun _ _ _ _ _ => pg_name (i := 1) nd rfl (Or.inl rfl)) (fun _ _ _ _ _ => pts_nil) (fun _ _ _ _ _ => pe_cmpR op_in_sign (pv 1) (pe_glob (by rfl) hLl rLl) rfl)) pa_nil))))), ?_⟩
    have l1 := hn.l1
    have l8 := hn.l8
    refine ⟨_, rfl, n, rfl, Nat.le_of_lt (small1000 (by show n.cps.size ≤ 1000; omega)), 1, (n.cps.size : Int), rfl, rfl, true, congrArg V.bl (decide_eq_true (by omega)), ?_⟩
    refine iteT ⟨_, _, rfl, rfl, true, congrArg V.bl (decide_eq_true (by show (n.cps.size : Int) ≤ 8; omega)), ?_⟩
    refine iteT ?_
    refine ⟨_, rfl, n, rfl, fun D hD => ?_⟩
    refine lc_map (walk_str (z := n)) (fun j _ y => y = .bl true) (fun _ _ _ _ _ _ _ e => e) (small1000 (by omega)) hD (fun _ _ => trivial) (fun j H x H' _ ⟨e, _⟩ => e ▸ Same.refl _) ?_ ?_ gm_name
    · rintro j x H2o H2 acc Z hj s2 hk ⟨rfl, c, ec, rfl⟩ hZ
      refine ⟨rfl, _, rfl, c, letters, rfl, rfl, hZ _ _ (Same.refl _) ?_⟩
      exact congrArg V.bl (decide_eq_true (hn.inn c (by rw [Array.mem_toList_iff]; exact Array.mem_of_getElem? ec)))
    intro H2 zs s2 hz hzl hzv
    have ez : zs = (List.replicate n.cps.size true).map V.bl := by
      rw [List.map_replicate]
      refine List.eq_replicate_iff.mpr ⟨hzl, fun y hy => ?_⟩
      obtain ⟨i, hi⟩ := List.getElem?_of_mem hy
      exact hzv i y hi
    subst ez
    refine ⟨D, _, rfl, SqL.of hz, ?_⟩
    have eall : (List.replicate n.cps.size true).all id = true := by
      rw [List.all_eq_true]
      exact fun x hx => (List.mem_replicate.mp hx).2
    rw [eall]
    exact q H2 s2
theorem scIsR : FnScope ["read", "dimensions", "table", "vector", "factor"] ["read", "dimensions"] (defScope (topS 18)) := ⟨rfl, rfl, rfl, by decide +kernel, rfl, by decide +kernel, by decide +kernel⟩
/-- a read that may stand in a system of d dimensions -/
structure ReadOk (d : Nat) (x : Read) : Prop where
  nm : NameOk x.1
  len : x.2.1.length = d
  ne : x.2.2 ≠ 0
def spIsR : Sp := fun vs H Q _ => ∃ (v : V) (d : Nat) (x : Read), vs = [v, .int (d : Int)] ∧ ReadV H v x ∧ ReadOk d x ∧ ∀ H', Same H H' → Q (.bl true) H'
theorem ok_isr {f : Addr} {fd : FuncData} (F : Fun K "is_read" "is_read" (topS 18) f fd) (mlen : mg "len" = none) (D1 : Dn P w K mg base "is_name" 1 ["word"] spIsN) : FnOk P w K mg base CX0 2 f fd ["read", "dimensions"] spIsR := by
  refine F.ok scIsR (fun vs H Q E h => ?_) (fun cdv A outer s H vs Q E hr h => ?_)
  · obtain ⟨v, d, x, rfl, _⟩ := h
    rfl
  · obtain ⟨v, d, x, rfl, ⟨a, b, rfl, ha, hb⟩, hx, q⟩ := h
    have nd := scIsR.nd
    refine ⟨_, pss_cons (ps_asg (pv 0) (pg_tup rfl (pgs_cons (pg_name (i := 2) nd rfl (.inl rfl)) (pgs_cons (pg_name (i := 3) nd rfl (.inl rfl)) (pgs_cons (pg_name (i := 4) nd rfl (.inl rfl)) pgs_nil)))))
      (pss_one (ps_ret (pe_and (pe_def D1 hr (by rfl) (pa_cons (pv 2) pa_nil)) (pe_and (pe_cmpR op_eq (pe_callB call_len_seq (by rfl) mlen PySem.boot_len (pa_cons (pv 3) pa_nil)) (pv 1) (nomark _)) (pe_one (pe_cmpR op_ne (pv 4) pe_int (nomark _))))))), ?_⟩
    refine ⟨_, rfl, a, _, rfl, SqT.of ha, rfl, _, _, rfl, _, _, rfl, _, _, rfl, rfl, ?_⟩
    refine ⟨_, rfl, x.1, rfl, hx.nm, fun H1 s1 => ⟨true, rfl, ?_⟩⟩
    refine iteT ?_
    refine ⟨_, rfl, b, _, rfl, .inr (SqT.of (s1 _ _ hb)), _, rfl, rfl, true, congrArg V.bl (decide_eq_true (by rw [List.length_map, hx.len])), ?_⟩
    refine iteT ?_
    refine ⟨_, rfl, rfl, ?_⟩
    have : (!decide (V.int x.2.2 = V.int 0)) = true := by
      rw [decide_eq_false (fun z => hx.ne (V.int.inj z))]
      rfl
    rw [this]
    exact q H1 s1
end
end Frd
set_option Elab.async false
set_option linter.all false
set_option maxRecDepth 100000
set_option maxHeartbeats 4000000
set_option pp.maxSteps 1000
/-! check_system. -/
namespace Frd
open PySem PySem.Spec PyProof.Rows L2
/-- a table as the caller tells it: (name, constant, list of reads) -/
def RawV (H : Hp) (v : V) (t : Tb) : Prop := ∃ a l us, v = .ref a ∧ H a = some (.tup [.str t.name, .int t.const, .ref l]) ∧ H l = some (.lst us) ∧ All2 (ReadV H) us t.reads
theorem RawV.mono {H H' : Hp} {v : V} {t : Tb} (s : Same H H') (h : RawV H v t) : RawV H' v t := by
  obtain ⟨a, l, us, e, h1, h2, h3⟩ := h
  exact ⟨a, l, us, e, s _ _ h1, s _ _ h2, h3.mono fun x y z => z.mono s⟩
structure TbsOk (d : Nat) (ts : List Tb) : Prop where
  d1 : 1 ≤ d
  d3 : d ≤ 3
  n1 : 1 ≤ ts.length
  n6 : ts.length ≤ 6
  nodup : (ts.map (·.name)).Nodup
  names : ∀ t ∈ ts, NameOk t.name
  few : (ts.map (·.reads.length)).sum ≤ 12
  reads : ∀ t ∈ ts, ∀ x ∈ t.reads, ReadOk d x ∧ ∀ v ∈ x.2.1, v.natAbs ≤ 5
  tgt : ∀ t ∈ ts, ∀ x ∈ t.reads, x.1 ∈ ts.map (·.name)
theorem take_few {ts : List Tb} (i : Nat) : ((ts.take i).map (·.reads.length)).sum ≤ (ts.map (·.reads.length)).sum := by
  have e : (ts.map (·.reads.length)).sum = ((ts.take i ++ ts.drop i).map (·.reads.length)).sum := by rw [List.take_append_drop]
  rw [e, List.map_append, List.sum_append]
  omega
theorem all_true {n : Nat} {zs : List V} (hl : zs.length = n) (hv : ∀ (i : Nat) (y : V), zs[i]? = some y → y = .bl true) : zs = (List.replicate n true).map V.bl := by
  rw [List.map_replicate]
  refine List.eq_replicate_iff.mpr ⟨hl, fun y hy => ?_⟩
  obtain ⟨i, hi⟩ := List.getElem?_of_mem hy
  exact hv i y hi
theorem gm_three {K : PySem.W.Frag} {i j l k : Nat} : ∀ x σ H (A B : L2.St → Hp → Prop), (∀ σ' H', A σ' H' → B σ' H') → gTup K k (gCons (gName i) (gCons (gName j) (gCons (gName l) gNil))) x σ H A → gTup K k (gCons (gName i) (gCons (gName j) (gCons (gName l) gNil))) x σ H B := by
  rintro x σ H A B h ⟨a, xs, e1, e2, e3, v, r, e4, v2, r2, e5, v3, r3, e6, e7, q⟩
  exact ⟨a, xs, e1, e2, e3, v, r, e4, v2, r2, e5, v3, r3, e6, e7, h _ _ q⟩
theorem mem_sum_le {n : Nat} : ∀ {l : List Nat}, n ∈ l → n ≤ l.sum
  | x :: l, h => by
    rw [List.sum_cons]
    rcases List.mem_cons.mp h with rfl | h
    · omega
    · have := mem_sum_le h
      omega
theorem all_id (n : Nat) : (List.replicate n true).all id = true := by
  rw [List.all_eq_true]
  exact fun x hx => (List.mem_replicate.mp hx).2
section
variable {P : Program} {w : World} {K : PySem.W.Frag} {mg : Str → Option Value} {base : Heap}
theorem scCs : FnScope ["dimensions", "tables", "modulus", "found", "many", "row", "name", "constant", "reads", "is_odd", "read", "table", "vector", "factor"] ["dimensions", "tables", "modulus"] (defScope (topS 19)) := ⟨rfl, rfl, rfl, by decide +kernel, rfl, by decide +kernel, by decide +kernel⟩
def spCs (K : PySem.W.Frag) : Sp := fun vs H Q _ => ∃ (d : Nat) (a : Addr) (xs : List V) (ts : List Tb), vs = [.int (d : Int), .ref a, .int 97] ∧ SqL K H a xs ∧ All2 (RawV H) xs ts ∧ TbsOk d ts ∧ ∀ H', Same H H' → Q .non H'
theorem ok_cs {f : Addr} {fd : FuncData} (F : Fun K "check_system" "check_system" (topS 19) f fd) (mlen : mg "len" = none) (mall : mg "all" = none) (me : mg "enumerate" = none) (hM1 : ∃ u, mg "MOST_DIMENSIONS" = some u ∧ RelV (.int 3) u) (hM2 : ∃ u, mg "MOST_TABLES" = some u ∧ RelV (.int 6) u) (hM3 : ∃ u, mg "MOST_READS" = some u ∧ RelV (.int 12) u)
    (D1 : Dn P w K mg base "is_name" 1 ["word"] spIsN) (D2 : Dn P w K mg base "is_read" 2 ["read", "dimensions"] spIsR) : FnOk P w K mg base CX0 3 f fd ["dimensions", "tables", "modulus"] (spCs K) := by
  refine F.ok scCs (fun vs H Q E h => ?_) (fun cdv A outer s H vs Q E hr h => ?_)
  · obtain ⟨d, a, xs, ts, rfl, _⟩ := h
    rfl
  · obtain ⟨d, a, xs, ts, rfl, hL, hA, hT, q⟩ := h
    have nd := scCs.nd
    have hu := hu_of hr
    obtain ⟨u1, hm1, r1⟩ := hM1
    obtain ⟨u2, hm2, r2⟩ := hM2
    obtain ⟨u3, hm3, r3⟩ := hM3
    refine ⟨_, pss_cons (ps_if (pt_not (pt_chain op_le op_le pe_int (pv 0) (pe_glob (by rfl) hm1 r1))) pss_never pss_nil)
      (pss_cons (ps_if (pt_not (pt_chain op_le op_le pe_int (pe_callB call_len_seq (by rfl) mlen PySem.boot_len (pa_cons (pv 1) pa_nil)) (pe_glob (by rfl) hm2 r2))) pss_never pss_nil)
      (pss_cons (ps_asg (pe_tup (pa_cons pe_dnewK (pa_cons pe_int pa_nil))) (pg_tup rfl (pgs_cons (pg_name (i := 3) nd rfl (.inr rfl)) (pgs_cons (pg_name (i := 4) nd rfl (.inl rfl)) pgs_nil))))
      (pss_cons (ps_for PassesOwn.never rfl (pi_enum (by rfl) me (pa_cons (pv 1) pa_nil)) (pg_tup rfl (pgs_cons (pg_name (i := 5) nd rfl (.inl rfl)) (pgs_cons (pg_tup rfl (pgs_cons (pg_name (i := 6) nd rfl (.inl rfl)) (pgs_cons (pg_name (i := 7) nd rfl (.inl rfl)) (pgs_cons (pg_name (i := 8) nd rfl (.inl rfl)) pgs_nil)))) pgs_nil)))
        (pss_cons (ps_set (i := 4) nd rfl (.inl rfl) (pe_op op_add (pv 4) (pe_callB call_len_seq (by rfl) mlen PySem.boot_len (pa_cons (pv 8) pa_nil))))
        (pss_cons (ps_set (i := 9) nd rfl (.inl rfl) (pe_or (pe_not (pe_def D1 (hr.mono (by decide)) (by rfl) (pa_cons (pv 6) pa_nil))) (pe_or (pe_cmp (pc_din hu (pv 6) (pv 3))) (pe_one (pe_cmpR op_gt (pv 4) (pe_glob (by rfl) hm3 r3) (nomark _))))))
        (pss_cons (ps_if (PW.pt (pw_or (pt_val (pv 9)) (pw_or1 (pt_not (pt_val (pe_callB (cr_all rfl) (by rfl) mall (by decide +kernel) (pa_cons (pe_lc (own := [("read", 10)]) (g := gName 10) (tt := tYes) rfl nd (pi_list (pv 8)) (blkOk_by (N := ["dimensions", "tables", "modulus", "found", "many", "row", "name", "constant", "reads", "is_odd", "read", "table", "vector", "factor"]) (sc := defScope (topS 19)) (by decide +kernel))
            (fun _ _ _ _ _ => pg_name (i := 10) nd rfl (Or.inl rfl)) (fun _ _ _ _ _ => pts_nil) (fun _ _ _ _ _ => pe_def D2 hr (by rfl) (pa_cons (pv 10) (pa_cons (pv 0) pa_nil)))) pa_nil))))))) pss_never pss_nil)
        (pss_one (ps_dput hu (pv 3) (pv 6) pe_bl rfl))))))
      (pss_cons (ps_for PassesOwn.never rfl (pi_enum (by rfl) me (pa_cons (pv 1) pa_nil)) (pg_tup rfl (pgs_cons (pg_name (i := 5) nd rfl (.inl rfl)) (pgs_cons (pg_tup rfl (pgs_cons (pg_name (i := 6) nd rfl (.inl rfl)) (pgs_cons (pg_name (i := 7) nd rfl (.inl rfl)) (pgs_cons (pg_name (i := 8) nd rfl (.inl rfl)) pgs_nil)))) pgs_nil)))
        (pss_one (ps_if (pt_not (pt_val (pe_callB (cr_all rfl) (by rfl) mall (by decide +kernel) (pa_cons (pe_lc (own := [("table", 11), ("vector", 12), ("factor", 13)]) (g := gTup K 3 (gCons (gName 11) (gCons (gName 12) (gCons (gName 13) gNil)))) (tt := tYes) rfl nd (pi_list (pv 8)) (blkOk_by (N := ["dimensions", "tables", "modulus", "found", "many", "row", "name", "constant", "reads", "is_odd", "read", "table", "vector", "factor"]) (sc := defScope (topS 19)) (by decide +kernel))
            (fun _ _ _ _ _ => pg_tup rfl (pgs_cons (pg_name (i := 11) nd rfl (Or.inl rfl)) (pgs_cons (pg_name (i := 12) nd rfl (Or.inl rfl)) (pgs_cons (pg_name (i := 13) nd rfl (Or.inl rfl)) pgs_nil)))) (fun _ _ _ _ _ => pts_nil) (fun _ _ _ _ _ => pe_cmp (pc_din hu (pv 11) (pv 3)))) pa_nil)))) pss_never pss_nil)))
      (pss_one (ps_if (pt_cmpR op_lt (pv 2) pe_int (nomark _)) pss_never pss_nil)))))), ?_⟩
    have hxl : xs.length = ts.length := hA.1
    have d1 := hT.d1
    have d3 := hT.d3
    have n1 := hT.n1
    have n6 := hT.n6
    refine ⟨_, rfl, 1, (d : Int), rfl, rfl, true, congrArg V.bl (decide_eq_true (by omega)), ?_⟩
    refine iteT ⟨_, _, rfl, rfl, true, congrArg V.bl (decide_eq_true (by omega)), ?_⟩
    refine iteF ?_
    refine ⟨_, rfl, a, xs, rfl, .inl hL, 1, (xs.length : Int), rfl, rfl, true, congrArg V.bl (decide_eq_true (by omega)), ?_⟩
    refine iteT ⟨_, _, rfl, rfl, true, congrArg V.bl (decide_eq_true (by omega)), ?_⟩
    refine iteF ?_
    intro D hD
    have s1 : Same H (upd H D (.dK [])) := same_upd hD
    have hD1 : (upd H D (.dK [])) D = some (.dK []) := upd_same
    generalize upd H D (.dK []) = H1 at s1 hD1 ⊢
    refine ⟨Nat.le_of_lt (small1000 (by simp)), fun T0 hT0 => ?_⟩
    have s2 : Same H1 (upd H1 T0 (.tup [.ref D, .int 0])) := same_upd hT0
    have hT2 : (upd H1 T0 (.tup [.ref D, .int 0])) T0 = some (.tup [.ref D, .int 0]) := upd_same
    generalize upd H1 T0 (.tup [.ref D, .int 0]) = H2 at s2 hT2 ⊢
    refine ⟨T0, _, rfl, SqT.of hT2, rfl, _, _, rfl, _, _, rfl, rfl, ?_⟩
    have hD2 := s2 _ _ hD1
    have s02 := s1.trans s2
    refine ⟨_, rfl, a, xs, rfl, s02.seq hL, ?_⟩
    refine for_it walk_enum (fun i σ H' => (∃ y5 y6 y7 y8 y9 y10 y11 y12 y13, σ = [some (.int (d : Int)), some (.ref a), some (.int 97), some (.ref D), some (.int ((((ts.take i).map (·.reads.length)).sum : Nat) : Int)), y5, y6, y7, y8, y9, y10, y11, y12, y13]) ∧ Same H H' ∧ ∃ kvs : List (Key × V), H' D = some (.dK kvs) ∧ kvs.map (·.1) = ((ts.take i).map (·.name)).map Sum.inr)
      ⟨⟨none, none, none, none, none, none, none, none, none, rfl⟩, s02, [], hD2, rfl⟩ (fun i σ H' _ ⟨_, s', _⟩ => s'.seq hL) ?_ ?_
    · rintro i x σ H3 H4 hi ⟨⟨y5, y6, y7, y8, y9, y10, y11, y12, y13, rfl⟩, s3, kvs, hD3, hk3⟩ ⟨t, x1, x2, rfl, nt, rfl, e1, e2⟩
      have ex1 : V.int ((i : Nat) : Int) = x1 := Option.some.inj e1
      subst ex1
      obtain ⟨tb, etb, at_, l, us, rfl, hat, hl, hus⟩ := hA.at e2
      have htm := List.mem_of_getElem? etb
      have s4 : Same H3 (upd H3 t (.tup [.int (i : Int), .ref at_])) := same_upd nt
      have ht4 : (upd H3 t (.tup [.int (i : Int), .ref at_])) t = some (.tup [.int (i : Int), .ref at_]) := upd_same
      generalize upd H3 t (.tup [.int (i : Int), .ref at_]) = H4 at s4 ht4 ⊢
      have s04 := s3.trans s4
      have etk : ts.take (i + 1) = ts.take i ++ [tb] := by
        rw [List.take_add_one, etb]
        rfl
      have hul : us.length = tb.reads.length := hus.1
      refine ⟨t, _, rfl, SqT.of ht4, rfl, _, _, rfl, _, _, rfl, at_, _, rfl, SqT.of (s04 _ _ hat), rfl, _, _, rfl, _, _, rfl, _, _, rfl, rfl, rfl, ?_⟩
      refine ⟨_, rfl, _, rfl, l, us, rfl, .inl (SqL.of (s04 _ _ hl)), _, _, rfl, rfl, ?_⟩
      have esum : ((((ts.take i).map (·.reads.length)).sum : Nat) : Int) + (us.length : Int) = ((((ts.take (i + 1)).map (·.reads.length)).sum : Nat) : Int) := by
        rw [etk, List.map_append, List.sum_append, hul]
        simp
      have esmall : (((ts.take (i + 1)).map (·.reads.length)).sum) ≤ 12 := Nat.le_trans (take_few _) hT.few
      refine ⟨_, rfl, tb.name, rfl, hT.names tb htm, fun H5 s5 => ⟨true, rfl, false, rfl, ?_⟩⟩
      refine iteF ?_
      have s05 := s04.trans s5
      have hD5 := s5 _ _ (s4 _ _ hD3)
      have hnew : (Sum.inr tb.name : Key) ∉ kvs.map (·.1) := fun z => by
        rw [hk3] at z
        obtain ⟨n, hn, e⟩ := List.mem_map.mp z
        have en := Sum.inr.inj e
        subst en
        obtain ⟨tb2, h2, e2'⟩ := List.mem_map.mp hn
        obtain ⟨j, hj⟩ := List.getElem?_of_mem h2
        have hji := (List.getElem?_eq_some_iff.mp hj).1
        rw [List.length_take] at hji
        have hj2 : ts[j]? = some tb2 := by
          rw [List.getElem?_take] at hj
          split at hj
          · exact hj
          · cases hj
        have := nodup_at hT.nodup (i := j) (j := i) (x := tb.name) (by rw [List.getElem?_map, hj2]; exact congrArg some e2') (by rw [List.getElem?_map, etb]; rfl)
        omega
      have hnone : valV kvs (Sum.inr tb.name : Key) = none := by
        cases z : valV kvs (Sum.inr tb.name : Key) with
        | none => rfl
        | some v => exact absurd (valV_iff.mp (by rw [z]; rfl)) hnew
      refine ⟨_, rfl, _, rfl, D, none, rfl, by rw [← hnone]; exact DGet.k (k := Sum.inr tb.name) hD5, false, rfl, ?_⟩
      refine iteF ?_
      refine ⟨_, rfl, _, _, rfl, rfl, ?_⟩
      refine ⟨_, rfl, _, rfl, ?_⟩
      have hodd : decide ((12 : Int) < ((((ts.take i).map (·.reads.length)).sum : Nat) : Int) + (us.length : Int)) = false := decide_eq_false (by omega)
      rw [hodd]
      refine iteF ?_
      -- all reads
      have hl5 := s05 _ _ hl
      refine ⟨_, rfl, l, rfl, ⟨_, SqL.of hl5⟩, fun G hG => ?_⟩
      refine lc_map (walk_list (K := K) (a := l) (xs := us)) (fun j _ y => y = .bl true) (fun _ _ _ _ _ _ _ e => e) (small1000 (by omega)) hG (fun H' s' => SqL.of (s' _ _ hl5)) (fun j H x H' _ => y_at j H x H') ?_ ?_ gm_name
      · rintro j x H6o H6 acc Z hj s6 hk ⟨rfl, ex⟩ hZ
        obtain ⟨r, er, hrv⟩ := hus.at ex
        refine ⟨rfl, _, rfl, _, rfl, x, d, r, rfl, hrv.mono (s05.trans s6), (hT.reads tb htm r (List.mem_of_getElem? er)).1, fun H7 s7 => hZ _ _ s7 rfl⟩
      intro H6 zs s6 hz hzl hzv
      have ez := all_true hzl hzv
      subst ez
      refine ⟨G, _, rfl, SqL.of hz, _, rfl, ?_⟩
      rw [all_id]
      refine iteF ?_
      have hD6 := s6 _ _ hD5
      refine ⟨_, rfl, _, rfl, D, _, rfl, DPut.k (k := Sum.inr tb.name) hD6 (by
        have := ks_len (H := H6) (d := D) hk3
        rw [List.length_map, List.length_take] at this
        exact small1000 (by omega)), ?_⟩
      refine ⟨⟨_, _, _, _, _, _, _, _, _, by rw [← esum]; rfl⟩, same_put (s05.trans s6) hD, _, upd_same, ?_⟩
      rw [keys_putK, etk, List.map_append, List.map_append]
      unfold addK
      rw [if_neg hnew, hk3]
      rfl
    · rintro σ H3 ⟨⟨y5, y6, y7, y8, y9, y10, y11, y12, y13, rfl⟩, s3, kvs, hD3, hk3⟩
      rw [hxl, List.take_length] at hk3
      refine ⟨_, rfl, a, xs, rfl, s3.seq hL, ?_⟩
      refine for_it walk_enum (fun i σ H' => (∃ y4 y5 y6 y7 y8 y9 y10 y11 y12 y13, σ = [some (.int (d : Int)), some (.ref a), some (.int 97), some (.ref D), y4, y5, y6, y7, y8, y9, y10, y11, y12, y13]) ∧ Same H3 H') ⟨⟨_, _, _, _, _, _, _, _, _, _, rfl⟩, Same.refl _⟩ (fun i σ H' _ ⟨_, s'⟩ => (s3.trans s').seq hL) ?_ ?_
      · rintro i x σ H4 H5 hi ⟨⟨y4, y5, y6, y7, y8, y9, y10, y11, y12, y13, rfl⟩, s4⟩ ⟨t, x1, x2, rfl, nt, rfl, e1, e2⟩
        have ex1 : V.int ((i : Nat) : Int) = x1 := Option.some.inj e1
        subst ex1
        obtain ⟨tb, etb, at_, l, us, rfl, hat, hl, hus⟩ := hA.at e2
        have htm := List.mem_of_getElem? etb
        have s5 : Same H4 (upd H4 t (.tup [.int (i : Int), .ref at_])) := same_upd nt
        have ht5 : (upd H4 t (.tup [.int (i : Int), .ref at_])) t = some (.tup [.int (i : Int), .ref at_]) := upd_same
        generalize upd H4 t (.tup [.int (i : Int), .ref at_]) = H5 at s5 ht5 ⊢
        have s05 := (s3.trans s4).trans s5
        have hul : us.length = tb.reads.length := hus.1
        have hrl : tb.reads.length ≤ 12 := by
          have h1 := mem_sum_le (l := ts.map (·.reads.length)) (n := tb.reads.length) (List.mem_map.mpr ⟨tb, htm, rfl⟩)
          have := hT.few
          omega
        refine ⟨t, _, rfl, SqT.of ht5, rfl, _, _, rfl, _, _, rfl, at_, _, rfl, SqT.of (s05 _ _ hat), rfl, _, _, rfl, _, _, rfl, _, _, rfl, rfl, rfl, ?_⟩
        have hl5 := s05 _ _ hl
        have hD5 := s5 _ _ (s4 _ _ hD3)
        refine ⟨_, rfl, l, rfl, ⟨_, SqL.of hl5⟩, fun G hG => ?_⟩
        refine lc_map (walk_list (K := K) (a := l) (xs := us)) (fun j _ y => y = .bl true) (fun _ _ _ _ _ _ _ e => e) (small1000 (by omega)) hG (fun H' s' => SqL.of (s' _ _ hl5)) (fun j H x H' _ => y_at j H x H') ?_ ?_ gm_three
        · rintro j x H6o H6 acc Z hj s6 hk ⟨rfl, ex⟩ hZ
          obtain ⟨r, er, ra, rb, rfl, hra, hrb⟩ := hus.at ex
          refine ⟨ra, _, rfl, SqT.of (s6 _ _ (s05 _ _ hra)), rfl, _, _, rfl, _, _, rfl, _, _, rfl, rfl, ?_⟩
          have hm : (Sum.inr r.1 : Key) ∈ kvs.map (·.1) := by
            rw [hk3]
            exact List.mem_map.mpr ⟨r.1, hT.tgt tb htm r (List.mem_of_getElem? er), rfl⟩
          refine ⟨rfl, _, rfl, _, rfl, D, _, rfl, DGet.k (k := Sum.inr r.1) (s6 _ _ hD5), hZ _ _ (Same.refl _) ?_⟩
          rw [valV_iff.mpr hm]
        intro H6 zs s6 hz hzl hzv
        have ez := all_true hzl hzv
        subst ez
        refine ⟨G, _, rfl, SqL.of hz, _, rfl, ?_⟩
        rw [all_id]
        refine iteF ?_
        exact ⟨⟨_, _, _, _, _, _, _, _, _, _, rfl⟩, (s4.trans s5).trans s6⟩
      · rintro σ H4 ⟨⟨y4, y5, y6, y7, y8, y9, y10, y11, y12, y13, rfl⟩, s4⟩
        refine ⟨_, rfl, _, _, rfl, rfl, _, rfl, ?_⟩
        rw [decide_eq_false (by decide)]
        refine iteF ?_
        exact q H4 (s3.trans s4)
end
end Frd
set_option Elab.async false
set_option linter.all false
set_option maxRecDepth 100000
set_option maxHeartbeats 4000000
set_option pp.maxSteps 1000
/-! _law_draw, _law_pool. -/
namespace Frd
open PySem PySem.Spec PyProof.Rows L2
def CPowW (i j : Int) : Prop := 0 ≤ j ∧ j ≤ 1000 ∧ i.natAbs < 2 ^ 1000
theorem bits_1001 {i : Int} (h3 : i.natAbs < 2 ^ 1000) : (Builtin.Int.intBits i : Int) ≤ 1001 := by
  have b : Builtin.Int.intBits i ≤ i.natAbs.log2 + 1 := by
    unfold Builtin.Int.intBits
    split <;> omega
  have l := PySem.Flt.log2_lt_of (by omega : 0 < 1000) h3
  omega
theorem op_powW {X : Cx} : OpR X (binaryOp .Pow) (rI CPowW fun i j => .int (i ^ j.toNat)) := opI fun _ _ _ _ _ _ _ hc q => by
  obtain ⟨h1, h2, h3⟩ := hc
  refine PyProof.Rows.pow_int h1 ?_ q
  have := Int.mul_le_mul (bits_1001 h3) h2 h1 (by decide)
  have e : (1001 : Int) * 1000 ≤ 2 ^ 27 := by decide
  omega
/-- the pool at pl: drawn from at most n times -/
def PoolAt (H : Hp) (pl : Addr) (n : Nat) : Prop := ∃ x y c : Int, H pl = some (.lst [.int x, .int y, .int c]) ∧ 0 ≤ y ∧ y < 2 ^ 62 ∧ 0 ≤ c ∧ c ≤ n
section
variable {P : Program} {w : World} {K : PySem.W.Frag} {mg : Str → Option Value} {base : Heap}
theorem scDr : FnScope ["_law_pool_here", "_law_many", "_law_drawn", "_law_mixed"] ["_law_pool_here", "_law_many"] (defScope (topS 45)) := ⟨rfl, rfl, rfl, by decide +kernel, rfl, by decide +kernel, by decide +kernel⟩
def spDr : Sp := fun vs H Q _ => ∃ (pl : Addr) (many : Int) (n : Nat), vs = [.ref pl, .int many] ∧ PoolAt H pl n ∧ n ≤ 100000 ∧ 0 < many ∧ many ≤ 10 ^ 31 ∧ ∀ H' k, SameX pl H H' → PoolAt H' pl (n + 1) → 0 ≤ k → k < many → Q (.int k) H'
theorem ok_dr {f : Addr} {fd : FuncData} (F : Fun K "_law_draw" "_law_draw" (topS 45) f fd) : FnOk P w K mg base CX0 1 f fd ["_law_pool_here", "_law_many"] spDr := by
  refine F.ok scDr (fun vs H Q E h => ?_) (fun cdv A outer s H vs Q E hr h => ?_)
  · obtain ⟨pl, many, n, rfl, _⟩ := h
    rfl
  · obtain ⟨pl, many, n, rfl, ⟨x, y, c, hp, y0, y1, c0, c1⟩, hn, hm0, hm1, q⟩ := h
    have nd := scDr.nd
    refine ⟨_, pss_cons (ps_if (pt_cmpR op_gt (pe_ix ix_list (pv 0) pe_int (fun _ _ => rfl)) pe_int (nomark _))
        (pss_cons (ps_set (i := 2) nd rfl (.inl rfl) (pe_op op_mod (pe_ix ix_list (pv 0) pe_int (fun _ _ => rfl)) (pv 1)))
        (pss_cons (ps_asg (pe_op op_fdivW (pe_ix ix_list (pv 0) pe_int (fun _ _ => rfl)) (pv 1)) (pg_sub (pv 0) pe_int set_list))
        (pss_one (ps_ret (pv 2))))) pss_nil)
      (pss_cons (ps_asg (pe_op op_add (pe_ix ix_list (pv 0) pe_int (fun _ _ => rfl)) pe_int) (pg_sub (pv 0) pe_int set_list))
      (pss_cons (ps_set (i := 3) nd rfl (.inl rfl) (pe_op op_mod (pe_op op_powW (pe_op op_add (pe_ix ix_list (pv 0) pe_int (fun _ _ => rfl)) (pe_op op_mulW pe_int (pe_ix ix_list (pv 0) pe_int (fun _ _ => rfl)))) pe_int) pe_int))
      (pss_cons (ps_set (i := 3) nd rfl (.inl rfl) (pe_op op_mod (pe_op op_powW (pe_op op_add (pv 3) (pe_op op_mulW pe_int (pe_ix ix_list (pv 0) pe_int (fun _ _ => rfl)))) pe_int) pe_int))
      (pss_one (ps_ret (pe_op op_mod (pe_op op_fdivW (pv 3) pe_int) (pv 1))))))), ?_⟩
    have mz : many.natAbs < 2 ^ 200 := by
      have h3 : (10 : Int) ^ 31 ≤ ((2 ^ 199 : Nat) : Int) := by decide
      have h4 : (2 : Nat) ^ 199 < 2 ^ 200 := by decide
      generalize (2 ^ 199 : Nat) = B at h3 h4
      generalize (2 ^ 200 : Nat) = C at h4 ⊢
      omega
    refine ⟨_, rfl, pl, _, 0, .int x, rfl, rfl, SqL.of hp, atI_nat (j := 0) rfl, _, _, rfl, rfl, _, rfl, ite2 (fun e => ?_) (fun e => ?_)⟩
    · refine ⟨_, rfl, pl, _, 0, .int x, rfl, rfl, SqL.of hp, atI_nat (j := 0) rfl, _, rfl, x, many, rfl, rfl, hm0, ?_⟩
      refine ⟨_, rfl, pl, _, 0, .int x, rfl, rfl, SqL.of hp, atI_nat (j := 0) rfl, _, rfl, x, many, rfl, rfl, wide_div (b := 200) hm0 mz (by decide) (by decide), ?_⟩
      refine ⟨_, rfl, pl, _, 0, 0, rfl, rfl, hp, rfl, ?_⟩
      refine ⟨_, rfl, ?_⟩
      refine q _ _ sameX_upd ⟨x / many, y, c, upd_same, y0, y1, c0, by omega⟩ (Int.emod_nonneg _ (by omega)) (Int.emod_lt_of_pos _ hm0)
    · have hc : c + 1 ≤ 100001 := by omega
      refine ⟨_, rfl, pl, _, 2, .int c, rfl, rfl, SqL.of hp, atI_nat (j := 2) rfl, _, _, rfl, rfl, ?_⟩
      refine ⟨_, rfl, pl, _, 2, 2, rfl, rfl, hp, rfl, ?_⟩
      have sx : SameX pl H (upd H pl (.lst (List.set [V.int x, V.int y, V.int c] 2 (.int (c + 1))))) := sameX_upd
      have hp1 : (upd H pl (.lst (List.set [V.int x, V.int y, V.int c] 2 (.int (c + 1))))) pl = some (.lst [.int x, .int y, .int (c + 1)]) := upd_same
      generalize upd H pl (.lst (List.set [V.int x, V.int y, V.int c] 2 (.int (c + 1)))) = H1 at sx hp1 ⊢
      refine ⟨_, rfl, pl, _, 1, .int y, rfl, rfl, SqL.of hp1, atI_nat (j := 1) rfl, ?_⟩
      refine ⟨_, rfl, pl, _, 2, .int (c + 1), rfl, rfl, SqL.of hp1, atI_nat (j := 2) rfl, _, _, rfl, rfl, wide_mul (a := 64) (b := 64) (by decide) (by omega) (by decide) (by decide) (by decide), _, _, rfl, rfl, ?_⟩
      have mx0 : 0 ≤ (y + 15488653 * (c + 1)) ^ (3 : Int).toNat % 162259276829213363391578010288127 := Int.emod_nonneg _ (by decide)
      have mx1 : (y + 15488653 * (c + 1)) ^ (3 : Int).toNat % 162259276829213363391578010288127 < 162259276829213363391578010288127 := Int.emod_lt_of_pos _ (by decide)
      refine ⟨_, _, rfl, rfl, ⟨by decide, by decide, ?_⟩, _, _, rfl, rfl, (by show (0 : Int) < 162259276829213363391578010288127; decide), ?_⟩
      · have h1 : (y + 15488653 * (c + 1)).natAbs < 2 ^ 63 := by omega
        exact Nat.lt_trans h1 (Nat.pow_lt_pow_right (by omega) (by omega))
      refine ⟨_, rfl, _, rfl, pl, _, 2, .int (c + 1), rfl, rfl, SqL.of hp1, atI_nat (j := 2) rfl, _, _, rfl, rfl, wide_mul (a := 64) (b := 64) (by decide) (by omega) (by decide) (by decide) (by decide), _, _, rfl, rfl, ?_⟩
      refine ⟨_, _, rfl, rfl, ⟨by decide, by decide, ?_⟩, _, _, rfl, rfl, (by show (0 : Int) < 170141183460469231731687303715884105727; decide), ?_⟩
      · have h1 : ((y + 15488653 * (c + 1)) ^ (3 : Int).toNat % 162259276829213363391578010288127 + 32454427 * (c + 1)).natAbs < 2 ^ 128 := by
          generalize (y + 15488653 * (c + 1)) ^ (3 : Int).toNat % 162259276829213363391578010288127 = mx at mx0 mx1 ⊢
          omega
        exact Nat.lt_trans h1 (Nat.pow_lt_pow_right (by omega) (by omega))
      refine ⟨_, rfl, _, _, rfl, rfl, wide_div (b := 64) (by decide) (by decide) (by decide) (by decide), _, rfl, _, _, rfl, rfl, hm0, ?_⟩
      exact q _ _ sx ⟨x, y, c + 1, hp1, y0, y1, by omega, by omega⟩ (Int.emod_nonneg _ (by omega)) (Int.emod_lt_of_pos _ hm0)
end
end Frd
set_option Elab.async false
set_option linter.all false
set_option maxRecDepth 100000
set_option maxHeartbeats 4000000
set_option pp.maxSteps 1000
/-! _law_pool, _law_point; comprehensions that draw. -/
namespace Frd
open PySem PySem.Spec PyProof.Rows L2
/-- all but D and pl are as they were -/
def SameXX (D pl : Addr) (H H' : Hp) : Prop := ∀ b o, b ≠ D → b ≠ pl → H b = some o → H' b = some o
theorem SameX.xx {D pl : Addr} {H H' : Hp} (s : SameX pl H H') : SameXX D pl H H' := fun b o _ h e => s b o h e
section
variable {J : It} {n : Nat} {G : Hp → Prop} {Y : Nat → Hp → V → Hp → Prop}
/-- a comprehension whose turns draw from the pool at pl -/
theorem lc_pool (w : Walk J n G Y) {g : TG} {te : TE} {vs : List Nat} {σ : L2.St} {H1 : Hp} {D pl : Addr} {Qd : Hp → Prop} (N k : Nat) (R : Nat → Hp → V → Prop) (mono : ∀ i H H' y, SameXX D pl H H' → R i H y → R i H' y) (hn : n < sizeLine) (hD : H1 D = none) (hp : PoolAt H1 pl N)
    (hG : ∀ H', SameX pl H1 H' → G H')
    (hY : ∀ i H x H', i < n → Y i H x H' → Same H H')
    (hs : ∀ (i : Nat) (x : V) (H H' : Hp) (acc : List V) (Z : V → Hp → Prop), i < n → SameX pl H1 H' → PoolAt H' pl (N + i * k) → H' D = some (.lst acc) → Y i H x H' → (∀ y H4, SameX pl H' H4 → PoolAt H4 pl (N + (i + 1) * k) → R i H4 y → Z y H4) → g x (wipe σ vs) H' fun σ2 H2 => wipe σ2 vs = wipe σ vs ∧ te σ2 H2 Z)
    (hd : ∀ H ys, SameX pl H1 H → PoolAt H pl (N + n * k) → H D = some (.lst ys) → ys.length = n → (∀ (i : Nat) (y : V), ys[i]? = some y → R i H y) → Qd H)
    (gm : ∀ x σ H (A B : L2.St → Hp → Prop), (∀ σ' H', A σ' H' → B σ' H') → g x σ H A → g x σ H B) :
    ∃ W : Nat → Nat → Hp → Prop, (∃ m, W 0 m (upd H1 D (.lst []))) ∧ ∀ i m H, W i m H →
      (J.stop i H ∧ Qd H) ∨ (J.go i H ∧ ∃ Nx : Hp → Prop, (∀ H', Nx H' → ∃ m', m' < m ∧ W (i + 1) m' H') ∧ ∀ x H', J.yld i H x H' → g x (wipe σ vs) H' fun σ2 H2 => wipe σ2 vs = wipe σ vs ∧ tYes σ2 H2 fun b H3 =>
        if b = true then te σ2 H3 fun y H4 => ∃ acc, H4 D = some (.lst acc) ∧ acc.length < sizeLine ∧ Nx (upd H4 D (.lst (acc ++ [y]))) else Nx H3) := by
  have npl : pl ≠ D := by
    obtain ⟨x, y, c, h, _⟩ := hp
    exact ne_of_none h hD
  have pool_upd : ∀ {H : Hp} {m : Nat} {o : HO}, PoolAt H pl m → PoolAt (upd H D o) pl m := fun {H m o} ⟨x, y, c, h, r⟩ => ⟨x, y, c, by rw [upd_ne npl]; exact h, r⟩
  have put : ∀ {H : Hp} {o : HO}, SameX pl H1 H → SameX pl H1 (upd H D o) := fun {H o} s b u hb e => by
    rw [upd_ne (ne_of_none e hD)]
    exact s b u hb e
  refine lc_it w (fun i H => SameX pl H1 H ∧ PoolAt H pl (N + i * k) ∧ ∃ ys, H D = some (.lst ys) ∧ ys.length = i ∧ ∀ (j : Nat) (y : V), ys[j]? = some y → R j H y) ⟨put (fun b o _ h => h), pool_upd (by simpa using hp), [], upd_same, rfl, fun j y e => by simp at e⟩ (fun i H _ ⟨s, _⟩ => hG H s) (fun i x H H' hi ⟨sm, hpl, ys, hy, hl, hr⟩ hx => ?_) (fun H ⟨sm, hpl, ys, hy, hl, hr⟩ => hd H ys sm hpl hy hl hr)
  have s0 := hY i H x H' hi hx
  have sm' : SameX pl H1 H' := SameX.trans sm (Same.x s0 pl)
  have hpl' : PoolAt H' pl (N + i * k) := by
    obtain ⟨x, y, c, h, r⟩ := hpl
    exact ⟨x, y, c, s0 _ _ h, r⟩
  have imp : ∀ (σ2 : L2.St) (H2 : Hp) (Z : V → Hp → Prop) (Z2 : Hp → Prop), te σ2 H2 Z → (tYes σ2 H2 fun b H3 => if b = true then te σ2 H3 Z else Z2 H3) := fun σ2 H2 Z Z2 q => by
    show (if true = true then te σ2 H2 Z else Z2 H2)
    rw [if_pos rfl]
    exact q
  refine gm _ _ _ _ _ (fun σ2 H2 q2 => ⟨q2.1, imp _ _ _ _ q2.2⟩) (hs i x H H' ys _ hi sm' hpl' (s0 _ _ hy) hx ?_)
  intro y H4 s4 p4 r4
  have e4 : H4 D = some (.lst ys) := s4 _ _ npl.symm (s0 _ _ hy)
  have keep : ∀ {o : HO}, SameXX D pl H (upd H4 D o) := fun {o} b u h1 h2 e => by
    rw [upd_ne h1]
    exact s4 _ _ h2 (s0 _ _ e)
  refine ⟨ys, e4, by omega, put (SameX.trans sm' s4), pool_upd p4, ys ++ [y], upd_same, by simp [hl], fun j z hz => ?_⟩
  by_cases q : j < ys.length
  · rw [List.getElem?_append_left q] at hz
    exact mono j _ _ z keep (hr j z hz)
  · rw [List.getElem?_append_right (by omega)] at hz
    rcases hk : j - ys.length with _ | d
    · rw [hk] at hz
      have ez : y = z := Option.some.inj hz
      have ej : j = i := by omega
      subst ez
      subst ej
      exact mono j _ _ y (fun b u h1 _ e => by rw [upd_ne h1]; exact e) r4
    · rw [hk] at hz
      simp at hz
end
section
variable {P : Program} {w : World} {K : PySem.W.Frag} {mg : Str → Option Value} {base : Heap}
theorem scPool : FnScope ["_law_script", "_law_at", "_law_given"] ["_law_script", "_law_at"] (defScope (topS 44)) := ⟨rfl, rfl, rfl, by decide +kernel, rfl, by decide +kernel, by decide +kernel⟩
def spPool (K : PySem.W.Frag) : Sp := fun vs H Q _ => ∃ (a : Addr) (ns : List Int) (i : Nat), vs = [.ref a, .int (i : Int)] ∧ SqL K H a (ns.map V.int) ∧ i < 10 ∧ ∀ H' pl, Same H H' → H pl = none → PoolAt H' pl 0 → Q (.ref pl) H'
theorem ok_pool {f : Addr} {fd : FuncData} (F : Fun K "_law_pool" "_law_pool" (topS 44) f fd) (mlen : mg "len" = none) (mmax : mg "max" = none) (mabs : mg "abs" = none) : FnOk P w K mg base CX0 1 f fd ["_law_script", "_law_at"] (spPool K) := by
  refine F.ok scPool (fun vs H Q E h => ?_) (fun cdv A outer s H vs Q E hr h => ?_)
  · obtain ⟨a, ns, i, rfl, _⟩ := h
    rfl
  · obtain ⟨a, ns, i, rfl, hL, hi, q⟩ := h
    have nd := scPool.nd
    refine ⟨_, pss_cons (ps_set (i := 2) nd rfl (.inl rfl) pe_int)
      (pss_cons (ps_if (pt_cmpR op_lt (pv 1) (pe_callB call_len_seq (by rfl) mlen PySem.boot_len (pa_cons (pv 0) pa_nil)) (nomark _)) (pss_one (ps_set (i := 2) nd rfl (.inl rfl) (pe_ix ix_list (pv 0) (pv 1) (fun _ _ => rfl)))) pss_nil)
      (pss_one (ps_ret (pe_lst (pa_cons (pe_callB (call_max2 rfl) (by rfl) mmax (by decide +kernel) (pa_cons pe_int (pa_cons (pe_op op_sub (pe_callB call_abs (by rfl) mabs (by decide +kernel) (pa_cons (pv 2) pa_nil)) (pe_op op_pow pe_int pe_int)) pa_nil)))
        (pa_cons (pe_op op_add (pe_op op_mod (pv 2) pe_int) (pe_op op_mulW pe_int (pe_op op_add (pv 1) pe_int))) (pa_cons pe_int pa_nil))))))), ?_⟩
    refine ⟨_, rfl, _, rfl, a, _, rfl, .inl hL, _, _, rfl, rfl, _, rfl, ite2 (fun e => ?_) (fun e => ?_)⟩
    · have hlt : i < ns.length := by
        have h := of_decide_eq_true e
        rw [List.length_map] at h
        omega
      have eg : ns[i]? = some ns[i] := List.getElem?_eq_getElem hlt
      generalize ns[i] = g at eg
      refine ⟨_, rfl, _, rfl, a, _, (i : Int), .int g, rfl, rfl, hL, atI_nat (by rw [List.getElem?_map, eg]; rfl), ?_⟩
      refine ⟨_, rfl, g, rfl, 10, 18, rfl, rfl, ⟨by decide, by decide, by decide⟩, _, _, rfl, rfl, _, _, rfl, ?_⟩
      refine ⟨_, rfl, g, _, rfl, rfl, (by show (0 : Int) < 2305843009213693951; decide), ?_⟩
      refine ⟨_, rfl, _, _, rfl, rfl, _, _, rfl, rfl, wide_mul (a := 64) (b := 64) (by decide) (by omega) (by decide) (by decide) (by decide), _, _, rfl, rfl, ?_⟩
      refine ⟨Nat.le_of_lt (small1000 (by simp)), fun pl hpl => ?_⟩
      have h0 : 0 ≤ g % 2305843009213693951 := Int.emod_nonneg _ (by decide)
      have h1 : g % 2305843009213693951 < 2305843009213693951 := Int.emod_lt_of_pos _ (by decide)
      exact q _ pl (same_upd hpl) hpl ⟨_, _, 0, upd_same, by omega, by omega, by decide, by decide⟩
    · refine ⟨_, rfl, 0, rfl, 10, 18, rfl, rfl, ⟨by decide, by decide, by decide⟩, _, _, rfl, rfl, _, _, rfl, ?_⟩
      refine ⟨_, rfl, 0, _, rfl, rfl, (by show (0 : Int) < 2305843009213693951; decide), ?_⟩
      refine ⟨_, rfl, _, _, rfl, rfl, _, _, rfl, rfl, wide_mul (a := 64) (b := 64) (by decide) (by omega) (by decide) (by decide) (by decide), _, _, rfl, rfl, ?_⟩
      refine ⟨Nat.le_of_lt (small1000 (by simp)), fun pl hpl => ?_⟩
      have h0 : 0 ≤ (0 : Int) % 2305843009213693951 := Int.emod_nonneg _ (by decide)
      have h1 : (0 : Int) % 2305843009213693951 < 2305843009213693951 := Int.emod_lt_of_pos _ (by decide)
      exact q _ pl (same_upd hpl) hpl ⟨_, _, 0, upd_same, by omega, by omega, by decide, by decide⟩
theorem scPt : FnScope ["_law_pool_here", "_law_axes", "_law_limit", "_law_axis"] ["_law_pool_here", "_law_axes"] (defScope (topS 56)) := ⟨rfl, rfl, rfl, by decide +kernel, rfl, by decide +kernel, by decide +kernel⟩
def spPt : Sp := fun vs H Q _ => ∃ (pl : Addr) (d N : Nat), vs = [.ref pl, .int (d : Int)] ∧ PoolAt H pl N ∧ N ≤ 10000 ∧ d ≤ 3 ∧ ∀ H' t (pt : List Int), SameX pl H H' → PoolAt H' pl (N + 1 + d) → H' t = some (.tup (pt.map V.int)) → pt.length = d → (∀ x ∈ pt, 0 ≤ x ∧ x ≤ 10 ^ 30) → Q (.ref t) H'
theorem ok_pt {f : Addr} {fd : FuncData} (F : Fun K "_law_point" "_law_point" (topS 56) f fd) (mr : mg "range" = none) (mtuple : mg "tuple" = none) (D1 : Dn P w K mg base "_law_draw" 1 ["_law_pool_here", "_law_many"] spDr) : FnOk P w K mg base CX0 2 f fd ["_law_pool_here", "_law_axes"] spPt := by
  refine F.ok scPt (fun vs H Q E h => ?_) (fun cdv A outer s H vs Q E hr h => ?_)
  · obtain ⟨pl, d, N, rfl, _⟩ := h
    rfl
  · obtain ⟨pl, d, N, rfl, hp, hN, hd, q⟩ := h
    have nd := scPt.nd
    refine ⟨_, pss_cons (ps_set (i := 2) nd rfl (.inr rfl) (pe_ix ix_list (pe_lst (pa_cons pe_int (pa_cons pe_int (pa_cons (pe_op op_pow pe_int pe_int) pa_nil)))) (pe_def D1 hr (by rfl) (pa_cons (pv 0) (pa_cons pe_int pa_nil))) (fun _ _ => rfl)))
      (pss_one (ps_ret (pe_tupleOf (by rfl) mtuple (pe_lc (own := [("_law_axis", 3)]) (g := gName 3) (tt := tYes) rfl nd (pi_range1 rfl mr (pa_cons (pv 1) pa_nil)) (blkOk_by (N := ["_law_pool_here", "_law_axes", "_law_limit", "_law_axis"]) (sc := defScope (topS 56)) (by decide +kernel))
          (fun _ _ _ _ _ => pg_name (i := 3) nd rfl (Or.inl rfl)) (fun _ _ _ _ _ => pts_nil) (fun _ _ _ _ _ => pe_def D1 hr (by rfl) (pa_cons (pv 0) (pa_cons (pe_op op_add (pv 2) pe_int) pa_nil))))))), ?_⟩
    refine ⟨10, 30, rfl, rfl, ⟨by decide, by decide, by decide⟩, Nat.le_of_lt (small1000 (by simp)), fun l hl => ?_⟩
    have s1 : Same H (upd H l (.lst [.int 3, .int 12, .int (10 ^ (30 : Int).toNat)])) := same_upd hl
    have hl1 : (upd H l (.lst [.int 3, .int 12, .int (10 ^ (30 : Int).toNat)])) l = some (.lst [.int 3, .int 12, .int (10 ^ (30 : Int).toNat)]) := upd_same
    have hp1 : PoolAt (upd H l (.lst [.int 3, .int 12, .int (10 ^ (30 : Int).toNat)])) pl N := by
      obtain ⟨x, y, c, h, r⟩ := hp
      exact ⟨x, y, c, s1 _ _ h, r⟩
    have npl : l ≠ pl := by
      obtain ⟨x, y, c, h, r⟩ := hp
      exact (ne_of_none h hl).symm
    generalize upd H l (.lst [.int 3, .int 12, .int (10 ^ (30 : Int).toNat)]) = H1 at s1 hl1 hp1 ⊢
    refine ⟨_, rfl, pl, 3, N, rfl, hp1, by omega, by decide, by decide, fun H2 k s2 hp2 k0 k3 => ?_⟩
    obtain ⟨lim, el, l0, l1⟩ : ∃ lim : Int, atI [V.int 3, V.int 12, V.int (10 ^ (30 : Int).toNat)] k = some (.int lim) ∧ 0 ≤ lim ∧ lim ≤ 10 ^ 30 := by
      have : k = 0 ∨ k = 1 ∨ k = 2 := by omega
      rcases this with rfl | rfl | rfl
      · exact ⟨3, atI_nat (j := 0) rfl, by decide, by decide⟩
      · exact ⟨12, atI_nat (j := 1) rfl, by decide, by decide⟩
      · exact ⟨_, atI_nat (j := 2) rfl, by decide, by decide⟩
    refine ⟨l, _, k, .int lim, rfl, rfl, SqL.of (s2 _ _ npl hl1), el, ?_⟩
    refine ⟨_, rfl, (d : Int), rfl, by omega, by omega, ?_⟩
    rw [Int.toNat_natCast]
    intro D hD
    refine lc_pool (walk_range (lo := 0) (n := d)) (N + 1) 1 (fun _ _ y => ∃ k : Int, y = .int k ∧ 0 ≤ k ∧ k ≤ 10 ^ 30) (fun _ _ _ _ _ h => h) (small1000 (by omega)) hD hp2 (fun _ _ => trivial) (fun j H x H' _ => y_fn j H x H') ?_ ?_ gm_name
    · rintro i x H3 H4 acc Z hi sx hpl hk ⟨rfl, rfl⟩ hZ
      refine ⟨rfl, _, rfl, _, rfl, _, _, rfl, rfl, ?_⟩
      have h31 : lim + 1 ≤ 10 ^ 31 := Int.le_trans (Int.add_le_add_right l1 1) (by decide)
      refine ⟨pl, lim + 1, _, rfl, hpl, by omega, by omega, h31, fun H5 k5 s5 p5 a5 b5 => ?_⟩
      refine hZ _ _ s5 (by
        have : N + 1 + i * 1 + 1 = N + 1 + (i + 1) * 1 := by omega
        rw [this] at p5
        exact p5) ⟨k5, rfl, a5, by omega⟩
    · intro H3 ys s3 p3 hys hyl hyv
      obtain ⟨pt, ept, hpt⟩ : ∃ pt : List Int, ys = pt.map V.int ∧ ∀ x ∈ pt, 0 ≤ x ∧ x ≤ 10 ^ 30 := by
        clear hys hyl
        induction ys with
        | nil => exact ⟨[], rfl, fun x h => nomatch h⟩
        | cons y ys ih =>
          obtain ⟨k, e, a, b⟩ := hyv 0 y rfl
          obtain ⟨pt, e2, h2⟩ := ih fun i z hz => hyv (i + 1) z hz
          exact ⟨k :: pt, by rw [e, e2]; rfl, fun x hx => by
            rcases List.mem_cons.mp hx with rfl | hx
            · exact ⟨a, b⟩
            · exact h2 x hx⟩
      subst ept
      rw [List.length_map] at hyl
      refine .inl ⟨D, _, rfl, SqL.of hys, fun t ht => ?_⟩
      have sxx : SameX pl H H3 := SameX.trans (SameX.trans (Same.x s1 pl) s2) s3
      refine q _ t pt (SameX.trans sxx (Same.x (same_upd ht) pl)) ?_ upd_same hyl hpt
      obtain ⟨x, y, c, h, r⟩ := p3
      exact ⟨x, y, c, (same_upd ht) _ _ h, by
        have : N + 1 + d * 1 = N + 1 + d := by omega
        rw [this] at r
        exact r⟩
end
end Frd
set_option Elab.async false
set_option linter.all false
set_option maxRecDepth 100000
set_option maxHeartbeats 4000000
set_option pp.maxSteps 1000
/-! _law_vector. -/
namespace Frd
open PySem PySem.Spec PyProof.Rows L2
theorem PoolAt.le {H : Hp} {pl : Addr} {n m : Nat} (h : PoolAt H pl n) (l : n ≤ m) : PoolAt H pl m := by
  obtain ⟨x, y, c, a, b1, b2, b3, b4⟩ := h
  exact ⟨x, y, c, a, b1, b2, b3, by omega⟩
theorem PoolAt.mono {H H' : Hp} {pl : Addr} {n : Nat} (h : PoolAt H pl n) (s : Same H H') : PoolAt H' pl n := by
  obtain ⟨x, y, c, a, r⟩ := h
  exact ⟨x, y, c, s _ _ a, r⟩
theorem PoolAt.ne {H : Hp} {pl a : Addr} {n : Nat} (h : PoolAt H pl n) (ha : H a = none) : a ≠ pl := by
  obtain ⟨x, y, c, e, r⟩ := h
  exact (ne_of_none e ha).symm
theorem PoolAt.net {H : Hp} {pl a : Addr} {n : Nat} {l : List V} (h : PoolAt H pl n) (ha : H a = some (.tup l)) : a ≠ pl := by
  obtain ⟨x, y, c, e, r⟩ := h
  exact ne_of ha e (by intro z; cases z)
/-- a row of the law: (table, number, table that is read, vector) -/
abbrev LRow := Str × Int × Str × List Int
def LRowV (H : Hp) (v : V) (x : LRow) : Prop := ∃ a b, v = .ref a ∧ H a = some (.tup [.str x.1, .int x.2.1, .str x.2.2.1, .ref b]) ∧ H b = some (.tup (x.2.2.2.map V.int))
theorem LRowV.mono {H H' : Hp} {v : V} {x : LRow} (h : LRowV H v x) (s : ∀ t l, H t = some (.tup l) → H' t = some (.tup l)) : LRowV H' v x := by
  obtain ⟨a, b, e, h1, h2⟩ := h
  exact ⟨a, b, e, s _ _ h1, s _ _ h2⟩
def VecOk (d : Nat) (v : List Int) : Prop := v.length = d ∧ ∀ x ∈ v, x.natAbs ≤ 5
theorem ints_of {ys : List V} (h : ∀ (i : Nat) (y : V), ys[i]? = some y → ∃ k : Int, y = .int k ∧ k.natAbs ≤ 5) : ∃ v : List Int, ys = v.map V.int ∧ ∀ x ∈ v, x.natAbs ≤ 5 := by
  induction ys with
  | nil => exact ⟨[], rfl, fun x h => nomatch h⟩
  | cons y ys ih =>
    obtain ⟨k, e, a⟩ := h 0 y rfl
    obtain ⟨v, e2, h2⟩ := ih fun i z hz => h (i + 1) z hz
    exact ⟨k :: v, by rw [e, e2]; rfl, fun x hx => by
      rcases List.mem_cons.mp hx with rfl | hx
      · exact a
      · exact h2 x hx⟩
theorem small_at {k5 k6 : Int} (a5 : 0 ≤ k5) (b5 : k5 < 11) (a6 : 0 ≤ k6) (b6 : k6 < 8) : ∃ v : Int, atI [V.int 0, V.int 0, V.int 1, V.int (-1), V.int 1, V.int (-2), V.int 2, V.int (k5 - 5)] k6 = some (.int v) ∧ v.natAbs ≤ 5 := by
  have : k6 = 0 ∨ k6 = 1 ∨ k6 = 2 ∨ k6 = 3 ∨ k6 = 4 ∨ k6 = 5 ∨ k6 = 6 ∨ k6 = 7 := by omega
  rcases this with rfl | rfl | rfl | rfl | rfl | rfl | rfl | rfl
  · exact ⟨_, atI_nat (j := 0) rfl, by decide⟩
  · exact ⟨_, atI_nat (j := 1) rfl, by decide⟩
  · exact ⟨_, atI_nat (j := 2) rfl, by decide⟩
  · exact ⟨_, atI_nat (j := 3) rfl, by decide⟩
  · exact ⟨_, atI_nat (j := 4) rfl, by decide⟩
  · exact ⟨_, atI_nat (j := 5) rfl, by decide⟩
  · exact ⟨_, atI_nat (j := 6) rfl, by decide⟩
  · exact ⟨_, atI_nat (j := 7) rfl, by omega⟩
section
variable {P : Program} {w : World} {K : PySem.W.Frag} {mg : Str → Option Value} {base : Heap}
theorem scVec : FnScope ["_law_pool_here", "_law_axes", "_law_rows_here", "_law_axis", "_law_found", "_law_part"] ["_law_pool_here", "_law_axes", "_law_rows_here"] (defScope (topS 46)) := ⟨rfl, rfl, rfl, by decide +kernel, rfl, by decide +kernel, by decide +kernel⟩
def spVec : Sp := fun vs H Q _ => ∃ (pl rl : Addr) (d N : Nat) (xs : List V) (rows : List LRow), vs = [.ref pl, .int (d : Int), .ref rl] ∧ PoolAt H pl N ∧ N ≤ 10000 ∧ 1 ≤ d ∧ d ≤ 3 ∧ H rl = some (.lst xs) ∧ rl ≠ pl ∧ All2 (LRowV H) xs rows ∧ (∀ r ∈ rows, VecOk d r.2.2.2) ∧ rows.length ≤ 20 ∧
  ∀ H' t vec, SameX pl H H' → PoolAt H' pl (N + 20) → H' t = some (.tup (vec.map V.int)) → VecOk d vec → Q (.ref t) H'
theorem ok_vec {f : Addr} {fd : FuncData} (F : Fun K "_law_vector" "_law_vector" (topS 46) f fd) (mr : mg "range" = none) (mtuple : mg "tuple" = none) (mlen : mg "len" = none) (mmax : mg "max" = none) (mmin : mg "min" = none) (D1 : Dn P w K mg base "_law_draw" 1 ["_law_pool_here", "_law_many"] spDr) : FnOk P w K mg base CX0 2 f fd ["_law_pool_here", "_law_axes", "_law_rows_here"] spVec := by
  refine F.ok scVec (fun vs H Q E h => ?_) (fun cdv A outer s H vs Q E hr h => ?_)
  · obtain ⟨pl, rl, d, N, xs, rows, rfl, _⟩ := h
    rfl
  · obtain ⟨pl, rl, d, N, xs, rows, rfl, hp, hN, d1, d3, hrl, hne, hA, hrows, hlen, q⟩ := h
    have nd := scVec.nd
    refine ⟨_, pss_cons (ps_setLc (i := 4) (own := [("_law_axis", 3)]) (g := gName 3) (tt := tYes) (by rfl) nd rfl rfl (sw_true rfl rfl rfl (by decide +kernel)) (pi_range1 rfl mr (pa_cons (pv 1) pa_nil)) (blkOk_by (N := ["_law_pool_here", "_law_axes", "_law_rows_here", "_law_axis", "_law_found", "_law_part"]) (sc := defScope (topS 46)) (by decide +kernel))
          (fun _ _ _ _ _ => pg_name (i := 3) nd rfl (Or.inl rfl)) (fun _ _ _ _ _ => pts_nil)
          (fun _ _ _ _ _ => pe_ix (ix_listB (K := K) rfl) (pe_lst (pa_cons pe_int (pa_cons pe_int (pa_cons pe_int (pa_cons (pe_un un_neg pe_int) (pa_cons pe_int (pa_cons (pe_un un_neg pe_int) (pa_cons pe_int (pa_cons (pe_op op_sub (pe_def D1 hr (by rfl) (pa_cons (pv 0) (pa_cons pe_int pa_nil))) pe_int) pa_nil)))))))))
            (pe_def D1 hr (by rfl) (pa_cons (pv 0) (pa_cons pe_int pa_nil))) (fun _ _ => rfl)))
      (pss_cons (ps_if (PW.pt (pw_and (pt_cmpR (op_neNil hr.units0) (pv 2) (pe_lst pa_nil) (nomark _)) (pw_and1 (pt_cmpR op_eq (pe_def D1 hr (by rfl) (pa_cons (pv 0) (pa_cons pe_int pa_nil))) pe_int (nomark _)))))
        (pss_cons (ps_setLc (i := 4) (own := [("_law_part", 5)]) (g := gName 5) (tt := tYes) (by rfl) nd rfl rfl (sw_true rfl rfl rfl (by decide +kernel)) (pi_tup (pe_ix ix_tup (pe_ix ix_list (pv 2) (pe_def D1 hr (by rfl) (pa_cons (pv 0) (pa_cons (pe_callB call_len_seq (by rfl) mlen PySem.boot_len (pa_cons (pv 2) pa_nil)) pa_nil))) (fun _ _ => rfl)) pe_int (fun _ _ => rfl))) (blkOk_by (N := ["_law_pool_here", "_law_axes", "_law_rows_here", "_law_axis", "_law_found", "_law_part"]) (sc := defScope (topS 46)) (by decide +kernel))
          (fun _ _ _ _ _ => pg_name (i := 5) nd rfl (Or.inl rfl)) (fun _ _ _ _ _ => pts_nil) (fun _ _ _ _ _ => pe_op op_sub pe_int (pv 5)))
        (pss_one (ps_if (pt_cmpR op_eq (pe_def D1 hr (by rfl) (pa_cons (pv 0) (pa_cons pe_int pa_nil))) pe_int (nomark _))
          (pss_cons (ps_set (i := 3) nd rfl (.inl rfl) (pe_def D1 hr (by rfl) (pa_cons (pv 0) (pa_cons (pv 1) pa_nil))))
          (pss_one (ps_asg (pe_callB (call_max2 rfl) (by rfl) mmax (by decide +kernel) (pa_cons (pe_un un_neg pe_int) (pa_cons (pe_callB (call_min2 rfl) (by rfl) mmin (by decide +kernel) (pa_cons pe_int (pa_cons (pe_op op_add (pe_ix ix_list (pv 4) (pv 3) (fun _ _ => rfl)) pe_int) pa_nil))) pa_nil))) (pg_sub (pv 4) (pv 3) set_list)))) pss_nil))) pss_nil)
      (pss_one (ps_ret (pe_tupleOf (by rfl) mtuple (pv 4))))), ?_⟩
    have fin : ∀ H' Fd vec, SameX pl H H' → PoolAt H' pl (N + 20) → H' Fd = some (.lst (vec.map V.int)) → VecOk d vec → kTup K (.ref Fd) H' Q := fun H' Fd vec sx pp hf hv => .inl ⟨Fd, _, rfl, SqL.of hf, fun t ht => q _ t vec (SameX.trans sx (Same.x (same_upd ht) pl)) (pp.mono (same_upd ht)) upd_same hv⟩
    have hxl : xs.length = rows.length := hA.1
    refine ⟨_, rfl, (d : Int), rfl, by omega, by omega, ?_⟩
    rw [Int.toNat_natCast]
    intro D hD
    refine lc_pool (walk_range (lo := 0) (n := d)) N 2 (fun _ _ y => ∃ k : Int, y = .int k ∧ k.natAbs ≤ 5) (fun _ _ _ _ _ h => h) (small1000 (by omega)) hD hp (fun _ _ => trivial) (fun j H x H' _ => y_fn j H x H') ?_ ?_ gm_name
    · rintro i x H3 H4 acc Z hi sx hpl hk ⟨rfl, rfl⟩ hZ
      refine ⟨rfl, ?_⟩
      refine ⟨1, rfl, 2, rfl, _, rfl, pl, 11, _, rfl, hpl, by omega, by decide, by decide, fun H5 k5 s5 p5 a5 b5 => ⟨_, _, rfl, rfl, ?_⟩⟩
      refine ⟨Nat.le_of_lt (small1000 (by simp)), fun l hl => ?_⟩
      have s6 : Same H5 (upd H5 l (.lst [.int 0, .int 0, .int 1, .int (-1), .int 1, .int (-2), .int 2, .int (k5 - 5)])) := same_upd hl
      have hl6 : (upd H5 l (.lst [.int 0, .int 0, .int 1, .int (-1), .int 1, .int (-2), .int 2, .int (k5 - 5)])) l = some (.lst [.int 0, .int 0, .int 1, .int (-1), .int 1, .int (-2), .int 2, .int (k5 - 5)]) := upd_same
      have nl := p5.ne hl
      have p6 := p5.mono s6
      refine ⟨_, rfl, pl, 8, _, rfl, p6, by omega, by decide, by decide, fun H7 k7 s7 p7 a7 b7 => ?_⟩
      obtain ⟨v, ev, hv⟩ := small_at a5 b5 a7 b7
      refine ⟨l, _, k7, .int v, rfl, rfl, SqL.of (s7 _ _ nl hl6), ev, ?_⟩
      refine hZ _ _ (SameX.trans (SameX.trans s5 (Same.x s6 pl)) s7) (p7.le (by omega)) ⟨v, rfl, hv⟩
    intro H1 ys sx1 p1 hys hyl hyv
    obtain ⟨vec, evec, hvec⟩ := ints_of hyv
    subst evec
    rw [List.length_map] at hyl
    have hrl1 := sx1 _ _ hne hrl
    have tup1 : ∀ t l, H t = some (.tup l) → H1 t = some (.tup l) := fun t l h => sx1 _ _ (hp.net h) h
    refine ⟨_, rfl, Nat.zero_le _, fun E1 hE1 => ?_⟩
    have s2 : Same H1 (upd H1 E1 (.lst [])) := same_upd hE1
    have hE2 : (upd H1 E1 (.lst [])) E1 = some (.lst []) := upd_same
    generalize upd H1 E1 (.lst []) = H2 at s2 hE2 ⊢
    have p2 := p1.mono s2
    have sx2 := SameX.trans sx1 (Same.x s2 pl)
    refine ⟨rl, E1, xs, rfl, rfl, SqL.of (s2 _ _ hrl1), SqL.of hE2, _, rfl, ite2 (fun e => ?_) (fun e => ?_)⟩
    · have hpos : 0 < rows.length := by
        rw [← hxl]
        refine List.length_pos_iff.mpr fun z => ?_
        subst z
        cases e
      refine ⟨_, rfl, pl, 3, _, rfl, p2, by omega, by decide, by decide, fun H3 k3 s3 p3 a3 b3 => ?_⟩
      have sx3 := SameX.trans sx2 s3
      have nDpl : D ≠ pl := hp.ne hD
      have hD3 := s3 _ _ nDpl (s2 _ _ hys)
      refine ⟨rfl, _, rfl, ite2 (fun e3 => ?_) (fun e3 => ?_)⟩
      · -- the other way round
        refine ⟨_, rfl, _, rfl, _, rfl, rl, xs, rfl, .inl (SqL.of (s3 _ _ hne (s2 _ _ hrl1))), ?_⟩
        have h20 : (xs.length : Int) ≤ 10 ^ 31 := Int.le_trans (show (xs.length : Int) ≤ 20 by omega) (by decide)
        refine ⟨pl, _, _, rfl, p3, by omega, by omega, h20, fun H4 k4 s4 p4 a4 b4 => ?_⟩
        have sx4 := SameX.trans sx3 s4
        obtain ⟨x4, ex4⟩ : ∃ x4, xs[k4.toNat]? = some x4 := ⟨xs[k4.toNat]'(by omega), List.getElem?_eq_getElem _⟩
        obtain ⟨row, erow, ra, rb, rfl, hra, hrb⟩ := hA.at ex4
        have hvo := hrows row (List.mem_of_getElem? erow)
        have tup4 : ∀ t l, H t = some (.tup l) → H4 t = some (.tup l) := fun t l h => sx4 _ _ (hp.net h) h
        have ek4 : k4 = ((k4.toNat : Nat) : Int) := by omega
        refine ⟨rl, xs, k4, .ref ra, rfl, rfl, SqL.of (sx4 _ _ hne hrl), by rw [ek4]; exact atI_nat ex4, ?_⟩
        refine ⟨ra, _, 3, .ref rb, rfl, rfl, SqT.of (tup4 _ _ hra), atI_nat (j := 3) rfl, ?_⟩
        refine ⟨rb, rfl, ⟨_, SqT.of (tup4 _ _ hrb)⟩, fun D2 hD2 => ?_⟩
        refine lc_map (walk_tup (K := K) (a := rb) (xs := row.2.2.2.map V.int)) (fun _ _ y => ∃ k : Int, y = .int k ∧ k.natAbs ≤ 5) (fun _ _ _ _ _ _ _ h => h) (small1000 (by rw [List.length_map, hvo.1]; omega)) hD2 (fun H' s' => SqT.of (s' _ _ (tup4 _ _ hrb))) (fun j H x H' _ => y_at j H x H') ?_ ?_ gm_name
        · rintro j x H5o H5 acc Z hj s5 hk ⟨rfl, ex⟩ hZ
          rw [List.getElem?_map] at ex
          cases ev : row.2.2.2[j]? with
          | none =>
            rw [ev] at ex
            cases ex
          | some v =>
            rw [ev] at ex
            have := Option.some.inj ex
            subst this
            have hv5 := hvo.2 v (List.mem_of_getElem? ev)
            exact ⟨rfl, _, rfl, _, _, rfl, rfl, hZ _ _ (Same.refl _) ⟨0 - v, rfl, by omega⟩⟩
        intro H5 ys2 s5 hys2 hyl2 hyv2
        obtain ⟨vec2, evec2, hvec2⟩ := ints_of hyv2
        subst evec2
        rw [List.length_map, List.length_map, hvo.1] at hyl2
        have p5 := p4.mono s5
        have sx5 := SameX.trans sx4 (Same.x s5 pl)
        have nD2 : D2 ≠ pl := p4.ne hD2
        refine ⟨_, rfl, pl, 2, _, rfl, p5, by omega, by decide, by decide, fun H6 k6 s6 p6 a6 b6 => ?_⟩
        have sx6 := SameX.trans sx5 s6
        have hD6 := s6 _ _ nD2 hys2
        refine ⟨rfl, _, rfl, ite2 (fun e6 => ?_) (fun e6 => ?_)⟩
        · refine ⟨_, rfl, _, rfl, pl, (d : Int), _, rfl, p6, by omega, by omega, Int.le_trans (show (d : Int) ≤ 3 by omega) (by decide), fun H7 k7 s7 p7 a7 b7 => ?_⟩
          have sx7 := SameX.trans sx6 s7
          have hD7 := s7 _ _ nD2 hD6
          have hk7 : k7.toNat < vec2.length := by omega
          have ek7 : k7 = ((k7.toNat : Nat) : Int) := by omega
          have ev7 : vec2[k7.toNat]? = some vec2[k7.toNat] := List.getElem?_eq_getElem hk7
          have hv7 := hvec2 _ (List.getElem_mem hk7)
          generalize vec2[k7.toNat] = v7 at ev7 hv7
          refine ⟨5, rfl, _, rfl, _, rfl, D2, _, k7, .int v7, rfl, rfl, SqL.of hD7, by rw [ek7]; exact atI_nat (by rw [List.getElem?_map, ev7]; rfl), ?_⟩
          refine ⟨_, _, rfl, rfl, _, _, rfl, _, _, rfl, ?_⟩
          refine ⟨_, rfl, _, rfl, D2, _, k7, k7.toNat, rfl, rfl, hD7, ?_, ?_⟩
          · unfold ixN
            rw [List.length_map]
            first
              | rw [if_pos (show 0 ≤ k7 by omega), if_pos (by omega)]
              | (split <;> first | rfl | omega)
          · rw [← List.map_set]
            refine ⟨_, rfl, fin _ D2 (vec2.set k7.toNat _) ?_ ?_ upd_same ⟨by rw [List.length_set]; exact hyl2, fun x hx => ?_⟩⟩
            · intro b o hb e
              have nb : b ≠ D2 := fun z => by
                have h1 := sx4 b o hb e
                rw [z, hD2] at h1
                cases h1
              rw [upd_ne nb]
              exact sx7 b o hb e
            · obtain ⟨x, y, c, h, r⟩ := p7
              exact PoolAt.le ⟨x, y, c, by rw [upd_ne nD2.symm]; exact h, r⟩ (by omega)
            · rcases List.mem_or_eq_of_mem_set hx with h | h
              · exact hvec2 x h
              · subst h
                split <;> split <;> omega
        · exact ⟨_, rfl, fin H6 D2 vec2 sx6 (p6.le (by omega)) hD6 ⟨hyl2, hvec2⟩⟩
      · exact ⟨_, rfl, fin H3 D vec sx3 (p3.le (by omega)) hD3 ⟨hyl, hvec⟩⟩
    · exact ⟨_, rfl, fin H2 D vec sx2 (p2.le (by omega)) (s2 _ _ hys) ⟨hyl, hvec⟩⟩
end
end Frd
set_option Elab.async false
set_option linter.all false
set_option maxRecDepth 100000
set_option maxHeartbeats 4000000
set_option pp.maxSteps 1000
/-! _law_mean, for dicts by reads and dicts by names. -/
namespace Frd
open PySem PySem.Spec PyProof.Rows L2
theorem red_half {n D m E : Int} (hD : 0 < D) (hE : 0 < E) : red ((red n D).1 * (red m E).2 + (red m E).1 * (red n D).2) (2 * ((red n D).2 * (red m E).2)) = red (n * E + m * D) (2 * (D * E)) := by
  have h := red_add (n := n) (m := m) hD hE
  have p1 := red_pos (n := n) hD
  have p2 := red_pos (n := m) hE
  have c1 := red_cross (n := n) (D := D)
  have c2 := red_cross (n := m) (D := E)
  refine red_congr (Int.mul_pos (by decide) (Int.mul_pos p1 p2)) (Int.mul_pos (by decide) (Int.mul_pos hD hE)) ?_
  generalize (red n D).1 = a at *
  generalize (red n D).2 = b at *
  generalize (red m E).1 = c at *
  generalize (red m E).2 = d at *
  grind
theorem red_zero {D : Int} (hD : 0 < D) : red 0 D = (0, 1) := by
  have := red_int (n := 0) hD
  rwa [Int.zero_mul] at this
/-- a fraction's parts are small enough for a half -/
structure FrSm (n D : Int) : Prop where
  pos : 0 < D
  n : n.natAbs ≤ 2 ^ 1700
  d : D.natAbs ≤ 2 ^ 1700
theorem FrSm.bh1 {n D : Int} (h : FrSm n D) : Bh (red n D).1 := Nat.lt_of_le_of_lt (Nat.le_trans (red_abs1 _ _) h.n) (Nat.pow_lt_pow_right (by omega) (by omega))
theorem FrSm.bh2 {n D : Int} (h : FrSm n D) : Bh (red n D).2 := Nat.lt_of_le_of_lt (Nat.le_trans (red_abs2 _ _) h.d) (Nat.pow_lt_pow_right (by omega) (by omega))
theorem scMn : FnScope ["_law_one", "_law_two", "_law_titles", "_law_half_here", "_law_title"] ["_law_one", "_law_two", "_law_titles"] (defScope (topS 59)) := ⟨rfl, rfl, rfl, by decide +kernel, rfl, by decide +kernel, by decide +kernel⟩

/-- the dict at d holds u over D (0 where nothing stands) -/
def MapT (H : Hp) (d : Addr) (u : Rd2 → Int) (D : Int) : Prop := ∃ kvs : List (List Key × V), H d = some (.dT kvs) ∧ ∀ r, (∃ o, valV kvs (rk r) = some (.ref o) ∧ H o = some (frV (red (u r) D))) ∨ (valV kvs (rk r) = none ∧ u r = 0)
theorem MapT.mono {H H' : Hp} {d : Addr} {u : Rd2 → Int} {D : Int} (h : MapT H d u D) (s : Same H H') : MapT H' d u D := by
  obtain ⟨kvs, h1, h2⟩ := h
  refine ⟨kvs, s _ _ h1, fun r => ?_⟩
  rcases h2 r with ⟨o, e1, e2⟩ | h
  · exact .inl ⟨o, e1, s _ _ e2⟩
  · exact .inr h
/-- a new dict of fractions: m over E, by ks -/
def DictT (H : Hp) (q : Addr) (ks : List Rd2) (m : Rd2 → Int) (E : Int) : Prop := ∃ kvs : List (List Key × V), H q = some (.dT kvs) ∧ kvs.map (·.1) = ks.map (fun r => (rk r)) ∧ ∀ (j : Nat) kv k, kvs[j]? = some kv → ks[j]? = some k → ∃ o, kv.2 = .ref o ∧ H o = some (frV (red (m k) E))
section
variable {P : Program} {w : World} {K : PySem.W.Frag} {mg : Str → Option Value} {base : Heap}
def spMnT (K : PySem.W.Frag) : Sp := fun vs H Q _ => ∃ (a b l : Addr) (u v : Rd2 → Int) (D E : Int) (xs : List V) (ks : List Rd2), vs = [.ref a, .ref b, .ref l] ∧ MapT H a u D ∧ MapT H b v E ∧ SqL K H l xs ∧ All2 (RdV H) xs ks ∧ ks.Nodup ∧ ks.length ≤ 100 ∧ 0 < D ∧ 0 < E ∧ (∀ r ∈ ks, FrSm (u r) D ∧ FrSm (v r) E) ∧
  ∀ H' q, Same H H' → H q = none → DictT H' q ks (fun r => u r * E + v r * D) (2 * (D * E)) → Q (.ref q) H'
theorem ok_mnT {f : Addr} {fd : FuncData} (F : Fun K "_law_mean" "_law_mean" (topS 59) f fd) (D1 : Dn P w K mg base "_law_half" 2 ["_law_one", "_law_two"] (spHf K)) : FnOk P w K mg base CX0 3 f fd ["_law_one", "_law_two", "_law_titles"] (spMnT K) := by
  refine F.ok scMn (fun vs H Q E h => ?_) (fun cdv A outer s H vs Q E0 hr h => ?_)
  · obtain ⟨a, b, l, u, v, D, E, xs, ks, rfl, _⟩ := h
    rfl
  · obtain ⟨a, b, l, u, v, D, E, xs, ks, rfl, hu, hv, hL, hA, hnd, hkl, hD, hE, hsm, q⟩ := h
    have nd := scMn.nd
    have hun := hu_of hr
    refine ⟨_, pss_cons (ps_set (i := 3) nd rfl (.inl rfl) pe_dnewT)
      (pss_cons (ps_for PassesOwn.never rfl (pi_list (pv 2)) (pg_name (i := 4) nd rfl (.inl rfl))
        (pss_one (ps_dput hun (pv 3) (pv 4) (pe_def D1 hr (by rfl) (pa_cons (pe_dget2 hun (pv 0) (pv 4) (pe_tup (pa_cons pe_int (pa_cons pe_int pa_nil))) ⟨rfl, rfl, rfl, rfl⟩) (pa_cons (pe_dget2 hun (pv 1) (pv 4) (pe_tup (pa_cons pe_int (pa_cons pe_int pa_nil))) ⟨rfl, rfl, rfl, rfl⟩) pa_nil))) rfl)))
      (pss_one (ps_ret (pv 3)))), ?_⟩
    intro G hG
    have s1 : Same H (upd H G (.dT [])) := same_upd hG
    have hG1 : (upd H G (.dT [])) G = some (.dT []) := upd_same
    generalize upd H G (.dT []) = H1 at s1 hG1 ⊢
    have hxl : xs.length = ks.length := hA.1
    refine ⟨_, rfl, l, rfl, ⟨_, s1.seq hL⟩, for_list (K := K) (a := l) (xs := xs) (fun i σ H' => (∃ y4, σ = [some (.ref a), some (.ref b), some (.ref l), some (.ref G), y4]) ∧ Same H H' ∧ DictT H' G (ks.take i) (fun r => u r * E + v r * D) (2 * (D * E)))
      ⟨⟨none, rfl⟩, s1, [], hG1, rfl, fun j kv k h => by simp at h⟩ (fun i σ H' _ ⟨_, s', _⟩ => s'.seq hL) ?_ ?_⟩
    · rintro i x σ H2 ex ⟨⟨y4, rfl⟩, s2, kvs, hG2, hk2, hv2⟩
      obtain ⟨r, er⟩ : ∃ r, ks[i]? = some r := ⟨ks[i]'(by have := (List.getElem?_eq_some_iff.mp ex).1; omega), List.getElem?_eq_getElem _⟩
      have hrm := List.mem_of_getElem? er
      have hil := (List.getElem?_eq_some_iff.mp er).1
      obtain ⟨t, rfl, ht⟩ := hA.2 i x r ex er
      have key : ∀ {H' : Hp} {d : Addr} {kvs : List (List Key × V)}, Same H H' → H' d = some (.dT kvs) → DGet H' d (.ref t) (valV kvs (rk r)) := fun s e => DGet.t e (s _ _ ht)
      obtain ⟨fu, fv⟩ := hsm r hrm
      obtain ⟨ku, hu1, hu2⟩ := hu.mono s2
      refine ⟨_, rfl, a, rfl, .inr ⟨ku, .inl hu1⟩, _, rfl, Nat.le_of_lt (small1000 (by simp)), fun z1 hz1 => ?_⟩
      have s3 : Same H2 (upd H2 z1 (.tup [.int 0, .int 1])) := same_upd hz1
      have hz3 : (upd H2 z1 (.tup [.int 0, .int 1])) z1 = some (.tup [.int 0, .int 1]) := upd_same
      generalize upd H2 z1 (.tup [.int 0, .int 1]) = H3 at s3 hz3 ⊢
      refine ⟨_, key (s2.trans s3) (s3 _ _ hu1), ?_⟩
      obtain ⟨kv2, hv1, hvv⟩ := hv.mono (s2.trans s3)
      refine ⟨_, rfl, b, rfl, .inr ⟨kv2, .inl hv1⟩, _, rfl, Nat.le_of_lt (small1000 (by simp)), fun z2 hz2 => ?_⟩
      have s4 : Same H3 (upd H3 z2 (.tup [.int 0, .int 1])) := same_upd hz2
      have hz4 : (upd H3 z2 (.tup [.int 0, .int 1])) z2 = some (.tup [.int 0, .int 1]) := upd_same
      generalize upd H3 z2 (.tup [.int 0, .int 1]) = H4 at s4 hz4 ⊢
      have s24 := s3.trans s4
      refine ⟨_, key (s2.trans s24) (s4 _ _ hv1), ?_⟩
      have f1 : FrAt K H4 ((valV ku (rk r)).getD (.ref z1)) ((red (u r) D).1, (red (u r) D).2) := by
        rcases hu2 r with ⟨o, e1, e2⟩ | ⟨e1, e2⟩
        · rw [e1]
          exact ⟨o, rfl, SqT.of (s24 _ _ e2)⟩
        · rw [e1, e2, red_zero hD]
          exact ⟨z1, rfl, SqT.of (s4 _ _ hz3)⟩
      have f2 : FrAt K H4 ((valV kv2 (rk r)).getD (.ref z2)) ((red (v r) E).1, (red (v r) E).2) := by
        rcases hvv r with ⟨o, e1, e2⟩ | ⟨e1, e2⟩
        · rw [e1]
          exact ⟨o, rfl, SqT.of (s4 _ _ e2)⟩
        · rw [e1, e2, red_zero hE]
          exact ⟨z2, rfl, SqT.of hz4⟩
      refine ⟨_, _, _, _, _, _, rfl, f1, f2, red_pos hD, red_pos hE, fu.bh1, fu.bh2, fv.bh1, fv.bh2, fun H5 o5 s5 _ ho5 => ?_⟩
      rw [red_half hD hE] at ho5
      have s25 := s24.trans s5
      have hG5 := s25 _ _ hG2
      have hlen : kvs.length = i := by
        have := congrArg List.length hk2
        rw [List.length_map, List.length_map, List.length_take] at this
        have := (List.getElem?_eq_some_iff.mp er).1
        omega
      have hnew : (rk r) ∉ kvs.map (·.1) := fun z => by
        rw [hk2] at z
        obtain ⟨r2, h2, e⟩ := List.mem_map.mp z
        have e' : r2 = r := rk_inj e
        subst e'
        obtain ⟨j, hj⟩ := List.getElem?_of_mem h2
        have hji := (List.getElem?_eq_some_iff.mp hj).1
        rw [List.length_take] at hji
        have hj2 : ks[j]? = some r2 := by
          rw [List.getElem?_take] at hj
          split at hj
          · exact hj
          · cases hj
        have a1 := (List.getElem?_eq_some_iff.mp hj2)
        have a2 := (List.getElem?_eq_some_iff.mp er)
        obtain ⟨b1, b2⟩ := a1
        obtain ⟨c1, c2⟩ := a2
        have := (List.getElem_inj hnd).mp (b2.trans c2.symm)
        omega
      have eput : ∀ x : V, putK kvs (rk r) x = kvs ++ [((rk r), x)] := fun x => by
        have : (kvs.any fun kv => decide (kv.1 = (rk r))) = false := by
          cases z : kvs.any fun kv => decide (kv.1 = (rk r)) with
          | false => rfl
          | true =>
            obtain ⟨y, hy, e⟩ := List.any_eq_true.mp z
            exact absurd (List.mem_map.mpr ⟨y, hy, of_decide_eq_true e⟩) hnew
        unfold putK
        rw [this]
        rfl
      refine ⟨_, rfl, _, rfl, G, _, rfl, DPut.t (k := rk r) hG5 ((s2.trans s25) _ _ ht) (small1000 (by omega)), ?_⟩
      rw [eput]
      have etk : ks.take (i + 1) = ks.take i ++ [r] := by
        rw [List.take_add_one, er]
        rfl
      refine ⟨⟨_, rfl⟩, same_put (s2.trans s25) hG, kvs ++ [((rk r), .ref o5)], upd_same, by rw [etk, List.map_append, List.map_append, hk2]; rfl, fun j kv k hj hk => ?_⟩
      rw [etk] at hk
      have tl : (ks.take i).length = i := by
        rw [List.length_take]
        have := (List.getElem?_eq_some_iff.mp er).1
        omega
      by_cases hji : j < i
      · rw [List.getElem?_append_left (by omega)] at hj
        rw [List.getElem?_append_left (by omega)] at hk
        obtain ⟨o, e1, e2⟩ := hv2 j kv k hj hk
        refine ⟨o, e1, ?_⟩
        rw [upd_ne (ne_of (s25 _ _ e2) hG5 (by intro z; cases z))]
        exact s25 _ _ e2
      · rw [List.getElem?_append_right (by omega)] at hj
        rw [List.getElem?_append_right (by omega)] at hk
        have hjl : j - kvs.length = 0 := by
          have := (List.getElem?_eq_some_iff.mp hj).1
          simp at this
          omega
        rw [hjl] at hj
        rw [tl, ← hlen, hjl] at hk
        have e1 := Option.some.inj hj
        have e2 := Option.some.inj hk
        subst e1
        subst e2
        refine ⟨o5, rfl, ?_⟩
        rw [upd_ne (ne_of ho5 hG5 (by intro z; cases z))]
        exact ho5
    · rintro σ H2 ⟨⟨y4, rfl⟩, s2, hd2⟩
      rw [hxl, List.take_length] at hd2
      exact ⟨_, rfl, q H2 G s2 hG hd2⟩
end

/-- the dict at d holds u over D (0 where nothing stands) -/
def MapK (H : Hp) (d : Addr) (u : Str → Int) (D : Int) : Prop := ∃ kvs : List (Key × V), H d = some (.dK kvs) ∧ ∀ r, (∃ o, valV kvs (Sum.inr r : Key) = some (.ref o) ∧ H o = some (frV (red (u r) D))) ∨ (valV kvs (Sum.inr r : Key) = none ∧ u r = 0)
theorem MapK.mono {H H' : Hp} {d : Addr} {u : Str → Int} {D : Int} (h : MapK H d u D) (s : Same H H') : MapK H' d u D := by
  obtain ⟨kvs, h1, h2⟩ := h
  refine ⟨kvs, s _ _ h1, fun r => ?_⟩
  rcases h2 r with ⟨o, e1, e2⟩ | h
  · exact .inl ⟨o, e1, s _ _ e2⟩
  · exact .inr h
/-- a new dict of fractions: m over E, by ks -/
def DictK (H : Hp) (q : Addr) (ks : List Str) (m : Str → Int) (E : Int) : Prop := ∃ kvs : List (Key × V), H q = some (.dK kvs) ∧ kvs.map (·.1) = ks.map (fun r => (Sum.inr r : Key)) ∧ ∀ (j : Nat) kv k, kvs[j]? = some kv → ks[j]? = some k → ∃ o, kv.2 = .ref o ∧ H o = some (frV (red (m k) E))
section
variable {P : Program} {w : World} {K : PySem.W.Frag} {mg : Str → Option Value} {base : Heap}
def spMnK (K : PySem.W.Frag) : Sp := fun vs H Q _ => ∃ (a b l : Addr) (u v : Str → Int) (D E : Int) (xs : List V) (ks : List Str), vs = [.ref a, .ref b, .ref l] ∧ MapK H a u D ∧ MapK H b v E ∧ SqL K H l xs ∧ xs = ks.map V.str ∧ ks.Nodup ∧ ks.length ≤ 100 ∧ 0 < D ∧ 0 < E ∧ (∀ r ∈ ks, FrSm (u r) D ∧ FrSm (v r) E) ∧
  ∀ H' q, Same H H' → H q = none → DictK H' q ks (fun r => u r * E + v r * D) (2 * (D * E)) → Q (.ref q) H'
theorem ok_mnK {f : Addr} {fd : FuncData} (F : Fun K "_law_mean" "_law_mean" (topS 59) f fd) (D1 : Dn P w K mg base "_law_half" 2 ["_law_one", "_law_two"] (spHf K)) : FnOk P w K mg base CX0 3 f fd ["_law_one", "_law_two", "_law_titles"] (spMnK K) := by
  refine F.ok scMn (fun vs H Q E h => ?_) (fun cdv A outer s H vs Q E0 hr h => ?_)
  · obtain ⟨a, b, l, u, v, D, E, xs, ks, rfl, _⟩ := h
    rfl
  · obtain ⟨a, b, l, u, v, D, E, xs, ks, rfl, hu, hv, hL, hA, hnd, hkl, hD, hE, hsm, q⟩ := h
    have nd := scMn.nd
    have hun := hu_of hr
    refine ⟨_, pss_cons (ps_set (i := 3) nd rfl (.inl rfl) pe_dnewK)
      (pss_cons (ps_for PassesOwn.never rfl (pi_list (pv 2)) (pg_name (i := 4) nd rfl (.inl rfl))
        (pss_one (ps_dput hun (pv 3) (pv 4) (pe_def D1 hr (by rfl) (pa_cons (pe_dget2 hun (pv 0) (pv 4) (pe_tup (pa_cons pe_int (pa_cons pe_int pa_nil))) ⟨rfl, rfl, rfl, rfl⟩) (pa_cons (pe_dget2 hun (pv 1) (pv 4) (pe_tup (pa_cons pe_int (pa_cons pe_int pa_nil))) ⟨rfl, rfl, rfl, rfl⟩) pa_nil))) rfl)))
      (pss_one (ps_ret (pv 3)))), ?_⟩
    intro G hG
    have s1 : Same H (upd H G (.dK [])) := same_upd hG
    have hG1 : (upd H G (.dK [])) G = some (.dK []) := upd_same
    generalize upd H G (.dK []) = H1 at s1 hG1 ⊢
    have hxl : xs.length = ks.length := by rw [hA, List.length_map]
    refine ⟨_, rfl, l, rfl, ⟨_, s1.seq hL⟩, for_list (K := K) (a := l) (xs := xs) (fun i σ H' => (∃ y4, σ = [some (.ref a), some (.ref b), some (.ref l), some (.ref G), y4]) ∧ Same H H' ∧ DictK H' G (ks.take i) (fun r => u r * E + v r * D) (2 * (D * E)))
      ⟨⟨none, rfl⟩, s1, [], hG1, rfl, fun j kv k h => by simp at h⟩ (fun i σ H' _ ⟨_, s', _⟩ => s'.seq hL) ?_ ?_⟩
    · rintro i x σ H2 ex ⟨⟨y4, rfl⟩, s2, kvs, hG2, hk2, hv2⟩
      obtain ⟨r, er⟩ : ∃ r, ks[i]? = some r := ⟨ks[i]'(by have := (List.getElem?_eq_some_iff.mp ex).1; omega), List.getElem?_eq_getElem _⟩
      have hrm := List.mem_of_getElem? er
      have hil := (List.getElem?_eq_some_iff.mp er).1
      have ex' : x = .str r := by
        rw [hA, List.getElem?_map, er] at ex
        exact (Option.some.inj ex).symm
      subst ex'
      have key : ∀ {H' : Hp} {d : Addr} {kvs : List (Key × V)}, Same H H' → H' d = some (.dK kvs) → DGet H' d (.str r) (valV kvs (Sum.inr r)) := fun s e => DGet.k (k := Sum.inr r) e
      obtain ⟨fu, fv⟩ := hsm r hrm
      obtain ⟨ku, hu1, hu2⟩ := hu.mono s2
      refine ⟨_, rfl, a, rfl, .inl ⟨ku, .inl hu1⟩, _, rfl, Nat.le_of_lt (small1000 (by simp)), fun z1 hz1 => ?_⟩
      have s3 : Same H2 (upd H2 z1 (.tup [.int 0, .int 1])) := same_upd hz1
      have hz3 : (upd H2 z1 (.tup [.int 0, .int 1])) z1 = some (.tup [.int 0, .int 1]) := upd_same
      generalize upd H2 z1 (.tup [.int 0, .int 1]) = H3 at s3 hz3 ⊢
      refine ⟨_, key (s2.trans s3) (s3 _ _ hu1), ?_⟩
      obtain ⟨kv2, hv1, hvv⟩ := hv.mono (s2.trans s3)
      refine ⟨_, rfl, b, rfl, .inl ⟨kv2, .inl hv1⟩, _, rfl, Nat.le_of_lt (small1000 (by simp)), fun z2 hz2 => ?_⟩
      have s4 : Same H3 (upd H3 z2 (.tup [.int 0, .int 1])) := same_upd hz2
      have hz4 : (upd H3 z2 (.tup [.int 0, .int 1])) z2 = some (.tup [.int 0, .int 1]) := upd_same
      generalize upd H3 z2 (.tup [.int 0, .int 1]) = H4 at s4 hz4 ⊢
      have s24 := s3.trans s4
      refine ⟨_, key (s2.trans s24) (s4 _ _ hv1), ?_⟩
      have f1 : FrAt K H4 ((valV ku (Sum.inr r : Key)).getD (.ref z1)) ((red (u r) D).1, (red (u r) D).2) := by
        rcases hu2 r with ⟨o, e1, e2⟩ | ⟨e1, e2⟩
        · rw [e1]
          exact ⟨o, rfl, SqT.of (s24 _ _ e2)⟩
        · rw [e1, e2, red_zero hD]
          exact ⟨z1, rfl, SqT.of (s4 _ _ hz3)⟩
      have f2 : FrAt K H4 ((valV kv2 (Sum.inr r : Key)).getD (.ref z2)) ((red (v r) E).1, (red (v r) E).2) := by
        rcases hvv r with ⟨o, e1, e2⟩ | ⟨e1, e2⟩
        · rw [e1]
          exact ⟨o, rfl, SqT.of (s4 _ _ e2)⟩
        · rw [e1, e2, red_zero hE]
          exact ⟨z2, rfl, SqT.of hz4⟩
      refine ⟨_, _, _, _, _, _, rfl, f1, f2, red_pos hD, red_pos hE, fu.bh1, fu.bh2, fv.bh1, fv.bh2, fun H5 o5 s5 _ ho5 => ?_⟩
      rw [red_half hD hE] at ho5
      have s25 := s24.trans s5
      have hG5 := s25 _ _ hG2
      have hlen : kvs.length = i := by
        have := congrArg List.length hk2
        rw [List.length_map, List.length_map, List.length_take] at this
        have := (List.getElem?_eq_some_iff.mp er).1
        omega
      have hnew : (Sum.inr r : Key) ∉ kvs.map (·.1) := fun z => by
        rw [hk2] at z
        obtain ⟨r2, h2, e⟩ := List.mem_map.mp z
        have e' : r2 = r := Sum.inr.inj e
        subst e'
        obtain ⟨j, hj⟩ := List.getElem?_of_mem h2
        have hji := (List.getElem?_eq_some_iff.mp hj).1
        rw [List.length_take] at hji
        have hj2 : ks[j]? = some r2 := by
          rw [List.getElem?_take] at hj
          split at hj
          · exact hj
          · cases hj
        have a1 := (List.getElem?_eq_some_iff.mp hj2)
        have a2 := (List.getElem?_eq_some_iff.mp er)
        obtain ⟨b1, b2⟩ := a1
        obtain ⟨c1, c2⟩ := a2
        have := (List.getElem_inj hnd).mp (b2.trans c2.symm)
        omega
      have eput : ∀ x : V, putK kvs (Sum.inr r : Key) x = kvs ++ [((Sum.inr r : Key), x)] := fun x => by
        have : (kvs.any fun kv => decide (kv.1 = (Sum.inr r : Key))) = false := by
          cases z : kvs.any fun kv => decide (kv.1 = (Sum.inr r : Key)) with
          | false => rfl
          | true =>
            obtain ⟨y, hy, e⟩ := List.any_eq_true.mp z
            exact absurd (List.mem_map.mpr ⟨y, hy, of_decide_eq_true e⟩) hnew
        unfold putK
        rw [this]
        rfl
      refine ⟨_, rfl, _, rfl, G, _, rfl, DPut.k (k := Sum.inr r) hG5 (small1000 (by omega)), ?_⟩
      rw [eput]
      have etk : ks.take (i + 1) = ks.take i ++ [r] := by
        rw [List.take_add_one, er]
        rfl
      refine ⟨⟨_, rfl⟩, same_put (s2.trans s25) hG, kvs ++ [((Sum.inr r : Key), .ref o5)], upd_same, by rw [etk, List.map_append, List.map_append, hk2]; rfl, fun j kv k hj hk => ?_⟩
      rw [etk] at hk
      have tl : (ks.take i).length = i := by
        rw [List.length_take]
        have := (List.getElem?_eq_some_iff.mp er).1
        omega
      by_cases hji : j < i
      · rw [List.getElem?_append_left (by omega)] at hj
        rw [List.getElem?_append_left (by omega)] at hk
        obtain ⟨o, e1, e2⟩ := hv2 j kv k hj hk
        refine ⟨o, e1, ?_⟩
        rw [upd_ne (ne_of (s25 _ _ e2) hG5 (by intro z; cases z))]
        exact s25 _ _ e2
      · rw [List.getElem?_append_right (by omega)] at hj
        rw [List.getElem?_append_right (by omega)] at hk
        have hjl : j - kvs.length = 0 := by
          have := (List.getElem?_eq_some_iff.mp hj).1
          simp at this
          omega
        rw [hjl] at hj
        rw [tl, ← hlen, hjl] at hk
        have e1 := Option.some.inj hj
        have e2 := Option.some.inj hk
        subst e1
        subst e2
        refine ⟨o5, rfl, ?_⟩
        rw [upd_ne (ne_of ho5 hG5 (by intro z; cases z))]
        exact ho5
    · rintro σ H2 ⟨⟨y4, rfl⟩, s2, hd2⟩
      rw [hxl, List.take_length] at hd2
      exact ⟨_, rfl, q H2 G s2 hG hd2⟩
end
end Frd
set_option Elab.async false
set_option linter.all false
set_option maxRecDepth 100000
set_option maxHeartbeats 4000000
set_option pp.maxSteps 1000
/-! Ways: the plain law. -/
namespace Frd
open PySem PySem.Spec PyProof.Rows L2
/-- a name that the piece of n reaches -/
def Sys.nearN (S : Sys) (n x : Str) : Prop := x = n ∨ ∃ q, S.near n q ∧ S.has q x
theorem Sys.nearN.read {S : Sys} {n x : Str} (h : S.nearN n x) {r : Rd2} (hr : r ∈ S.named) (hx : S.has r x) : S.near n r := by
  rcases h with rfl | ⟨q, ⟨u, hu, hun, hl⟩, hq⟩
  · exact ⟨r, hr, hx, .refl _⟩
  · exact ⟨u, hu, hun, .step hl hr hq hx⟩
def cntUp (cnt : Rd2 → Int) (r : Rd2) : Rd2 → Int := fun q => if q = r then cnt r + 1 else cnt q
theorem sum_off {cnt : Rd2 → Int} {r : Rd2} (f : Rd2 → Int) : ∀ {ks : List Rd2}, r ∉ ks → (ks.map fun q => f q * cntUp cnt r q).sum = (ks.map fun q => f q * cnt q).sum
  | [], _ => rfl
  | k :: ks, h => by
    rw [List.mem_cons, not_or] at h
    rw [List.map_cons, List.map_cons, List.sum_cons, List.sum_cons, sum_off f h.2]
    unfold cntUp
    rw [if_neg (fun z => h.1 z.symm)]
theorem sum_in {cnt : Rd2 → Int} {r : Rd2} (f : Rd2 → Int) : ∀ {ks : List Rd2}, ks.Nodup → r ∈ ks → (ks.map fun q => f q * cntUp cnt r q).sum = (ks.map fun q => f q * cnt q).sum + f r
  | k :: ks, hn, h => by
    have hn' := List.nodup_cons.mp hn
    rw [List.map_cons, List.map_cons, List.sum_cons, List.sum_cons]
    by_cases e : k = r
    · subst e
      rw [sum_off f hn'.1]
      unfold cntUp
      rw [if_pos rfl, Int.mul_add, Int.mul_one]
      omega
    · have hm : r ∈ ks := by
        rcases List.mem_cons.mp h with z | z
        · exact absurd z.symm e
        · exact z
      rw [sum_in f hn'.2 hm]
      unfold cntUp
      rw [if_neg e]
      omega
theorem sum_step {cnt : Rd2 → Int} {r : Rd2} (f : Rd2 → Int) {ks : List Rd2} (hn : ks.Nodup) (hz : ∀ q, q ∉ ks → cnt q = 0) : ((addK ks r).map fun q => f q * cntUp cnt r q).sum = (ks.map fun q => f q * cnt q).sum + f r := by
  unfold addK
  by_cases h : r ∈ ks
  · rw [if_pos h]
    exact sum_in f hn h
  · rw [if_neg h, List.map_append, List.sum_append, sum_off f h]
    have : cntUp cnt r r = 1 := by
      unfold cntUp
      rw [if_pos rfl, hz r h]
      rfl
    simp [this]
/-- a way from (n, pt) to (x, p): how often it goes along each read -/
structure WayOk (S : Sys) (n : Str) (pt : List Int) (ks : List Rd2) (cnt : Rd2 → Int) (x : Str) (p : List Int) (T : Nat) : Prop where
  nodup : ks.Nodup
  mem : ∀ r ∈ ks, r ∈ S.named ∧ S.near n r
  pos : ∀ r ∈ ks, 1 ≤ cnt r
  zero : ∀ r, r ∉ ks → cnt r = 0
  len : p.length = S.d
  nn : ∀ v ∈ p, 0 ≤ v
  vec : ∀ c, c < S.d → (ks.map fun r => (S.vc r).getD c 0 * cnt r).sum = pt.getD c 0 - p.getD c 0
  nam : ∀ y : Str, (ks.map fun r => (b2z (decide (r.1 = y)) - b2z (decide (S.tg r = y))) * cnt r).sum = b2z (decide (n = y)) - b2z (decide (x = y))
  near : S.nearN n x
  tot : (ks.map cnt).sum = T
theorem WayOk.zero' {S : Sys} {n : Str} {pt : List Int} (hp : PtOk S pt) : WayOk S n pt [] (fun _ => 0) n pt 0 where
  nodup := List.nodup_nil
  mem := fun r h => nomatch h
  pos := fun r h => nomatch h
  zero := fun _ _ => rfl
  len := hp.len
  nn := hp.nn
  vec := fun c _ => by
    show (0 : Int) = _
    omega
  nam := fun y => by
    show (0 : Int) = _
    omega
  near := .inl rfl
  tot := rfl
theorem WayOk.step {S : Sys} {n : Str} {pt : List Int} {ks : List Rd2} {cnt : Rd2 → Int} {x : Str} {p p' : List Int} {T : Nat} (h : WayOk S n pt ks cnt x p T) {r : Rd2} (hr : r ∈ S.named) (hx : r.1 = x) (hl : p'.length = S.d) (hv : ∀ c, c < S.d → p'.getD c 0 = p.getD c 0 - (S.vc r).getD c 0) (hnn : ∀ v ∈ p', 0 ≤ v) :
    WayOk S n pt (addK ks r) (cntUp cnt r) (S.tg r) p' (T + 1) where
  nodup := nodup_addK h.nodup
  mem := fun q hq => by
    rcases mem_addK.mp hq with hq | rfl
    · exact h.mem q hq
    · exact ⟨hr, h.near.read hr (.inl hx)⟩
  pos := fun q hq => by
    unfold cntUp
    by_cases e : q = r
    · subst e
      rw [if_pos rfl]
      by_cases hk : q ∈ ks
      · have := h.pos q hk
        omega
      · rw [h.zero q hk]
        decide
    · rw [if_neg e]
      rcases mem_addK.mp hq with hq | z
      · exact h.pos q hq
      · exact absurd z e
  zero := fun q hq => by
    have h1 : q ∉ ks := fun z => hq (mem_addK.mpr (.inl z))
    have h2 : q ≠ r := fun z => hq (mem_addK.mpr (.inr z))
    unfold cntUp
    rw [if_neg h2]
    exact h.zero q h1
  len := hl
  nn := hnn
  vec := fun c hc => by
    rw [sum_step (fun r => (S.vc r).getD c 0) h.nodup h.zero, h.vec c hc, hv c hc]
    omega
  nam := fun y => by
    rw [sum_step (fun r => b2z (decide (r.1 = y)) - b2z (decide (S.tg r = y))) h.nodup h.zero, h.nam y, hx]
    omega
  near := .inr ⟨r, h.near.read hr (.inl hx), .inr rfl⟩
  tot := by
    have := sum_step (fun _ => 1) (cnt := cnt) (r := r) h.nodup h.zero
    simp only [Int.one_mul] at this
    rw [this, h.tot]
    push_cast
    rfl
/-- the counts keep all limits -/
theorem WayOk.rows {S : Sys} {n : Str} {pt : List Int} {ks : List Rd2} {cnt : Rd2 → Int} {x : Str} {p : List Int} {T : Nat} (h : WayOk S n pt ks cnt x p T) {c : Nat} (hc : c < (wlp S n pt).h) : (ks.map fun r => aRd S (cnames S n) c r * cnt r).sum ≤ (wlp S n pt).b c := by
  show _ ≤ (if c < S.d then pt.getD c 0 else b2z (decide ((cnames S n).getD (c - S.d) ⟨#[]⟩ = n)))
  by_cases hd : c < S.d
  · rw [if_pos hd]
    have e : (ks.map fun r => aRd S (cnames S n) c r * cnt r) = ks.map fun r => (S.vc r).getD c 0 * cnt r := List.map_congr_left fun r _ => by
      unfold aRd
      rw [if_pos hd]
    rw [e, h.vec c hd]
    have : 0 ≤ p.getD c 0 := by
      have ep : p[c]? = some (p[c]'(by rw [h.len]; exact hd)) := List.getElem?_eq_getElem _
      rw [getD_at ep]
      exact h.nn _ (List.getElem_mem _)
    omega
  · rw [if_neg hd]
    have e : (ks.map fun r => aRd S (cnames S n) c r * cnt r) = ks.map fun r => (b2z (decide (r.1 = (cnames S n).getD (c - S.d) ⟨#[]⟩)) - b2z (decide (S.tg r = (cnames S n).getD (c - S.d) ⟨#[]⟩))) * cnt r := List.map_congr_left fun r _ => by
      unfold aRd
      rw [if_neg hd]
    rw [e, h.nam]
    have e2 : decide (n = (cnames S n).getD (c - S.d) ⟨#[]⟩) = decide ((cnames S n).getD (c - S.d) ⟨#[]⟩ = n) := decide_eq_decide.mpr eq_comm
    rw [e2]
    have : 0 ≤ b2z (decide (x = (cnames S n).getD (c - S.d) ⟨#[]⟩)) := by
      rcases b2z_cases (decide (x = (cnames S n).getD (c - S.d) ⟨#[]⟩)) with h | h <;> rw [h] <;> decide
    omega
theorem WayOk.comp {S : Sys} {n : Str} {pt : List Int} {ks : List Rd2} {cnt : Rd2 → Int} {x : Str} {p : List Int} {T : Nat} (h : WayOk S n pt ks cnt x p T) : ∀ r ∈ ks, r ∈ compOf S n := fun r hr => mem_compOf.mpr (h.mem r hr)
end Frd
set_option Elab.async false
set_option linter.all false
set_option maxRecDepth 100000
set_option maxHeartbeats 4000000
set_option pp.maxSteps 1000
/-! _law_way. -/
namespace Frd
open PySem PySem.Spec PyProof.Rows L2
/-- counts by reads -/
def CntAt (H : Hp) (q : Addr) (ks : List Rd2) (cnt : Rd2 → Int) : Prop := ∃ kvs : List (List Key × V), H q = some (.dT kvs) ∧ kvs.map (·.1) = ks.map rk ∧ ∀ kv ∈ kvs, ∀ k, kv.1 = rk k → kv.2 = .int (cnt k)
/-- the law's rows are the system's reads -/
def RowsOf (S : Sys) (rows : List LRow) : Prop := ∀ r ∈ rows, ((r.1, r.2.1) : Rd2) ∈ S.named ∧ S.tg (r.1, r.2.1) = r.2.2.1 ∧ S.vc (r.1, r.2.1) = r.2.2.2
/-- an able turn: a row, and the cell behind it -/
def AbleV (S : Sys) (H : Hp) (rows : List LRow) (x : Str) (p : List Int) (v : V) : Prop := ∃ t ra cc row, v = .ref t ∧ H t = some (.tup [.ref ra, .ref cc]) ∧ row ∈ rows ∧ LRowV H (.ref ra) row ∧ row.1 = x ∧ (∃ p' : List Int, CellV H (.ref cc) row.2.2.1 p' ∧ p'.length = S.d ∧ (∀ c, c < S.d → p'.getD c 0 = p.getD c 0 - row.2.2.2.getD c 0) ∧ ∀ v ∈ p', 0 ≤ v)
theorem mem_putK {κ : Type} [DecidableEq κ] {kvs : List (κ × V)} {k : κ} {v : V} {kv : κ × V} (h : kv ∈ putK kvs k v) : (kv.1 = k ∧ kv.2 = v) ∨ (kv ∈ kvs ∧ kv.1 ≠ k) := by
  unfold putK at h
  by_cases q : (kvs.any fun kv => decide (kv.1 = k)) = true
  · rw [if_pos q] at h
    obtain ⟨x, hx, e⟩ := List.mem_map.mp h
    have e' : (if x.1 = k then (x.1, v) else x) = kv := e
    by_cases z : x.1 = k
    · rw [if_pos z] at e'
      rw [← e']
      exact .inl ⟨z, rfl⟩
    · rw [if_neg z] at e'
      rw [← e']
      exact .inr ⟨hx, z⟩
  · rw [if_neg q] at h
    rcases List.mem_append.mp h with h | h
    · refine .inr ⟨h, fun z => q ?_⟩
      exact List.any_eq_true.mpr ⟨kv, h, decide_eq_true z⟩
    · have := List.mem_singleton.mp h
      rw [this]
      exact .inl ⟨rfl, rfl⟩
theorem addK_rk (ks : List Rd2) (r : Rd2) : addK (ks.map rk) (rk r) = (addK ks r).map rk := by
  unfold addK
  by_cases h : r ∈ ks
  · rw [if_pos h, if_pos (List.mem_map.mpr ⟨r, h, rfl⟩)]
  · rw [if_neg h, if_neg (fun z => by
      obtain ⟨q, hq, e⟩ := List.mem_map.mp z
      exact h (rk_inj e ▸ hq)), List.map_append]
    rfl
theorem AbleV.mono {S : Sys} {H H' : Hp} {rows : List LRow} {x : Str} {p : List Int} {v : V} (h : AbleV S H rows x p v) (s : ∀ t l, H t = some (.tup l) → H' t = some (.tup l)) : AbleV S H' rows x p v := by
  obtain ⟨t, ra, cc, row, e, h1, h2, h3, h4, p', ⟨a, b, e2, h5, h6⟩, h7⟩ := h
  exact ⟨t, ra, cc, row, e, s _ _ h1, h2, h3.mono s, h4, p', ⟨a, b, e2, s _ _ h5, s _ _ h6⟩, h7⟩
section
variable {P : Program} {w : World} {K : PySem.W.Frag} {mg : Str → Option Value} {base : Heap}
theorem scWay : FnScope ["_law_pool_here", "_law_rows_here", "_law_place", "_law_here", "_law_some", "_law_turn", "_law_able", "_law_row", "_law_point_here", "_law_a", "_law_b"] ["_law_pool_here", "_law_rows_here", "_law_place"] (defScope (topS 57)) := ⟨rfl, rfl, rfl, by decide +kernel, rfl, by decide +kernel, by decide +kernel⟩
def spWay (K : PySem.W.Frag) : Sp := fun vs H Q _ => ∃ (pl rl : Addr) (v : V) (S : Sys) (n : Str) (pt : List Int) (N : Nat) (xs : List V) (rows : List LRow), vs = [.ref pl, .ref rl, v] ∧ PoolAt H pl N ∧ N ≤ 10000 ∧ H rl = some (.lst xs) ∧ rl ≠ pl ∧ All2 (LRowV H) xs rows ∧ CellV H v n pt ∧ S.Ok ∧ PtOk S pt ∧ RowsOf S rows ∧ rows.length ≤ 20 ∧
  ∀ H' q ks cnt x p T, SameX pl H H' → PoolAt H' pl (N + 60) → WayOk S n pt ks cnt x p T → T ≤ 60 → CntAt H' q ks cnt → H q = none → Q (.ref q) H'
theorem ok_way {f : Addr} {fd : FuncData} (F : Fun K "_law_way" "_law_way" (topS 57) f fd) (mr : mg "range" = none) (mtuple : mg "tuple" = none) (mlen : mg "len" = none) (mmin : mg "min" = none) (mzip : mg "zip" = none) (D1 : Dn P w K mg base "_law_draw" 1 ["_law_pool_here", "_law_many"] spDr) : FnOk P w K mg base CX0 2 f fd ["_law_pool_here", "_law_rows_here", "_law_place"] (spWay K) := by
  refine F.ok scWay (fun vs H Q E h => ?_) (fun cdv A outer s H vs Q E hr h => ?_)
  · obtain ⟨pl, rl, v, S, n, pt, N, xs, rows, rfl, _⟩ := h
    rfl
  · obtain ⟨pl, rl, v, S, n, pt, N, xs, rows, rfl, hp, hN, hrl, hne, hA, hcell, ok, hpt, hro, hlen, q⟩ := h
    have nd := scWay.nd
    have hu := hu_of hr
    refine ⟨_, pss_cons (ps_par (i := 3) (j := 4) rfl nd rfl rfl (by decide) rfl rfl (pa_cons (pv 2) (pa_cons pe_dnewT pa_nil)) (by rfl))
      (pss_cons (ps_for PassesOwn.never rfl (pi_range1 rfl mr (pa_cons pe_int pa_nil)) (pg_name (i := 5) nd rfl (.inl rfl))
        (pss_cons (ps_set (i := 6) nd rfl (.inl rfl) (pe_lst pa_nil))
        (pss_cons (ps_for PassesOwn.never rfl (pi_list (pv 1)) (pg_name (i := 7) nd rfl (.inl rfl))
          (pss_cons (ps_set (i := 8) nd rfl (.inl rfl) (pe_tupleOf (by rfl) mtuple (pe_lc (own := [("_law_a", 9), ("_law_b", 10)]) (g := gTup K 2 (gCons (gName 9) (gCons (gName 10) gNil))) (tt := tYes) rfl nd (RZ.pi_zipA (by rfl) mzip (pa_cons (pe_ix ix_tup (pv 3) pe_int (fun _ _ => rfl)) (pa_cons (pe_ix ix_tup (pv 7) pe_int (fun _ _ => rfl)) pa_nil))) (blkOk_by (N := ["_law_pool_here", "_law_rows_here", "_law_place", "_law_here", "_law_some", "_law_turn", "_law_able", "_law_row", "_law_point_here", "_law_a", "_law_b"]) (sc := defScope (topS 57)) (by decide +kernel))
              (fun _ _ _ _ _ => pg_tup rfl (pgs_cons (pg_name (i := 9) nd rfl (Or.inl rfl)) (pgs_cons (pg_name (i := 10) nd rfl (Or.inl rfl)) pgs_nil))) (fun _ _ _ _ _ => pts_nil) (fun _ _ _ _ _ => pe_op op_sub (pv 9) (pv 10)))))
          (pss_one (ps_if (PW.pt (pw_and (pt_cmpR op_eq (pe_ix ix_tup (pv 7) pe_int (fun _ _ => rfl)) (pe_ix ix_tup (pv 3) pe_int (fun _ _ => rfl)) (nomark _)) (pw_and1 (pt_cmpR op_ge (pe_callB (cr_minT rfl) (by rfl) mmin (by decide +kernel) (pa_cons (pv 8) pa_nil)) pe_int (nomark _)))))
            (pss_one (ps_expr (pe_bm PySem.F.plainAttrs_list PySem.F.slot_list_append PySem.F.type_list_append mt_append (pv 6) (pa_cons (pe_tup (pa_cons (pv 7) (pa_cons (pe_tup (pa_cons (pe_ix ix_tup (pv 7) pe_int (fun _ _ => rfl)) (pa_cons (pv 8) pa_nil))) pa_nil))) pa_nil)))) pss_nil))))
        (pss_cons (ps_if (pt_cmpR (op_eqNil hr.units0) (pv 6) (pe_lst pa_nil) (nomark _)) (pss_one (ps_ret (pv 4))) pss_nil)
        (pss_cons (ps_asg (pe_ix ix_list (pv 6) (pe_def D1 hr (by rfl) (pa_cons (pv 0) (pa_cons (pe_callB call_len_seq (by rfl) mlen PySem.boot_len (pa_cons (pv 6) pa_nil)) pa_nil))) (fun _ _ => rfl)) (pg_tup rfl (pgs_cons (pg_name (i := 7) nd rfl (.inl rfl)) (pgs_cons (pg_name (i := 3) nd rfl (.inl rfl)) pgs_nil))))
        (pss_one (ps_dput hu (pv 4) (pe_tup (pa_cons (pe_ix ix_tup (pv 7) pe_int (fun _ _ => rfl)) (pa_cons (pe_ix ix_tup (pv 7) pe_int (fun _ _ => rfl)) pa_nil))) (pe_op op_add (pe_dget2 hu (pv 4) (pe_tup (pa_cons (pe_ix ix_tup (pv 7) pe_int (fun _ _ => rfl)) (pa_cons (pe_ix ix_tup (pv 7) pe_int (fun _ _ => rfl)) pa_nil))) pe_int ⟨rfl, rfl, rfl, rfl⟩) pe_int) rfl)))))))
      (pss_one (ps_ret (pv 4)))), ?_⟩
    have d1 := ok.d1
    have d3 := ok.d3
    have hxl : xs.length = rows.length := hA.1
    obtain ⟨hh0, _, rfl, _, _⟩ := id hcell
    -- here, some
    refine ⟨_, rfl, ?_⟩
    intro D hD
    have s1 : Same H (upd H D (.dT [])) := same_upd hD
    have hD1 : (upd H D (.dT [])) D = some (.dT []) := upd_same
    have nDpl := hp.ne hD
    generalize upd H D (.dT []) = H1 at s1 hD1 ⊢
    refine ⟨_, _, rfl, ?_⟩
    refine ⟨60, rfl, by decide, by decide, ?_⟩
    have tupX : ∀ {H' : Hp}, SameX pl H H' → ∀ t l, H t = some (.tup l) → H' t = some (.tup l) := fun sx t l h => sx _ _ (hp.net h) h
    refine for_range (lo := 0) (n := 60) (fun i σ H' => ∃ (hh : Addr) (x : Str) (p : List Int) (ks : List Rd2) (cnt : Rd2 → Int), (∃ y5 y6 y7 y8 y9 y10, σ = [some (.ref pl), some (.ref rl), some (.ref hh0), some (.ref hh), some (.ref D), y5, y6, y7, y8, y9, y10]) ∧ SameX pl H H' ∧ PoolAt H' pl (N + i) ∧ CellV H' (.ref hh) x p ∧ CntAt H' D ks cnt ∧ WayOk S n pt ks cnt x p i ∧ ks.length ≤ i) ?_ ?_ ?_
    · exact ⟨hh0, n, pt, [], fun _ => 0, ⟨none, none, none, none, none, none, rfl⟩, Same.x s1 pl, (hp.mono s1).le (by omega), hcell.mono s1, ⟨[], hD1, rfl, fun kv h => (nomatch h)⟩, WayOk.zero' hpt, Nat.le_refl _⟩
    · rintro i σ H2 hi ⟨hh, x, p, ks, cnt, ⟨y5, y6, y7, y8, y9, y10, rfl⟩, sx2, p2, hc2, hct2, hw, hkl⟩
      refine ⟨Nat.zero_le _, fun L hL => ?_⟩
      have s3 : Same H2 (upd H2 L (.lst [])) := same_upd hL
      have hL3 : (upd H2 L (.lst [])) L = some (.lst []) := upd_same
      have nLpl := p2.ne hL
      generalize upd H2 L (.lst []) = H3 at s3 hL3 ⊢
      have hrl2 := sx2 _ _ hne hrl
      have hrl3 := s3 _ _ hrl2
      have nrlL : rl ≠ L := ne_of_none hrl2 hL
      obtain ⟨ha, hb, ehh, hca, hcb⟩ := id hc2
      cases ehh
      refine ⟨_, rfl, rl, rfl, ⟨_, SqL.of hrl3⟩, for_list (K := K) (a := rl) (xs := xs) (fun j σ H' => (∃ y5 y7 y8 y9 y10, σ = [some (.ref pl), some (.ref rl), some (.ref hh0), some (.ref hh), some (.ref D), y5, some (.ref L), y7, y8, y9, y10]) ∧ SameX L H3 H' ∧ ∃ as : List V, H' L = some (.lst as) ∧ as.length ≤ j ∧ ∀ v ∈ as, AbleV S H' rows x p v)
        ⟨⟨_, _, _, _, _, rfl⟩, fun b o _ h => h, [], hL3, Nat.le_refl _, fun v h => (nomatch h)⟩ (fun j σ H' _ ⟨_, s', _⟩ => SqL.of (s' _ _ nrlL hrl3)) ?_ ?_⟩
      · rintro j x' σ H4 ex ⟨⟨y5', y7', y8', y9', y10', rfl⟩, sx4, as, hL4, hal, has⟩
        have hjx := (List.getElem?_eq_some_iff.mp ex).1
        obtain ⟨row, erow, ra, rb, rfl, hra, hrb⟩ := hA.at ex
        have hrm := List.mem_of_getElem? erow
        obtain ⟨hr1, hr2, hr3⟩ := hro row hrm
        have hvl : row.2.2.2.length = S.d := by
          rw [← hr3]
          exact (ok.read hr1).1
        have tup4 : ∀ t l, H2 t = some (.tup l) → H4 t = some (.tup l) := fun t l h => sx4 _ _ (ne_of_none h hL) (s3 _ _ h)
        have hra4 := tup4 _ _ (tupX sx2 _ _ hra)
        have hrb4 := tup4 _ _ (tupX sx2 _ _ hrb)
        have hca4 := tup4 _ _ hca
        have hcb4 := tup4 _ _ hcb
        refine ⟨_, rfl, hh, _, 1, .ref hb, rfl, rfl, SqT.of hca4, atI_nat (j := 1) rfl, ?_⟩
        refine ⟨_, rfl, ra, _, 3, .ref rb, rfl, rfl, SqT.of hra4, atI_nat (j := 3) rfl, ?_⟩
        refine ⟨hb, rb, p.map V.int, row.2.2.2.map V.int, rfl, .inr ⟨SqT.of hcb4, SqT.of hrb4, fun D2 hD2 => ?_⟩⟩
        refine lc_map (walk_zipT (K := K) (a := hb) (b := rb) (xs := p.map V.int) (ys := row.2.2.2.map V.int) (n := S.d) (by rw [List.length_map, List.length_map, hvl, hw.len]; omega)) (fun c _ y => y = .int (p.getD c 0 - row.2.2.2.getD c 0)) (fun _ _ _ _ _ _ _ e => e) (small1000 (by omega)) hD2
          (fun H' s' => ⟨SqT.of (s' _ _ hcb4), SqT.of (s' _ _ hrb4)⟩) (fun j H x H' _ => y_pair j H x H') ?_ ?_ gm_pair
        · rintro c x H5 H6 acc Z hc s5 hacc ⟨t3, x3, x4, rfl, nt3, rfl, e3, e4⟩ hZ
          obtain ⟨u, eu⟩ : ∃ u, p[c]? = some u := ⟨p[c]'(by rw [hw.len]; exact hc), List.getElem?_eq_getElem _⟩
          obtain ⟨w0, ew⟩ : ∃ w0, row.2.2.2[c]? = some w0 := ⟨row.2.2.2[c]'(by rw [hvl]; exact hc), List.getElem?_eq_getElem _⟩
          have ex3 : x3 = .int u := by
            have e3' : (p.map V.int)[c]? = some x3 := e3
            rw [List.getElem?_map, eu] at e3'
            exact (Option.some.inj e3').symm
          have ex4 : x4 = .int w0 := by
            have e4' : (row.2.2.2.map V.int)[c]? = some x4 := e4
            rw [List.getElem?_map, ew] at e4'
            exact (Option.some.inj e4').symm
          subst ex3
          subst ex4
          rw [getD_at eu, getD_at ew] at hZ
          refine ⟨t3, _, rfl, SqT.of upd_same, rfl, _, _, rfl, _, _, rfl, rfl, ?_⟩
          exact ⟨rfl, _, rfl, _, rfl, _, _, rfl, rfl, hZ _ _ (Same.refl _) rfl⟩
        intro H5 zs s5 hz hzl hzv
        have ez : zs = ((List.range S.d).map fun c => p.getD c 0 - row.2.2.2.getD c 0).map V.int := by
          rw [List.map_map]
          exact list_of hzl hzv
        subst ez
        generalize hp' : ((List.range S.d).map fun c => p.getD c 0 - row.2.2.2.getD c 0) = p' at hz hzl
        have hpl' : p'.length = S.d := by rw [← hp', List.length_map, List.length_range]
        have hpv : ∀ c, c < S.d → p'.getD c 0 = p.getD c 0 - row.2.2.2.getD c 0 := fun c hc => by rw [← hp', getD_range hc]
        refine .inl ⟨D2, _, rfl, SqL.of hz, fun tp htp => ?_⟩
        have s6 : Same H5 (upd H5 tp (.tup (p'.map V.int))) := same_upd htp
        have htp6 : (upd H5 tp (.tup (p'.map V.int))) tp = some (.tup (p'.map V.int)) := upd_same
        generalize upd H5 tp (.tup (p'.map V.int)) = H6 at s6 htp6 ⊢
        have s46 := s5.trans s6
        have hL6 := s46 _ _ hL4
        have sx6 : SameX L H3 H6 := SameX.trans sx4 (Same.x s46 L)
        have has6 : ∀ v ∈ as, AbleV S H6 rows x p v := fun v hv => (has v hv).mono fun t l h => s46 _ _ h
        refine ⟨_, rfl, ra, _, 0, .str row.1, rfl, rfl, SqT.of (s46 _ _ hra4), atI_nat (j := 0) rfl, ?_⟩
        refine ⟨_, rfl, hh, _, 0, .str x, rfl, rfl, SqT.of (s46 _ _ hca4), atI_nat (j := 0) rfl, ?_⟩
        refine ⟨rfl, _, rfl, ite2 (fun e => ?_) (fun e => ?_)⟩
        · have hrx : row.1 = x := V.str.inj (of_decide_eq_true e)
          refine ⟨_, rfl, tp, p', rfl, SqT.of htp6, by omega, fun mn hmn hmin => ?_⟩
          refine ⟨_, _, rfl, rfl, _, rfl, ite2 (fun e2 => ?_) (fun e2 => ?_)⟩
          · have hm0 := of_decide_eq_true e2
            have hpn : ∀ v ∈ p', 0 ≤ v := fun v hv => by
              have := hmin v hv
              omega
            refine ⟨_, rfl, .inl ⟨rfl, _, SqL.of hL6⟩, ?_⟩
            refine ⟨_, rfl, _, rfl, ra, _, 2, .str row.2.2.1, rfl, rfl, SqT.of (s46 _ _ hra4), atI_nat (j := 2) rfl, _, rfl, Nat.le_of_lt (small1000 (by simp)), fun c2 hc2' => ?_⟩
            have s7 : Same H6 (upd H6 c2 (.tup [.str row.2.2.1, .ref tp])) := same_upd hc2'
            have hc7 : (upd H6 c2 (.tup [.str row.2.2.1, .ref tp])) c2 = some (.tup [.str row.2.2.1, .ref tp]) := upd_same
            generalize upd H6 c2 (.tup [.str row.2.2.1, .ref tp]) = H7 at s7 hc7 ⊢
            refine ⟨Nat.le_of_lt (small1000 (by simp)), fun t2 ht2 => ?_⟩
            have s8 : Same H7 (upd H7 t2 (.tup [.ref ra, .ref c2])) := same_upd ht2
            have ht8 : (upd H7 t2 (.tup [.ref ra, .ref c2])) t2 = some (.tup [.ref ra, .ref c2]) := upd_same
            generalize upd H7 t2 (.tup [.ref ra, .ref c2]) = H8 at s8 ht8 ⊢
            have s68 := s7.trans s8
            have hL8 := s68 _ _ hL6
            refine ⟨L, as, .ref t2, rfl, rfl, hL8, small1000 (by omega), ?_⟩
            have tup9 : ∀ t l, H8 t = some (.tup l) → (upd H8 L (.lst (as ++ [.ref t2]))) t = some (.tup l) := fun t l h => by
              rw [upd_ne (ne_of h hL8 (by intro z; cases z))]
              exact h
            refine ⟨⟨_, _, _, _, _, rfl⟩, SameX.trans (SameX.trans sx6 (Same.x s68 L)) sameX_upd, as ++ [.ref t2], upd_same, by rw [List.length_append]; simp; omega, fun v hv => ?_⟩
            rcases List.mem_append.mp hv with hv | hv
            · exact (has6 v hv).mono fun t l h => tup9 _ _ (s68 _ _ h)
            · rw [List.mem_singleton.mp hv]
              exact ⟨t2, ra, c2, row, rfl, tup9 _ _ ht8, hrm, ⟨ra, rb, rfl, tup9 _ _ (s68 _ _ (s46 _ _ hra4)), tup9 _ _ (s68 _ _ (s46 _ _ hrb4))⟩, hrx, p', ⟨c2, tp, rfl, tup9 _ _ (s8 _ _ hc7), tup9 _ _ (s68 _ _ htp6)⟩, hpl', hpv, hpn⟩
          · exact ⟨⟨_, _, _, _, _, rfl⟩, sx6, as, hL6, by omega, has6⟩
        · exact ⟨⟨_, _, _, _, _, rfl⟩, sx6, as, hL6, by omega, has6⟩
      · rintro σ H4 ⟨⟨y5', y7', y8', y9', y10', rfl⟩, sx4, as, hL4, hal, has⟩
        have tup4 : ∀ t l, H2 t = some (.tup l) → H4 t = some (.tup l) := fun t l h => sx4 _ _ (ne_of_none h hL) (s3 _ _ h)
        have keep4 : ∀ b o, H2 b = some o → H4 b = some o := fun b o h => sx4 _ _ (ne_of_none h hL) (s3 _ _ h)
        have s24 : Same H2 H4 := keep4
        have p4 := p2.mono s24
        have sxp4 : SameX pl H H4 := SameX.trans sx2 (Same.x s24 pl)
        refine ⟨_, rfl, Nat.zero_le _, fun E1 hE1 => ?_⟩
        have s5 : Same H4 (upd H4 E1 (.lst [])) := same_upd hE1
        have hE5 : (upd H4 E1 (.lst [])) E1 = some (.lst []) := upd_same
        generalize upd H4 E1 (.lst []) = H5 at s5 hE5 ⊢
        have p5 := p4.mono s5
        have sx5 : SameX pl H H5 := SameX.trans sxp4 (Same.x s5 pl)
        have hct5 : CntAt H5 D ks cnt := by
          obtain ⟨kvs, e1, e2, e3⟩ := hct2
          exact ⟨kvs, s5 _ _ (keep4 _ _ e1), e2, e3⟩
        refine ⟨L, E1, as, rfl, rfl, SqL.of (s5 _ _ hL4), SqL.of hE5, _, rfl, ite2 (fun e => ?_) (fun e => ?_)⟩
        · exact ⟨_, rfl, q H5 D ks cnt x p i sx5 (p5.le (by omega)) hw (by omega) hct5 hD⟩
        · have hapos : 0 < as.length := List.length_pos_iff.mpr fun z => e (decide_eq_true z)
          have h20 : (as.length : Int) ≤ 10 ^ 31 := Int.le_trans (show (as.length : Int) ≤ 20 by omega) (by decide)
          refine ⟨_, rfl, _, rfl, _, rfl, L, as, rfl, .inl (SqL.of (s5 _ _ hL4)), ?_⟩
          refine ⟨pl, (as.length : Int), _, rfl, p5, by omega, by omega, h20, fun H6 k6 s6 p6 a6 b6 => ?_⟩
          have hk6 : k6.toNat < as.length := by omega
          have ek6 : k6 = ((k6.toNat : Nat) : Int) := by omega
          have hL6 := s6 _ _ nLpl (s5 _ _ hL4)
          have tup6 : ∀ t l, H4 t = some (.tup l) → H6 t = some (.tup l) := fun t l h => s6 _ _ (p5.net (s5 _ _ h)) (s5 _ _ h)
          have ev6 : as[k6.toNat]? = some as[k6.toNat] := List.getElem?_eq_getElem hk6
          obtain ⟨t, ra, cc, row, et, htt, hrow, hrv, hrx, p', hcp, hpl', hpv, hpn⟩ := (has _ (List.getElem_mem hk6)).mono tup6
          rw [et] at ev6
          refine ⟨L, as, k6, .ref t, rfl, rfl, SqL.of hL6, by rw [ek6]; exact atI_nat ev6, ?_⟩
          refine ⟨t, _, rfl, SqT.of htt, rfl, _, _, rfl, _, _, rfl, rfl, ?_⟩
          obtain ⟨hr1, hr2, hr3⟩ := hro row hrow
          obtain ⟨ra', rb', era, hra, hrb⟩ := id hrv
          cases era
          have sx6 := SameX.trans sx5 s6
          obtain ⟨kvs, hk1, hk2, hk3⟩ := hct5
          have nDpl' := nDpl
          have hk6' := s6 _ _ nDpl hk1
          have kvl : kvs.length = ks.length := by
            have := congrArg List.length hk2
            rwa [List.length_map, List.length_map] at this
          -- some.get(..)
          refine ⟨_, rfl, D, rfl, .inr ⟨kvs, .inl hk6'⟩, ?_⟩
          refine ⟨_, rfl, ra, _, 0, .str row.1, rfl, rfl, SqT.of hra, atI_nat (j := 0) rfl, ?_⟩
          refine ⟨_, rfl, ra, _, 1, .int row.2.1, rfl, rfl, SqT.of hra, atI_nat (j := 1) rfl, Nat.le_of_lt (small1000 (by simp)), fun z1 hz1 => ?_⟩
          have s7 : Same H6 (upd H6 z1 (.tup [.str row.1, .int row.2.1])) := same_upd hz1
          have hz7 : (upd H6 z1 (.tup [.str row.1, .int row.2.1])) z1 = some (.tup [.str row.1, .int row.2.1]) := upd_same
          generalize upd H6 z1 (.tup [.str row.1, .int row.2.1]) = H7 at s7 hz7 ⊢
          refine ⟨_, DGet.t (k := rk (row.1, row.2.1)) (s7 _ _ hk6') hz7, ?_⟩
          have hcv : (valV kvs (rk (row.1, row.2.1))).getD (.int 0) = .int (cnt (row.1, row.2.1)) := by
            by_cases hm : ((row.1, row.2.1) : Rd2) ∈ ks
            · obtain ⟨j, kv, e1, e2, e3⟩ := valV_mem (kvs := kvs) (k := rk (row.1, row.2.1)) (by rw [hk2]; exact List.mem_map.mpr ⟨_, hm, rfl⟩)
              have ek : (ks.map rk)[j]? = some (rk (row.1, row.2.1)) := by
                rw [← hk2, List.getElem?_map, e1, ← e2]
                rfl
              rw [List.getElem?_map] at ek
              cases er : ks[j]? with
              | none =>
                rw [er] at ek
                cases ek
              | some r' =>
                rw [er] at ek
                rw [e3, hk3 kv (List.mem_of_getElem? e1) _ e2]
                rfl
            · have : valV kvs (rk (row.1, row.2.1)) = none := by
                cases z : valV kvs (rk (row.1, row.2.1)) with
                | none => rfl
                | some v =>
                  have hm2 := valV_iff.mp (show (valV kvs (rk (row.1, row.2.1))).isSome = true by rw [z]; rfl)
                  rw [hk2] at hm2
                  obtain ⟨r2, h2, e2⟩ := List.mem_map.mp hm2
                  exact absurd (rk_inj e2 ▸ h2) hm
              rw [this, hw.zero _ hm]
              rfl
          rw [hcv]
          refine ⟨_, _, rfl, rfl, ?_⟩
          refine ⟨_, rfl, _, rfl, ra, _, 0, .str row.1, rfl, rfl, SqT.of (s7 _ _ hra), atI_nat (j := 0) rfl, ?_⟩
          refine ⟨_, rfl, ra, _, 1, .int row.2.1, rfl, rfl, SqT.of (s7 _ _ hra), atI_nat (j := 1) rfl, Nat.le_of_lt (small1000 (by simp)), fun z2 hz2 => ?_⟩
          have s8 : Same H7 (upd H7 z2 (.tup [.str row.1, .int row.2.1])) := same_upd hz2
          have hz8 : (upd H7 z2 (.tup [.str row.1, .int row.2.1])) z2 = some (.tup [.str row.1, .int row.2.1]) := upd_same
          generalize upd H7 z2 (.tup [.str row.1, .int row.2.1]) = H8 at s8 hz8 ⊢
          have s68 := s7.trans s8
          refine ⟨D, _, rfl, DPut.t (k := rk (row.1, row.2.1)) (s68 _ _ hk6') hz8 (small1000 (by omega)), ?_⟩
          have hlen9 : (addK ks ((row.1, row.2.1) : Rd2)).length ≤ i + 1 := by
            have := len_addK (l := ks) (k := ((row.1, row.2.1) : Rd2))
            omega
          have hD8 := s68 _ _ hk6'
          have tup9 : ∀ t l, H6 t = some (.tup l) → (upd H8 D (.dT (putK kvs (rk (row.1, row.2.1)) (.int (cnt (row.1, row.2.1) + 1))))) t = some (.tup l) := fun t l h => by
            rw [upd_ne (ne_of (s68 _ _ h) hD8 (by intro z; cases z))]
            exact s68 _ _ h
          obtain ⟨ca2, cb2, ecc, hcc1, hcc2⟩ := hcp
          refine ⟨cc, row.2.2.1, p', addK ks (row.1, row.2.1), cntUp cnt (row.1, row.2.1), ⟨_, _, _, _, _, _, rfl⟩, ?_, ?_, ⟨ca2, cb2, ecc, tup9 _ _ hcc1, tup9 _ _ hcc2⟩, ⟨_, upd_same, ?_, fun kv hkv k hk => ?_⟩, ?_, hlen9⟩
          · intro b o hb e
            rw [upd_ne (ne_of_none e hD)]
            exact s68 _ _ (sx6 _ _ hb e)
          · have p8 := p6.mono s68
            obtain ⟨x1, y1, c1, g1, g2⟩ := p8.le (show N + i + 1 ≤ N + (i + 1) by omega)
            exact ⟨x1, y1, c1, by rw [upd_ne nDpl.symm]; exact g1, g2⟩
          · rw [keys_putK, hk2]
            exact addK_rk ks _
          · rcases mem_putK hkv with ⟨e1, e2⟩ | ⟨e1, e2⟩
            · have : k = (row.1, row.2.1) := rk_inj (hk.symm.trans e1)
              subst this
              rw [e2]
              unfold cntUp
              rw [if_pos rfl]
            · have : k ≠ (row.1, row.2.1) := fun z => e2 (by rw [hk, z])
              rw [hk3 kv e1 k hk]
              unfold cntUp
              rw [if_neg this]
          · have := hw.step hr1 hrx hpl' (fun c hc => by rw [hr3]; exact hpv c hc) hpn
            rw [hr2] at this
            exact this
    · rintro σ H2 ⟨hh, x, p, ks, cnt, ⟨y5, y6, y7, y8, y9, y10, rfl⟩, sx2, p2, hc2, hct2, hw, hkl⟩
      exact ⟨_, rfl, q H2 D ks cnt x p 60 sx2 p2 hw (Nat.le_refl _) hct2 hD⟩
end
end Frd
set_option Elab.async false
set_option linter.all false
set_option maxRecDepth 100000
set_option maxHeartbeats 4000000
set_option pp.maxSteps 1000
/-! The law's own pieces: the plain law. -/
namespace Frd
open PySem PySem.Spec PyProof.Rows L2
def hitT (S : Sys) (ts : List Str) (r : Rd2) : Bool := decide (r.1 ∈ ts) || decide (S.tg r ∈ ts)
def namesOf (S : Sys) (rs : List Rd2) : List Str := rs.map (·.1) ++ rs.map S.tg
theorem mem_namesOf {S : Sys} {rs : List Rd2} {n : Str} : n ∈ namesOf S rs ↔ ∃ r ∈ rs, S.has r n := by
  unfold namesOf
  rw [List.mem_append, List.mem_map, List.mem_map]
  constructor
  · rintro (⟨r, h, e⟩ | ⟨r, h, e⟩)
    · exact ⟨r, h, .inl e⟩
    · exact ⟨r, h, .inr e⟩
  · rintro ⟨r, h, e | e⟩
    · exact .inl ⟨r, h, e⟩
    · exact .inr ⟨r, h, e⟩
theorem hitT_iff {S : Sys} {rs : List Rd2} {r : Rd2} : hitT S (namesOf S rs) r = true ↔ ∃ q ∈ rs, ∃ n, S.has q n ∧ S.has r n := by
  unfold hitT
  rw [Bool.or_eq_true, decide_eq_true_eq, decide_eq_true_eq, mem_namesOf, mem_namesOf]
  constructor
  · rintro (⟨q, h, e⟩ | ⟨q, h, e⟩)
    · exact ⟨q, h, _, e, .inl rfl⟩
    · exact ⟨q, h, _, e, .inr rfl⟩
  · rintro ⟨q, h, n, e, e2 | e2⟩
    · exact .inl ⟨q, h, e2 ▸ e⟩
    · exact .inr ⟨q, h, e2 ▸ e⟩
/-- the piece after k turns -/
def grow (S : Sys) (left : List Rd2) (l0 : Rd2) : Nat → List Rd2
  | 0 => [l0]
  | k + 1 => left.filter (hitT S (namesOf S (grow S left l0 k)))
section
variable {S : Sys} {left : List Rd2} {l0 : Rd2}
theorem grow_sub (h0 : l0 ∈ left) : ∀ k, ∀ r ∈ grow S left l0 k, r ∈ left
  | 0, r, h => by
    rw [List.mem_singleton.mp h]
    exact h0
  | k + 1, r, h => (List.mem_filter.mp h).1
theorem grow_up (h0 : l0 ∈ left) (k : Nat) {r : Rd2} (h : r ∈ grow S left l0 k) : r ∈ grow S left l0 (k + 1) := List.mem_filter.mpr ⟨grow_sub h0 k r h, hitT_iff.mpr ⟨r, h, _, .inl rfl, .inl rfl⟩⟩
theorem grow_lk (h0 : l0 ∈ left) : ∀ k, ∀ r ∈ grow S left l0 k, S.Lk (grow S left l0 k) l0 r
  | 0, r, h => by
    rw [List.mem_singleton.mp h]
    exact .refl _
  | k + 1, r, h => by
    obtain ⟨q, hq, n, h1, h2⟩ := hitT_iff.mp (List.mem_filter.mp h).2
    exact .step ((grow_lk h0 k q hq).mono fun x hx => grow_up h0 k hx) h h1 h2
theorem grow_or (h0 : l0 ∈ left) : ∀ k, grow S left l0 (k + 1) = grow S left l0 (k + 2) ∨ k + 1 ≤ (grow S left l0 (k + 1)).length
  | 0 => by
    refine .inr ?_
    exact List.length_pos_of_mem (grow_up h0 0 (List.mem_singleton.mpr rfl))
  | k + 1 => by
    rcases grow_or h0 k with h | h
    · refine .inl ?_
      show left.filter _ = left.filter _
      rw [h]
    · by_cases e : ∃ x ∈ left, hitT S (namesOf S (grow S left l0 (k + 1))) x = true ∧ hitT S (namesOf S (grow S left l0 k)) x = false
      · refine .inr ?_
        have := filter_lt (l := left) (p := hitT S (namesOf S (grow S left l0 k))) (q := hitT S (namesOf S (grow S left l0 (k + 1)))) (fun x hx hp => (List.mem_filter.mp (grow_up h0 (k + 1) (List.mem_filter.mpr ⟨hx, hp⟩))).2) e
        have e2 : (grow S left l0 (k + 1)).length < (grow S left l0 (k + 1 + 1)).length := this
        omega
      · refine .inl ?_
        have e3 : grow S left l0 (k + 1) = grow S left l0 (k + 2) := by
          show left.filter _ = left.filter _
          refine List.filter_congr fun x hx => ?_
          cases h1 : hitT S (namesOf S (grow S left l0 k)) x with
          | true => exact ((List.mem_filter.mp (grow_up h0 (k + 1) (List.mem_filter.mpr ⟨hx, h1⟩))).2).symm
          | false =>
            cases h2 : hitT S (namesOf S (grow S left l0 (k + 1))) x with
            | false => rfl
            | true => exact absurd ⟨x, hx, h2, h1⟩ e
        show left.filter _ = left.filter _
        rw [← e3]
/-- after as many turns as there are reads, nothing is missing -/
theorem grow_end (h0 : l0 ∈ left) {m : Nat} (hm : left.length ≤ m) : grow S left l0 m = grow S left l0 (m + 1) := by
  have hpos : 0 < left.length := List.length_pos_of_mem h0
  obtain ⟨k, rfl⟩ : ∃ k, m = k + 1 := ⟨m - 1, by omega⟩
  rcases grow_or (S := S) h0 k with h | h
  · exact h
  · have hle : (grow S left l0 (k + 1)).length ≤ left.length := List.length_filter_le _ _
    have hall : ∀ x ∈ left, hitT S (namesOf S (grow S left l0 k)) x = true := fun x hx => by
      have e : (grow S left l0 (k + 1)).length = left.length := by omega
      exact (List.length_filter_eq_length_iff.mp e) x hx
    show left.filter _ = left.filter _
    rw [List.filter_eq_self.mpr hall]
    refine (List.filter_eq_self.mpr fun x hx => ?_).symm
    exact (List.mem_filter.mp (grow_up h0 (k + 1) (List.mem_filter.mpr ⟨hx, hall x hx⟩))).2
/-- the piece is one, and what is left has none of its names -/
theorem grow_ok (h0 : l0 ∈ left) {m : Nat} (hm : left.length ≤ m) : PcOk S (namesOf S (grow S left l0 m), grow S left l0 m) ∧ ∀ r ∈ left, r ∉ grow S left l0 m → ∀ n, S.has r n → n ∉ namesOf S (grow S left l0 m) := by
  have he := grow_end (S := S) h0 hm
  have hl0 : l0 ∈ grow S left l0 m := by
    clear he hm
    induction m with
    | zero => exact List.mem_singleton.mpr rfl
    | succ m ih => exact grow_up h0 m ih
  refine ⟨⟨fun z => ?_, fun n => mem_namesOf, fun a ha b hb => ((grow_lk h0 m a ha).symm hl0).trans (grow_lk h0 m b hb)⟩, fun r hr hn n hrn hm2 => hn ?_⟩
  · have z' : grow S left l0 m = [] := z
    rw [z'] at hl0
    exact nomatch hl0
  · obtain ⟨q, hq, hqn⟩ := mem_namesOf.mp hm2
    rw [he]
    exact List.mem_filter.mpr ⟨hr, hitT_iff.mpr ⟨q, hq, n, hqn, hrn⟩⟩
/-- the law's state: what is done is parted, what is left has other names -/
structure OwnSt (S : Sys) (done left : List Rd2) (ps : List Pc) : Prop where
  parts : Parts S done ps
  off : ∀ p ∈ ps, ∀ r ∈ left, ∀ n, S.has r n → n ∉ p.1
theorem OwnSt.step {done left : List Rd2} {ps : List Pc} {l0 : Rd2} (h : OwnSt S done left ps) (h0 : l0 ∈ left) {m : Nat} (hm : left.length ≤ m) (hm1 : 1 ≤ m) :
    OwnSt S (done ++ grow S left l0 m) (left.filter fun r => !decide (r ∈ grow S left l0 m)) (ps ++ [(namesOf S (grow S left l0 m), grow S left l0 m)]) := by
  obtain ⟨g1, g2⟩ := grow_ok (S := S) h0 hm
  refine ⟨⟨fun p hp => ?_, ?_, ?_⟩, fun p hp r hr n hn => ?_⟩
  · rcases List.mem_append.mp hp with hp | hp
    · exact h.parts.ok p hp
    · rw [List.mem_singleton.mp hp]
      exact g1
  · refine List.pairwise_append.mpr ⟨h.parts.apart, by simp, fun p hp q hq n h1 h2 => ?_⟩
    rw [List.mem_singleton.mp hq] at h2
    obtain ⟨r, hr, hrn⟩ := mem_namesOf.mp h2
    exact h.off p hp r (grow_sub h0 m r hr) n hrn h1
  · rw [List.flatMap_append, List.flatMap_singleton]
    exact h.parts.perm.append_right _
  · have hrl := (List.mem_filter.mp hr).1
    have hrn : r ∉ grow S left l0 m := by
      have := (List.mem_filter.mp hr).2
      simpa using this
    rcases List.mem_append.mp hp with hp | hp
    · exact h.off p hp r hrl n hn
    · rw [List.mem_singleton.mp hp]
      exact g2 r hrl hrn n hn
end
end Frd
set_option Elab.async false
set_option linter.all false
set_option maxRecDepth 100000
set_option maxHeartbeats 4000000
set_option pp.maxSteps 1000
/-! row not in rows, for the law's rows. -/
namespace Frd
open PySem PySem.Spec PyProof.Rows L2
section
variable {X : Cx} {pins : List (Addr × Obj)} {σ : L2.St} {H : Hp} {s : Shared} {A : Around}
theorem vec_all {v w : List Int} : ((List.range (min v.length w.length)).all (fun j => v.getD j 0 == w.getD j 0) && v.length == w.length) = decide (v = w) := by
  rw [Bool.eq_iff_iff, decide_eq_true_eq, Bool.and_eq_true, List.all_eq_true, beq_iff_eq]
  constructor
  · rintro ⟨h1, h2⟩
    refine List.ext_getElem? fun i => ?_
    by_cases hi : i < v.length
    · have := h1 i (List.mem_range.mpr (by omega))
      rw [beq_iff_eq, List.getD_eq_getElem?_getD, List.getD_eq_getElem?_getD, List.getElem?_eq_getElem hi, List.getElem?_eq_getElem (by omega)] at this
      rw [List.getElem?_eq_getElem hi, List.getElem?_eq_getElem (by omega)]
      exact congrArg some this
    · rw [List.getElem?_eq_none (by omega), List.getElem?_eq_none (by omega)]
  · rintro rfl
    exact ⟨fun i _ => by simp, rfl⟩
theorem vec_eqAt (I : Inv X pins σ H s) (hu : A.units + 1 < cLine) {t u : Addr} {v w : List Int} (ht : H t = some (.tup (v.map V.int))) (hw : H u = some (.tup (w.map V.int))) : SeqAt.EqAt A.in1 s (.ref t) (.ref u) (decide (v = w)) := by
  by_cases e : t = u
  · subst e
    rw [ht] at hw
    have h1 := Option.some.inj hw
    injection h1 with h2
    have : v = w := by
      have := congrArg (List.map fun x => match x with | V.int k => k | _ => 0) h2
      rw [List.map_map, List.map_map] at this
      have e : ∀ l : List Int, l.map ((fun x => match x with | V.int k => k | _ => 0) ∘ V.int) = l := fun l => by
        conv => rhs; rw [← List.map_id l]
        exact List.map_congr_left fun _ _ => rfl
      rwa [e, e] at this
    rw [decide_eq_true this]
    exact SeqAt.EqAt.same _
  · obtain ⟨i1, r1, t1, _⟩ := I.tuple (SqT.of ht)
    obtain ⟨i2, r2, t2, _⟩ := I.tuple (SqT.of hw)
    have l1 := r1.length
    have l2 := r2.length
    rw [List.length_map] at l1 l2
    have h := SeqAt.RcAt.tuples (A := A.in1) (s := s) (e := fun j => v.getD j 0 == w.getD j 0) t1 t2 (by show A.units + 1 < cLine; exact hu) (fun j h1 h2 => by
      obtain ⟨x1, e1, q1⟩ := vals_at r1 (i := j) (u := i1.toArray[j]) (by simp)
      obtain ⟨x2, e2, q2⟩ := vals_at r2 (i := j) (u := i2.toArray[j]) (by simp)
      rw [List.getElem?_map] at e1 e2
      cases f1 : v[j]? with
      | none =>
        rw [f1] at e1
        cases e1
      | some a =>
        cases f2 : w[j]? with
        | none =>
          rw [f2] at e2
          cases e2
        | some b =>
          rw [f1] at e1
          rw [f2] at e2
          have g1 := Option.some.inj e1
          have g2 := Option.some.inj e2
          subst g1
          subst g2
          obtain ⟨k1, z1⟩ := q1
          obtain ⟨k2, z2⟩ := q2
          rw [z1, z2, getD_at f1, getD_at f2]
          exact SeqAt.EqAt.int_int _ _ _ _)
    refine SeqAt.EqAt.of_refs e ?_
    have e2 : ((List.range (min i1.toArray.size i2.toArray.size)).all (fun j => v.getD j 0 == w.getD j 0) && i1.toArray.size == i2.toArray.size) = decide (v = w) := by
      rw [List.size_toArray, List.size_toArray, ← l1, ← l2]
      exact vec_all
    rw [← e2]
    exact h
theorem row_eqAt (I : Inv X pins σ H s) (hu : A.units + 2 < cLine) {t u b c : Addr} {r q : LRow} (ht : H t = some (.tup [.str r.1, .int r.2.1, .str r.2.2.1, .ref b])) (hb : H b = some (.tup (r.2.2.2.map V.int))) (hq : H u = some (.tup [.str q.1, .int q.2.1, .str q.2.2.1, .ref c])) (hc : H c = some (.tup (q.2.2.2.map V.int))) :
    SeqAt.EqAt A.in1 s (.ref t) (.ref u) (decide (r = q)) := by
  by_cases e : t = u
  · subst e
    rw [ht] at hq
    have h1 := Option.some.inj hq
    injection h1 with h2
    injection h2 with a1 h3
    injection h3 with a2 h4
    injection h4 with a3 h5
    injection h5 with a4 _
    have e4 := V.ref.inj a4
    subst e4
    rw [hb] at hc
    have h6 := Option.some.inj hc
    injection h6 with h7
    have ev : r.2.2.2 = q.2.2.2 := by
      have := congrArg (List.map fun x => match x with | V.int k => k | _ => 0) h7
      rw [List.map_map, List.map_map] at this
      have e : ∀ l : List Int, l.map ((fun x => match x with | V.int k => k | _ => 0) ∘ V.int) = l := fun l => by
        conv => rhs; rw [← List.map_id l]
        exact List.map_congr_left fun _ _ => rfl
      rwa [e, e] at this
    have : r = q := Prod.ext (V.str.inj a1) (Prod.ext (V.int.inj a2) (Prod.ext (V.str.inj a3) ev))
    rw [decide_eq_true this]
    exact SeqAt.EqAt.same _
  · obtain ⟨i1, r1, t1, _⟩ := I.tuple (SqT.of ht)
    obtain ⟨i2, r2, t2, _⟩ := I.tuple (SqT.of hq)
    cases r1 with
    | cons p1 r1 =>
    cases r1 with
    | cons p2 r1 =>
    cases r1 with
    | cons p3 r1 =>
    cases r1 with
    | cons p4 r1 =>
    cases r1
    cases r2 with
    | cons s1 r2 =>
    cases r2 with
    | cons s2 r2 =>
    cases r2 with
    | cons s3 r2 =>
    cases r2 with
    | cons s4 r2 =>
    cases r2
    obtain ⟨k1, rfl⟩ := p1
    obtain ⟨k2, rfl⟩ := p2
    obtain ⟨k3, rfl⟩ := p3
    cases p4
    obtain ⟨m1, rfl⟩ := s1
    obtain ⟨m2, rfl⟩ := s2
    obtain ⟨m3, rfl⟩ := s3
    cases s4
    have h := SeqAt.RcAt.tuples (A := A.in1) (s := s) (e := fun j => if j = 0 then (r.1 == q.1) else if j = 1 then (r.2.1 == q.2.1) else if j = 2 then (r.2.2.1 == q.2.2.1) else decide (r.2.2.2 = q.2.2.2)) t1 t2 (by show A.units + 1 < cLine; omega) (fun j h1 h2 => by
      have hj : j = 0 ∨ j = 1 ∨ j = 2 ∨ j = 3 := by simp at h1; omega
      rcases hj with rfl | rfl | rfl | rfl
      · exact SeqAt.EqAt.str_str _ _ _ _
      · exact SeqAt.EqAt.int_int _ _ _ _
      · exact SeqAt.EqAt.str_str _ _ _ _
      · exact vec_eqAt (A := A.in1) I (by show A.units + 1 + 1 < cLine; omega) hb hc)
    refine SeqAt.EqAt.of_refs e ?_
    have e2 : decide (r = q) = ((([0, 1, 2, 3] : List Nat).all (fun j => if j = 0 then (r.1 == q.1) else if j = 1 then (r.2.1 == q.2.1) else if j = 2 then (r.2.2.1 == q.2.2.1) else decide (r.2.2.2 = q.2.2.2))) && (4 == 4)) := by
      rw [Bool.eq_iff_iff]
      simp [Prod.ext_iff]
    rw [e2]
    exact h
end
def unI : V → Int
  | .int k => k
  | _ => 0
/-- the row that v stands for -/
def lrOf (H : Hp) (v : V) : LRow := match v with
  | .ref t => (match H t with
    | some (.tup [.str x, .int y, .str z, .ref b]) => (x, y, z, match H b with
      | some (.tup l) => l.map unI
      | _ => [])
    | _ => (⟨#[]⟩, 0, ⟨#[]⟩, []))
  | _ => (⟨#[]⟩, 0, ⟨#[]⟩, [])
theorem LRowV.of {H : Hp} {v : V} {r : LRow} (h : LRowV H v r) : lrOf H v = r := by
  obtain ⟨t, b, rfl, h1, h2⟩ := h
  unfold lrOf
  simp only [h1, h2]
  have e : (r.2.2.2.map V.int).map unI = r.2.2.2 := by
    rw [List.map_map]
    conv => rhs; rw [← List.map_id r.2.2.2]
    exact List.map_congr_left fun _ _ => rfl
  rw [e]
section
variable {X : Cx}
def rNotInRow (K : PySem.W.Frag) : R2 := fun x y H Q => ∃ (r : LRow) (a : Addr) (xs : List V) (rs : List LRow), LRowV H x r ∧ y = .ref a ∧ SqL K H a xs ∧ All2 (LRowV H) xs rs ∧ Q (.bl (!decide (r ∈ rs))) H
theorem op_notInRow (hu : X.A.units + 64 < cLine) : OpR X (compareOp .NotIn) (rNotInRow X.K) := by
  intro pins s σ H x y v u Q I rx ry h
  obtain ⟨r, a, xs, rs, ⟨t, b, rfl, ht, hb⟩, rfl, hs, hA, q⟩ := h
  cases rx
  cases ry
  obtain ⟨its, rv, pl, _⟩ := I.list hs
  obtain ⟨e1, e2⟩ := refs_back rv fun x m => by
    obtain ⟨i, hi⟩ := List.getElem?_of_mem m
    obtain ⟨y, _, t, _, e, _⟩ := hA.at hi
    exact ⟨t, e⟩
  have hx : ∀ x ∈ xs, LRowV H x (lrOf H x) := fun x hm => by
    obtain ⟨i, hi⟩ := List.getElem?_of_mem hm
    obtain ⟨y, hy, r⟩ := hA.at hi
    rw [r.of]
    exact r
  refine SeqAt.notIn_listAt (fun y => decide (lrOf H (backV y) = r)) pl.isList (fun y hy => ?_) ?_
  · have hy' : y ∈ its := by simpa using hy
    obtain ⟨t', rfl⟩ := e2 y hy'
    have hm : V.ref t' ∈ xs := by
      rw [e1]
      exact List.mem_map.mpr ⟨_, hy', rfl⟩
    obtain ⟨t2, b2, e, ht2, hb2⟩ := hx _ hm
    cases e
    exact row_eqAt (A := X.A) I (by omega) ht2 hb2 ht hb
  · have hmap : xs.map (lrOf H) = rs := by
      refine List.ext_getElem? fun i => ?_
      rw [List.getElem?_map]
      cases q : xs[i]? with
      | none =>
        have := List.getElem?_eq_none_iff.mp q
        rw [List.getElem?_eq_none (by rw [← hA.1]; exact this)]
        rfl
      | some x =>
        obtain ⟨y, hy, r⟩ := hA.at q
        rw [hy, ← r.of]
        rfl
    have e : its.toArray.any (fun y => decide (lrOf H (backV y) = r)) = decide (r ∈ rs) := by
      rw [Bool.eq_iff_iff, decide_eq_true_eq, ← hmap, e1, List.map_map]
      simp
    rw [e]
    exact ⟨.bl _, H, I, rfl, q⟩
theorem op_notInRowB {K : PySem.W.Frag} (hK : X.K = K) (hu : X.A.units + 64 < cLine) : OpR X (compareOp .NotIn) (rNotInRow K) := hK ▸ op_notInRow hu
end
end Frd
set_option Elab.async false
set_option linter.all false
set_option maxRecDepth 100000
set_option maxHeartbeats 4000000
set_option pp.maxSteps 1000
/-! _law_pieces. -/
namespace Frd
open PySem PySem.Spec PyProof.Rows L2
theorem op_in_seqB {X : Cx} {K : PySem.W.Frag} (hK : X.K = K) : OpR X (compareOp .In) (rIn K false) := hK ▸ op_in_seq
def rdL (r : LRow) : Rd2 := (r.1, r.2.1)
/-- v is the list of the rows of p -/
def LPieceV (H : Hp) (rows : List LRow) (v : V) (p : Pc) : Prop := ∃ l zs prow, v = .ref l ∧ H l = some (.lst zs) ∧ All2 (LRowV H) zs prow ∧ prow.map rdL = p.2 ∧ ∀ r ∈ prow, r ∈ rows
theorem LPieceV.mono {H H' : Hp} {rows : List LRow} {v : V} {p : Pc} (h : LPieceV H rows v p) (s : Same H H') : LPieceV H' rows v p := by
  obtain ⟨l, zs, prow, e, h1, h2, h3⟩ := h
  exact ⟨l, zs, prow, e, s _ _ h1, h2.mono fun v r h => h.mono fun t l e => s _ _ e, h3⟩
theorem All2.idx {α β : Type} {R : α → β → Prop} {f : Nat → α} {g : Nat → β} {is : List Nat} (h : ∀ i ∈ is, R (f i) (g i)) : All2 R (is.map f) (is.map g) := by
  refine ⟨by rw [List.length_map, List.length_map], fun i a b ea eb => ?_⟩
  rw [List.getElem?_map] at ea eb
  cases e : is[i]? with
  | none => rw [e] at ea; cases ea
  | some j =>
    rw [e] at ea eb
    cases ea
    cases eb
    exact h j (List.mem_of_getElem? e)
/-- a filtered list of values, beside the filtered list of what they stand for -/
theorem All2.filt {α β : Type} {R : α → β → Prop} {zs : List α} {l : List β} (h : All2 R zs l) (q : β → Bool) (dz : α) (d : β) :
    All2 R (((List.range zs.length).filter fun i => q (l.getD i d)).map fun i => zs.getD i dz) (l.filter q) := by
  have e : zs.length = l.length := h.1
  rw [← filter_at q d l, e]
  refine All2.idx fun i hi => ?_
  have hi2 := List.mem_range.mp (List.mem_filter.mp hi).1
  have e1 : zs[i]? = some (zs[i]'(by omega)) := List.getElem?_eq_getElem _
  have e2 : l[i]? = some (l[i]'hi2) := List.getElem?_eq_getElem _
  rw [getD_at e1, getD_at e2]
  exact h.2 i _ _ e1 e2
theorem map_of {α : Type} {ys : List V} {l : List α} {f : α → V} (hl : ys.length = l.length) (h : ∀ (i : Nat) (y : V), ys[i]? = some y → ∀ r, l[i]? = some r → y = f r) : ys = l.map f := by
  refine List.ext_getElem? fun i => ?_
  rw [List.getElem?_map]
  cases er : l[i]? with
  | none =>
    have := List.getElem?_eq_none_iff.mp er
    exact List.getElem?_eq_none_iff.mpr (by omega)
  | some r =>
    have hi : i < ys.length := by
      have := (List.getElem?_eq_some_iff.mp er).1
      omega
    have e1 : ys[i]? = some (ys[i]'hi) := List.getElem?_eq_getElem _
    rw [e1, h i _ e1 r er]
    rfl
theorem grow_l0 {S : Sys} {left : List Rd2} {l0 : Rd2} (h0 : l0 ∈ left) : ∀ m, l0 ∈ grow S left l0 m
  | 0 => List.mem_singleton.mpr rfl
  | m + 1 => grow_up h0 m (grow_l0 h0 m)
theorem grow_perm {S : Sys} {left : List Rd2} {l0 : Rd2} {m : Nat} : (grow S left l0 (m + 1) ++ left.filter fun r => !decide (r ∈ grow S left l0 (m + 1))).Perm left := by
  have e : (left.filter fun r => !decide (r ∈ grow S left l0 (m + 1))) = left.filter fun r => !hitT S (namesOf S (grow S left l0 m)) r := by
    refine List.filter_congr fun r hr => ?_
    have this : r ∈ grow S left l0 (m + 1) ↔ hitT S (namesOf S (grow S left l0 m)) r = true := ⟨fun h => (List.mem_filter.mp h).2, fun h => List.mem_filter.mpr ⟨hr, h⟩⟩
    cases e : hitT S (namesOf S (grow S left l0 m)) r with
    | true => rw [decide_eq_true (this.mpr e)]
    | false => rw [decide_eq_false (fun h => by have := this.mp h; rw [e] at this; cases this)]
  rw [e]
  exact List.filter_append_perm _ _
section
variable {P : Program} {w : World} {K : PySem.W.Frag} {mg : Str → Option Value} {base : Heap}
theorem scLp : FnScope ["_law_rows_here", "_law_left", "_law_found", "_law_piece", "_law_titles", "_law_turn", "_law_row"] ["_law_rows_here"] (defScope (topS 51)) := ⟨rfl, rfl, rfl, by decide +kernel, rfl, by decide +kernel, by decide +kernel⟩
def spLp : Sp := fun vs H Q _ => ∃ (rl : Addr) (S : Sys) (xs : List V) (rows : List LRow), vs = [.ref rl] ∧ H rl = some (.lst xs) ∧ All2 (LRowV H) xs rows ∧ RowsOf S rows ∧ (rows.map rdL).Nodup ∧ rows.length ≤ 12 ∧
  ∀ H' F ys ps, Same H H' → H' F = some (.lst ys) → Parts S (rows.map rdL) ps → All2 (LPieceV H' rows) ys ps → Q (.ref F) H'
theorem ok_lp {f : Addr} {fd : FuncData} (F : Fun K "_law_pieces" "_law_pieces" (topS 51) f fd) (mlist : mg "list" = none) (mr : mg "range" = none) (mlen : mg "len" = none) : FnOk P w K mg base CX0 1 f fd ["_law_rows_here"] spLp := by
  refine F.ok scLp (fun vs H Q E h => ?_) (fun cdv A outer s H vs Q E hr h => ?_)
  · obtain ⟨rl, S, xs, rows, rfl, _⟩ := h
    rfl
  · obtain ⟨rl, S, xs, rows, rfl, hrl, hA, hro, hnd, hlen, q⟩ := h
    have nd := scLp.nd
    have hu64 := hr.units
    refine ⟨_, pss_cons (ps_par (i := 1) (j := 2) rfl nd rfl rfl (by decide) rfl rfl (pa_cons (pe_callTy call_list_of (by rfl) mlist (by decide +kernel) (pa_cons (pv 0) pa_nil)) (pa_cons (pe_lst pa_nil) pa_nil)) (by rfl))
      (pss_cons (ps_while PassesOwn.never (pt_cmpR (op_neNil hr.units0) (pv 1) (pe_lst pa_nil) (nomark _))
        (pss_cons (ps_asg (pe_tup (pa_cons (pe_lst (pa_cons (pe_ix ix_list (pv 1) pe_int (fun _ _ => rfl)) pa_nil)) (pa_cons (pe_lst (pa_cons (pe_ix ix_tup (pe_ix ix_list (pv 1) pe_int (fun _ _ => rfl)) pe_int (fun _ _ => rfl)) (pa_cons (pe_ix ix_tup (pe_ix ix_list (pv 1) pe_int (fun _ _ => rfl)) pe_int (fun _ _ => rfl)) pa_nil))) pa_nil))) (pg_tup rfl (pgs_cons (pg_name (i := 3) nd rfl (.inr rfl)) (pgs_cons (pg_name (i := 4) nd rfl (.inr rfl)) pgs_nil))))
        (pss_cons (ps_for PassesOwn.never rfl (pi_range1 rfl mr (pa_cons (pe_callB call_len_seq (by rfl) mlen PySem.boot_len (pa_cons (pv 0) pa_nil)) pa_nil)) (pg_name (i := 5) nd rfl (.inl rfl))
          (pss_cons (ps_set (i := 3) nd rfl (.inr rfl) (pe_lc (own := [("_law_row", 6)]) (g := gName 6) rfl nd (pi_list (pv 1)) (blkOk_by (N := ["_law_rows_here", "_law_left", "_law_found", "_law_piece", "_law_titles", "_law_turn", "_law_row"]) (sc := defScope (topS 51)) (by decide +kernel))
              (fun _ _ _ _ _ => pg_name (i := 6) nd rfl (Or.inl rfl)) (fun _ _ _ _ _ => pts_one (PW.pt (pw_or (pt_cmpR (op_in_seqB (K := K) rfl) (pe_ix (ix_tupB (K := K) rfl) (pv 6) pe_int (fun _ _ => rfl)) (pv 4) rfl) (pw_or1 (pt_cmpR (op_in_seqB (K := K) rfl) (pe_ix (ix_tupB (K := K) rfl) (pv 6) pe_int (fun _ _ => rfl)) (pv 4) rfl))))) (fun _ _ _ _ _ => pv 6)))
          (pss_one (ps_set (i := 4) nd rfl (.inr rfl) (pe_op op_cat (pe_lc (own := [("_law_row", 6)]) (g := gName 6) (tt := tYes) rfl nd (pi_list (pv 3)) (blkOk_by (N := ["_law_rows_here", "_law_left", "_law_found", "_law_piece", "_law_titles", "_law_turn", "_law_row"]) (sc := defScope (topS 51)) (by decide +kernel))
              (fun _ _ _ _ _ => pg_name (i := 6) nd rfl (Or.inl rfl)) (fun _ _ _ _ _ => pts_nil) (fun _ _ _ _ _ => pe_ix (ix_tupB (K := K) rfl) (pv 6) pe_int (fun _ _ => rfl)))
            (pe_lc (own := [("_law_row", 6)]) (g := gName 6) (tt := tYes) rfl nd (pi_list (pv 3)) (blkOk_by (N := ["_law_rows_here", "_law_left", "_law_found", "_law_piece", "_law_titles", "_law_turn", "_law_row"]) (sc := defScope (topS 51)) (by decide +kernel))
              (fun _ _ _ _ _ => pg_name (i := 6) nd rfl (Or.inl rfl)) (fun _ _ _ _ _ => pts_nil) (fun _ _ _ _ _ => pe_ix (ix_tupB (K := K) rfl) (pv 6) pe_int (fun _ _ => rfl))))))))
        (pss_cons (ps_setLc (i := 1) (own := [("_law_row", 6)]) (g := gName 6) (by rfl) nd rfl rfl (sw_true rfl rfl rfl (by decide +kernel)) (pi_list (pv 1)) (blkOk_by (N := ["_law_rows_here", "_law_left", "_law_found", "_law_piece", "_law_titles", "_law_turn", "_law_row"]) (sc := defScope (topS 51)) (by decide +kernel))
              (fun _ _ _ _ _ => pg_name (i := 6) nd rfl (Or.inl rfl)) (fun _ _ _ _ _ => pts_one (pt_cmpR (op_notInRowB (K := K) rfl hu64) (pv 6) (pv 3) rfl)) (fun _ _ _ _ _ => pv 6))
        (pss_one (ps_expr (pe_bm PySem.F.plainAttrs_list PySem.F.slot_list_append PySem.F.type_list_append mt_append (pv 2) (pa_cons (pv 3) pa_nil)))))))) 
      (pss_one (ps_ret (pv 2)))), ?_⟩
    have hxl : xs.length = rows.length := hA.1
    refine ⟨_, rfl, rl, xs, rfl, .inl (SqL.of hrl), fun L0 hL0 => ?_⟩
    have s1 : Same H (upd H L0 (.lst xs)) := same_upd hL0
    have hL1 : (upd H L0 (.lst xs)) L0 = some (.lst xs) := upd_same
    generalize upd H L0 (.lst xs) = H1 at s1 hL1 ⊢
    refine ⟨Nat.zero_le _, fun G hG => ?_⟩
    have s2 : Same H1 (upd H1 G (.lst [])) := same_upd hG
    have hG2 : (upd H1 G (.lst [])) G = some (.lst []) := upd_same
    have nG0 : H G = none := s1.free hG
    generalize upd H1 G (.lst []) = H2 at s2 hG2 ⊢
    refine ⟨_, _, rfl, ?_⟩
    have s02 := s1.trans s2
    refine ⟨fun m σ H' => ∃ (L : Addr) (lz fs : List V) (lrows : List LRow) (ps : List Pc) (done : List Rd2), (∃ y3 y4 y5 y6, σ = [some (.ref rl), some (.ref L), some (.ref G), y3, y4, y5, y6]) ∧ Same H H' ∧ H' L = some (.lst lz) ∧ All2 (LRowV H) lz lrows ∧ (∀ r ∈ lrows, r ∈ rows) ∧ (lrows.map rdL).Nodup ∧ H' G = some (.lst fs) ∧
        All2 (fun v p => LPieceV H' rows v p ∧ v ≠ .ref G) fs ps ∧ OwnSt S done (lrows.map rdL) ps ∧ (done ++ lrows.map rdL).Perm (rows.map rdL) ∧ fs.length + lrows.length ≤ 12 ∧ m = lrows.length,
      ⟨rows.length, L0, xs, [], rows, [], [], ⟨none, none, none, none, rfl⟩, s02, s2 _ _ hL1, hA, fun r h => h, hnd, hG2, All2.nil, ⟨Parts.nil, fun p hp => (nomatch hp)⟩, List.Perm.refl _, by simpa using hlen, rfl⟩, ?_⟩
    rintro m σ H3 ⟨L, lz, fs, lrows, ps, done, ⟨y3, y4, y5, y6, rfl⟩, s3, hL3, hlz, hlr, hlnd, hG3, hfs, hst, hperm, hle, rfl⟩
    have hzl : lz.length = lrows.length := hlz.1
    refine ⟨_, rfl, Nat.zero_le _, fun E1 hE1 => ?_⟩
    have s4 : Same H3 (upd H3 E1 (.lst [])) := same_upd hE1
    have hE4 : (upd H3 E1 (.lst [])) E1 = some (.lst []) := upd_same
    generalize upd H3 E1 (.lst []) = H4 at s4 hE4 ⊢
    have s04 := s3.trans s4
    refine ⟨L, E1, lz, rfl, rfl, SqL.of (s4 _ _ hL3), SqL.of hE4, _, rfl, ite2 (fun e => ?_) (fun e => ?_)⟩
    · obtain ⟨r0, lrest, rfl⟩ : ∃ r0 lrest, lrows = r0 :: lrest := by
        cases lrows with
        | nil =>
          have : lz = [] := List.length_eq_zero_iff.mp hzl
          subst this
          cases e
        | cons a b => exact ⟨a, b, rfl⟩
      obtain ⟨v0, lzr, rfl⟩ : ∃ v0 lzr, lz = v0 :: lzr := by
        cases lz with
        | nil => simp at hzl
        | cons a b => exact ⟨a, b, rfl⟩
      have hv0 := hlz.2 0 v0 r0 rfl rfl
      obtain ⟨ra, rb, rfl, hra, hrb⟩ := id hv0
      obtain ⟨ro1, ro2, ro3⟩ := hro r0 (hlr r0 List.mem_cons_self)
      have hL4 := s4 _ _ hL3
      have h0m : rdL r0 ∈ ((r0 :: lrest).map rdL) := List.mem_cons_self
      refine ⟨fun σ' H2 => ∃ (L : Addr) (lz fs : List V) (lrows : List LRow) (ps : List Pc) (done : List Rd2), (∃ y3 y4 y5 y6, σ' = [some (.ref rl), some (.ref L), some (.ref G), y3, y4, y5, y6]) ∧ Same H H2 ∧ H2 L = some (.lst lz) ∧ All2 (LRowV H) lz lrows ∧ (∀ r ∈ lrows, r ∈ rows) ∧ (lrows.map rdL).Nodup ∧ H2 G = some (.lst fs) ∧
        All2 (fun v p => LPieceV H2 rows v p ∧ v ≠ .ref G) fs ps ∧ OwnSt S done (lrows.map rdL) ps ∧ (done ++ lrows.map rdL).Perm (rows.map rdL) ∧ fs.length + lrows.length ≤ 12 ∧ lrows.length < (r0 :: lrest).length,
        fun σ' H2 ⟨L, lz, fs, lrows, ps, done, b1, b2, b3, b4, b5, b6, b7, b8, b9, b10, b11, b12⟩ => ⟨_, b12, L, lz, fs, lrows, ps, done, b1, b2, b3, b4, b5, b6, b7, b8, b9, b10, b11, rfl⟩, ?_⟩
      -- piece, titles
      refine ⟨_, rfl, L, _, 0, .ref ra, rfl, rfl, SqL.of hL4, atI_nat (j := 0) rfl, Nat.le_of_lt (small1000 (by simp)), fun p1 hp1 => ?_⟩
      have s5 : Same H4 (upd H4 p1 (.lst [.ref ra])) := same_upd hp1
      have hp5 : (upd H4 p1 (.lst [.ref ra])) p1 = some (.lst [.ref ra]) := upd_same
      generalize upd H4 p1 (.lst [.ref ra]) = H5 at s5 hp5 ⊢
      have s05 := s04.trans s5
      refine ⟨_, rfl, L, _, 0, .ref ra, rfl, rfl, SqL.of (s5 _ _ hL4), atI_nat (j := 0) rfl, ra, _, 0, .str r0.1, rfl, rfl, SqT.of (s05 _ _ hra), atI_nat (j := 0) rfl, ?_⟩
      refine ⟨_, rfl, L, _, 0, .ref ra, rfl, rfl, SqL.of (s5 _ _ hL4), atI_nat (j := 0) rfl, ra, _, 2, .str r0.2.2.1, rfl, rfl, SqT.of (s05 _ _ hra), atI_nat (j := 2) rfl, Nat.le_of_lt (small1000 (by simp)), fun t1 ht1 => ?_⟩
      have s6 : Same H5 (upd H5 t1 (.lst [.str r0.1, .str r0.2.2.1])) := same_upd ht1
      have ht6 : (upd H5 t1 (.lst [.str r0.1, .str r0.2.2.1])) t1 = some (.lst [.str r0.1, .str r0.2.2.1]) := upd_same
      generalize upd H5 t1 (.lst [.str r0.1, .str r0.2.2.1]) = H6 at s6 ht6 ⊢
      refine ⟨Nat.le_of_lt (small1000 (by simp)), fun tp htp => ?_⟩
      have s7 : Same H6 (upd H6 tp (.tup [.ref p1, .ref t1])) := same_upd htp
      have htp7 : (upd H6 tp (.tup [.ref p1, .ref t1])) tp = some (.tup [.ref p1, .ref t1]) := upd_same
      generalize upd H6 tp (.tup [.ref p1, .ref t1]) = H7 at s7 htp7 ⊢
      refine ⟨tp, _, rfl, SqT.of htp7, rfl, _, _, rfl, _, _, rfl, rfl, ?_⟩
      have s47 := (s5.trans s6).trans s7
      have s07 := s04.trans s47
      have hL7 := s47 _ _ hL4
      refine ⟨_, rfl, rl, xs, rfl, .inl (SqL.of (s07 _ _ hrl)), (xs.length : Int), rfl, by omega, by omega, ?_⟩
      rw [Int.toNat_natCast]
      refine for_range (lo := 0) (n := xs.length) (fun k σ H' => ∃ (pa ta : Addr) (zs : List V) (prow : List LRow), (∃ y5 y6, σ = [some (.ref rl), some (.ref L), some (.ref G), some (.ref pa), some (.ref ta), y5, y6]) ∧ Same H7 H' ∧ H3 pa = none ∧ H' pa = some (.lst zs) ∧ All2 (LRowV H) zs prow ∧ prow.map rdL = grow S ((r0 :: lrest).map rdL) (rdL r0) k ∧ (∀ r ∈ prow, r ∈ r0 :: lrest) ∧ prow.length ≤ 12 ∧
          H' ta = some (.lst ((namesOf S (grow S ((r0 :: lrest).map rdL) (rdL r0) k)).map V.str)))
        ⟨p1, t1, [.ref ra], [r0], ⟨_, _, rfl⟩, Same.refl _, s4.free hp1, s7 _ _ (s6 _ _ hp5), All2.snoc All2.nil hv0, rfl, fun r hr => by rw [List.mem_singleton.mp hr]; exact List.mem_cons_self, by simp, by
          have e1 : (namesOf S (grow S ((r0 :: lrest).map rdL) (rdL r0) 0)).map V.str = [.str r0.1, .str r0.2.2.1] := by
            show [V.str r0.1, V.str (S.tg (rdL r0))] = _
            have : S.tg (rdL r0) = r0.2.2.1 := ro2
            rw [this]
          rw [e1]
          exact s7 _ _ ht6⟩ ?_ ?_
      · rintro k σ H8 hk ⟨pa, ta, zs, prow, ⟨y5', y6', rfl⟩, s8, npa, hpa, hzs, hgr, hpr, hpl12, hta⟩
        have hL8 := s8 _ _ hL7
        have s08 := s07.trans s8
        have hlen12 : (r0 :: lrest).length ≤ 12 := by omega
        have hgl : (grow S ((r0 :: lrest).map rdL) (rdL r0) k).length ≤ 12 := by rw [← hgr, List.length_map]; exact hpl12
        refine ⟨_, rfl, L, rfl, ⟨_, SqL.of hL8⟩, fun D hD => ?_⟩
        refine lc_filter (walk_list (K := K) (a := L) (xs := V.ref ra :: lzr)) (fun j => hitT S (namesOf S (grow S ((r0 :: lrest).map rdL) (rdL r0) k)) (rdL ((r0 :: lrest).getD j r0))) (fun j => (V.ref ra :: lzr).getD j .non) (small1000 (by omega)) hD (fun H' s' => SqL.of (s' _ _ hL8)) (fun j H x H' _ => y_at j H x H') ?_ ?_
        · rintro j u H9o H9 acc Z N hj s9 hkk ⟨rfl, eu⟩ hZ hN
          obtain ⟨row, erow, hrowv⟩ := hlz.at eu
          rw [getD_at eu] at hZ
          rw [getD_at erow] at hZ hN
          have s09 := s08.trans s9
          obtain ⟨xa, xb, rfl, hxa, hxb⟩ := id hrowv
          obtain ⟨so1, so2, so3⟩ := hro row (hlr row (List.mem_of_getElem? erow))
          have htg : S.tg (rdL row) = row.2.2.1 := so2
          have hxa9 := s09 _ _ hxa
          have hta9 := s9 _ _ hta
          refine ⟨rfl, ?_⟩
          refine ⟨_, rfl, xa, _, 0, .str row.1, rfl, rfl, SqT.of hxa9, atI_nat (j := 0) rfl, ?_⟩
          refine ⟨_, rfl, ta, _, rfl, .inl (SqL.of hta9), rfl, flat_strs _, ?_⟩
          have hin1 : inV (.str row.1) ((namesOf S (grow S ((r0 :: lrest).map rdL) (rdL r0) k)).map V.str) = decide (row.1 ∈ namesOf S (grow S ((r0 :: lrest).map rdL) (rdL r0) k)) := inV_str _ _
          have hin2 : inV (.str row.2.2.1) ((namesOf S (grow S ((r0 :: lrest).map rdL) (rdL r0) k)).map V.str) = decide (row.2.2.1 ∈ namesOf S (grow S ((r0 :: lrest).map rdL) (rdL r0) k)) := inV_str _ _
          have hit : hitT S (namesOf S (grow S ((r0 :: lrest).map rdL) (rdL r0) k)) (rdL row) = (decide (row.1 ∈ namesOf S (grow S ((r0 :: lrest).map rdL) (rdL r0) k)) || decide (row.2.2.1 ∈ namesOf S (grow S ((r0 :: lrest).map rdL) (rdL r0) k))) := by
            unfold hitT
            rw [htg]
            rfl
          refine ⟨_, rfl, ite2 (fun e => ?_) (fun e => ?_)⟩
          · have e' : inV (.str row.1) ((namesOf S (grow S ((r0 :: lrest).map rdL) (rdL r0) k)).map V.str) = true := e
            rw [hin1] at e'
            exact ⟨_, rfl, hZ _ (Same.refl _) (by rw [hit, e']; rfl)⟩
          · have e' : ¬ inV (.str row.1) ((namesOf S (grow S ((r0 :: lrest).map rdL) (rdL r0) k)).map V.str) = true := e
            rw [hin1] at e'
            refine ⟨_, rfl, xa, _, 2, .str row.2.2.1, rfl, rfl, SqT.of hxa9, atI_nat (j := 2) rfl, ?_⟩
            refine ⟨_, rfl, ta, _, rfl, .inl (SqL.of hta9), rfl, flat_strs _, ?_⟩
            refine ⟨_, rfl, ite2 (fun e2 => ?_) (fun e2 => ?_)⟩
            · have e2' : inV (.str row.2.2.1) ((namesOf S (grow S ((r0 :: lrest).map rdL) (rdL r0) k)).map V.str) = true := e2
              rw [hin2] at e2'
              exact ⟨_, rfl, hZ _ (Same.refl _) (by rw [hit, e2']; simp)⟩
            · have e2' : ¬ inV (.str row.2.2.1) ((namesOf S (grow S ((r0 :: lrest).map rdL) (rdL r0) k)).map V.str) = true := e2
              rw [hin2] at e2'
              exact hN _ (Same.refl _) (by rw [hit, Bool.eq_false_iff.mpr e', Bool.eq_false_iff.mpr e2']; rfl)
        · intro H9 s9 hD9
          have s09 := s08.trans s9
          have hzq := All2.filt hlz (fun r => hitT S (namesOf S (grow S ((r0 :: lrest).map rdL) (rdL r0) k)) (rdL r)) .non r0
          have egr : ((r0 :: lrest).filter fun r => hitT S (namesOf S (grow S ((r0 :: lrest).map rdL) (rdL r0) k)) (rdL r)).map rdL = grow S ((r0 :: lrest).map rdL) (rdL r0) (k + 1) := by
            show _ = List.filter _ _
            rw [List.filter_map]
            rfl
          have npD : H3 D = none := (s4.trans (s47.trans s8)).free hD
          have hql : ((r0 :: lrest).filter fun r => hitT S (namesOf S (grow S ((r0 :: lrest).map rdL) (rdL r0) k)) (rdL r)).length ≤ 12 := Nat.le_trans (List.length_filter_le _ _) hlen12
          have hqs : ∀ r ∈ ((r0 :: lrest).filter fun r => hitT S (namesOf S (grow S ((r0 :: lrest).map rdL) (rdL r0) k)) (rdL r)), r ∈ r0 :: lrest := fun r hr => (List.mem_filter.mp hr).1
          generalize ((r0 :: lrest).filter fun r => hitT S (namesOf S (grow S ((r0 :: lrest).map rdL) (rdL r0) k)) (rdL r)) = prow2 at hzq egr hql hqs
          generalize ((List.range (V.ref ra :: lzr).length).filter fun j => hitT S (namesOf S (grow S ((r0 :: lrest).map rdL) (rdL r0) k)) (rdL ((r0 :: lrest).getD j r0))).map (fun j => (V.ref ra :: lzr).getD j .non) = zs2 at hzq hD9
          have hz2l : zs2.length = prow2.length := hzq.1
          refine ⟨_, rfl, D, rfl, ⟨_, SqL.of hD9⟩, fun D1 hD1 => ?_⟩
          refine lc_map (walk_list (K := K) (a := D) (xs := zs2)) (fun i _ y => ∀ r, prow2[i]? = some r → y = .str r.1) (fun i H H' y acc _ _ h => h) (small1000 (by omega)) hD1 (fun H' s' => SqL.of (s' _ _ hD9)) (fun j H x H' _ => y_at j H x H') ?_ ?_ (fun _ _ _ _ _ imp h => imp _ _ h)
          · rintro j u H10o H10 acc Z hj s10 hk2 ⟨rfl, eu⟩ hZ
            obtain ⟨row, erow, hrowv⟩ := hzq.at eu
            obtain ⟨xa, xb, rfl, hxa, hxb⟩ := id hrowv
            refine ⟨rfl, ?_⟩
            refine ⟨_, rfl, xa, _, 0, .str row.1, rfl, rfl, SqT.of (s10 _ _ (s09 _ _ hxa)), atI_nat (j := 0) rfl, hZ _ _ (Same.refl _) fun r er => ?_⟩
            rw [Option.some.inj (er.symm.trans erow)]
          · intro H10 ys1 s10 hy1 hyl1 hyr1
            have ey1 : ys1 = prow2.map fun r => V.str r.1 := map_of (by omega) hyr1
            subst ey1
            refine ⟨_, rfl, D, rfl, ⟨_, SqL.of (s10 _ _ hD9)⟩, fun D2 hD2 => ?_⟩
            refine lc_map (walk_list (K := K) (a := D) (xs := zs2)) (fun i _ y => ∀ r, prow2[i]? = some r → y = .str r.2.2.1) (fun i H H' y acc _ _ h => h) (small1000 (by omega)) hD2 (fun H' s' => SqL.of (s' _ _ (s10 _ _ hD9))) (fun j H x H' _ => y_at j H x H') ?_ ?_ (fun _ _ _ _ _ imp h => imp _ _ h)
            · rintro j u H11o H11 acc Z hj s11 hk2 ⟨rfl, eu⟩ hZ
              obtain ⟨row, erow, hrowv⟩ := hzq.at eu
              obtain ⟨xa, xb, rfl, hxa, hxb⟩ := id hrowv
              refine ⟨rfl, ?_⟩
              refine ⟨_, rfl, xa, _, 2, .str row.2.2.1, rfl, rfl, SqT.of (s11 _ _ (s10 _ _ (s09 _ _ hxa))), atI_nat (j := 2) rfl, hZ _ _ (Same.refl _) fun r er => ?_⟩
              rw [Option.some.inj (er.symm.trans erow)]
            · intro H11 ys2 s11 hy2 hyl2 hyr2
              have ey2 : ys2 = prow2.map fun r => V.str r.2.2.1 := map_of (by omega) hyr2
              subst ey2
              refine ⟨D1, D2, _, _, rfl, rfl, s11 _ _ hy1, hy2, Nat.le_of_lt (small1000 (by rw [List.length_map, List.length_map]; omega)), fun T2 hT2 => ?_⟩
              have s12 : Same H11 (upd H11 T2 (.lst ((prow2.map fun r => V.str r.1) ++ prow2.map fun r => V.str r.2.2.1))) := same_upd hT2
              have h89 := s8.trans ((s9.trans s10).trans (s11.trans s12))
              refine ⟨D, T2, zs2, prow2, ⟨_, _, rfl⟩, h89, npD, (s11.trans s12) _ _ (s10 _ _ hD9), hzq, egr, hqs, hql, ?_⟩
              rw [upd_same]
              refine congrArg (fun x => some (HO.lst x)) ?_
              show _ = List.map V.str (namesOf S (grow S ((r0 :: lrest).map rdL) (rdL r0) (k + 1)))
              rw [← egr]
              unfold namesOf
              rw [List.map_append, List.map_map, List.map_map, List.map_map, List.map_map]
              refine congr (congrArg HAppend.hAppend rfl) (List.map_congr_left fun r hr => ?_)
              have := (hro r (hlr r (hqs r hr))).2.1
              show V.str r.2.2.1 = V.str (S.tg (rdL r))
              rw [← this]
              rfl
      · rintro σ H8 ⟨pa, ta, zs, prow, ⟨y5', y6', rfl⟩, s8, npa, hpa, hzs, hgr, hpr, hpl12, hta⟩
        have hm1 : ((r0 :: lrest).map rdL).length ≤ xs.length := by
          rw [hxl, ← List.length_map rdL (as := rows)]
          have := hperm.length_eq
          rw [List.length_append] at this
          omega
        have hxpos : 1 ≤ xs.length := by
          rw [List.length_map] at hm1
          simp at hm1
          omega
        have stp := hst.step (l0 := rdL r0) h0m hm1 hxpos
        have hinj : ∀ a ∈ r0 :: lrest, ∀ b ∈ r0 :: lrest, rdL a = rdL b → a = b := fun a ha b hb hab => by
          obtain ⟨i, hi⟩ := List.getElem?_of_mem ha
          obtain ⟨j, hj⟩ := List.getElem?_of_mem hb
          have e1 := List.getElem?_eq_some_iff.mp (show ((r0 :: lrest).map rdL)[i]? = some (rdL a) by rw [List.getElem?_map, hi]; rfl)
          have e2 := List.getElem?_eq_some_iff.mp (show ((r0 :: lrest).map rdL)[j]? = some (rdL b) by rw [List.getElem?_map, hj]; rfl)
          obtain ⟨i1, i2⟩ := e1
          obtain ⟨j1, j2⟩ := e2
          have := (List.getElem_inj hlnd).mp (i2.trans (hab.trans j2.symm))
          subst this
          exact Option.some.inj (hi.symm.trans hj)
        have hmemp : ∀ r ∈ r0 :: lrest, (r ∈ prow ↔ rdL r ∈ grow S ((r0 :: lrest).map rdL) (rdL r0) xs.length) := fun r hr => by
          rw [← hgr, List.mem_map]
          constructor
          · exact fun h => ⟨r, h, rfl⟩
          · rintro ⟨r2, h2, e2⟩
            rw [← hinj r2 (hpr r2 h2) r hr e2]
            exact h2
        have hL8 := s8 _ _ hL7
        have s08 := s07.trans s8
        refine ⟨_, rfl, L, rfl, ⟨_, SqL.of hL8⟩, fun D hD => ?_⟩
        have hzl2 : (V.ref ra :: lzr).length = (r0 :: lrest).length := hzl
        have hlen12 : (r0 :: lrest).length ≤ 12 := by omega
        refine lc_filter (walk_list (K := K) (a := L) (xs := V.ref ra :: lzr)) (fun j => !decide ((r0 :: lrest).getD j r0 ∈ prow)) (fun j => (V.ref ra :: lzr).getD j .non) (small1000 (by omega)) hD (fun H' s' => SqL.of (s' _ _ hL8)) (fun j H x H' _ => y_at j H x H') ?_ ?_
        · rintro j u H9o H9 acc Z N hj s9 hk ⟨rfl, eu⟩ hZ hN
          obtain ⟨row, erow, hrowv⟩ := hlz.at eu
          rw [getD_at eu] at hZ
          rw [getD_at erow] at hZ hN
          have s09 := s08.trans s9
          refine ⟨rfl, ?_⟩
          refine ⟨_, rfl, _, rfl, row, pa, zs, prow, hrowv.mono fun t l h => s09 _ _ h, rfl, SqL.of (s9 _ _ hpa), hzs.mono fun v r h => h.mono fun t l h => s09 _ _ h, _, rfl, ite2 (fun e => ?_) (fun e => ?_)⟩
          · exact ⟨_, rfl, hZ _ (Same.refl _) e⟩
          · exact hN _ (Same.refl _) (by simpa using e)
        · intro H9 s9 hD9
          have s09 := s08.trans s9
          have hG9 := s9 _ _ (s8 _ _ (s47 _ _ (s4 _ _ hG3)))
          have npG : pa ≠ G := (ne_of_none hG3 npa).symm
          refine ⟨_, rfl, .inl ⟨rfl, _, SqL.of hG9⟩, _, rfl, ?_⟩
          refine ⟨G, fs, .ref pa, rfl, rfl, hG9, small1000 (by omega), ?_⟩
          have nDG : D ≠ G := (ne_of_none (s8 _ _ (s47 _ _ (s4 _ _ hG3))) hD).symm
          have sx10 : SameX G H9 (upd H9 G (.lst (fs ++ [.ref pa]))) := sameX_upd
          have efil : ((r0 :: lrest).filter fun r => !decide (r ∈ prow)).map rdL = ((r0 :: lrest).map rdL).filter fun r => !decide (r ∈ grow S ((r0 :: lrest).map rdL) (rdL r0) xs.length) := by
            rw [List.filter_map]
            refine congrArg (List.map rdL) (List.filter_congr fun r hr => ?_)
            show (!decide (r ∈ prow)) = !decide (rdL r ∈ _)
            rw [decide_eq_decide.mpr (hmemp r hr)]
          have hl0 : rdL r0 ∈ grow S ((r0 :: lrest).map rdL) (rdL r0) xs.length := grow_l0 h0m xs.length
          have hlt : ((r0 :: lrest).filter fun r => !decide (r ∈ prow)).length < (r0 :: lrest).length := by
            refine List.length_filter_lt_length_iff_exists.mpr ⟨r0, List.mem_cons_self, ?_⟩
            have := (hmemp r0 List.mem_cons_self).mpr hl0
            simp [this]
          have s39 : Same H3 H9 := s4.trans (s47.trans (s8.trans s9))
          have hG39 := s39 _ _ hG3
          have s10 : Same H (upd H9 G (.lst (fs ++ [.ref pa]))) := same_put s09 nG0
          refine ⟨D, _, fs ++ [.ref pa], (r0 :: lrest).filter fun r => !decide (r ∈ prow), ps ++ [(namesOf S (grow S ((r0 :: lrest).map rdL) (rdL r0) xs.length), grow S ((r0 :: lrest).map rdL) (rdL r0) xs.length)], done ++ grow S ((r0 :: lrest).map rdL) (rdL r0) xs.length, ⟨_, _, _, _, rfl⟩, s10, sx10 D _ nDG hD9, All2.filt hlz (fun r => !decide (r ∈ prow)) .non r0, fun r hr => hlr r (List.mem_filter.mp hr).1, ?_, upd_same, All2.snoc (hfs.mono ?_) ⟨⟨pa, zs, prow, rfl, sx10 pa _ npG (s9 _ _ hpa), hzs.mono fun v r h => h.mono fun t l h => s10 _ _ h, hgr, fun r hr => hlr r (hpr r hr)⟩, ?_⟩, by rw [efil]; exact stp, ?_, ?_, hlt⟩
          · rw [efil]
            exact hlnd.filter _
          · rintro v p ⟨⟨l, zl, pr, rfl, h1, h2, h3, h4⟩, hne⟩
            refine ⟨⟨l, zl, pr, rfl, sx10 l _ (fun z => hne (by rw [z])) (s39 _ _ h1), h2.mono fun v r h => h.mono fun t l e => sx10 t _ (ne_of e hG3 (by intro z; cases z)) (s39 _ _ e), h3, h4⟩, hne⟩
          · intro z
            cases z
            exact npG rfl
          · rw [efil, List.append_assoc]
            refine List.Perm.trans (List.Perm.append_left done ?_) hperm
            obtain ⟨m, hm⟩ : ∃ m, xs.length = m + 1 := ⟨xs.length - 1, by omega⟩
            rw [hm]
            show (List.filter _ _ ++ List.filter _ _).Perm _
            exact grow_perm
          · rw [List.length_append]
            simp only [List.length_cons, List.length_nil] at hlt hle ⊢
            omega
    · have hz0 : lz = [] := by
        cases lz with
        | nil => rfl
        | cons z zs => exact absurd rfl e
      have hr0 : lrows = [] := by
        rw [hz0] at hzl
        exact List.length_eq_zero_iff.mp hzl.symm
      subst hr0
      rw [List.map_nil, List.append_nil] at hperm
      refine ⟨_, rfl, q H4 G fs ps s04 (s4 _ _ hG3) ⟨hst.parts.ok, hst.parts.apart, hst.parts.perm.trans hperm⟩ (hfs.mono fun v p h => h.1.mono s4)⟩
end
end Frd
set_option Elab.async false
set_option linter.all false
set_option maxRecDepth 100000
set_option maxHeartbeats 4000000
set_option pp.maxSteps 1000
/-! A set of texts, made of a list, and sorted. Turned from the kit's sets of truth values. -/
namespace Frd
open PySem PySem.Spec PyProof.Rows L2 PpSet
def keyT (e : Int × Value) : Str := strOf e.2
def GoodT (w : World) (e : Int × Value) : Prop := ∃ k t, e.2 = Value.str k t ∧ e.1 = hashStr w k
def SetT (w : World) (h : Heap) (a : Addr) (S : Str → Bool) (n : Nat) : Prop :=
  ∃ o es ep t, h.get? a = some o ∧ o.ExactSet ∧ o.data = .set es ep t ∧ (∀ e ∈ es.toList, GoodT w e) ∧ (es.toList.map keyT).Nodup ∧ (∀ k, S k = true ↔ k ∈ es.toList.map keyT) ∧
    es.size < scanBound ∧ t.fits es.size = true ∧ es.size = n ∧ Ris t.place.toList ∧ (w.params.followText "set-order" = true ∨ t.led = true)
section
variable {P : Program} {w : World} {h h' : Heap} {a : Addr} {S : Str → Bool} {n : Nat}
theorem SetT.at (R : SetT w h a S n) (k : ∀ o, h.get? a = some o → h'.get? a = some o) : SetT w h' a S n := by
  obtain ⟨o, es, ep, t, ho, r⟩ := R
  exact ⟨o, es, ep, t, k o ho, r⟩
theorem SetT.congr {S' : Str → Bool} (R : SetT w h a S n) (e : ∀ k, S' k = S k) : SetT w h a S' n := by
  have q : S' = S := funext e
  rw [q]
  exact R
theorem txt_is (k : Str) (u : Tok) : (PySem.strKind P w).is k (.str k u) = true := by
  show Value.isStrOf k (.str k u) = true
  simp [Value.isStrOf]
theorem goodT_elems {l : List (Int × Value)} (g : ∀ e ∈ l, GoodT w e) : ElemsOf (PySem.strKind P w) l := fun e he => by
  obtain ⟨k, t, h1, h2⟩ := g e he
  exact ⟨⟨k, by rw [h1]; exact txt_is k t, h2⟩, by rw [h1] <;> rfl⟩
theorem goodT_is {e : Int × Value} (g : GoodT w e) (k : Str) : (PySem.strKind P w).is k e.2 = true ↔ keyT e = k := by
  obtain ⟨k0, t, h1, _⟩ := g
  unfold keyT
  rw [h1]
  constructor
  · intro z
    exact (PySem.strKind P w).inj (.str k0 t) k0 k (txt_is k0 t) z
  · rintro rfl
    exact txt_is _ t
theorem goodT_mem {l : List (Int × Value)} (g : ∀ e ∈ l, GoodT w e) (k : Str) : k ∈ l.map keyT ↔ ∃ e ∈ l, (PySem.strKind P w).is k e.2 = true := by
  rw [List.mem_map]
  constructor
  · rintro ⟨e, he, q⟩
    exact ⟨e, he, (goodT_is (g e he) k).2 q⟩
  · rintro ⟨e, he, q⟩
    exact ⟨e, he, (goodT_is (g e he) k).1 q⟩
end
section
variable {P : Program} {w : World} {A : Around} {E : Value → Shared → Prop} {s : Shared} {a : Addr} {S : Str → Bool} {n : Nat}
theorem setT_add_tail {g : Bool → Sem Unit} (hg : ∀ (b : Bool) (s₁ : Shared) (Q' : Unit → Shared → Prop), Q' () s₁ → wpAny (model P w) A (g b) Q' E s₁)
    {o : Obj} {es : Array (Int × Value)} {ep : Nat} {t : SetTable} (ho : s.heap.get? a = some o) (hex : o.ExactSet) (hd : o.data = .set es ep t)
    {es1 : Array (Int × Value)} {t2 : SetTable} {S' : Str → Bool} (g1 : ∀ e ∈ es1.toList, GoodT w e) (nd1 : (es1.toList.map keyT).Nodup) (m1 : ∀ k, S' k = true ↔ k ∈ es1.toList.map keyT)
    (hb1 : es1.size < scanBound) (hf2 : t2.fits es1.size = true) (hr : Ris t2.place.toList) (hl : w.params.followText "set-order" = true ∨ t2.led = true) {wasDummy : Bool} {R : Option Bool → Shared → Prop}
    (hR : ∀ h', Heap.SameBut a s.heap h' → SetT w h' a S' es1.size → R (some true) { s with heap := h' }) :
    wpAny (model P w) A (do
        storeSet a es1 t2
        if (!wasDummy && t2.tooFull) = true then do
            g (relayAll t2 es1 (SetTable.grown es1.size)).2.2
            storeSet a (relayAll t2 es1 (SetTable.grown es1.size)).1 (relayAll t2 es1 (SetTable.grown es1.size)).2.1
            pure (some true)
          else pure (some true)) R E s := by
  refine wpAny_bind (wpAny_storeSet_of ho hd ?_ (fits_of_scanBound hb1))
  have ho1 := storeB_at (es' := es1) (t' := t2) ho hd
  have sb1 := Heap.SameBut.update s.heap a (Obj.putSet es1 t2)
  split
  · have pm := relayAll_perm t2 es1 (SetTable.grown es1.size)
    have hf3 := relayAll_fits t2 es1 (SetTable.grown es1.size)
    have hr3 := relayAll_ris t2 es1 (SetTable.grown es1.size)
    have hl3 := relayAll_led t2 es1 (SetTable.grown es1.size)
    generalize relayAll t2 es1 (SetTable.grown es1.size) = Z at pm hf3 hr3 hl3 ⊢
    obtain ⟨es2, t3, gave⟩ := Z
    dsimp only at pm hf3 hr3 hl3 ⊢
    have hsz : es2.size = es1.size := by rw [← Array.length_toList, pm.length_eq, Array.length_toList]
    have hb2 : es2.size < scanBound := by rw [hsz]; exact hb1
    refine wpAny_bind (hg _ _ _ ?_)
    refine wpAny_bind (wpAny_storeSet_of ho1 rfl ?_ (fits_of_scanBound hb2))
    have ho2 := storeB_at (es' := es2) (t' := t3) ho1 rfl
    refine wpAny_pure (hR _ (sb1.trans (Heap.SameBut.update _ a _)) ?_)
    exact ⟨_, es2, _, t3, ho2, hex, rfl, fun e he => g1 e (pm.mem_iff.mp he), (pm.map keyT).nodup_iff.mpr nd1, fun k => (m1 k).trans (pm.map keyT).mem_iff.symm, hb2, hf3, hsz, hr3,
      hl.imp id fun z => by rw [hl3]; exact z⟩
  · exact wpAny_pure (hR _ sb1 ⟨_, es1, _, t2, ho1, hex, rfl, g1, nd1, m1, hb1, hf2, rfl, hr, hl⟩)
theorem setT_add_hashed {k : Str} {u : Tok} {Q : Bool → Shared → Prop} (R : SetT w s.heap a S n) (room : n + 1 < scanBound)
    (hQ : ∀ h', Heap.SameBut a s.heap h' → SetT w h' a (fun j => S j || decide (j = k)) (if S k = true then n else n + 1) → Q (!S k) { s with heap := h' }) :
    wpAny (model P w) A (setAddHashed a (.str k u) ((PySem.strKind P w).hash k)) Q E s := by
  obtain ⟨o, es, ep, t, ho, hex, hd, g, nd, hm, hb, hf, hn, hr, hl⟩ := R
  have hkey : (PySem.strKind P w).is k (.str k u) = true := txt_is k u
  have hsc : (Value.str k u).scannable = true := rfl
  have hel : ElemsOf (PySem.strKind P w) es.toList := goodT_elems g
  unfold setAddHashed setAddHashedIn
  refine wpAny_holding (wpAny_bind (wpAny_setState_of ho hd hf ?_))
  dsimp only
  rw [byScan_of hsc hb hel]
  simp only [↓reduceIte]
  unfold setAddByScan
  refine wpAny_bind ?_
  refine wpAny_bind (wpAny_rule ?_)
  refine wpAny_bind (wpAny_setScan_of hkey ho hd hf hel ?_)
  cases hfi : List.findIdx? (fun e => (PySem.strKind P w).is k e.2) es.toList with
  | some j =>
    dsimp only
    obtain ⟨hj, pj, _⟩ := List.findIdx?_eq_some_iff_getElem.mp hfi
    have hSk : S k = true := (hm k).2 ((goodT_mem (P := P) (w := w) g k).2 ⟨es.toList[j], List.getElem_mem hj, pj⟩)
    refine wpAny_pure (wpAny_pure ?_)
    have q := hQ s.heap (Heap.SameBut.refl a s.heap) ⟨o, es, ep, t, ho, hex, hd, g, nd, fun i => by
      rw [Bool.or_eq_true, decide_eq_true_eq, ← hm i]
      exact ⟨fun z => z.elim id (fun e => e ▸ hSk), .inl⟩, hb, hf, by rw [if_pos hSk]; exact hn, hr, hl⟩
    rw [hSk] at q
    exact q
  | none =>
    dsimp only
    have hnk : k ∉ es.toList.map keyT := fun z => by
      obtain ⟨e, he, q⟩ := (goodT_mem (P := P) (w := w) g k).1 z
      have c := List.findIdx?_eq_none_iff.mp hfi e he
      rw [q] at c
      cases c
    have hSk : S k = false := by
      cases q : S k with
      | false => rfl
      | true => exact absurd ((hm k).1 q) hnk
    have hgw : ∀ (b : Bool) {s₁ : Shared} {Q' : Unit → Shared → Prop}, Q' () s₁ → wpAny (model P w) A (match b with | true => rule "set.scan.the-table-gave-way" | false => pure ()) Q' E s₁ :=
      fun b s₁ Q' q => by cases b <;> first | exact wpAny_pure q | exact wpAny_rule q
    have pm := layNew_perm t es ((PySem.strKind P w).hash k) (.str k u)
    have hf1 := layNew_fits t es ((PySem.strKind P w).hash k) (.str k u)
    have hr1 := layNew_ris t es ((PySem.strKind P w).hash k) (.str k u) hr
    have hl1 := layNew_led t es ((PySem.strKind P w).hash k) (.str k u)
    generalize layNew t es ((PySem.strKind P w).hash k) (.str k u) = Z at pm hf1 hr1 hl1 ⊢
    obtain ⟨es1, t1, wasDummy, gave⟩ := Z
    dsimp only at pm hf1 hr1 hl1 ⊢
    rw [Array.toList_push] at pm
    have pc : es1.toList.Perm (((PySem.strKind P w).hash k, Value.str k u) :: es.toList) := pm.trans (List.perm_append_singleton _ _)
    have pk : (es1.toList.map keyT).Perm (k :: es.toList.map keyT) := pc.map keyT
    have g1 : ∀ e ∈ es1.toList, GoodT w e := fun e he => by
      rcases List.mem_cons.mp (pc.mem_iff.mp he) with z | z
      · rw [z]
        exact ⟨k, u, rfl, rfl⟩
      · exact g e z
    have nd1 : (es1.toList.map keyT).Nodup := pk.nodup_iff.mpr (List.nodup_cons.mpr ⟨hnk, nd⟩)
    have m1 : ∀ i, (S i || decide (i = k)) = true ↔ i ∈ es1.toList.map keyT := fun i => by
      rw [Bool.or_eq_true, decide_eq_true_eq, hm i, pk.mem_iff, List.mem_cons]
      exact Or.comm
    have hsz : es1.size = n + 1 := by rw [← Array.length_toList, pc.length_eq, List.length_cons, Array.length_toList, hn]
    have hb1 : es1.size < scanBound := by rw [hsz]; exact room
    have hled : w.params.followText "set-order" = true ∨ t1.led = true := hl.imp id fun z => by rw [hl1]; exact z
    have fin : ∀ h', Heap.SameBut a s.heap h' → SetT w h' a (fun j => S j || decide (j = k)) es1.size → Q true { s with heap := h' } := fun h' sb r => by
      have q := hQ h' sb
      rw [hSk] at q
      rw [hsz] at r
      exact q r
    refine wpAny_bind (hgw _ ?_)
    split
    · refine wpAny_bind ?_
      rw [hashByValue_scannable 8 hsc]
      refine wpAny_pure ?_
      refine setT_add_tail ?_ ho hex hd g1 nd1 m1 hb1 ?_ ?_ ?_ ?_
      · intro b s₁ Q' q
        cases b <;> first | exact wpAny_pure q | exact wpAny_rule q
      · first | (split <;> first | exact hf1 | exact SetTable.fits_plain_off hf1) | exact hf1
      · first | (split <;> exact hr1) | exact hr1
      · first | (split <;> exact hled) | exact hled
      · intro h' sb r
        dsimp only
        exact wpAny_pure (fin h' sb r)
    · refine wpAny_bind (wpAny_pure ?_)
      simp only [↓reduceIte]
      refine setT_add_tail ?_ ho hex hd g1 nd1 m1 hb1 hf1 hr1 hled ?_
      · intro b s₁ Q' q
        cases b <;> first | exact wpAny_pure q | exact wpAny_rule q
      · intro h' sb r
        dsimp only
        exact wpAny_pure (fin h' sb r)
/-! ### set(l) of a list of texts -/
theorem setT_new_at {w : World} {h : Heap} {a : Addr} {ns : List Str} (ho : h.get? a = some { cls := .type "set", dict := none, data := .set #[] 0 (.fresh 0 0 (!w.params.followText "set-order")) }) : SetT w h a (fun j => decide (j ∈ ns.take 0)) 0 :=
  ⟨_, #[], 0, _, ho, ⟨rfl, rfl, rfl⟩, rfl, (fun e he => by simp at he), (by simp), (fun k => by simp), (by decide), (by rfl), rfl, List.Pairwise.nil, by
    show _ ∨ (!w.params.followText "set-order") = true
    cases w.params.followText "set-order"
    · exact .inr rfl
    · exact .inl rfl⟩
theorem set_update_txts {I : Addr} {fp wr : List Addr} {G : Array GenState → Array GenState → Prop} {n : Nat} {Pv : Nat → Value → Prop} {St : Nat → Shared → Prop} {R : Result → Shared → Prop}
    (W : WalksS P w A.in1 I fp wr G n Pv St) (S : Addr) (hSf : S ∉ fp) (ns : List Str) (hn : n = ns.length) (hb : ns.length + 1 < scanBound) (hval : ∀ i v, Pv i v → ∃ k t, ns[i]? = some k ∧ v = .str k t) :
    ∀ (k i : Nat) (s : Shared), n - i = k → i ≤ n → St i s → (∃ c, c ≤ i ∧ SetT w s.heap S (fun j => decide (j ∈ ns.take i)) c) →
      (∀ s' c, Moved (S :: wr) G s s' → c ≤ n → SetT w s'.heap S (fun j => decide (j ∈ ns)) c → R (.ok (.ret .none)) s') →
      codeAny (model P w) A (.builtin "set.update.loop" ⟨[.ref S, .ref I], []⟩) R s := by
  have hSw : S ∉ wr := fun h => hSf (W.sub _ h)
  have hsub : ∀ b ∈ wr, b ∈ S :: wr := fun b hb => List.mem_cons_of_mem _ hb
  intro k
  induction k with
  | zero =>
    intro i s hk' hi hst ⟨c, hc, hS⟩ hR
    have hin : i = n := by omega
    subst hin
    refine codeAny_builtin F.entry_set_update_loop ?_
    rw [Around.under_plainId F.plain_set_update_loop _]
    show wpAny _ A.in1 (pyNext (.ref I) >>= _) _ _ s
    refine wpAny_bind (W.done s _ _ hst fun s' hm => ?_)
    show wpAny _ A.in1 (ret Value.none) _ _ s'
    have e : ns.take i = ns := List.take_of_length_le (by omega)
    rw [e] at hS
    exact wpAny_pure (hR s' c (hm.mono hsub) hc (hS.at fun o e => hm.heap S o hSw e))
  | succ k ih =>
    intro i s hk' hi hst ⟨c, hc, hS⟩ hR
    have hlt : i < n := by omega
    refine codeAny_builtin F.entry_set_update_loop ?_
    rw [Around.under_plainId F.plain_set_update_loop _]
    show wpAny _ A.in1 (pyNext (.ref I) >>= _) _ _ s
    refine wpAny_bind (W.item i s _ _ hlt hst fun v s' hP hst' hm => ?_)
    obtain ⟨z, t, hz, rfl⟩ := hval i v hP
    have hS' : SetT w s'.heap S (fun j => decide (j ∈ ns.take i)) c := hS.at fun o e => hm.heap S o hSw e
    show wpAny _ A.in1 (holding [Value.str z t] (setAdd S (.str z t)) >>= _) _ _ s'
    refine wpAny_bind (wpAny_holding ?_)
    unfold setAdd
    refine wpAny_holding ?_
    refine wpAny_bind ((PySem.strKind P w).pyHash (k := z) (txt_is z t) ?_)
    refine setT_add_hashed (s := { s' with toks := s'.toks + 1 }) hS' (by omega) fun h' hsb hS2 => ?_
    have hS3 : SetT w h' S (fun j => decide (j ∈ ns.take (i + 1))) (if decide (z ∈ ns.take i) = true then c else c + 1) := hS2.congr fun j => by
      rw [List.take_add_one, hz]
      simp [List.mem_append]
    have hc3 : (if decide (z ∈ ns.take i) = true then c else c + 1) ≤ i + 1 := by
      split <;> omega
    refine wpAny_pure ⟨plainId_quiet F.plain_set_update_loop _, ih (i + 1) _ (by omega) hlt (W.frame _ s' _ _ hst' (Nat.le_succ _) fun b hb o e => ?_) ⟨_, hc3, hS3⟩ fun s'' c2 hm'' hc'' hS'' => ?_⟩
    · rw [hsb.2 b (fun h : b = S => hSf (by rw [← h]; exact hb))]
      exact e
    · refine hR s'' c2 (Moved.trans W.gtrans ((hm.mono hsub).then_heap (Nat.le_succ _) fun b o hb e => ?_) hm'') hc'' hS''
      rw [hsb.2 b (fun h : b = S => hb (by rw [h]; exact List.mem_cons_self))]
      exact e
theorem strs_at : ∀ {vs : List Value} {ns : List Str}, StrsAre vs ns → ∀ (i : Nat) (v : Value), vs[i]? = some v → ∃ k t, ns[i]? = some k ∧ v = .str k t
  | _, _, .nil, i, v, h => by simp at h
  | _, _, .cons y t r, 0, v, h => by
    simp at h
    exact ⟨y, t, rfl, h.symm⟩
  | _, _, .cons y t r, i + 1, v, h => by
    simp only [List.getElem?_cons_succ] at h ⊢
    exact strs_at r i v h
theorem strs_len : ∀ {vs : List Value} {ns : List Str}, StrsAre vs ns → vs.length = ns.length
  | _, _, .nil => rfl
  | _, _, .cons y t r => by rw [List.length_cons, List.length_cons, strs_len r]
set_option maxRecDepth 100000 in
set_option maxHeartbeats 3200000 in
theorem call_set_txts {l : Addr} {items : Array Value} (ns : List Str) {Q : Value → Shared → Prop} (hh : A.handled = none) (hl : s.heap.IsList l items) (hit : StrsAre items.toList ns) (hb : ns.length + 1 < scanBound)
    (h : ∀ (h' : Heap) (tk c : Nat), SetT w h' s.heap.objs.size (fun j => decide (j ∈ ns)) c → c ≤ ns.length → (∀ b o, s.heap.get? b = some o → h'.get? b = some o) → Q (.ref s.heap.objs.size) { s with heap := h', toks := tk }) :
    wpAny (model P w) A (call (.type "set") [.ref l]) Q E s := by
  have hisz : items.size = ns.length := by
    have q := strs_len hit
    rw [Array.length_toList] at q
    exact q
  obtain ⟨c, tl, hmro⟩ := F.called_set.mro
  have hmade := F.called_set.made
  have hsub := F.called_set.sub
  refine wpAny_call (codeAny_of_tree ?_)
  show wpAny _ _ (callAny (.type "set") _) _ _ _
  refine wpAny_pure ⟨Code.quiet_builtin _ (by decide +kernel), codeAny_builtin F.entry_type_call ?_⟩
  rw [Around.under_plain (weight_type_call_type "set" [.ref l] []) rfl]
  have h1 := F.called_set.notType
  have h2 := F.called_set.canCreate
  have hct := F.typeCall_set_1 (.ref l)
  repeat (any_goals (first | assumption | wp_step))
  refine codeAny_mono (code_set_led1 (.ref l) (E := E) (Q₁ := fun obj s₁ => obj = .ref s.heap.objs.size ∧ s₁ = { s with heap := s.heap.push { cls := .type "set", dict := none, data := .set #[] 0 (.fresh 0 0 (!w.params.followText "set-order")) } }) ⟨rfl, rfl⟩) fun r s₁ hr => ?_
  cases r with
  | error e => exact hr
  | ok fl =>
    cases fl with
    | ret obj =>
      obtain ⟨rfl, rfl⟩ := hr
      have hS : (s.heap.push { cls := .type "set", dict := none, data := .set #[] 0 (.fresh 0 0 (!w.params.followText "set-order")) }).get? s.heap.objs.size = some { cls := .type "set", dict := none, data := .set #[] 0 (.fresh 0 0 (!w.params.followText "set-order")) } := Heap.get?_push_size _ rfl
      have hT : Shared.TypeIs { s with heap := s.heap.push { cls := .type "set", dict := none, data := .set #[] 0 (.fresh 0 0 (!w.params.followText "set-order")) } } (.ref s.heap.objs.size) "set" := ⟨_, hS, rfl⟩
      have hli := F.called_set.init.lookup
      have hbi := F.called_set.init.bind (.ref s.heap.objs.size)
      repeat (any_goals (first | assumption | wp_step))
      refine codeAny_mono (codeAny_call_builtin (R := wants (fun r s₂ => r = .none ∧ ∃ h' tk c, s₂ = { s with heap := h', toks := tk } ∧ SetT w h' s.heap.objs.size (fun j => decide (j ∈ ns)) c ∧ c ≤ ns.length ∧
          (∀ b o, s.heap.get? b = some o → h'.get? b = some o)) E) F.called_set.init.plain F.entry_set_init (check_set_init_1 hT ?_)) fun r₂ s₂ hr₂ => ?_
      · obtain ⟨ol, hol, hcl, nl, hdl⟩ := hl
        obtain ⟨ocls, odict, odata, oslots⟩ := ol
        simp only at hcl hdl
        subst hcl
        subst hdl
        have hol' : (s.heap.push { cls := .type "set", dict := none, data := .set #[] 0 (.fresh 0 0 (!w.params.followText "set-order")) }).get? l = some { cls := .type "list", dict := odict, data := .seq items nl, slots := oslots } := Heap.get?_push_of_some _ hol
        have hsls := F.sub_list_set
        have hslf := F.sub_list_frozenset
        have hne : (Value.type "list" == Value.type "dict") = false := by decide
        have hl1 : (s.heap.push { cls := .type "set", dict := none, data := .set #[] 0 (.fresh 0 0 (!w.params.followText "set-order")) }).IsList l items := ⟨_, hol', rfl, nl, rfl⟩
        unfold Builtin.«set.__init__» noKeywords Builtin.Frozenset.updateFrom
        generalize hPI : pyIter = PI
        wp_walk
        subst hPI
        refine wpAny_pyIter_list hl1 ?_
        refine wpAny_bind (wpAny_runValue ?_)
        have hlS : l < s.heap.objs.size := Heap.lt_size hol
        have hh3 : A.in1.in1.in1.handled = none := by simp [hh]
        have hneI : l ≠ (s.heap.push { cls := .type "set", dict := none, data := .set #[] 0 (.fresh 0 0 (!w.params.followText "set-order")) }).objs.size := by
          rw [Heap.size_push]
          exact Nat.ne_of_lt (Nat.lt_succ_of_lt hlS)
        have hSf : s.heap.objs.size ∉ [(s.heap.push { cls := .type "set", dict := none, data := .set #[] 0 (.fresh 0 0 (!w.params.followText "set-order")) }).objs.size, l] := by
          rw [Heap.size_push]
          simp only [List.mem_cons, List.mem_singleton, List.not_mem_nil, or_false, not_or]
          exact ⟨Nat.ne_of_lt (Nat.lt_succ_self _), Nat.ne_of_gt hlS⟩
        have hval : ∀ (i : Nat) (v : Value), items[i]? = some v → ∃ k t, ns[i]? = some k ∧ v = .str k t := fun i v hv => strs_at hit i v (by rw [Array.getElem?_toList]; exact hv)
        refine set_update_txts ((Walks.list hh3 _ l hneI items).toS) s.heap.objs.size
          hSf ns hisz hb hval (items.size - 0) 0 _ (by omega) (Nat.zero_le _)
          ⟨⟨_, Heap.get?_push_size _ rfl, rfl, rfl⟩, (hl1.push _)⟩ ?hS0 ?hR
        case hS0 =>
          have hget : ((s.heap.push { cls := .type "set", dict := none, data := .set #[] 0 (.fresh 0 0 (!w.params.followText "set-order")) }).push { cls := .type "list_iterator", data := .fields #[.ref l, .int 0 0] }).get? s.heap.objs.size
              = some { cls := .type "set", dict := none, data := .set #[] 0 (.fresh 0 0 (!w.params.followText "set-order")) } := Heap.get?_push_of_some _ hS
          exact ⟨0, Nat.le_refl 0, setT_new_at hget⟩
        case hR =>
          intro s' c' hm hc' hS'
          obtain ⟨h', g2, d', tk', os'⟩ := s'
          have eg : g2 = s.gens := hm.gens
          have ed : d' = s.drawn := hm.drawn
          have eo : os' = s.os := hm.os
          subst eg
          subst ed
          subst eo
          show wpAny _ _ _ _ _ _
          refine wpAny_pure ?_
          show wpAny _ _ (ret Value.none) _ _ _
          rw [hisz] at hc'
          refine wpAny_pure ⟨rfl, h', tk', c', rfl, hS', hc', fun b o e => ?_⟩
          have hb0 : b < s.heap.objs.size := Heap.lt_size e
          have hb1 : b ≠ s.heap.objs.size := Nat.ne_of_lt hb0
          have hb2 : b ≠ (s.heap.push { cls := .type "set", dict := none, data := .set #[] 0 (.fresh 0 0 (!w.params.followText "set-order")) }).objs.size := by
            rw [Heap.size_push]
            exact Nat.ne_of_lt (Nat.lt_succ_of_lt hb0)
          exact hm.heap b o (by simp only [List.mem_cons, List.mem_singleton, List.not_mem_nil, or_false, not_or]; exact ⟨hb1, hb2⟩) (Heap.get?_push_of_some _ (Heap.get?_push_of_some _ e))
      · cases r₂ with
        | error e => exact hr₂
        | ok fl₂ =>
          cases fl₂ with
          | ret r =>
            obtain ⟨rfl, h', tk, c', rfl, hS', hc', hk'⟩ := hr₂
            repeat (any_goals (first | assumption | wp_step))
            exact h _ _ _ hS' hc' hk'
          | _ => exact hr₂.elim
    | _ => exact hr.elim
/-! ### sorted -/
theorem sorted_setT {Q : Value → Shared → Prop} (R : SetT w s.heap a S n) (hh : A.handled = none) (h64 : n < 64)
    (hQ : ∀ s' p (out : Array Value) (c : Nat) (ns : List Str), (∀ b o, s.heap.get? b = some o → s'.heap.get? b = some o) → s'.gens = s.gens → s'.os = s.os → s.heap.objs.size ≤ p →
      s'.heap.get? p = some (seqObj "list" out c) → StrsAre out.toList ns → ns.Nodup → (∀ k, k ∈ ns ↔ S k = true) → ns.length = n → sortedS ns = true → Q (.ref p) s') :
    wpAny (model P w) A (call (.builtin "sorted") [.ref a]) Q E s := by
  obtain ⟨o, es, ep, t, ho, hex, hd, g, nd, hm, hb, hf, hn, hr, hl⟩ := R
  refine Calls.call_function_entry kind_sorted plain_sorted entry_sorted (args_sorted1 _) ?_
  unfold Builtin.«sorted»
  refine wpAny_bind (m := checkCount "sorted" 1 1 _) (wpAny_pure ?_)
  refine wpAny_bind (collect_set (A := A.in1) hh ⟨o, ho, hex.1, hd⟩ hf hb hr hl fun s1 vs k1 hz g1 o1 pm => ?_)
  have hvl : vs.length = n := by rw [pm.length_eq, List.length_map, Array.length_toList]; exact hn
  have hI : StrsAre vs (vs.map strOf) := strsAre_map vs fun v hv => by
    obtain ⟨e, he, q⟩ := List.mem_map.mp (pm.mem_iff.mp hv)
    obtain ⟨k, tk, h1, _⟩ := g e he
    exact ⟨k, tk, by rw [← q]; exact h1⟩
  have pk : (vs.map strOf).Perm (es.toList.map keyT) := by
    have q := pm.map strOf
    rw [List.map_map] at q
    exact q
  refine wpAny_bind (wpAny_newList ?_ (by rw [hvl, sizeLine_eq]; omega))
  have hoL : (s1.heap.push (seqObj "list" vs.toArray 0)).get? s1.heap.objs.size = some (seqObj "list" vs.toArray 0) := Heap.get?_push_size _ rfl
  refine wpAny_bind (wpAny_holding (wpAny_call_entry slot_list_sort ⟨_, hoL, rfl⟩ entry_list_sort (list_sort_treeK strKind_oneLt hoL hI.keysOf (fun v₁ v₂ rest e => keyKind_strs (by rw [← e]; exact hI)) (by rw [hvl]; exact h64) fun st' a1 a2 => ⟨_, rfl, ?_⟩) (args_list_sort _)))
  obtain ⟨ns', b1, b2, b3⟩ := sorted_out_str hI a1 a2
  obtain ⟨c, hc⟩ := sortedHeap_at (vs := vs) (out := (arrOf st').map (·.2)) hoL
  have pn : ns'.Perm (es.toList.map keyT) := b2.trans pk
  refine wpAny_pure ⟨_, rfl, hQ _ s1.heap.objs.size _ c ns' (fun b u e => ?_) g1 o1 hz hc b1 (pn.nodup_iff.mpr nd) (fun k => by rw [pn.mem_iff, ← hm k]) ?_ ?_⟩
  · have q := k1 b u e
    have hlt := Heap.lt_size q
    show (sortedHeap (s1.heap.push (seqObj "list" vs.toArray 0)) s1.heap.objs.size vs ((arrOf st').map (·.2))).get? b = some u
    rw [sortedHeap_old (Nat.ne_of_lt hlt) (by rw [size_push']; exact Nat.lt_succ_of_lt hlt)]
    exact Heap.get?_push_of_some _ q
  · rw [pn.length_eq, List.length_map, Array.length_toList]
    exact hn
  · exact b3
end
/-! ### the rules -/
theorem strs_of_vals : ∀ {ss : List Str} {us : List Value}, Vals (ss.map V.str) us → StrsAre us ss
  | [], _, .nil => .nil
  | x :: ss, _, .cons r t => by
    obtain ⟨tk, rfl⟩ := r
    exact .cons x tk (strs_of_vals t)
theorem vals_of_strs : ∀ {ss : List Str} {us : List Value}, StrsAre us ss → Vals (ss.map V.str) us
  | _, _, .nil => .nil
  | _, _, .cons y t r => .cons ⟨t, rfl⟩ (vals_of_strs r)
/-- the set of texts at a -/
def SetTO (w : World) (a : Addr) (S : Str → Bool) (n : Nat) : HO := .ext fun h => SetT w h a S n
theorem setTO_new {w : World} {P : Program} {H : Hp} {h : Heap} {a : Addr} {S : Str → Bool} {n : Nat} (R : SetT w h a S n) : ObjOk P w H h a (SetTO w a S n) := by
  have ⟨o, _, _, _, ho, _⟩ := R
  exact ⟨R, ⟨o, ho⟩, fun h1 h2 p k => SetT.at p k⟩
/-- set(xs), xs a list of texts -/
def rSetOfS (K : PySem.W.Frag) (w : World) : List V → Hp → VK → Prop := fun xs H Q => ∃ (l : Addr) (ss : List Str), xs = [V.ref l] ∧ SqL K H l (ss.map V.str) ∧ ss.length < 64 ∧
  ∀ a n, H a = none → n ≤ ss.length → Q (.ref a) (upd H a (SetTO w a (fun j => decide (j ∈ ss)) n))
/-- sorted(set) -/
def rSortedS (w : World) : List V → Hp → VK → Prop := fun vs H Q => ∃ (a : Addr) (S : Str → Bool) (n : Nat), vs = [V.ref a] ∧ H a = some (SetTO w a S n) ∧ n < 64 ∧
  ∀ (p : Addr) (ns : List Str), H p = none → ns.Nodup → (∀ k, k ∈ ns ↔ S k = true) → sortedS ns = true → Q (.ref p) (upd H p (.lst (ns.map V.str)))
section
variable {X : Cx}
theorem cr_setOfS (hc : X.calm = true) : CallR X (.type "set") (rSetOfS X.K X.w) := by
  intro pins s σ H xs us Q I r h
  obtain ⟨l, ss, rfl, hl, hf, q⟩ := h
  rw [Vals.ref1 r]
  obtain ⟨its, rv, pl, hz⟩ := I.list hl
  have hn : H s.heap.objs.size = none := I.hok.fresh (Nat.le_refl _)
  refine call_set_txts (P := X.prog) (w := X.w) ss (I.ok.hd hc) pl.isList (by simpa using strs_of_vals rv) (by unfold scanBound; omega) fun h' tk c R hcn k => ?_
  exact ⟨.ref s.heap.objs.size, upd H s.heap.objs.size (SetTO X.w s.heap.objs.size (fun j => decide (j ∈ ss)) c), I.laid (t' := tk) k (Nat.le_refl _) (setTO_new R), rfl, q _ c hn hcn⟩
theorem cr_sortedS (hc : X.calm = true) : CallR X (.builtin "sorted") (rSortedS X.w) := by
  intro pins s σ H vs us Q I r h
  obtain ⟨a, S, n, rfl, ha, h64, q⟩ := h
  have R : SetT X.w s.heap a S n := (I.hok a _ ha).1
  rw [Vals.ref1 r]
  refine sorted_setT R (I.ok.hd hc) h64 fun s' p out c ns k g o hp hg hout nd hm hl hso => ?_
  have hlen : (ns.map V.str).length ≤ sizeLine := by rw [List.length_map, sizeLine_eq]; omega
  have hn : H p = none := I.hok.fresh hp
  have hv : Vals (ns.map V.str) out.toList := vals_of_strs hout
  have J : Inv X pins σ (upd H p (.lst (ns.map V.str))) { s with heap := s'.heap, gens := s'.gens, drawn := s'.drawn, toks := s'.toks } :=
    I.call (ch := []) (Un.laid k hp hn) (I.hok.laid k hp ⟨hlen, out.toList, c, hv, hg⟩) (by rw [g]; exact I.bare) (fun _ z => nomatch z)
  have e : s' = { s with heap := s'.heap, gens := s'.gens, drawn := s'.drawn, toks := s'.toks } := by
    cases s'
    cases s
    cases o
    rfl
  rw [e]
  exact ⟨.ref p, _, J, rfl, q p ns hn nd hm hso⟩
end
end Frd
set_option Elab.async false
set_option linter.all false
set_option maxRecDepth 100000
set_option maxHeartbeats 4000000
set_option pp.maxSteps 1000
/-! _law_own. -/
namespace Frd
open PySem PySem.Spec PyProof.Rows L2
theorem cr_setOfSB {X : Cx} {K : PySem.W.Frag} {w : World} (hK : X.K = K) (hw : X.w = w) (hc : X.calm = true) : CallR X (.type "set") (rSetOfS K w) := hK ▸ hw ▸ cr_setOfS hc
theorem cr_sortedSB {X : Cx} {w : World} (hw : X.w = w) (hc : X.calm = true) : CallR X (.builtin "sorted") (rSortedS w) := hw ▸ cr_sortedS hc
theorem mem_names2 {S : Sys} {prow : List LRow} (h : ∀ r ∈ prow, S.tg (rdL r) = r.2.2.1) (k : Str) : k ∈ (prow.map fun r => r.1) ++ (prow.map fun r => r.2.2.1) ↔ ∃ r ∈ prow.map rdL, S.has r k := by
  rw [List.mem_append, List.mem_map, List.mem_map]
  constructor
  · rintro (⟨r, hr, e⟩ | ⟨r, hr, e⟩)
    · exact ⟨rdL r, List.mem_map_of_mem hr, .inl e⟩
    · exact ⟨rdL r, List.mem_map_of_mem hr, .inr (by rw [h r hr]; exact e)⟩
  · rintro ⟨r, hr, e⟩
    obtain ⟨q, hq, rfl⟩ := List.mem_map.mp hr
    rcases e with e | e
    · exact .inl ⟨q, hq, e⟩
    · exact .inr ⟨q, hq, by rw [← h q hq]; exact e⟩
section
variable {P : Program} {w : World} {K : PySem.W.Frag} {mg : Str → Option Value} {base : Heap}
theorem scOwn : FnScope ["_law_rows_here", "_law_title", "_law_piece", "_law_titles", "_law_row"] ["_law_rows_here", "_law_title"] (defScope (topS 55)) := ⟨rfl, rfl, rfl, by decide +kernel, rfl, by decide +kernel, by decide +kernel⟩
def spOwn : Sp := fun vs H Q _ => ∃ (rl : Addr) (n : Str) (S : Sys) (xs : List V) (rows : List LRow), vs = [.ref rl, .str n] ∧ H rl = some (.lst xs) ∧ All2 (LRowV H) xs rows ∧ RowsOf S rows ∧ (rows.map rdL).Perm S.named ∧ S.Ok ∧
  ∀ H' T lp ln zs prow, Same H H' → H' T = some (.tup [.ref lp, .ref ln]) → H' lp = some (.lst zs) → All2 (LRowV H') zs prow → (prow.map rdL).Perm (compOf S n) → (∀ r ∈ prow, r ∈ rows) →
    H' ln = some (.lst ((cnames S n).map V.str)) → Q (.ref T) H'
theorem ok_own {f : Addr} {fd : FuncData} (F : Fun K "_law_own" "_law_own" (topS 55) f fd) (D1 : Dn P w K mg base "_law_pieces" 1 ["_law_rows_here"] spLp) (msorted : mg "sorted" = none) (mset : mg "set" = none) : FnOk P w K mg base CX0 2 f fd ["_law_rows_here", "_law_title"] spOwn := by
  refine F.ok scOwn (fun vs H Q E h => ?_) (fun cdv A outer s H vs Q E hr h => ?_)
  · obtain ⟨rl, n, S, xs, rows, rfl, _⟩ := h
    rfl
  · obtain ⟨rl, n, S, xs, rows, rfl, hrl, hA, hro, hpm, ok, q⟩ := h
    have nd := scOwn.nd
    refine ⟨_, pss_cons (ps_for PassesOwn.never rfl (pi_list (pe_def D1 (hr.mono (by decide)) (by rfl) (pa_cons (pv 0) pa_nil))) (pg_name (i := 2) nd rfl (.inl rfl))
        (pss_cons (ps_set (i := 3) nd rfl (.inl rfl) (pe_callB (cr_sortedSB (w := w) rfl rfl) (by rfl) msorted (by decide +kernel) (pa_cons (pe_callTy (cr_setOfSB (K := K) (w := w) rfl rfl rfl) (by rfl) mset (by decide +kernel) (pa_cons (pe_op op_cat
            (pe_lc (own := [("_law_row", 4)]) (g := gName 4) (tt := tYes) rfl nd (pi_list (pv 2)) (blkOk_by (N := ["_law_rows_here", "_law_title", "_law_piece", "_law_titles", "_law_row"]) (sc := defScope (topS 55)) (by decide +kernel))
              (fun _ _ _ _ _ => pg_name (i := 4) nd rfl (Or.inl rfl)) (fun _ _ _ _ _ => pts_nil) (fun _ _ _ _ _ => pe_ix (ix_tupB (K := K) rfl) (pv 4) pe_int (fun _ _ => rfl)))
            (pe_lc (own := [("_law_row", 4)]) (g := gName 4) (tt := tYes) rfl nd (pi_list (pv 2)) (blkOk_by (N := ["_law_rows_here", "_law_title", "_law_piece", "_law_titles", "_law_row"]) (sc := defScope (topS 55)) (by decide +kernel))
              (fun _ _ _ _ _ => pg_name (i := 4) nd rfl (Or.inl rfl)) (fun _ _ _ _ _ => pts_nil) (fun _ _ _ _ _ => pe_ix (ix_tupB (K := K) rfl) (pv 4) pe_int (fun _ _ => rfl)))) pa_nil)) pa_nil)))
        (pss_one (ps_if (pt_cmpR op_in_seq (pv 1) (pv 3) rfl) (pss_one (ps_ret (pe_tup (pa_cons (pv 2) (pa_cons (pv 3) pa_nil))))) pss_nil))))
      (pss_one (ps_ret (pe_tup (pa_cons (pe_lst pa_nil) (pa_cons (pe_lst (pa_cons (pv 1) pa_nil)) pa_nil))))), ?_⟩
    have nnd := Sys.named_nodup ok.nodup
    have few : rows.length ≤ 12 := by
      have := hpm.length_eq
      rw [List.length_map] at this
      have := ok.few
      omega
    refine ⟨_, rfl, rl, S, xs, rows, rfl, hrl, hA, hro, hpm.nodup_iff.mpr nnd, few, fun H1 F1 ys ps s1 hF hP hys => ?_⟩
    have hP' : Parts S S.named ps := ⟨hP.ok, hP.apart, hP.perm.trans hpm⟩
    have hyl : ys.length = ps.length := hys.1
    refine ⟨F1, rfl, ⟨_, SqL.of hF⟩, for_list (K := K) (a := F1) (xs := ys) (fun i σ H' => (∃ y2 y3 y4, σ = [some (.ref rl), some (.str n), y2, y3, y4]) ∧ Same H1 H' ∧ ∀ j pc, j < i → ps[j]? = some pc → n ∉ pc.1) ⟨⟨none, none, none, rfl⟩, Same.refl _, fun j pc hj => absurd hj (Nat.not_lt_zero _)⟩ (fun i σ H' _ ⟨_, s', _⟩ => SqL.of (s' _ _ hF)) ?_ ?_⟩
    · rintro i x σ H2 ex ⟨⟨y2, y3, y4, rfl⟩, s2, hno⟩
      obtain ⟨pc, epc, l, zs, prow, rfl, hl, hz, hpr, hsub⟩ := hys.at ex
      have hpmem := List.mem_of_getElem? epc
      have okp := hP.ok pc hpmem
      have hl2 := s2 _ _ hl
      have hzl : zs.length = prow.length := hz.1
      have hp12 : prow.length ≤ 12 := by
        have h1 := hP'.small hpmem
        have h2 := ok.few
        rw [← hpr, List.length_map] at h1
        omega
      refine ⟨_, rfl, l, rfl, ⟨_, SqL.of hl2⟩, fun D1 hD1 => ?_⟩
      refine lc_map (walk_list (K := K) (a := l) (xs := zs)) (fun i _ y => ∀ r, prow[i]? = some r → y = .str r.1) (fun i H H' y acc _ _ h => h) (small1000 (by omega)) hD1 (fun H' s' => SqL.of (s' _ _ hl2)) (fun j H x H' _ => y_at j H x H') ?_ ?_ (fun _ _ _ _ _ imp h => imp _ _ h)
      · rintro j u H3o H3 acc Z hj s3 hk2 ⟨rfl, eu⟩ hZ
        obtain ⟨row, erow, hrowv⟩ := hz.at eu
        obtain ⟨xa, xb, rfl, hxa, hxb⟩ := id hrowv
        refine ⟨rfl, ?_⟩
        refine ⟨_, rfl, xa, _, 0, .str row.1, rfl, rfl, SqT.of (s3 _ _ (s2 _ _ hxa)), atI_nat (j := 0) rfl, hZ _ _ (Same.refl _) fun r er => ?_⟩
        rw [Option.some.inj (er.symm.trans erow)]
      · intro H3 ys1 s3 hy1 hyl1 hyr1
        have ey1 : ys1 = prow.map fun r => V.str r.1 := map_of (by omega) hyr1
        subst ey1
        refine ⟨_, rfl, l, rfl, ⟨_, SqL.of (s3 _ _ hl2)⟩, fun D2 hD2 => ?_⟩
        refine lc_map (walk_list (K := K) (a := l) (xs := zs)) (fun i _ y => ∀ r, prow[i]? = some r → y = .str r.2.2.1) (fun i H H' y acc _ _ h => h) (small1000 (by omega)) hD2 (fun H' s' => SqL.of (s' _ _ (s3 _ _ hl2))) (fun j H x H' _ => y_at j H x H') ?_ ?_ (fun _ _ _ _ _ imp h => imp _ _ h)
        · rintro j u H4o H4 acc Z hj s4 hk2 ⟨rfl, eu⟩ hZ
          obtain ⟨row, erow, hrowv⟩ := hz.at eu
          obtain ⟨xa, xb, rfl, hxa, hxb⟩ := id hrowv
          refine ⟨rfl, ?_⟩
          refine ⟨_, rfl, xa, _, 2, .str row.2.2.1, rfl, rfl, SqT.of (s4 _ _ (s3 _ _ (s2 _ _ hxa))), atI_nat (j := 2) rfl, hZ _ _ (Same.refl _) fun r er => ?_⟩
          rw [Option.some.inj (er.symm.trans erow)]
        · intro H4 ys2 s4 hy2 hyl2 hyr2
          have ey2 : ys2 = prow.map fun r => V.str r.2.2.1 := map_of (by omega) hyr2
          subst ey2
          refine ⟨D1, D2, _, _, rfl, rfl, s4 _ _ hy1, hy2, Nat.le_of_lt (small1000 (by rw [List.length_map, List.length_map]; omega)), fun T2 hT2 => ?_⟩
          have s5 : Same H4 (upd H4 T2 (.lst ((prow.map fun r => V.str r.1) ++ prow.map fun r => V.str r.2.2.1))) := same_upd hT2
          have hT5 : (upd H4 T2 (.lst ((prow.map fun r => V.str r.1) ++ prow.map fun r => V.str r.2.2.1))) T2 = some (.lst ((prow.map fun r => V.str r.1) ++ prow.map fun r => V.str r.2.2.1)) := upd_same
          generalize upd H4 T2 (.lst ((prow.map fun r => V.str r.1) ++ prow.map fun r => V.str r.2.2.1)) = H5 at s5 hT5 ⊢
          have ess : (prow.map fun r => V.str r.1) ++ (prow.map fun r => V.str r.2.2.1) = ((prow.map fun r => r.1) ++ (prow.map fun r => r.2.2.1)).map V.str := by
            rw [List.map_append, List.map_map, List.map_map]
            rfl
          have hln : ((prow.map fun r => r.1) ++ (prow.map fun r => r.2.2.1)).length ≤ 24 := by
            rw [List.length_append, List.length_map, List.length_map]
            omega
          rw [ess] at hT5
          refine ⟨T2, _, rfl, SqL.of hT5, by omega, fun a c ha hc => ?_⟩
          have s6 : Same H5 (upd H5 a (SetTO w a (fun j => decide (j ∈ (prow.map fun r => r.1) ++ (prow.map fun r => r.2.2.1))) c)) := same_upd ha
          have ha6 : (upd H5 a (SetTO w a (fun j => decide (j ∈ (prow.map fun r => r.1) ++ (prow.map fun r => r.2.2.1))) c)) a = some (SetTO w a (fun j => decide (j ∈ (prow.map fun r => r.1) ++ (prow.map fun r => r.2.2.1))) c) := upd_same
          generalize upd H5 a (SetTO w a (fun j => decide (j ∈ (prow.map fun r => r.1) ++ (prow.map fun r => r.2.2.1))) c) = H6 at s6 ha6 ⊢
          refine ⟨a, _, c, rfl, ha6, by omega, fun (p : Addr) (ns : List Str) hp hnd hmem hso => ?_⟩
          have s7 : Same H6 (upd H6 p (.lst (ns.map V.str))) := same_upd hp
          have hp7 : (upd H6 p (.lst (ns.map V.str))) p = some (.lst (ns.map V.str)) := upd_same
          generalize upd H6 p (.lst (ns.map V.str)) = H7 at s7 hp7 ⊢
          have s27 : Same H2 H7 := s3.trans (s4.trans (s5.trans (s6.trans s7)))
          refine ⟨_, rfl, _, rfl, p, _, rfl, .inl (SqL.of hp7), rfl, flat_strs _, _, rfl, ?_⟩
          rw [inV_str]
          have htg : ∀ r ∈ prow, S.tg (rdL r) = r.2.2.1 := fun r hr => (hro r (hsub r hr)).2.1
          have nin : ∀ k, k ∈ ns ↔ k ∈ pc.1 := fun k => by
            rw [hmem, decide_eq_true_iff, mem_names2 htg, okp.key, hpr]
          refine ite2 (fun e => ?_) (fun e => ?_)
          · have hn := (nin n).mp (of_decide_eq_true e)
            have ec := comp_of_parts hP' nnd hpmem hn
            have ne : compOf S n ≠ [] := by
              rw [← ec]
              intro z
              exact okp.ne (rsort_nil.mp z)
            refine ⟨_, rfl, _, rfl, Nat.le_of_lt (small1000 (by simp)), fun T1 hT1 => ?_⟩
            have s8 : Same H7 (upd H7 T1 (.tup [.ref l, .ref p])) := same_upd hT1
            have s28 := s27.trans s8
            have ens : ns = cnames S n := by
              rw [ssort_eq hso (List.Perm.refl ns)]
              unfold cnames
              rw [if_neg ne]
              unfold tabsOf
              refine ssort_set hnd (nodup_addKs List.nodup_nil) fun k => ?_
              rw [nin, okp.key, mem_addKs, List.mem_append, List.mem_map, List.mem_map, ← ec]
              constructor
              · rintro ⟨r, hr, h | h⟩
                · exact .inr (.inl ⟨r, mem_rsort.mpr hr, h⟩)
                · exact .inr (.inr ⟨r, mem_rsort.mpr hr, h⟩)
              · rintro (h | ⟨r, hr, h⟩ | ⟨r, hr, h⟩)
                · cases h
                · exact ⟨r, mem_rsort.mp hr, .inl h⟩
                · exact ⟨r, mem_rsort.mp hr, .inr h⟩
            subst ens
            refine q _ T1 l p zs prow ((s1.trans s2).trans s28) upd_same (s28 _ _ hl2) (hz.mono fun v r h => h.mono fun t l e => s28 _ _ (s2 _ _ e)) ?_ hsub (s8 _ _ hp7)
            rw [hpr, ← ec]
            exact (rsort_perm pc.2).symm
          · refine ⟨⟨_, _, _, rfl⟩, s2.trans s27, fun j pc' hj ej => ?_⟩
            by_cases z : j = i
            · subst z
              rw [epc] at ej
              cases ej
              exact fun hn => e (decide_eq_true ((nin n).mpr hn))
            · exact hno j pc' (by omega) ej
    · rintro σ H2 ⟨⟨y2, y3, y4, rfl⟩, s2, hno⟩
      have ec : compOf S n = [] := comp_none hP' fun pc hpc => by
        obtain ⟨j, hj⟩ := List.getElem?_of_mem hpc
        have := (List.getElem?_eq_some_iff.mp hj).1
        exact hno j pc (by omega) hj
      refine ⟨Nat.zero_le _, fun b hb => ?_⟩
      refine ⟨_, rfl, Nat.le_of_lt (small1000 (by simp)), fun a ha => ?_⟩
      refine ⟨Nat.le_of_lt (small1000 (by simp)), fun T1 hT1 => ?_⟩
      have s3 : Same H2 (upd H2 b (.lst [])) := same_upd hb
      have hb3 : (upd H2 b (.lst [])) b = some (.lst []) := upd_same
      generalize upd H2 b (.lst []) = H3 at s3 hb3 ha hT1 ⊢
      have s4 : Same H3 (upd H3 a (.lst [.str n])) := same_upd ha
      have ha4 : (upd H3 a (.lst [.str n])) a = some (.lst [.str n]) := upd_same
      generalize upd H3 a (.lst [.str n]) = H4 at s4 ha4 hT1 ⊢
      have s5 : Same H4 (upd H4 T1 (.tup [.ref b, .ref a])) := same_upd hT1
      have en : cnames S n = [n] := by
        unfold cnames
        rw [if_pos ec]
      refine q _ T1 b a [] [] ((((s1.trans s2).trans s3).trans s4).trans s5) upd_same (s5 _ _ (s4 _ _ hb3)) All2.nil ?_ (fun r hr => nomatch hr) ?_
      · rw [ec]
        exact List.Perm.refl _
      · rw [en]
        exact s5 _ _ ha4
end
end Frd
set_option Elab.async false
set_option linter.all false
set_option maxRecDepth 100000
set_option maxHeartbeats 4000000
set_option pp.maxSteps 1000
/-! lambda x: x[0] as a value; sorted(xs, key=that); sorted of data. -/
namespace Frd
open PySem PySem.Spec PyProof.Rows L2 LamX

theorem codeO_rec {P : Program} {w : World} {H : Hp} {h : Heap} {c : Addr} {q : Str} (ok : HOk P w H h) (e : H c = some (CodeO c q)) : h.CodeRec (.ref c) q := by
  obtain ⟨⟨oc, vs, t, h1, h2, h3⟩, _⟩ := ok c _ e
  exact ⟨c, oc, vs, t, rfl, h1, h2, h3⟩
/-- lambda x: x[0] called with a tuple whose first item is a text -/
theorem lam_item0 {P : Program} {w : World} {A : Around} {s : Shared} {f c' t : Addr} {qual x n : Str} {params : Arguments} {scope : Scope} {pm ctv : Value} {its : Array Value} {tk : Tok} {j : Nat} {p1 p2 p3 : Pos} (hroom : A.depth < recursionLimit) (lim : s.heap.NoLimit)
    (hf : s.heap.get? f = some (PySem.W.kla_obj "<lambda>" qual params (.Subscript (.Name x p1) (.Constant (.int 0) j p2) p3) scope [] pm c' ctv)) (hcd : s.heap.CodeRec (.ref c') qual) (hk : scope.kind = .function) (hco : scope.isCoroutine = false) (hgen : scope.isGenerator = false)
    (hloc : scope.names.lookup x = some .local) (hcell : ∀ y ∈ scope.names, y.2 ≠ .cell) (hd : (x == ("__debug__" : Str)) = false)
    (hbind : ∀ (v : Value), bindArgs (PySem.W.kla_fn "<lambda>" qual params (.Subscript (.Name x p1) (.Constant (.int 0) j p2) p3) scope [] pm (.ref c') ctv) ⟨[v], []⟩ = pure [(x, v)])
    (ht : IsTup s.heap t its) (h0 : its[0]? = some (.str n tk)) (hz : its.size ≤ sizeLine) :
    wpAny (model P w) A (call (.ref f) [.ref t]) (PySem.W.KeyPure (.str n) s) (fun _ _ => False) s := by
  refine wpAny_call (PySem.W.kla_callFunE hroom hf rfl hco hgen rfl hcd ?_)
  rw [hbind]
  refine wpAny_pure (wpAny_newFunctionEnv hcell (fun y hy => ?_) (fun h₁ hns hsb => ⟨lim.fresh _ hsb, ?_⟩) hk)
  · rw [List.mem_singleton.mp hy]
    exact hloc
  have kp : ∀ b o, s.heap.get? b = some o → h₁.get? b = some o := fun b o e => hsb.extBut b o (Nat.ne_of_lt (Heap.lt_size e)) (Heap.get?_push_of_some _ e)
  have ht1 : IsTup h₁ t its := ht.keeps kp
  have hz2 := sizeLine_eq
  have hp : 0 < its.size := by
    rcases Nat.eq_zero_or_pos its.size with e | e
    · rw [Array.getElem?_eq_none (by omega)] at h0
      cases h0
    · exact e
  show codeAny _ _ (.expr _ (PySem.W.envX qual scope s.heap.objs.size f (.ref c') [])) _ _
  refine PySem.W.kla_codeExpr (Subscript_ (wpAny_Name (wpAny_loadName_local (v := .ref t) hk hloc hns (by simp) ?_) hd))
  refine wpAny_Constant_int ?_
  refine subscriptTail_builtinR (x := .str n tk) ht1.typeIs slot_tuple_getitem.lookup (getItem_tuple (j := 0) ht1 (by decide) (by decide) ?_ h0 ⟨rfl, ?_⟩) (by rfl)
  · exact seqIndex_of (by decide) (by simpa using hp)
  · exact ⟨h₁, _, rfl, kp, .str n tk⟩
def vEach : ∀ {ys : List V} {us : List Value}, Vals ys us → PySem.W.EachIs (fun u y => RelV y u) us ys
  | _, _, .nil => .nil
  | _, _, .cons r t => .cons r (vEach t)
def eachV : ∀ {ys : List V} {us : List Value}, PySem.W.EachIs (fun u y => RelV y u) us ys → Vals ys us
  | _, _, .nil => .nil
  | _, _, .cons r t => .cons r (eachV t)
theorem extN_sqL {K : PySem.W.Frag} {H H' : Hp} {a : Addr} {xs : List V} (e : ExtN H H') (h : SqL K H a xs) : SqL K H' a xs := by
  rcases h with (h | ⟨o, h⟩) | h
  · exact .inl (.inl (e _ _ h fun ps z => by cases z))
  · exact .inl (.inr ⟨o, e _ _ h fun ps z => by cases z⟩)
  · exact .inr h
/-- the scope of a lambda with parameters, no name captured -/
structure LamP (scope : Scope) (x : Str) : Prop where
  kind : scope.kind = .function
  co : scope.isCoroutine = false
  gen : scope.isGenerator = false
  loc : scope.names.lookup x = some .local
  cell : ∀ y ∈ scope.names, y.2 ≠ .cell
  free : ∀ y ∈ scope.names, y.2 ≠ .free
  clo : ∀ cs, cloFrom cs scope.names [] = []
  dbg : (x == ("__debug__" : Str)) = false
def tSortL (K : PySem.W.Frag) (T : List (Addr × Str)) (te : TE) : TE := fun σ H Q => te σ H fun v H1 => ∃ (a : Addr) (ys : List V) (nm : V → Str), v = .ref a ∧ SqL K H1 a ys ∧ (∀ y ∈ ys, ∃ t rest, y = .ref t ∧ H1 t = some (.tup (.str (nm y) :: rest))) ∧ Tabs T H1 ∧
  ∀ H2 ys' (p : Addr), ExtN H1 H2 → Tabs T H2 → ys'.Perm ys → H2 p = none → Q (.ref p) (upd H2 p (.lst ys'))
section
variable {X : Cx}
/-- sorted(e, key=lambda x: x[0]) -/
theorem pe_sortedLam {T : List (Addr × Str)} {c P : Addr} {params : Arguments} {scope : Scope} {x : Str} {j : Nat} {p p1 p2 p3 lpos kpos pos : Pos} {e : Expr} {te : TE} (hg : Gl X "sorted") (hm : X.mg "sorted" = none) (ha : PE X e te)
    (TB : TabB X.base X.mg c P) (hcode : X.env.code = .ref c) (hmT : (P, X.env.qual ++ "<lambda>") ∈ T) (hu : ∀ p ∈ T, p.1 = P → p.2 = X.env.qual ++ "<lambda>") (hr : Room 1 X.A) (L : LamP scope x) (hdef : defaultsOf params X.env = ([], []))
    (hbind : ∀ (q : Str) (pm cv ctv v : Value), bindArgs (PySem.W.kla_fn "<lambda>" q params (.Subscript (.Name x p1) (.Constant (.int 0) j p2) p3) scope [] pm cv ctv) ⟨[v], []⟩ = pure [(x, v)])
    (he : backTo pos (starEach [e] X.env) = (false, eval e X.env) :: backTo pos (starEach [] X.env) := by rfl) (hpl : (backTo pos (starEach [e] X.env)).any (·.1) = false := by rfl) :
    PE X (.Call (.Name "sorted" p) [e] [⟨some "key", .Lambda params (.Subscript (.Name x p1) (.Constant (.int 0) j p2) p3) scope lpos, kpos⟩] pos) (tSortL X.K T te) := by
  refine ⟨fun pins s σ H Q I h => ?_⟩
  refine wpAny_Call_Name_kw (ld_blt (u := .builtin "sorted") I hg hm (by decide +kernel) ?_ (by decide) (by decide))
  refine PyProof.Rows.callWith_kw ?_ he hpl rfl rfl
  rw [he]
  refine Calls.spliced_cons (thn (ha.run pins s σ H _ I h) fun u s1 ⟨v, H1, I1, r1, a, ys, nm, ev, hs, hn, hT, q⟩ => ?_)
  subst ev
  obtain rfl : u = Value.ref a := r1
  refine Calls.spliced_nil ?_
  show wpAny _ _ (evalAll [do let v ← eval (.Lambda params (.Subscript (.Name x p1) (.Constant (.int 0) j p2) p3) scope lpos) X.env; standAt pos; pure v]) _ _ _
  refine wpAny_evalAll_cons (wpAny_bind (lam_make2 I1 TB hcode hmT hu hT hdef (fun y hy e => absurd e (L.free y hy)) fun f c' pm ctv H2 s2 I2 eN T2 hf hfn hfr hco => wpAny_bind (wpAny_standAt (wpAny_pure (wpAny_evalAll_nil ?_)))))
  rw [L.clo] at hf
  show wpAny _ _ (call (.builtin "sorted") [.ref a] [(Str.ofString "key", .ref f)]) _ _ _
  obtain ⟨its, rv, pl, hz⟩ := I2.list (extN_sqL eN hs)
  have hd : ∀ n : Str, (PyData.str n).depth = 0 := fun n => by simp [PyData.depth]
  refine PySem.W.sorted_key_data (b := false) (bs := ys) (R := fun u y => RelV y u) (fun y => .str (nm y)) pl.isList (vEach rv) (PySem.W.AllAlike.of fun _ _ => by simp [PySem.W.alike]) (PySem.W.Sortable.others fun _ => ⟨(fun z => by cases z), fun _ z => by cases z⟩) hz (fun y _ => ?_) (PyProof.Rows.ksk_s1 _ _) (fun _ => PyProof.Rows.ksk_l1 _ _) (fun _ => PyProof.Rows.ksk_t1 _ _)
    (fun v y hR hy h tk kp => ?_) fun out cc h' tk kp _ hD hlen eo => ?_
  · rw [hd]
    have := hr.un
    omega
  · obtain ⟨t, rest, rfl, ht⟩ := hn y hy
    obtain rfl : v = Value.ref t := hR
    have I3 := I2.kept (t' := tk) kp
    have ht2 := eN _ _ ht fun ps z => by cases z
    obtain ⟨its2, rv2, pl2, hz2⟩ := I3.tuple (SqT.of ht2)
    obtain ⟨u0, hu0, tk0, e0⟩ := rv2.get (i := 0) rfl
    subst e0
    refine lam_item0 (tk := tk0) (its := its2.toArray) ?_ I3.nolimit (kp _ _ hf) (codeO_rec I3.hok hco) L.kind L.co L.gen L.loc L.cell L.dbg (hbind _ _ _ _) pl2 (by simpa using hu0) (by rw [List.size_toArray, ← rv2.length]; exact hz2)
    exact hr.depth
  · have ev := eachV eo
    have pm : (ys.mergeSort (PySem.W.dataLe false fun y => PyData.str (nm y))).Perm ys := List.mergeSort_perm _ _
    refine ⟨.ref _, upd H2 (s2.heap.objs.size + 1) (.lst _), I2.laid (t' := tk) kp (Nat.le_succ _) ⟨by rw [pm.length_eq]; exact hz, out, cc, ev, by simpa using hD⟩, rfl, ?_⟩
    exact q H2 _ _ eN T2 pm (I2.hok.fresh (Nat.le_succ _))
end
end Frd
set_option Elab.async false
set_option linter.all false
set_option maxRecDepth 100000
set_option maxHeartbeats 4000000
set_option pp.maxSteps 1000
/-! System.__init__. -/
namespace Frd
open PySem PySem.Spec PyProof.Rows L2 LamX
/-- a def as it stands, its code object at c, its defaults dvs -/
structure FunC (K : PySem.W.Frag) (x qual : Str) (st : Stmt) (dvs : List V) (c f : Addr) (fd : FuncData) : Prop where
  ex : ∃ (oc : Value) (od : Option Addr) (dV kV doc pm : Value) (an : Option Addr) (ct : Value) (osl : Array (Option Value)),
    fd = PySem.W.fnOf x qual (defArgs st) (defBody st) (defScope st) dV kV doc pm an (.ref c) ct ∧ K.lookup f = some ⟨oc, od, .func fd, osl⟩ ∧ PySem.W.codeIn K (.ref c) qual = true ∧ DflV K dV dvs
  kp : PySem.W.keepIn K (.ref f) = true
theorem FunC.ok {P : Program} {w : World} {K : PySem.W.Frag} {mg : Str → Option Value} {base : Heap} {x qual : Str} {st : Stmt} {dvs : List V} {c f : Addr} {fd : FuncData} {N ps : List Str} {k : Nat} {sp : Sp} (F : FunC K x qual st dvs c f fd) (S : FnScope N ps (defScope st)) (len : ∀ vs H Q E, sp vs H Q E → vs.length = ps.length)
    (hbody : ∀ (A : Around) (outer : List Env) (s : Shared) (H : Hp) (vs : List V) (Q : VK) (E : XK), Room k (A.deeper (envOfC qual (defScope st) s.heap.objs.size f (.ref c))) → sp vs H Q E →
      ∃ t, PSs (cxOf CX0 P w K mg base N qual (defScope st) f (.ref c) A outer s H E).nox (defBody st) t ∧ t { nx := fun _ H' => Q .non H', rt := Q } (start N vs) H) : FnOk P w K mg base CX0 (k + 1) f fd ps sp := by
  obtain ⟨oc, od, dV, kV, doc, pm, an, ct, osl, rfl, lk, hcd, _⟩ := F.ex
  refine fn_of lk hcd S len fun A outer s H vs Q E hr hsp => ?_
  obtain ⟨t, h, q⟩ := hbody A outer s H vs Q E hr hsp
  exact ⟨t, h.nox, q⟩
/-- the text that a tuple at y begins with -/
def nmOf (H : Hp) : V → Str
  | .ref t => match H t with
    | some (.tup (.str n :: _)) => n
    | _ => ⟨#[]⟩
  | _ => ⟨#[]⟩
theorem nmOf_raw {H : Hp} {y : V} {t : Tb} (h : RawV H y t) : nmOf H y = t.name ∧ ∃ a rest, y = .ref a ∧ H a = some (.tup (.str (nmOf H y) :: rest)) := by
  obtain ⟨a, l, us, rfl, h1, h2, h3⟩ := h
  have e : nmOf H (.ref a) = t.name := by
    unfold nmOf
    simp only [h1]
  exact ⟨e, a, _, rfl, by rw [e]; exact h1⟩
theorem All2.uncons {α β : Type} {R : α → β → Prop} {x : α} {xs : List α} {ys : List β} (h : All2 R (x :: xs) ys) : ∃ y zs, ys = y :: zs ∧ R x y ∧ All2 R xs zs := by
  cases ys with
  | nil => exact absurd h.1 (by simp)
  | cons y zs => exact ⟨y, zs, rfl, h.2 0 x y rfl rfl, by simpa using h.1, fun i a b ea eb => h.2 (i + 1) a b ea eb⟩
theorem All2.cons {α β : Type} {R : α → β → Prop} {x : α} {y : β} {xs : List α} {ys : List β} (r : R x y) (h : All2 R xs ys) : All2 R (x :: xs) (y :: ys) := by
  refine ⟨by simp [h.1], fun i a b ea eb => ?_⟩
  cases i with
  | zero =>
    cases ea
    cases eb
    exact r
  | succ i => exact h.2 i a b ea eb
theorem All2.perm {α β : Type} {R : α → β → Prop} {xs xs' : List α} (p : xs'.Perm xs) : ∀ {ys : List β}, All2 R xs ys → ∃ ys', ys'.Perm ys ∧ All2 R xs' ys' := by
  induction p with
  | nil => exact fun {ys} h => ⟨ys, List.Perm.refl _, h⟩
  | cons x p ih =>
    intro ys h
    obtain ⟨y, zs, rfl, r, h2⟩ := h.uncons
    obtain ⟨zs', pz, h3⟩ := ih h2
    exact ⟨y :: zs', pz.cons y, All2.cons r h3⟩
  | swap x z l =>
    intro ys h
    obtain ⟨y1, zs, rfl, r1, h2⟩ := h.uncons
    obtain ⟨y2, zs2, rfl, r2, h3⟩ := h2.uncons
    exact ⟨y2 :: y1 :: zs2, List.Perm.swap _ _ _, All2.cons r2 (All2.cons r1 h3)⟩
  | trans p q ih1 ih2 =>
    intro ys h
    obtain ⟨y1, q1, h1⟩ := ih2 h
    obtain ⟨y2, q2, h2⟩ := ih1 h1
    exact ⟨y2, q2.trans q1, h2⟩
theorem putK_snoc {κ : Type} [DecidableEq κ] {kvs : List (κ × V)} {k : κ} {v : V} (h : k ∉ kvs.map (·.1)) : putK kvs k v = kvs ++ [(k, v)] := by
  unfold putK
  rw [if_neg]
  intro z
  obtain ⟨kv, h1, h2⟩ := List.any_eq_true.mp z
  exact h (List.mem_map.mpr ⟨kv, h1, of_decide_eq_true h2⟩)
theorem tbsOk_ok {d : Nat} {ts ts' : List Tb} (h : TbsOk d ts) (p : ts'.Perm ts) : Sys.Ok ⟨d, ts'⟩ where
  d1 := h.d1
  d3 := h.d3
  t1 := fun z => by
    have h1 := p.length_eq
    have h2 := h.n1
    rw [show ts' = [] from z] at h1
    simp at h1
    omega
  t6 := by
    have h1 := p.length_eq
    have h2 := h.n6
    show ts'.length ≤ 6
    omega
  nodup := ((p.map (·.name)).nodup_iff).mpr h.nodup
  few := by
    have e : (ts'.flatMap namedT).length = (ts'.map (·.reads.length)).sum := by
      rw [List.length_flatMap]
      congr 1
      exact List.map_congr_left fun t _ => by
        unfold namedT
        rw [List.length_map, List.length_range]
    show (ts'.flatMap namedT).length ≤ 12
    rw [e, (p.map (·.reads.length)).sum_nat]
    exact h.few
  vec := fun t ht x hx => by
    have ht' := p.mem_iff.mp ht
    have := h.reads t ht' x hx
    exact ⟨this.1.len, this.2⟩
  tgt := fun t ht x hx => by
    have ht' := p.mem_iff.mp ht
    obtain ⟨u, hu, e⟩ := List.mem_map.mp (h.tgt t ht' x hx)
    exact ⟨u, p.mem_iff.mpr hu, e⟩

theorem call_len_seqB {X : Cx} {K : PySem.W.Frag} (hK : X.K = K) : CallR X (.builtin "len") (fun xs H Q => ∃ p ys, xs = [V.ref p] ∧ (SqL K H p ys ∨ SqT K H p ys) ∧ Q (V.int (ys.length : Int)) H) := hK ▸ call_len_seq
theorem codeO_dK {c : Addr} {q : Str} (kvs : List (Key × V)) : CodeO c q ≠ .dK kvs := fun z => by
  unfold CodeO at z
  cases z
theorem codeO_ins {c : Addr} {q : Str} {C dx : Addr} (fs : List (Str × V)) : CodeO c q ≠ .ins C dx fs := fun z => by
  unfold CodeO at z
  cases z
theorem tabs_x {T : List (Addr × Str)} {H H' : Hp} {p : Addr} {o : HO} (t : Tabs T H) (s : SameX p H H') (hp : H p = some o) (h1 : ∀ ps, o ≠ .tbl ps) (h2 : ∀ c q, CodeO c q ≠ o) : Tabs T H' := fun x hx => by
  obtain ⟨ps, e1, e2, e3⟩ := t x hx
  refine ⟨ps, s _ _ (fun z => ?_) e1, e2, fun pos cv hc => ?_⟩
  · rw [z, hp] at e1
    exact h1 ps (Option.some.inj e1)
  · obtain ⟨c, k1, k2⟩ := e3 pos cv hc
    refine ⟨c, k1, s _ _ (fun z => ?_) k2⟩
    rw [z, hp] at k2
    exact h2 p _ (Option.some.inj k2).symm
theorem take_flat {ts : List Tb} {i : Nat} {t : Tb} (h : ts[i]? = some t) : (ts.take (i + 1)).flatMap namedT = (ts.take i).flatMap namedT ++ namedT t := by
  rw [List.take_add_one, h]
  simp
theorem namedT_take {t : Tb} {j : Nat} (h : j < t.reads.length) : (namedT t).take (j + 1) = (namedT t).take j ++ [(t.name, (j : Int))] := by
  have e : (namedT t)[j]? = some (t.name, (j : Int)) := by
    unfold namedT
    rw [List.getElem?_map, List.getElem?_range h]
    rfl
  rw [List.take_add_one, e]
  rfl
theorem namedT_len (t : Tb) : (namedT t).length = t.reads.length := by
  unfold namedT
  rw [List.length_map, List.length_range]
def sf3 (d : Nat) (kt : Addr) : List (Str × V) := [("dimension_count", .int d), ("kept_modulus", .int 97), ("kept_tables", .ref kt)]
theorem sf3_t {d : Nat} {kt : Addr} : (sf3 d kt).lookup ("kept_tables" : Str) = some (.ref kt) := by kernel_rfl
section
variable {P : Program} {w : World} {K : PySem.W.Frag} {mg : Str → Option Value} {base : Heap} {C : Addr}
theorem scSy : FnScope ["self", "dimensions", "tables", "modulus", "name", "constant", "reads", "number"] ["self", "dimensions", "tables", "modulus"] (defScope (metS 22 0)) := ⟨rfl, rfl, rfl, by decide +kernel, rfl, by decide +kernel, by decide +kernel⟩
def spSy (K : PySem.W.Frag) (C : Addr) (T : List (Addr × Str)) : Sp := fun vs H Q _ => ∃ (p tl dx : Addr) (H0 : Hp) (d : Nat) (xs : List V) (ts : List Tb), vs = [.ref p, .int (d : Int), .ref tl, .int 97] ∧ Same H0 H ∧ H0 p = none ∧ H p = some (.ins C dx []) ∧ SqL K H0 tl xs ∧ All2 (RawV H0) xs ts ∧ TbsOk d ts ∧ Tabs T H0 ∧
  ∀ H' S, ExtN H0 H' → Tabs T H' → S.d = d → S.tabs.Perm ts → SysAt C H' p S → Q .non H'
theorem ok_sy {T : List (Addr × Str)} {c PT f : Addr} {fd : FuncData} (F : FunC K "__init__" "System.__init__" (metS 22 0) [.int 1000003] c f fd) (TX : TxS K C) (TB : TabB base mg c PT) (hmT : (PT, ("System.__init__.<locals>.<lambda>" : Str)) ∈ T) (hu : ∀ p ∈ T, p.1 = PT → p.2 = ("System.__init__.<locals>.<lambda>" : Str))
    (msorted : mg "sorted" = none) (mtuple : mg "tuple" = none) (mr : mg "range" = none) (mlen : mg "len" = none) (D1 : Dn P w K mg base "check_system" 3 ["dimensions", "tables", "modulus"] (spCs K)) : FnOk P w K mg base CX0 4 f fd ["self", "dimensions", "tables", "modulus"] (spSy K C T) := by
  refine F.ok scSy (fun vs H Q E h => ?_) (fun A outer sh H vs Q E hr h => ?_)
  · obtain ⟨p, tl, dx, H0, d, xs, ts, rfl, _⟩ := h
    rfl
  · obtain ⟨p, tl, dx, H0, d, xs, ts, rfl, sm, np, hp, hL, hA, hT, hTab, q⟩ := h
    have nd := scSy.nd
    have hun := hu_of hr
    refine ⟨_, pss_cons (ps_expr (pe_def D1 hr (by rfl) (pa_cons (pv 1) (pa_cons (pv 2) (pa_cons (pv 3) pa_nil)))))
      (pss_cons (ps_fld (pv 0) (pv 1) rfl)
      (pss_cons (ps_fld (pv 0) (pv 3) rfl)
      (pss_cons (ps_fld (pv 0) pe_dnewK rfl)
      (pss_cons (ps_for PassesOwn.never rfl (pi_list (pe_sortedLam (by rfl) msorted (pv 2) TB rfl hmT hu (hr.mono (by decide)) (x := "table") ⟨rfl, rfl, rfl, by decide +kernel, by decide +kernel, by decide +kernel, fun _ => rfl, by decide +kernel⟩ rfl (fun _ _ _ _ _ => rfl)))
          (pg_tup rfl (pgs_cons (pg_name (i := 4) nd rfl (.inl rfl)) (pgs_cons (pg_name (i := 5) nd rfl (.inl rfl)) (pgs_cons (pg_name (i := 6) nd rfl (.inl rfl)) pgs_nil))))
          (pss_one (ps_dput hun (pe_fld (pv 0) rfl) (pv 4) (pe_tup (pa_cons (pv 5) (pa_cons (pe_tupleOf (by rfl) mtuple (pv 6)) pa_nil))) rfl)))
      (pss_one (ps_fld (pv 0) (pe_tupleOf (by rfl) mtuple (pe_lock (pe_lc2 (own := [("name", 4), ("constant", 5), ("reads", 6), ("number", 7)]) (vs1 := [7]) (g := gTup K 2 (gCons (gName 4) (gCons (gTup K 2 (gCons (gName 5) (gCons (gName 6) gNil))) gNil))) (g1 := gName 7) (tt := tYes) (tt1 := tYes) rfl nd (pi_items (pe_fld (pv 0) rfl))
          (blkOk_by (N := ["self", "dimensions", "tables", "modulus", "name", "constant", "reads", "number"]) (sc := defScope (metS 22 0)) (by decide +kernel)) (by decide)
          (fun _ _ _ _ _ => pg_tup rfl (pgs_cons (pg_name (i := 4) nd rfl (Or.inl rfl)) (pgs_cons (pg_tup rfl (pgs_cons (pg_name (i := 5) nd rfl (Or.inl rfl)) (pgs_cons (pg_name (i := 6) nd rfl (Or.inl rfl)) pgs_nil))) pgs_nil))) (fun _ _ _ _ _ => pts_nil)
          (fun _ _ _ _ _ => pi_range1 rfl mr (pa_cons (pe_callB (call_len_seqB (K := K) rfl) (by rfl) mlen PySem.boot_len (pa_cons (pv 6) pa_nil)) pa_nil))
          (fun _ _ _ _ _ => pg_name (i := 7) nd rfl (Or.inl rfl)) (fun _ _ _ _ _ => pts_nil)
          (fun _ _ _ _ _ => pe_tup (pa_cons (pv 4) (pa_cons (pv 7) pa_nil)))))) rfl)))))), ?_⟩
    have np' : ∀ {b : Addr} {o : HO}, H0 b = some o → b ≠ p := fun e => ne_of_none e np
    have hTabH := hTab.ext sm
    refine ⟨_, rfl, _, rfl, _, rfl, d, tl, xs, ts, rfl, sm.seq hL, hA.mono fun v t h => h.mono sm, hT, fun H1 s1 => ?_⟩
    have sm1 := sm.trans s1
    have hp1 := s1 _ _ hp
    refine ⟨_, rfl, _, rfl, p, C, dx, _, rfl, hp1, TX.cl, TX.nd, (by show 0 < 1000; decide), ?_⟩
    refine ⟨_, rfl, _, rfl, p, C, dx, _, rfl, upd_same, TX.cl, TX.nm, (by show 1 < 1000; decide), ?_⟩
    rw [upd_upd]
    intro kt hkt
    have nkt : kt ≠ p := fun z => by
      rw [z, upd_same] at hkt
      cases hkt
    have ekt : putF "kept_tables" (.ref kt) (putF "kept_modulus" (.int 97) (putF "dimension_count" (.int (d : Int)) [])) = sf3 d kt := by kernel_rfl
    have hkt1 : H1 kt = none := by
      rw [upd_ne nkt] at hkt
      exact hkt
    have hkt0 : H0 kt = none := sm1.free hkt1
    refine ⟨_, rfl, p, C, dx, _, rfl, by rw [upd_ne nkt.symm, upd_same], TX.cl, TX.nt, (by show 2 < 1000; decide), ?_⟩
    rw [ekt]
    have s2 : Same H0 (upd (upd (upd H1 p (.ins C dx (putF "kept_modulus" (.int 97) (putF "dimension_count" (.int (d : Int)) [])))) kt (.dK [])) p (.ins C dx (sf3 d kt))) := fun b o e => by
      rw [upd_ne (np' e), upd_ne (ne_of_none e hkt0), upd_ne (np' e)]
      exact sm1 _ _ e
    have hp2 : (upd (upd (upd H1 p (.ins C dx (putF "kept_modulus" (.int 97) (putF "dimension_count" (.int (d : Int)) [])))) kt (.dK [])) p (.ins C dx (sf3 d kt))) p = some (.ins C dx (sf3 d kt)) := upd_same
    have hkt2 : (upd (upd (upd H1 p (.ins C dx (putF "kept_modulus" (.int 97) (putF "dimension_count" (.int (d : Int)) [])))) kt (.dK [])) p (.ins C dx (sf3 d kt))) kt = some (.dK []) := by
      rw [upd_ne nkt, upd_same]
    generalize upd (upd (upd H1 p (.ins C dx (putF "kept_modulus" (.int 97) (putF "dimension_count" (.int (d : Int)) [])))) kt (.dK [])) p (.ins C dx (sf3 d kt)) = H2 at s2 hp2 hkt2 ⊢
    -- sorted
    have hA2 : All2 (RawV H2) xs ts := hA.mono fun v t h => h.mono s2
    refine ⟨_, rfl, tl, xs, nmOf H2, rfl, s2.seq hL, fun y hy => ?_, hTab.ext s2, fun H3 ys' sl eN T3 pm hsl => ?_⟩
    · obtain ⟨i, hi⟩ := List.getElem?_of_mem hy
      obtain ⟨t, _, ht⟩ := hA2.at hi
      exact (nmOf_raw ht).2
    obtain ⟨ts', pts, hA3⟩ := hA2.perm pm
    have okS : Sys.Ok ⟨d, ts'⟩ := tbsOk_ok hT pts
    have eN1 : ∀ b o, H2 b = some o → (∀ ps, o ≠ .tbl ps) → H3 b = some o := eN
    have tupN : ∀ t l, H2 t = some (.tup l) → H3 t = some (.tup l) := fun t l e => eN1 _ _ e fun ps z => by cases z
    have hA4 : All2 (RawV H3) ys' ts' := hA3.mono fun v t ⟨a, l, us, e, h1, h2, h3⟩ => ⟨a, l, us, e, tupN _ _ h1, eN1 _ _ h2 (fun ps z => by cases z), h3.mono fun u x q => by
      obtain ⟨a2, b2, e2, q1, q2⟩ := q
      exact ⟨a2, b2, e2, tupN _ _ q1, tupN _ _ q2⟩⟩
    have hp3 : H3 p = some (.ins C dx (sf3 d kt)) := eN1 _ _ hp2 fun ps z => by cases z
    have hkt3 : H3 kt = some (.dK []) := eN1 _ _ hkt2 fun ps z => by cases z
    have s4 : Same H3 (upd H3 sl (.lst ys')) := same_upd hsl
    have hsl4 : (upd H3 sl (.lst ys')) sl = some (.lst ys') := upd_same
    have e04 : ExtN H0 (upd H3 sl (.lst ys')) := ((ExtN.of s2).trans eN).trans (ExtN.of s4)
    have T4 := T3.ext s4
    generalize upd H3 sl (.lst ys') = H4 at s4 hsl4 e04 T4 ⊢
    have nsl : sl ≠ kt := (ne_of_none hkt3 hsl).symm
    have hA5 : All2 (RawV H4) ys' ts' := hA4.mono fun v t h => h.mono s4
    have hkt4 : H4 kt = some (.dK []) := s4 _ _ hkt3
    have hp4 : H4 p = some (.ins C dx (sf3 d kt)) := s4 _ _ hp3
    have npk : p ≠ kt := nkt.symm
    have tupX : ∀ {H' : Hp}, SameX kt H4 H' → ∀ t l, H4 t = some (.tup l) → H' t = some (.tup l) := fun sx t l e => sx _ _ (ne_of e hkt4 (by intro z; cases z)) e
    have lstX : ∀ {H' : Hp}, SameX kt H4 H' → ∀ t l, H4 t = some (.lst l) → H' t = some (.lst l) := fun sx t l e => sx _ _ (ne_of e hkt4 (by intro z; cases z)) e
    have ndt : (ts'.map (·.name)).Nodup := okS.nodup
    have lt6 : ts'.length ≤ 6 := okS.t6
    have hyl : ys'.length = ts'.length := hA5.1
    refine ⟨sl, rfl, ⟨_, SqL.of hsl4⟩, for_list (K := K) (a := sl) (xs := ys') (fun i σ H' => (∃ y4 y5 y6 y7, σ = [some (.ref p), some (.int (d : Int)), some (.ref tl), some (.int 97), y4, y5, y6, y7]) ∧ SameX kt H4 H' ∧ ∃ kvs : List (Key × V), H' kt = some (.dK kvs) ∧ kvs.map (·.1) = (ts'.take i).map (fun t => (Sum.inr t.name : Key)) ∧
        ∀ (j : Nat) kv t, kvs[j]? = some kv → ts'[j]? = some t → TabV H' kv.2 t) ⟨⟨none, none, none, none, rfl⟩, fun b o _ e => e, [], hkt4, rfl, fun j kv t e => by simp at e⟩ (fun i σ H' _ ⟨_, sx, _⟩ => SqL.of (sx _ _ nsl hsl4)) ?_ ?_⟩
    · rintro i x σ H5 ex ⟨⟨y4, y5, y6, y7, rfl⟩, sx, kvs, hk5, hkeys, hvals⟩
      obtain ⟨tb, etb, a, l, us, rfl, ha, hl, hus⟩ := hA5.at ex
      have hi := (List.getElem?_eq_some_iff.mp etb).1
      refine ⟨a, _, rfl, SqT.of (tupX sx _ _ ha), rfl, _, _, rfl, _, _, rfl, _, _, rfl, rfl, ?_⟩
      refine ⟨_, rfl, _, rfl, .inl ⟨l, _, rfl, SqL.of (lstX sx _ _ hl), fun tq htq => ?_⟩⟩
      have s6 : Same H5 (upd H5 tq (.tup us)) := same_upd htq
      have ht6 : (upd H5 tq (.tup us)) tq = some (.tup us) := upd_same
      generalize upd H5 tq (.tup us) = H6 at s6 ht6 ⊢
      refine ⟨Nat.le_of_lt (small1000 (by simp)), fun T1 hT1 => ?_⟩
      have s7 : Same H6 (upd H6 T1 (.tup [.int tb.const, .ref tq])) := same_upd hT1
      have hT7 : (upd H6 T1 (.tup [.int tb.const, .ref tq])) T1 = some (.tup [.int tb.const, .ref tq]) := upd_same
      generalize upd H6 T1 (.tup [.int tb.const, .ref tq]) = H7 at s7 hT7 ⊢
      have s57 := s6.trans s7
      have sx7 : SameX kt H4 H7 := SameX.trans sx (Same.x s57 kt)
      have hk7 := s57 _ _ hk5
      have kvl : kvs.length = i := by
        have := congrArg List.length hkeys
        rw [List.length_map, List.length_map, List.length_take] at this
        omega
      refine ⟨_, rfl, p, C, dx, _, _, rfl, sx7 _ _ npk hp4, TX.cl, TX.nt, sf3_t, _, rfl, kt, _, rfl, DPut.k (k := Sum.inr tb.name) hk7 (small1000 (by omega)), ?_⟩
      have hnew : (Sum.inr tb.name : Key) ∉ kvs.map (·.1) := by
        rw [hkeys]
        intro hm
        obtain ⟨t2, ht2, e2⟩ := List.mem_map.mp hm
        have e3 : t2.name = tb.name := Sum.inr.inj e2
        obtain ⟨j, hj⟩ := List.getElem?_of_mem ht2
        have hj2 := (List.getElem?_eq_some_iff.mp hj).1
        rw [List.length_take] at hj2
        rw [List.getElem?_take_of_lt (by omega)] at hj
        have n1 : (ts'.map (·.name))[j]? = some tb.name := by rw [List.getElem?_map, hj, ← e3]; rfl
        have n2 : (ts'.map (·.name))[i]? = some tb.name := by rw [List.getElem?_map, etb]; rfl
        have := nodup_at ndt n1 n2
        omega
      rw [putK_snoc hnew]
      have sx8 : SameX kt H7 (upd H7 kt (.dK (kvs ++ [(Sum.inr tb.name, .ref T1)]))) := sameX_upd
      refine ⟨⟨_, _, _, _, rfl⟩, SameX.trans sx7 sx8, _, upd_same, ?_, fun j kv t ej et => ?_⟩
      · rw [List.map_append, hkeys, List.take_add_one, etb]
        simp
      · have tup8 : ∀ {b : Addr} {l : List V}, H7 b = some (.tup l) → upd H7 kt (.dK (kvs ++ [(Sum.inr tb.name, .ref T1)])) b = some (.tup l) := fun e => sx8 _ _ (ne_of e hk7 (by intro z; cases z)) e
        by_cases hj : j < i
        · rw [List.getElem?_append_left (by omega)] at ej
          obtain ⟨a2, b2, ids, e1, e2, e3, e4⟩ := hvals j kv t ej et
          exact ⟨a2, b2, ids, e1, tup8 (s57 _ _ e2), tup8 (s57 _ _ e3), e4.mono fun u x ⟨a3, b3, q0, q1, q2⟩ => ⟨a3, b3, q0, tup8 (s57 _ _ q1), tup8 (s57 _ _ q2)⟩⟩
        · rw [List.getElem?_append_right (by omega), kvl] at ej
          have hj2 : j = i := by
            have := (List.getElem?_eq_some_iff.mp ej).1
            simp at this
            omega
          subst hj2
          rw [etb] at et
          cases et
          rw [Nat.sub_self] at ej
          cases ej
          exact ⟨T1, tq, us, rfl, tup8 hT7, tup8 (s7 _ _ ht6), hus.mono fun u x ⟨a3, b3, q0, q1, q2⟩ => ⟨a3, b3, q0, tup8 (s57 _ _ (tupX sx _ _ q1)), tup8 (s57 _ _ (tupX sx _ _ q2))⟩⟩
    · rintro σ H5 ⟨⟨y4, y5, y6, y7, rfl⟩, sx, kvs, hk5, hkeys, hvals⟩
      rw [hyl, List.take_length] at hkeys
      have kvl : kvs.length = ts'.length := by
        have := congrArg List.length hkeys
        rw [List.length_map, List.length_map] at this
        exact this
      have hp5 : H5 p = some (.ins C dx (sf3 d kt)) := sx _ _ npk hp4
      have T5 : Tabs T H5 := tabs_x T4 sx hkt4 (fun ps z => by cases z) fun c q z => codeO_dK _ z
      refine ⟨kt, _, hk5, trivial, fun od => ?_⟩
      have sf5 : SameX kt H5 (upd H5 kt (.frz od (.dK kvs))) := sameX_upd
      have hkf : (upd H5 kt (.frz od (.dK kvs))) kt = some (.frz od (.dK kvs)) := upd_same
      generalize upd H5 kt (.frz od (.dK kvs)) = Hf at sf5 hkf ⊢
      have tup5 : ∀ {b : Addr} {l : List V}, H5 b = some (.tup l) → Hf b = some (.tup l) := fun e => sf5 _ _ (ne_of e hk5 (by intro z; cases z)) e
      refine ⟨_, rfl, p, C, dx, _, _, rfl, sf5 _ _ npk hp5, TX.cl, TX.nt, sf3_t, kt, od, kvs, rfl, hkf, fun D hD => ?_⟩
      have nDk : D ≠ kt := (ne_of_none hkf hD).symm
      have few : (ts'.flatMap namedT).length ≤ 12 := okS.few
      have lenT : ∀ i, ((ts'.take i).flatMap namedT).length ≤ 12 := fun i => by
        have e : ts'.flatMap namedT = (ts'.take i).flatMap namedT ++ (ts'.drop i).flatMap namedT := by
          rw [← List.flatMap_append, List.take_append_drop]
        rw [e, List.length_append] at few
        omega
      refine ⟨fun i m H' => i ≤ ts'.length ∧ m = ts'.length - i ∧ Same Hf H' ∧ ∃ acc, H' D = some (.lst acc) ∧ All2 (RdV H') acc ((ts'.take i).flatMap namedT), ⟨_, Nat.zero_le _, rfl, same_upd hD, [], upd_same, All2.nil⟩, ?_⟩
      rintro i m H6 ⟨hi, rfl, s6, acc, hacc, hall⟩
      by_cases hlt : i < ts'.length
      · refine .inr ⟨⟨s6 _ _ hkf, by omega⟩, fun H' => Same Hf H' ∧ ∃ acc, H' D = some (.lst acc) ∧ All2 (RdV H') acc ((ts'.take (i + 1)).flatMap namedT), fun H' ⟨q1, q2⟩ => ⟨ts'.length - (i + 1), by omega, by omega, rfl, q1, q2⟩, ?_⟩
        rintro x H7 ⟨T1, k, v, ekv, rfl, hT1, rfl⟩
        obtain ⟨tb, etb⟩ : ∃ tb, ts'[i]? = some tb := ⟨ts'[i], List.getElem?_eq_getElem hlt⟩
        have hk : k = Sum.inr tb.name := by
          have e1 : (kvs.map (·.1))[i]? = some k := by rw [List.getElem?_map, ekv]; rfl
          rw [hkeys, List.getElem?_map, etb] at e1
          exact (Option.some.inj e1).symm
        subst hk
        obtain ⟨a2, b2, ids, e1, e2, e3, e4⟩ := hvals i _ tb ekv etb
        have ev : v = .ref a2 := e1
        subst ev
        have s7 : Same H6 (upd H6 T1 (.tup [.str tb.name, .ref a2])) := same_upd hT1
        have hT7 : (upd H6 T1 (.tup [.str tb.name, .ref a2])) T1 = some (.tup [.str tb.name, .ref a2]) := upd_same
        have s07 := s6.trans s7
        show gTup K 2 _ _ _ (upd H6 T1 (.tup [.str tb.name, .ref a2])) _
        generalize upd H6 T1 (.tup [.str tb.name, .ref a2]) = H7 at s7 hT7 s07 ⊢
        refine ⟨T1, _, rfl, SqT.of hT7, rfl, _, _, rfl, _, _, rfl, ?_⟩
        refine ⟨a2, _, rfl, SqT.of (s07 _ _ (tup5 e2)), rfl, _, _, rfl, _, _, rfl, rfl, rfl, ?_⟩
        refine ⟨rfl, ?_⟩
        have hrl : ids.length = tb.reads.length := e4.1
        have hr12 : tb.reads.length ≤ 12 := by
          have := lenT (i + 1)
          rw [take_flat etb, List.length_append, namedT_len] at this
          omega
        refine ⟨_, rfl, b2, ids, rfl, .inr (SqT.of (s07 _ _ (tup5 e3))), (ids.length : Int), rfl, by omega, by omega, ?_⟩
        rw [Int.toNat_natCast]
        refine ⟨fun j m H' => j ≤ ids.length ∧ m = ids.length - j ∧ Same Hf H' ∧ ∃ acc, H' D = some (.lst acc) ∧ All2 (RdV H') acc ((ts'.take i).flatMap namedT ++ (namedT tb).take j), ⟨_, Nat.zero_le _, rfl, s07, acc, s7 _ _ hacc, by
          rw [List.take_zero, List.append_nil]
          exact hall.mono fun v r h => h.mono s7⟩, ?_⟩
        rintro j m H8 ⟨hj, rfl, s8, acc8, hacc8, hall8⟩
        by_cases hjl : j < ids.length
        · refine .inr ⟨hjl, fun H' => Same Hf H' ∧ ∃ acc, H' D = some (.lst acc) ∧ All2 (RdV H') acc ((ts'.take i).flatMap namedT ++ (namedT tb).take (j + 1)), fun H' ⟨q1, q2⟩ => ⟨ids.length - (j + 1), by omega, by omega, rfl, q1, q2⟩, ?_⟩
          rintro x Hx ⟨rfl, rfl⟩
          refine ⟨rfl, ?_⟩
          refine ⟨_, rfl, _, rfl, Nat.le_of_lt (small1000 (by simp)), fun T2 hT2 => ?_⟩
          rw [Int.zero_add]
          have s9 : Same Hx (upd Hx T2 (.tup [.str tb.name, .int (j : Int)])) := same_upd hT2
          have hT9 : (upd Hx T2 (.tup [.str tb.name, .int (j : Int)])) T2 = some (.tup [.str tb.name, .int (j : Int)]) := upd_same
          generalize upd Hx T2 (.tup [.str tb.name, .int (j : Int)]) = H9 at s9 hT9 ⊢
          have hacc9 := s9 _ _ hacc8
          refine ⟨acc8, hacc9, ?_, same_put (s8.trans s9) hD, _, upd_same, ?_⟩
          · rw [hall8.1, List.length_append, List.length_take, namedT_len]
            have := lenT i
            exact small1000 (by omega)
          · have tup9 : ∀ {b : Addr} {l : List V}, H9 b = some (.tup l) → upd H9 D (.lst (acc8 ++ [.ref T2])) b = some (.tup l) := fun e => by
              rw [upd_ne (ne_of e hacc9 (by intro z; cases z))]
              exact e
            rw [namedT_take (by omega), ← List.append_assoc]
            exact All2.snoc (hall8.mono fun v r ⟨t, q0, q1⟩ => ⟨t, q0, tup9 (s9 _ _ q1)⟩) ⟨T2, rfl, tup9 hT9⟩
        · have ej : j = ids.length := by omega
          subst ej
          refine .inl ⟨Nat.le_refl _, s8, acc8, hacc8, ?_⟩
          rw [take_flat etb]
          have : (namedT tb).take ids.length = namedT tb := List.take_of_length_le (by rw [namedT_len]; omega)
          rw [this] at hall8
          exact hall8
      · have ei : i = ts'.length := by omega
        subst ei
        rw [List.take_length] at hall
        refine .inl ⟨⟨s6 _ _ hkf, by omega⟩, s6 _ _ hkf, ?_⟩
        have s10 : SameX kt H5 (upd H6 kt (.dK kvs)) := fun b o n e => by
          rw [upd_ne n]
          exact s6 _ _ (sf5 _ _ n e)
        have hk10 : (upd H6 kt (.dK kvs)) kt = some (.dK kvs) := upd_same
        have hD10 : (upd H6 kt (.dK kvs)) D = some (.lst acc) := by
          rw [upd_ne nDk]
          exact hacc
        have hall10 : All2 (RdV (upd H6 kt (.dK kvs))) acc (ts'.flatMap namedT) := hall.mono fun v r ⟨t, q0, q1⟩ => ⟨t, q0, by
          rw [upd_ne (ne_of q1 (s6 _ _ hkf) (by intro z; cases z))]
          exact q1⟩
        generalize upd H6 kt (.dK kvs) = H10 at s10 hk10 hD10 hall10 ⊢
        refine .inl ⟨D, _, rfl, SqL.of hD10, fun nr hnr => ?_⟩
        have s11 : Same H10 (upd H10 nr (.tup acc)) := same_upd hnr
        have hnr11 : (upd H10 nr (.tup acc)) nr = some (.tup acc) := upd_same
        generalize upd H10 nr (.tup acc) = H11 at s11 hnr11 ⊢
        have sx11 : SameX kt H5 H11 := SameX.trans s10 (Same.x s11 kt)
        have hp11 := sx11 _ _ npk hp5
        have hk11 := s11 _ _ hk10
        refine ⟨_, rfl, p, C, dx, _, rfl, hp11, TX.cl, TX.nn, (by show 3 < 1000; decide), ?_⟩
        have ef : putF "named_reads" (.ref nr) (sf3 d kt) = sf d kt nr := by kernel_rfl
        rw [ef]
        have T11 : Tabs T H11 := tabs_x T5 sx11 hk5 (fun ps z => by cases z) fun c q z => codeO_dK _ z
        have sx12 : SameX p H11 (upd H11 p (.ins C dx (sf d kt nr))) := sameX_upd
        have T12 := tabs_x T11 sx12 hp11 (fun ps z => by cases z) fun c q z => codeO_ins _ z
        have tup12 : ∀ {b : Addr} {l : List V}, H11 b = some (.tup l) → upd H11 p (.ins C dx (sf d kt nr)) b = some (.tup l) := fun e => sx12 _ _ (ne_of e hp11 (by intro z; cases z)) e
        have tup11 : ∀ {b : Addr} {l : List V}, H5 b = some (.tup l) → H11 b = some (.tup l) := fun e => sx11 _ _ (ne_of e hk5 (by intro z; cases z)) e
        refine q _ ⟨d, ts'⟩ (fun b o e n => ?_) T12 rfl pts ⟨dx, kt, nr, kvs, acc, upd_same, sx12 _ _ nkt hk11, hkeys, fun i kv t a b => ?_, tup12 hnr11, hall10.mono fun v r ⟨t, q0, q1⟩ => ⟨t, q0, tup12 (s11 _ _ q1)⟩⟩
        · have n1 : b ≠ kt := ne_of_none e hkt0
          exact sx12 _ _ (np' e) (sx11 _ _ n1 (sx _ _ n1 (e04 _ _ e n)))
        · obtain ⟨a2, b2, ids, e1, e2, e3, e4⟩ := hvals i kv t a b
          exact ⟨a2, b2, ids, e1, tup12 (tup11 e2), tup12 (tup11 e3), e4.mono fun u x ⟨a3, b3, q0, q1, q2⟩ => ⟨a3, b3, q0, tup12 (tup11 q1), tup12 (tup11 q2)⟩⟩
end
end Frd
set_option Elab.async false
set_option linter.all false
set_option maxRecDepth 100000
set_option maxHeartbeats 4000000
set_option pp.maxSteps 1000
/-! What _law_tables makes: names, lists that are held. -/
namespace Frd
open PySem PySem.Spec PyProof.Rows L2
def signs : List Str := ["b", "a", "ab", "m"]
def startOf (k : Nat) : Str := cutS "readin" none (some (k : Int))
def tiOf (k m : Nat) : List Str := (signs.take m).map fun s => startOf k ++ s
def nameB (n : Str) : Bool := decide (1 ≤ n.cps.size) && decide (n.cps.size ≤ 8) && n.cps.toList.all fun c => letters.cps.toList.contains c
theorem nameOk_of {n : Str} (h : nameB n = true) : NameOk n := by
  unfold nameB at h
  simp only [Bool.and_eq_true, decide_eq_true_eq, List.all_eq_true, List.contains_iff_mem] at h
  exact ⟨h.1.1, h.1.2, h.2⟩
theorem ti_all : ∀ k ∈ List.range 7, ∀ m ∈ List.range 5, (tiOf k m).Nodup ∧ (tiOf k m).length = m ∧ (tiOf k m).all nameB = true ∧ signs.all (fun s => decide ((startOf k).length + s.length ≤ 10)) = true := by decide +kernel
theorem ti_ok {k m : Nat} (hk : k ≤ 6) (hm : m ≤ 4) : (tiOf k m).Nodup ∧ (tiOf k m).length = m ∧ (∀ t ∈ tiOf k m, NameOk t) ∧ ∀ s ∈ signs, (startOf k).length + s.length ≤ 10 := by
  obtain ⟨h1, h2, h3, h4⟩ := ti_all k (List.mem_range.mpr (by omega)) m (List.mem_range.mpr (by omega))
  exact ⟨h1, h2, fun t ht => nameOk_of (List.all_eq_true.mp h3 t ht), fun s hs => of_decide_eq_true (List.all_eq_true.mp h4 s hs)⟩
/-- all but what stands in bad stays -/
def FrL (bad : List Addr) (H H' : Hp) : Prop := ∀ b o, b ∉ bad → H b = some o → H' b = some o
theorem FrL.of {bad : List Addr} {H H' : Hp} (s : Same H H') : FrL bad H H' := fun b o _ e => s b o e
theorem FrL.ofX {bad : List Addr} {p : Addr} {H H' : Hp} (s : SameX p H H') (h : p ∈ bad) : FrL bad H H' := fun b o n e => s b o (fun z => n (by rw [z]; exact h)) e
theorem FrL.trans {bad : List Addr} {H H1 H2 : Hp} (a : FrL bad H H1) (b : FrL bad H1 H2) : FrL bad H H2 := fun c o n e => b c o n (a c o n e)
/-- the lists that are held: hs, one a title -/
structure HeldAt (d : Nat) (ti : List Str) (H : Hp) (hs : List Addr) (rds : List (List Read)) : Prop where
  len : rds.length = hs.length
  nd : hs.Nodup
  at_ : ∀ (j : Nat) (a : Addr) (rd : List Read), hs[j]? = some a → rds[j]? = some rd → ∃ us, H a = some (.lst us) ∧ All2 (ReadV H) us rd
  ok : ∀ rd ∈ rds, ∀ x ∈ rd, VecOk d x.2.1 ∧ x.2.2 ≠ 0 ∧ x.1 ∈ ti
theorem readV_keep {H H' : Hp} {v : V} {x : Read} (h : ReadV H v x) (s : ∀ t l, H t = some (.tup l) → H' t = some (.tup l)) : ReadV H' v x := by
  obtain ⟨a, b, e, h1, h2⟩ := h
  exact ⟨a, b, e, s _ _ h1, s _ _ h2⟩
theorem FrL.tup {bad : List Addr} {H H' : Hp} (s : FrL bad H H') (hb : ∀ b ∈ bad, ∃ l, H b = some (.lst l)) : ∀ t l, H t = some (.tup l) → H' t = some (.tup l) := fun t l e =>
  s t _ (fun hm => by
    obtain ⟨l2, e2⟩ := hb t hm
    rw [e] at e2
    cases e2) e
theorem HeldAt.keep {d : Nat} {ti : List Str} {H H' : Hp} {hs : List Addr} {rds : List (List Read)} {bad : List Addr} (h : HeldAt d ti H hs rds) (s : FrL bad H H') (hb : ∀ b ∈ bad, ∃ l, H b = some (.lst l)) (hn : ∀ a ∈ hs, a ∉ bad) : HeldAt d ti H' hs rds :=
  ⟨h.len, h.nd, fun j a rd ea er => by
    obtain ⟨us, h1, h2⟩ := h.at_ j a rd ea er
    exact ⟨us, s _ _ (hn a (List.mem_of_getElem? ea)) h1, h2.mono fun v x q => readV_keep q (s.tup hb)⟩, h.ok⟩
theorem sum_set : ∀ {l : List (List Read)} {i : Nat} {rd : List Read} {x : Read}, l[i]? = some rd → ((l.set i (rd ++ [x])).map List.length).sum = (l.map List.length).sum + 1
  | [], _, _, _, h => by simp at h
  | a :: l, 0, rd, x, h => by
    cases h
    simp
    omega
  | a :: l, i + 1, rd, x, h => by
    have ih := sum_set (l := l) (i := i) (rd := rd) (x := x) h
    simp only [List.set_cons_succ, List.map_cons, List.sum_cons, ih]
    omega
theorem HeldAt.push {d : Nat} {ti : List Str} {H : Hp} {hs : List Addr} {rds : List (List Read)} {i : Nat} {a : Addr} {rd : List Read} {us : List V} {v : V} {x : Read} (h : HeldAt d ti H hs rds) (ea : hs[i]? = some a) (er : rds[i]? = some rd) (hu : H a = some (.lst us)) (hv : ReadV H v x)
    (ok : VecOk d x.2.1 ∧ x.2.2 ≠ 0 ∧ x.1 ∈ ti) : HeldAt d ti (upd H a (.lst (us ++ [v]))) hs (rds.set i (rd ++ [x])) := by
  have tup : ∀ t l, H t = some (.tup l) → upd H a (.lst (us ++ [v])) t = some (.tup l) := fun t l e => by
    rw [upd_ne (fun z => by rw [z, hu] at e; cases e)]
    exact e
  refine ⟨by rw [List.length_set]; exact h.len, h.nd, fun j b rd' eb er' => ?_, fun rd' hm y hy => ?_⟩
  · by_cases q : j = i
    · subst q
      rw [ea] at eb
      cases eb
      have hi := (List.getElem?_eq_some_iff.mp er).1
      rw [List.getElem?_set_self hi] at er'
      cases er'
      obtain ⟨us', e1, e2⟩ := h.at_ j a rd ea er
      rw [hu] at e1
      cases e1
      exact ⟨_, upd_same, All2.snoc (e2.mono fun v x q => readV_keep q tup) (readV_keep hv tup)⟩
    · rw [List.getElem?_set_ne (fun z => q z.symm)] at er'
      obtain ⟨us', e1, e2⟩ := h.at_ j b rd' eb er'
      have nb : b ≠ a := fun z => by
        subst z
        have h1 := List.getElem?_eq_some_iff.mp ea
        have h2 := List.getElem?_eq_some_iff.mp eb
        exact q ((List.getElem_inj h.nd).mp (h2.2.trans h1.2.symm))
      exact ⟨us', by rw [upd_ne nb]; exact e1, e2.mono fun v x q => readV_keep q tup⟩
  · rcases List.mem_or_eq_of_mem_set hm with hm | rfl
    · exact h.ok rd' hm y hy
    · rcases List.mem_append.mp hy with hy | hy
      · exact h.ok rd (List.mem_of_getElem? er) y hy
      · rw [List.mem_singleton.mp hy]
        exact ok
/-- a raw table whose list is not the pool -/
def RawX (pl : Addr) (H : Hp) (v : V) (t : Tb) : Prop := ∃ a l us, v = .ref a ∧ H a = some (.tup [.str t.name, .int t.const, .ref l]) ∧ H l = some (.lst us) ∧ l ≠ pl ∧ All2 (ReadV H) us t.reads
theorem RawX.raw {pl : Addr} {H : Hp} {v : V} {t : Tb} (h : RawX pl H v t) : RawV H v t := by
  obtain ⟨a, l, us, e, h1, h2, _, h3⟩ := h
  exact ⟨a, l, us, e, h1, h2, h3⟩
theorem RawX.keep {pl : Addr} {H H' : Hp} {v : V} {t : Tb} {n : Nat} (h : RawX pl H v t) (s : SameX pl H H') (hp : PoolAt H pl n) : RawX pl H' v t := by
  obtain ⟨a, l, us, e, h1, h2, h4, h3⟩ := h
  have tup : ∀ t l, H t = some (.tup l) → H' t = some (.tup l) := fun t l e => s _ _ (hp.net e) e
  exact ⟨a, l, us, e, tup _ _ h1, s _ _ h4 h2, h4, h3.mono fun v x q => readV_keep q tup⟩
theorem sx_free {pl a : Addr} {H H' : Hp} (s : SameX pl H H') (n : a ≠ pl) (h : H' a = none) : H a = none := by
  cases e : H a with
  | none => rfl
  | some o =>
    rw [s _ _ n e] at h
    cases h
theorem sx_put {pl p : Addr} {o : HO} {H H' : Hp} (s : SameX pl H H') (h : H p = none) : SameX pl H (upd H' p o) := fun b u n e => by
  rw [upd_ne (ne_of_none e h)]
  exact s b u n e
theorem len_le_sum : ∀ {l : List (List Read)} {x : List Read}, x ∈ l → x.length ≤ (l.map List.length).sum
  | a :: l, x, h => by
    rw [List.map_cons, List.sum_cons]
    rcases List.mem_cons.mp h with rfl | h
    · omega
    · have := len_le_sum h
      omega
theorem fac_at {k : Int} (a : 0 ≤ k) (b : k < 4) : ∃ v : Int, atI [V.int 1, V.int 2, V.int (-1), V.int (-9)] k = some (.int v) ∧ v ≠ 0 := by
  have : k = 0 ∨ k = 1 ∨ k = 2 ∨ k = 3 := by omega
  rcases this with rfl | rfl | rfl | rfl
  · exact ⟨_, atI_nat (j := 0) rfl, by decide⟩
  · exact ⟨_, atI_nat (j := 1) rfl, by decide⟩
  · exact ⟨_, atI_nat (j := 2) rfl, by decide⟩
  · exact ⟨_, atI_nat (j := 3) rfl, by decide⟩
theorem two_at {a b k : Int} (h0 : 0 ≤ k) (h1 : k < 2) : ∃ v : Int, atI [V.int a, V.int b] k = some (.int v) ∧ (v = a ∨ v = b) := by
  have : k = 0 ∨ k = 1 := by omega
  rcases this with rfl | rfl
  · exact ⟨_, atI_nat (j := 0) rfl, .inl rfl⟩
  · exact ⟨_, atI_nat (j := 1) rfl, .inr rfl⟩
/-- a raw table whose list is one of hs -/
def RawH (hs : List Addr) (H : Hp) (v : V) (t : Tb) : Prop := ∃ a l us, v = .ref a ∧ H a = some (.tup [.str t.name, .int t.const, .ref l]) ∧ H l = some (.lst us) ∧ l ∈ hs ∧ All2 (ReadV H) us t.reads
theorem RawH.go {hs : List Addr} {H H' : Hp} {v : V} {t : Tb} (h : RawH hs H v t) (tup : ∀ t l, H t = some (.tup l) → H' t = some (.tup l)) (lst : ∀ a ∈ hs, ∀ l, H a = some (.lst l) → H' a = some (.lst l)) : RawH hs H' v t := by
  obtain ⟨a, l, us, e, h1, h2, h4, h3⟩ := h
  exact ⟨a, l, us, e, tup _ _ h1, lst l h4 _ h2, h4, h3.mono fun v x q => readV_keep q tup⟩
theorem tbs_of {d : Nat} {tt : List Str} {rds : List (List Read)} {ts : List Tb} (hn : ts.map (·.name) = tt) (hr : ts.map (·.reads) = rds) (d1 : 1 ≤ d) (d3 : d ≤ 3) (m1 : 1 ≤ tt.length) (m4 : tt.length ≤ 4) (nd : tt.Nodup) (tok : ∀ t ∈ tt, NameOk t) (few : (rds.map List.length).sum ≤ 7)
    (ok : ∀ rd ∈ rds, ∀ x ∈ rd, VecOk d x.2.1 ∧ x.2.2 ≠ 0 ∧ x.1 ∈ tt) : TbsOk d ts where
  d1 := d1
  d3 := d3
  n1 := by
    have := congrArg List.length hn
    rw [List.length_map] at this
    omega
  n6 := by
    have := congrArg List.length hn
    rw [List.length_map] at this
    omega
  nodup := by rw [hn]; exact nd
  names := fun t ht => tok _ (by rw [← hn]; exact List.mem_map_of_mem ht)
  few := by
    have e : ts.map (·.reads.length) = rds.map List.length := by
      rw [← hr, List.map_map]
      rfl
    rw [e]
    omega
  reads := fun t ht x hx => by
    obtain ⟨h1, h2, h3⟩ := ok t.reads (by rw [← hr]; exact List.mem_map_of_mem ht) x hx
    exact ⟨⟨tok _ h3, h1.1, h2⟩, h1.2⟩
  tgt := fun t ht x hx => by
    rw [hn]
    exact (ok t.reads (by rw [← hr]; exact List.mem_map_of_mem ht) x hx).2.2
end Frd
set_option Elab.async false
set_option linter.all false
set_option maxRecDepth 100000
set_option maxHeartbeats 4000000
set_option pp.maxSteps 1000
/-! _law_tables. -/
namespace Frd
open PySem PySem.Spec PyProof.Rows L2
section
variable {P : Program} {w : World} {K : PySem.W.Frag} {mg : Str → Option Value} {base : Heap}
theorem scTab : FnScope ["_law_pool_here", "_law_axes", "_law_most", "_law_start", "_law_titles", "_law_held", "_law_rows_here", "_law_turn", "_law_spot", "_law_place", "_law_row", "_law_sign", "_law_title", "_law_some"] ["_law_pool_here", "_law_axes", "_law_most"] (defScope (topS 47)) := ⟨rfl, rfl, rfl, by decide +kernel, rfl, by decide +kernel, by decide +kernel⟩
def spTab : Sp := fun vs H Q _ => ∃ (pl : Addr) (d N : Nat), vs = [.ref pl, .int (d : Int), .int 7] ∧ PoolAt H pl N ∧ N ≤ 9000 ∧ 1 ≤ d ∧ d ≤ 3 ∧
  ∀ H' tl xs ts, SameX pl H H' → PoolAt H' pl (N + 200) → H' tl = some (.lst xs) → tl ≠ pl → All2 (RawX pl H') xs ts → TbsOk d ts → Q (.ref tl) H'
theorem ok_tab {f : Addr} {fd : FuncData} (F : Fun K "_law_tables" "_law_tables" (topS 47) f fd) (mr : mg "range" = none) (mi : mg "int" = none) (mlen : mg "len" = none) (mzip : mg "zip" = none) (D1 : Dn P w K mg base "_law_draw" 1 ["_law_pool_here", "_law_many"] spDr) (D2 : Dn P w K mg base "_law_vector" 2 ["_law_pool_here", "_law_axes", "_law_rows_here"] spVec) :
    FnOk P w K mg base CX0 3 f fd ["_law_pool_here", "_law_axes", "_law_most"] spTab := by
  refine F.ok scTab (fun vs H Q E h => ?_) (fun cdv A outer s H vs Q E hr h => ?_)
  · obtain ⟨pl, d, N, rfl, _⟩ := h
    rfl
  · obtain ⟨pl, d, N, rfl, hp, hN, d1, d3, q⟩ := h
    have nd := scTab.nd
    have hr1 : Room 1 (A.deeper (envOfC "_law_tables" (defScope (topS 47)) s.heap.objs.size f cdv)) := hr.mono (by decide)
    refine ⟨_, pss_cons (ps_set (i := 3) nd rfl (.inr rfl) (pe_slice sl_str pe_str po_none (po_some (pe_op op_mulW (pe_def D1 hr1 (by rfl) (pa_cons (pv 0) (pa_cons pe_int pa_nil))) (pe_callTy call_int1 (by rfl) mi (by decide +kernel) (pa_cons (pe_cmpR op_eq (pe_def D1 hr1 (by rfl) (pa_cons (pv 0) (pa_cons pe_int pa_nil))) pe_int (nomark _)) pa_nil))))))
      (pss_cons (ps_setLc (i := 4) (own := [("_law_sign", 11)]) (g := gName 11) (tt := tYes) (by rfl) nd rfl rfl (sw_true rfl rfl rfl (by decide +kernel)) (pi_list (pe_slice sl_list (pe_lst (pa_cons pe_str (pa_cons pe_str (pa_cons pe_str (pa_cons pe_str pa_nil))))) po_none (po_some (pe_op op_add pe_int (pe_def D1 hr1 (by rfl) (pa_cons (pv 0) (pa_cons pe_int pa_nil)))))))
          (blkOk_by (N := ["_law_pool_here", "_law_axes", "_law_most", "_law_start", "_law_titles", "_law_held", "_law_rows_here", "_law_turn", "_law_spot", "_law_place", "_law_row", "_law_sign", "_law_title", "_law_some"]) (sc := defScope (topS 47)) (by decide +kernel))
          (fun _ _ _ _ _ => pg_name (i := 11) nd rfl (Or.inl rfl)) (fun _ _ _ _ _ => pts_nil) (fun _ _ _ _ _ => pe_op op_add_str (pv 3) (pv 11)))
      (pss_cons (ps_par (i := 5) (j := 6) rfl nd rfl rfl (by decide) rfl rfl (pa_cons (pe_lc (own := [("_law_title", 12)]) (g := gName 12) (tt := tYes) rfl nd (pi_list (pv 4))
          (blkOk_by (N := ["_law_pool_here", "_law_axes", "_law_most", "_law_start", "_law_titles", "_law_held", "_law_rows_here", "_law_turn", "_law_spot", "_law_place", "_law_row", "_law_sign", "_law_title", "_law_some"]) (sc := defScope (topS 47)) (by decide +kernel))
          (fun _ _ _ _ _ => pg_name (i := 12) nd rfl (Or.inl rfl)) (fun _ _ _ _ _ => pts_nil) (fun _ _ _ _ _ => pe_lst pa_nil)) (pa_cons (pe_lst pa_nil) pa_nil)) (by rfl))
      (pss_cons (ps_for PassesOwn.never rfl (pi_range1 rfl mr (pa_cons (pe_def D1 hr1 (by rfl) (pa_cons (pv 0) (pa_cons (pe_op op_add (pv 2) pe_int) pa_nil))) pa_nil)) (pg_name (i := 7) nd rfl (.inl rfl))
        (pss_cons (ps_set (i := 8) nd rfl (.inl rfl) (pe_def D1 hr1 (by rfl) (pa_cons (pv 0) (pa_cons (pe_callB call_len_seq (by rfl) mlen PySem.boot_len (pa_cons (pv 4) pa_nil)) pa_nil))))
        (pss_cons (ps_set (i := 9) nd rfl (.inl rfl) (pe_ix ix_list (pe_lst (pa_cons (pv 8) (pa_cons (pe_def D1 hr1 (by rfl) (pa_cons (pv 0) (pa_cons (pe_callB call_len_seq (by rfl) mlen PySem.boot_len (pa_cons (pv 4) pa_nil)) pa_nil))) pa_nil))) (pe_def D1 hr1 (by rfl) (pa_cons (pv 0) (pa_cons pe_int pa_nil))) (fun _ _ => rfl)))
        (pss_cons (ps_set (i := 10) nd rfl (.inl rfl) (pe_tup (pa_cons (pe_ix ix_list (pv 4) (pv 8) (fun _ _ => rfl)) (pa_cons (pe_callB call_len_seq (by rfl) mlen PySem.boot_len (pa_cons (pe_ix ix_list (pv 5) (pv 8) (fun _ _ => rfl)) pa_nil)) (pa_cons (pe_ix ix_list (pv 4) (pv 9) (fun _ _ => rfl)) (pa_cons (pe_def D2 hr (by rfl) (pa_cons (pv 0) (pa_cons (pv 1) (pa_cons (pv 6) pa_nil)))) pa_nil))))))
        (pss_cons (ps_expr (pe_bm PySem.F.plainAttrs_list PySem.F.slot_list_append PySem.F.type_list_append mt_append (pe_ix ix_list (pv 5) (pv 8) (fun _ _ => rfl)) (pa_cons (pe_tup (pa_cons (pe_ix ix_tup (pv 10) pe_int (fun _ _ => rfl)) (pa_cons (pe_ix ix_tup (pv 10) pe_int (fun _ _ => rfl)) (pa_cons (pe_ix ix_list (pe_lst (pa_cons pe_int (pa_cons pe_int (pa_cons (pe_un un_neg pe_int) (pa_cons (pe_un un_neg pe_int) pa_nil))))) (pe_def D1 hr1 (by rfl) (pa_cons (pv 0) (pa_cons pe_int pa_nil))) (fun _ _ => rfl)) pa_nil)))) pa_nil)))
        (pss_one (ps_expr (pe_bm PySem.F.plainAttrs_list PySem.F.slot_list_append PySem.F.type_list_append mt_append (pv 6) (pa_cons (pv 10) pa_nil)))))))))
      (pss_one (ps_ret (pe_lc (own := [("_law_title", 12), ("_law_some", 13)]) (g := gTup K 2 (gCons (gName 12) (gCons (gName 13) gNil))) (tt := tYes) rfl nd (pi_zip (by rfl) mzip (pa_cons (pv 4) (pa_cons (pv 5) pa_nil)))
          (blkOk_by (N := ["_law_pool_here", "_law_axes", "_law_most", "_law_start", "_law_titles", "_law_held", "_law_rows_here", "_law_turn", "_law_spot", "_law_place", "_law_row", "_law_sign", "_law_title", "_law_some"]) (sc := defScope (topS 47)) (by decide +kernel))
          (fun _ _ _ _ _ => pg_tup rfl (pgs_cons (pg_name (i := 12) nd rfl (Or.inl rfl)) (pgs_cons (pg_name (i := 13) nd rfl (Or.inl rfl)) pgs_nil))) (fun _ _ _ _ _ => pts_nil) (fun _ _ _ _ _ => pe_tup (pa_cons (pv 12) (pa_cons (pe_op op_sub (pe_def D1 hr1 (by rfl) (pa_cons (pv 0) (pa_cons pe_int pa_nil))) pe_int) (pa_cons (pv 13) pa_nil)))))))))), ?_⟩
    -- the start
    refine ⟨_, rfl, pl, 7, N, rfl, hp, by omega, by decide, by decide, fun H1 k1 s1 p1 a1 b1 => ?_⟩
    refine ⟨_, rfl, pl, 3, _, rfl, p1, by omega, by decide, by decide, fun H2 k2 s2 p2 a2 b2 => ?_⟩
    refine ⟨rfl, .inr ⟨_, rfl, ?_⟩⟩
    obtain ⟨ks, hks, hk6⟩ : ∃ ks : Nat, k1 * (if decide (V.int k2 = V.int 0) = true then 1 else 0) = (ks : Int) ∧ ks ≤ 6 := by
      by_cases q : V.int k2 = V.int 0
      · rw [decide_eq_true q, if_pos rfl, Int.mul_one]
        exact ⟨k1.toNat, by omega, by omega⟩
      · rw [decide_eq_false q, if_neg (by decide), Int.mul_zero]
        exact ⟨0, rfl, by omega⟩
    refine ⟨_, _, rfl, rfl, ?_, ?_⟩
    · refine wide_mul (a := 64) (b := 64) ?_ ?_ (by decide) (by decide) (by decide)
      · omega
      · split <;> decide
    refine ⟨(ks : Int), congrArg V.int hks, _, rfl, by decide, ?_⟩
    have p2' : PoolAt H2 pl (N + 2) := p2
    have sx2 : SameX pl H H2 := SameX.trans s1 s2
    -- the signs
    refine ⟨Nat.le_of_lt (small1000 (by simp)), fun l hl => ?_⟩
    have s3 : Same H2 (upd H2 l (.lst [.str "b", .str "a", .str "ab", .str "m"])) := same_upd hl
    have hl3 : (upd H2 l (.lst [.str "b", .str "a", .str "ab", .str "m"])) l = some (.lst [.str "b", .str "a", .str "ab", .str "m"]) := upd_same
    generalize upd H2 l (.lst [.str "b", .str "a", .str "ab", .str "m"]) = H3 at s3 hl3 ⊢
    have nl : l ≠ pl := p2.ne hl
    have p3 := p2'.mono s3
    refine ⟨_, rfl, pl, 4, _, rfl, p3, by omega, by decide, by decide, fun H4 k4 s4 p4 a4 b4 => ⟨_, _, rfl, rfl, ?_⟩⟩
    obtain ⟨m, hm⟩ : ∃ m : Nat, 1 + k4 = (m : Int) := ⟨(1 + k4).toNat, by omega⟩
    refine ⟨(m : Int), congrArg V.int hm, l, _, rfl, SqL.of (s4 _ _ nl hl3), fun l2 hl2 => ?_⟩
    have m1 : 1 ≤ m := by omega
    have m4 : m ≤ 4 := by omega
    have ecut : cutV [V.str "b", .str "a", .str "ab", .str "m"] none (some (m : Int)) = (signs.take m).map V.str := by
      rw [cut_front _ (by simpa using m4)]
      show (signs.map V.str).take m = _
      rw [List.map_take]
    rw [ecut]
    have s5 : Same H4 (upd H4 l2 (.lst ((signs.take m).map V.str))) := same_upd hl2
    have hl5 : (upd H4 l2 (.lst ((signs.take m).map V.str))) l2 = some (.lst ((signs.take m).map V.str)) := upd_same
    generalize upd H4 l2 (.lst ((signs.take m).map V.str)) = H5 at s5 hl5 ⊢
    have sx5 : SameX pl H H5 := SameX.trans (SameX.trans (SameX.trans sx2 (Same.x s3 pl)) s4) (Same.x s5 pl)
    have p5 := p4.mono s5
    obtain ⟨tnd, tlen, tok, tsz⟩ := ti_ok hk6 m4
    have slen : (signs.take m).length = m := by
      have := tlen
      unfold tiOf at this
      rw [List.length_map] at this
      exact this
    refine ⟨l2, rfl, ⟨_, SqL.of hl5⟩, fun ti hti => ?_⟩
    refine lc_map (walk_list (K := K) (a := l2) (xs := (signs.take m).map V.str)) (fun i _ y => ∀ sg, (signs.take m)[i]? = some sg → y = .str (startOf ks ++ sg)) (fun _ _ _ _ _ _ _ h => h) (small1000 (by rw [List.length_map]; omega)) hti (fun H' s' => SqL.of (s' _ _ hl5)) (fun j H x H' _ => y_at j H x H') ?_ ?_ gm_name
    · rintro j x H6o H6 acc Z hj s6 hk ⟨rfl, ex⟩ hZ
      rw [List.length_map] at hj
      obtain ⟨sg, esg⟩ : ∃ sg, (signs.take m)[j]? = some sg := ⟨(signs.take m)[j], List.getElem?_eq_getElem hj⟩
      have ex' : x = .str sg := by
        rw [List.getElem?_map, esg] at ex
        exact (Option.some.inj ex).symm
      subst ex'
      refine ⟨rfl, ?_⟩
      have hz := tsz sg (List.mem_of_mem_take (List.mem_of_getElem? esg))
      refine ⟨_, rfl, _, rfl, _, _, rfl, rfl, Nat.le_of_lt (small1000 (by
        have : (startOf ks).length + sg.length ≤ 1000 := by omega
        exact this)), hZ _ _ (Same.refl _) fun sg2 e2 => ?_⟩
      rw [Option.some.inj (e2.symm.trans esg)]
      rfl
    intro H6 ys s6 hy hyl hyv
    rw [List.length_map] at hyl
    have ey : ys = (tiOf ks m).map V.str := by
      unfold tiOf
      rw [List.map_map]
      exact map_of hyl hyv
    subst ey
    generalize htt : tiOf ks m = tt at tnd tlen tok hy ⊢
    have sx6 : SameX pl H H6 := SameX.trans sx5 (Same.x s6 pl)
    have p6 := p5.mono s6
    have nti : ti ≠ pl := p5.ne hti
    have ttm : tt.length = m := tlen
    refine ⟨_, rfl, ti, rfl, ⟨_, SqL.of hy⟩, fun he hhe => ?_⟩
    refine lc_it (walk_list (K := K) (a := ti) (xs := tt.map V.str)) (fun i H' => Same H6 H' ∧ ∃ hs : List Addr, H' he = some (.lst (hs.map V.ref)) ∧ hs.length = i ∧ hs.Nodup ∧ ∀ a ∈ hs, H' a = some (.lst []) ∧ a ≠ he ∧ H6 a = none) ⟨same_upd hhe, [], upd_same, rfl, List.nodup_nil, fun a h => nomatch h⟩ (fun i H' _ ⟨s', _⟩ => SqL.of (s' _ _ hy)) ?_ ?_
    · rintro j x H7o H7 hj ⟨s7, hs, hhe7, hhl, hhn, hha⟩ ⟨rfl, ex⟩
      refine ⟨rfl, Nat.zero_le _, fun a ha => ?_⟩
      have nah : he ≠ a := ne_of_none hhe7 ha
      have s8 : Same H7 (upd H7 a (.lst [])) := same_upd ha
      have ha8 : (upd H7 a (.lst [])) a = some (.lst []) := upd_same
      generalize upd H7 a (.lst []) = H8 at s8 ha8 ⊢
      have nin : a ∉ hs := fun hm => by
        have := (hha a hm).1
        rw [ha] at this
        cases this
      refine ⟨_, s8 _ _ hhe7, by rw [List.length_map, hhl]; rw [List.length_map] at hj; exact small1000 (by omega), same_put (s7.trans s8) hhe, hs ++ [a], by rw [upd_same, List.map_append]; rfl, by rw [List.length_append, hhl]; rfl, ?_, fun b hb => ?_⟩
      · rw [List.nodup_append]
        exact ⟨hhn, by simp, fun x hx y hy e => nin (by rw [List.mem_singleton.mp hy] at e; rw [← e]; exact hx)⟩
      · rcases List.mem_append.mp hb with hb | hb
        · obtain ⟨q1, q2, q3⟩ := hha b hb
          exact ⟨by rw [upd_ne q2]; exact s8 _ _ q1, q2, q3⟩
        · rw [List.mem_singleton.mp hb]
          exact ⟨by rw [upd_ne nah.symm]; exact ha8, nah.symm, s7.free ha⟩
    rintro H7 ⟨s7, hs, hhe7, hhl, hhn, hha⟩
    rw [List.length_map, ttm] at hhl
    refine ⟨Nat.zero_le _, fun ro hro => ?_⟩
    have s8 : Same H7 (upd H7 ro (.lst [])) := same_upd hro
    have hro8 : (upd H7 ro (.lst [])) ro = some (.lst []) := upd_same
    have nroh : he ≠ ro := ne_of_none hhe7 hro
    have nrohs : ro ∉ hs := fun hm => by
      have := (hha ro hm).1
      rw [hro] at this
      cases this
    have p7 := p6.mono s7
    have nro : ro ≠ pl := p7.ne hro
    have nrti : ti ≠ ro := ne_of_none (s7 _ _ hy) hro
    have nhe : he ≠ pl := p6.ne hhe
    have nheti : ti ≠ he := ne_of_none hy hhe
    have nhpl : ∀ a ∈ hs, a ≠ pl := fun a ha => p6.ne (hha a ha).2.2
    have nhti : ∀ a ∈ hs, a ≠ ti := fun a ha z => by
      have := (hha a ha).2.2
      rw [z, hy] at this
      cases this
    have nhhe : ∀ a ∈ hs, a ≠ he := fun a ha => (hha a ha).2.1
    have nhro : ∀ a ∈ hs, a ≠ ro := fun a ha z => nrohs (by rw [← z]; exact ha)
    generalize upd H7 ro (.lst []) = H8 at s8 hro8 ⊢
    have p8 : PoolAt H8 pl (N + 4) := (p7.mono s8).le (by omega)
    have sx8 : SameX pl H H8 := SameX.trans sx6 (Same.x (s7.trans s8) pl)
    have hti8 := s8 _ _ (s7 _ _ hy)
    have hhe8 := s8 _ _ hhe7
    have hA0 : HeldAt d tt H8 hs (List.replicate m []) := ⟨by rw [List.length_replicate, hhl], hhn, fun j a rd ea er => by
      have := List.mem_of_getElem? er
      rw [(List.mem_replicate.mp this).2]
      exact ⟨[], s8 _ _ (hha a (List.mem_of_getElem? ea)).1, All2.nil⟩, fun rd hrd x hx => by
      rw [(List.mem_replicate.mp hrd).2] at hx
      cases hx⟩
    have sum0 : ((List.replicate m ([] : List Read)).map List.length).sum = 0 := by
      rw [List.map_replicate]
      simp
    refine ⟨_, _, rfl, ?_⟩
    have hH : ∀ {b : Addr}, b ≠ pl → H8 b = none → H b = none := fun n e => sx_free sx8 n e
    have hro0 : H ro = none := sx_free (SameX.trans sx6 (Same.x s7 pl)) nro hro
    have hhs0 : ∀ a ∈ hs, H a = none := fun a ha => sx_free sx6 (nhpl a ha) (hha a ha).2.2
    have bad : ∀ {H' : Hp} {n : Nat} {xs : List V}, PoolAt H' pl n → H' ro = some (.lst xs) → ∀ b ∈ [pl, ro], ∃ l, H' b = some (.lst l) := fun {H' n xs} h1 h2 b hb => by
      rcases List.mem_cons.mp hb with rfl | hb
      · obtain ⟨x, y, c, e, _⟩ := h1
        exact ⟨_, e⟩
      · rw [List.mem_singleton.mp hb]
        exact ⟨_, h2⟩
    have nbad : ∀ a ∈ hs, a ∉ [pl, ro] := fun a ha hm => by
      rcases List.mem_cons.mp hm with e | hm
      · exact nhpl a ha e
      · exact nhro a ha (List.mem_singleton.mp hm)
    refine ⟨_, rfl, _, rfl, _, _, rfl, rfl, pl, _, _, rfl, p8, by omega, by decide, by decide, fun H9 k9 s9 p9 a9 b9 => ?_⟩
    refine ⟨k9, rfl, by omega, by omega, ?_⟩
    have p9' : PoolAt H9 pl (N + 5) := p9
    have sx9 := SameX.trans sx8 s9
    have hA9 : HeldAt d tt H9 hs (List.replicate m []) := hA0.keep (FrL.ofX s9 List.mem_cons_self) (bad p8 hro8) nbad
    refine for_it (walk_range (lo := 0) (n := k9.toNat)) (fun i σ H' => (∃ y7 y8 y9 y10 y11 y12 y13, σ = [some (.ref pl), some (.int (d : Int)), some (.int 7), some (.str (startOf ks)), some (.ref ti), some (.ref he), some (.ref ro), y7, y8, y9, y10, y11, y12, y13]) ∧ SameX pl H H' ∧ PoolAt H' pl (N + 5 + 25 * i) ∧ H' ti = some (.lst (tt.map V.str)) ∧ H' he = some (.lst (hs.map V.ref)) ∧
        (∃ xs rows, H' ro = some (.lst xs) ∧ All2 (LRowV H') xs rows ∧ (∀ r ∈ rows, VecOk d r.2.2.2) ∧ rows.length = i) ∧ ∃ rds, HeldAt d tt H' hs rds ∧ (rds.map List.length).sum = i)
      ⟨⟨none, none, none, none, none, none, none, rfl⟩, sx9, p9', s9 _ _ nti hti8, s9 _ _ nhe hhe8, ⟨[], [], s9 _ _ nro hro8, All2.nil, fun r h => (nomatch h), rfl⟩, _, hA9, sum0⟩ (fun i σ H' _ _ => trivial) ?_ ?_
    · rintro i x σ Hz Ha hi ⟨⟨y7, y8, y9, y10, y11, y12, y13, rfl⟩, sxa, pa, htia, hhea, ⟨xs, rows, hroa, hAr, hvr, hrl⟩, rds, hHd, hsum⟩ ⟨rfl, rfl⟩
      have hi7 : i < 7 := by omega
      have fl : ∀ {H' : Hp}, SameX pl Ha H' → FrL [pl, ro] Ha H' := fun s => FrL.ofX s List.mem_cons_self
      -- the spot
      refine ⟨_, rfl, _, rfl, ti, _, rfl, .inl (SqL.of htia), pl, _, _, rfl, pa, by omega, by rw [List.length_map]; omega, by rw [List.length_map]; exact Int.le_trans (show (tt.length : Int) ≤ 4 by omega) (by decide), fun Hb kb sb pb ab bb => ?_⟩
      rw [List.length_map] at bb
      have htib := sb _ _ nti htia
      -- the place
      refine ⟨_, rfl, _, rfl, _, rfl, ti, _, rfl, .inl (SqL.of htib), pl, _, _, rfl, pb, by omega, by rw [List.length_map]; omega, by rw [List.length_map]; exact Int.le_trans (show (tt.length : Int) ≤ 4 by omega) (by decide), fun Hc kc sc pc ac bc => ?_⟩
      rw [List.length_map] at bc
      refine ⟨Nat.le_of_lt (small1000 (by simp)), fun lp hlp => ?_⟩
      have s1d : Same Hc (upd Hc lp (.lst [.int kb, .int kc])) := same_upd hlp
      have hlp1 : (upd Hc lp (.lst [.int kb, .int kc])) lp = some (.lst [.int kb, .int kc]) := upd_same
      have nlp : lp ≠ pl := pc.ne hlp
      generalize upd Hc lp (.lst [.int kb, .int kc]) = Hd at s1d hlp1 ⊢
      have pd := pc.mono s1d
      refine ⟨_, rfl, pl, 2, _, rfl, pd, by omega, by decide, by decide, fun He ke se pe ae be => ?_⟩
      obtain ⟨pv, epv, hpv⟩ := two_at (a := kb) (b := kc) ae be
      refine ⟨lp, _, ke, .int pv, rfl, rfl, SqL.of (se _ _ nlp hlp1), epv, ?_⟩
      have sxe : SameX pl Ha He := SameX.trans (SameX.trans (SameX.trans sb sc) (Same.x s1d pl)) se
      have htie := sxe _ _ nti htia
      have hhee := sxe _ _ nhe hhea
      have hroe := sxe _ _ nro hroa
      obtain ⟨spot, hspot⟩ : ∃ j : Nat, kb = (j : Int) := ⟨kb.toNat, by omega⟩
      obtain ⟨place, hplace⟩ : ∃ j : Nat, pv = (j : Int) := ⟨pv.toNat, by omega⟩
      subst hspot
      subst hplace
      have hsp : spot < tt.length := by omega
      have hpp : place < tt.length := by omega
      have et1 : tt[spot]? = some tt[spot] := List.getElem?_eq_getElem hsp
      have et2 : tt[place]? = some tt[place] := List.getElem?_eq_getElem hpp
      have hsh : spot < hs.length := by omega
      have eh : hs[spot]? = some hs[spot] := List.getElem?_eq_getElem hsh
      have ha := List.getElem_mem hsh
      generalize hs[spot] = a at eh ha
      generalize tt[spot] = t1 at et1
      generalize tt[place] = t2 at et2
      have hHe : HeldAt d tt He hs rds := hHd.keep (fl sxe) (bad pa hroa) nbad
      have hsr : spot < rds.length := by
        rw [hHe.len]
        exact hsh
      have er : rds[spot]? = some rds[spot] := List.getElem?_eq_getElem hsr
      have hrm := List.getElem_mem hsr
      generalize rds[spot] = rd at er hrm
      obtain ⟨us, hus, hus2⟩ := hHe.at_ spot a rd eh er
      have hul : us.length = rd.length := hus2.1
      have hr7 : rd.length ≤ 7 := by
        have := len_le_sum hrm
        omega
      have ti1 : (tt.map V.str)[spot]? = some (.str t1) := by rw [List.getElem?_map, et1]; rfl
      have ti2 : (tt.map V.str)[place]? = some (.str t2) := by rw [List.getElem?_map, et2]; rfl
      have hs1 : (hs.map V.ref)[spot]? = some (.ref a) := by rw [List.getElem?_map, eh]; rfl
      refine ⟨_, rfl, _, rfl, ti, _, _, .str t1, rfl, rfl, SqL.of htie, atI_nat ti1, ?_⟩
      refine ⟨_, rfl, _, rfl, he, _, _, .ref a, rfl, rfl, SqL.of hhee, atI_nat hs1, a, us, rfl, .inl (SqL.of hus), ?_⟩
      refine ⟨_, rfl, _, rfl, ti, _, _, .str t2, rfl, rfl, SqL.of htie, atI_nat ti2, ?_⟩
      have tupe : ∀ t l, Ha t = some (.tup l) → He t = some (.tup l) := fun t l e => sxe _ _ (pa.net e) e
      refine ⟨_, rfl, _, rfl, _, rfl, pl, ro, d, _, xs, rows, rfl, pe, by omega, d1, d3, hroe, nro, hAr.mono fun v r h => h.mono tupe, hvr, by omega, fun Hf vt vec sf pf hvt hvec => ?_⟩
      refine ⟨Nat.le_of_lt (small1000 (by simp)), fun rw_ hrw => ?_⟩
      have s1g : Same Hf (upd Hf rw_ (.tup [.str t1, .int (us.length : Int), .str t2, .ref vt])) := same_upd hrw
      have hrw1 : (upd Hf rw_ (.tup [.str t1, .int (us.length : Int), .str t2, .ref vt])) rw_ = some (.tup [.str t1, .int (us.length : Int), .str t2, .ref vt]) := upd_same
      generalize upd Hf rw_ (.tup [.str t1, .int (us.length : Int), .str t2, .ref vt]) = Hg at s1g hrw1 ⊢
      have sxg : SameX pl Ha Hg := SameX.trans (SameX.trans sxe sf) (Same.x s1g pl)
      have pg := pf.mono s1g
      have hheg := sxg _ _ nhe hhea
      have hHg : HeldAt d tt Hg hs rds := hHd.keep (fl sxg) (bad pa hroa) nbad
      obtain ⟨us', hus', hus2'⟩ := hHg.at_ spot a rd eh er
      have hul' : us'.length = rd.length := hus2'.1
      refine ⟨_, rfl, _, rfl, he, _, _, .ref a, rfl, rfl, SqL.of hheg, atI_nat hs1, .inl ⟨rfl, _, SqL.of hus'⟩, ?_⟩
      refine ⟨_, rfl, rw_, _, 2, .str t2, rfl, rfl, SqT.of hrw1, atI_nat (j := 2) rfl, ?_⟩
      refine ⟨_, rfl, rw_, _, 3, .ref vt, rfl, rfl, SqT.of hrw1, atI_nat (j := 3) rfl, ?_⟩
      refine ⟨1, rfl, 9, rfl, Nat.le_of_lt (small1000 (by simp)), fun lf hlf => ?_⟩
      have s1h : Same Hg (upd Hg lf (.lst [.int 1, .int 2, .int (-1), .int (-9)])) := same_upd hlf
      have hlf1 : (upd Hg lf (.lst [.int 1, .int 2, .int (-1), .int (-9)])) lf = some (.lst [.int 1, .int 2, .int (-1), .int (-9)]) := upd_same
      have nlf : lf ≠ pl := pg.ne hlf
      generalize upd Hg lf (.lst [.int 1, .int 2, .int (-1), .int (-9)]) = Hh at s1h hlf1 ⊢
      have ph := pg.mono s1h
      refine ⟨_, rfl, pl, 4, _, rfl, ph, by omega, by decide, by decide, fun Hi ki si pi ai bi => ?_⟩
      obtain ⟨fac, efac, nfac⟩ := fac_at ai bi
      refine ⟨lf, _, ki, .int fac, rfl, rfl, SqL.of (si _ _ nlf hlf1), efac, ?_⟩
      refine ⟨Nat.le_of_lt (small1000 (by simp)), fun rt hrt => ?_⟩
      have s1j : Same Hi (upd Hi rt (.tup [.str t2, .ref vt, .int fac])) := same_upd hrt
      have hrt1 : (upd Hi rt (.tup [.str t2, .ref vt, .int fac])) rt = some (.tup [.str t2, .ref vt, .int fac]) := upd_same
      generalize upd Hi rt (.tup [.str t2, .ref vt, .int fac]) = Hj at s1j hrt1 ⊢
      have sgj : SameX pl Hg Hj := SameX.trans (SameX.trans (Same.x s1h pl) si) (Same.x s1j pl)
      have sxj : SameX pl Ha Hj := SameX.trans sxg sgj
      have pj : PoolAt Hj pl (N + 5 + 25 * (i + 1)) := (pi.mono s1j).le (by omega)
      have tupgj : ∀ {t l}, Hg t = some (.tup l) → Hj t = some (.tup l) := fun {t l} e => sgj _ _ (pg.net e) e
      have hvtj : Hj vt = some (.tup (vec.map V.int)) := tupgj (s1g _ _ hvt)
      have hHj : HeldAt d tt Hj hs rds := hHd.keep (fl sxj) (bad pa hroa) nbad
      have husj : Hj a = some (.lst us') := sgj _ _ (nhpl a ha) hus'
      have hHk := hHj.push (v := .ref rt) (x := (t2, vec, fac)) eh er husj ⟨rt, vt, rfl, hrt1, hvtj⟩ ⟨hvec, nfac, List.mem_of_getElem? et2⟩
      refine ⟨a, us', .ref rt, rfl, rfl, husj, small1000 (by omega), ?_⟩
      have sxk : SameX a Hj (upd Hj a (.lst (us' ++ [.ref rt]))) := sameX_upd
      have hHk0 : SameX pl H (upd Hj a (.lst (us' ++ [.ref rt]))) := sx_put (SameX.trans sxa sxj) (hhs0 a ha)
      have pk : PoolAt (upd Hj a (.lst (us' ++ [.ref rt]))) pl (N + 5 + 25 * (i + 1)) := by
        obtain ⟨x, y, c, e, r⟩ := pj
        exact ⟨x, y, c, sxk _ _ (nhpl a ha).symm e, r⟩
      have tupk : ∀ {t l}, Hj t = some (.tup l) → upd Hj a (.lst (us' ++ [.ref rt])) t = some (.tup l) := fun {t l} e => sxk _ _ (ne_of e husj (by intro z; cases z)) e
      have hrok := sxk _ _ (fun z => nhro a ha z.symm) (sxj _ _ nro hroa)
      have htik := sxk _ _ (fun z => nhti a ha z.symm) (sxj _ _ nti htia)
      have hhek := sxk _ _ (fun z => nhhe a ha z.symm) (sxj _ _ nhe hhea)
      have hrwk := tupk (tupgj hrw1)
      have hvtk := tupk hvtj
      have hArk : All2 (LRowV (upd Hj a (.lst (us' ++ [.ref rt])))) xs rows := hAr.mono fun v r h => h.mono fun t l e => tupk (sxj _ _ (pa.net e) e)
      generalize upd Hj a (.lst (us' ++ [.ref rt])) = Hk at hHk hHk0 pk hrok htik hhek hrwk hvtk hArk ⊢
      have hxl : xs.length = rows.length := hAr.1
      refine ⟨_, rfl, .inl ⟨rfl, _, SqL.of hrok⟩, _, rfl, ro, xs, .ref rw_, rfl, rfl, hrok, small1000 (by omega), ?_⟩
      have sxl : SameX ro Hk (upd Hk ro (.lst (xs ++ [.ref rw_]))) := sameX_upd
      have tupl : ∀ {t l}, Hk t = some (.tup l) → upd Hk ro (.lst (xs ++ [.ref rw_])) t = some (.tup l) := fun {t l} e => sxl _ _ (ne_of e hrok (by intro z; cases z)) e
      refine ⟨⟨_, _, _, _, _, _, _, rfl⟩, sx_put hHk0 hro0, ?_, sxl _ _ nrti htik, sxl _ _ nroh hhek, ⟨_, rows ++ [(t1, (us.length : Int), t2, vec)], upd_same, All2.snoc (hArk.mono fun v r h => h.mono fun t l e => tupl e) ⟨rw_, vt, rfl, tupl hrwk, tupl hvtk⟩, fun r hr => ?_, by rw [List.length_append, hrl]; rfl⟩, _, hHk.keep (FrL.ofX sxl (List.mem_cons_of_mem _ List.mem_cons_self)) (bad pk hrok) nbad, by rw [sum_set er, hsum]⟩
      · obtain ⟨x, y, c, e, r⟩ := pk
        exact ⟨x, y, c, sxl _ _ nro.symm e, r⟩
      · rcases List.mem_append.mp hr with hr | hr
        · exact hvr r hr
        · rw [List.mem_singleton.mp hr]
          exact hvec
    · rintro σ Hm ⟨⟨y7, y8, y9, y10, y11, y12, y13, rfl⟩, sxm, pm, htim, hhem, ⟨xs, rows, hrom, hAr, hvr, hrl⟩, rds, hHm, hsum⟩
      have pm' : PoolAt Hm pl (N + 180) := pm.le (by omega)
      refine ⟨_, rfl, _, rfl, ti, he, _, _, rfl, SqL.of htim, SqL.of hhem, fun D hD => ?_⟩
      have nD : D ≠ pl := pm.ne hD
      have nDhs : ∀ a ∈ hs, a ≠ D := fun a ha z => by
        obtain ⟨j, hj⟩ := List.getElem?_of_mem ha
        have hj2 := (List.getElem?_eq_some_iff.mp hj).1
        obtain ⟨us, h1, _⟩ := hHm.at_ j a _ hj (List.getElem?_eq_getElem (by rw [hHm.len]; exact hj2))
        rw [z, hD] at h1
        cases h1
      refine lc_it (walk_zip (K := K) (a := ti) (b := he) (xs := tt.map V.str) (ys := hs.map V.ref) (n := m) (by rw [List.length_map, List.length_map, hhl, ttm]; exact (Nat.min_self m).symm))
        (fun i H' => SameX pl Hm H' ∧ PoolAt H' pl (N + 180 + i) ∧ ∃ acc ts, H' D = some (.lst acc) ∧ All2 (RawH hs H') acc ts ∧ ts.map (·.name) = tt.take i ∧ ts.map (·.reads) = rds.take i ∧ acc.length = i)
        ⟨Same.x (same_upd hD) pl, pm'.mono (same_upd hD), [], [], upd_same, All2.nil, rfl, rfl, rfl⟩ (fun i H' _ ⟨sx, _⟩ => ⟨SqL.of (sx _ _ nti htim), SqL.of (sx _ _ nhe hhem)⟩) ?_ ?_
      · rintro j x Hn Ho hj ⟨sxn, pn, acc, ts, hacc, hall, hn1, hn2, hal⟩ ⟨T, x1, x2, rfl, nT, rfl, e1, e2⟩
        have hjt : j < tt.length := by omega
        have hjh : j < hs.length := by omega
        have hjr : j < rds.length := by rw [hHm.len]; exact hjh
        have et : tt[j]? = some tt[j] := List.getElem?_eq_getElem hjt
        have eh : hs[j]? = some hs[j] := List.getElem?_eq_getElem hjh
        have er : rds[j]? = some rds[j] := List.getElem?_eq_getElem hjr
        have ha := List.getElem_mem hjh
        generalize hs[j] = a at eh ha
        generalize tt[j] = tn at et
        generalize rds[j] = rd at er
        have ex1 : x1 = .str tn := by
          have e1' : (tt.map V.str)[j]? = some x1 := e1
          rw [List.getElem?_map, et] at e1'
          exact (Option.some.inj e1').symm
        have ex2 : x2 = .ref a := by
          have e2' : (hs.map V.ref)[j]? = some x2 := e2
          rw [List.getElem?_map, eh] at e2'
          exact (Option.some.inj e2').symm
        subst ex1
        subst ex2
        have s8 : Same Hn (upd Hn T (.tup [.str tn, .ref a])) := same_upd nT
        have hT8 : (upd Hn T (.tup [.str tn, .ref a])) T = some (.tup [.str tn, .ref a]) := upd_same
        generalize upd Hn T (.tup [.str tn, .ref a]) = H8' at s8 hT8 ⊢
        have p8' := pn.mono s8
        refine ⟨T, _, rfl, SqT.of hT8, rfl, _, _, rfl, _, _, rfl, rfl, ?_⟩
        refine ⟨rfl, ?_⟩
        refine ⟨_, rfl, _, rfl, pl, 9, _, rfl, p8', by omega, by decide, by decide, fun Hp kp sp pp ap bp => ⟨_, _, rfl, rfl, _, rfl, Nat.le_of_lt (small1000 (by simp)), fun rt hrt => ?_⟩⟩
        have s1q : Same Hp (upd Hp rt (.tup [.str tn, .int (kp - 4), .ref a])) := same_upd hrt
        have hrt1 : (upd Hp rt (.tup [.str tn, .int (kp - 4), .ref a])) rt = some (.tup [.str tn, .int (kp - 4), .ref a]) := upd_same
        generalize upd Hp rt (.tup [.str tn, .int (kp - 4), .ref a]) = Hq at s1q hrt1 ⊢
        have snq : SameX pl Hn Hq := SameX.trans (SameX.trans (Same.x s8 pl) sp) (Same.x s1q pl)
        have haccq := snq _ _ nD hacc
        have smq : SameX pl Hm Hq := SameX.trans sxn snq
        have pq : PoolAt Hq pl (N + 180 + (j + 1)) := (pp.mono s1q).le (by omega)
        obtain ⟨us, hus, hus2⟩ := hHm.at_ j a rd eh er
        have sxd : SameX D Hq (upd Hq D (.lst (acc ++ [.ref rt]))) := sameX_upd
        have tupd : ∀ t l, Hq t = some (.tup l) → upd Hq D (.lst (acc ++ [.ref rt])) t = some (.tup l) := fun t l e => sxd _ _ (ne_of e haccq (by intro z; cases z)) e
        refine ⟨acc, haccq, small1000 (by omega), sx_put smq hD, ?_, acc ++ [.ref rt], ts ++ [⟨tn, kp - 4, rd⟩], upd_same, All2.snoc (hall.mono fun v t h => (h.go (fun t l e => snq _ _ (pn.net e) e) fun a ha l e => snq _ _ (nhpl a ha) e).go tupd fun a ha l e => sxd _ _ (nDhs a ha) e) ?_, ?_, ?_, by rw [List.length_append, hal]; rfl⟩
        · obtain ⟨x, y, c, e, r⟩ := pq
          exact ⟨x, y, c, sxd _ _ nD.symm e, r⟩
        · exact ⟨rt, a, us, rfl, tupd _ _ hrt1, sxd _ _ (nDhs a ha) (smq _ _ (nhpl a ha) hus), ha, hus2.mono fun v x q => readV_keep q fun t l e => tupd _ _ (smq _ _ (pm.net e) e)⟩
        · rw [List.map_append, hn1, List.take_add_one, et]
          rfl
        · rw [List.map_append, hn2, List.take_add_one, er]
          rfl
      · rintro Hn ⟨sxn, pn, acc, ts, hacc, hall, hn1, hn2, hal⟩
        have en : ts.map (·.name) = tt := by
          rw [hn1]
          exact List.take_of_length_le (by omega)
        have erd : ts.map (·.reads) = rds := by
          rw [hn2]
          exact List.take_of_length_le (by rw [hHm.len]; omega)
        refine q Hn D acc ts (SameX.trans sxm sxn) (pn.le (by omega)) hacc nD (hall.mono fun v t ⟨a, l, us, e, h1, h2, h4, h3⟩ => ⟨a, l, us, e, h1, h2, nhpl l h4, h3⟩) (tbs_of en erd d1 d3 (by omega) (by omega) tnd tok (by omega) hHm.ok)
end
end Frd
set_option Elab.async false
set_option linter.all false
set_option maxRecDepth 100000
set_option maxHeartbeats 4000000
/-! The law's sums, in plain Lean: weights put together, numbers put together. -/
namespace Frd
open PySem PySem.Spec PyProof.Rows L2
theorem sum_getD {α : Type} (f : α → Int) (d : α) : ∀ l : List α, (l.map f).sum = sumN l.length (fun j => f (l.getD j d))
  | [] => rfl
  | x :: l => by
    have ih := sum_getD f d l
    rw [List.map_cons, List.sum_cons, ih, List.length_cons, Nat.add_comm l.length 1, sumN_split]
    have e1 : sumN 1 (fun j => f ((x :: l).getD j d)) = f x := by
      show 0 + f ((x :: l).getD 0 d) = f x
      rw [Int.zero_add]
      rfl
    rw [e1]
    congr 1
    refine sumN_congr fun j _ => ?_
    rw [Nat.add_comm 1 j]
    rfl
theorem sum_add2 {α : Type} (f g : α → Int) : ∀ l : List α, (l.map fun x => f x + g x).sum = (l.map f).sum + (l.map g).sum
  | [] => rfl
  | x :: l => by
    rw [List.map_cons, List.map_cons, List.map_cons, List.sum_cons, List.sum_cons, List.sum_cons, sum_add2 f g l]
    omega
theorem sum_mulR {α : Type} (f : α → Int) (a : Int) : ∀ l : List α, (l.map fun x => f x * a).sum = (l.map f).sum * a
  | [] => by simp
  | x :: l => by
    rw [List.map_cons, List.map_cons, List.sum_cons, List.sum_cons, sum_mulR f a l, Int.add_mul]
/-- sums over two lists without repetition: what lies in the longer one alone adds nothing -/
theorem sum_sub {α : Type} [DecidableEq α] {f : α → Int} : ∀ {ks ls : List α}, ks.Nodup → ls.Nodup → (∀ k ∈ ks, k ∈ ls) → (∀ k ∈ ls, k ∉ ks → f k = 0) → (ks.map f).sum = (ls.map f).sum
  | ks, [], _, _, h, _ => by
    have : ks = [] := List.eq_nil_iff_forall_not_mem.mpr fun k hk => nomatch h k hk
    rw [this]
  | ks, l :: ls, hk, hl, h, hz => by
    have hl' := List.nodup_cons.mp hl
    by_cases q : l ∈ ks
    · have p := List.perm_cons_erase q
      have p2 : (ks.map f).sum = ((l :: ks.erase l).map f).sum := by
        exact perm_sum p
      rw [p2, List.map_cons, List.map_cons, List.sum_cons, List.sum_cons]
      congr 1
      refine sum_sub (hk.erase l) hl'.2 (fun k hk2 => ?_) fun k hk2 hn => ?_
      · have h1 := hk.mem_erase_iff.mp hk2
        rcases List.mem_cons.mp (h k h1.2) with e | e
        · exact absurd e h1.1
        · exact e
      · refine hz k (List.mem_cons_of_mem _ hk2) fun hm => hn (hk.mem_erase_iff.mpr ⟨fun e => ?_, hm⟩)
        subst e
        exact hl'.1 hk2
    · rw [List.map_cons, List.sum_cons, hz l List.mem_cons_self q, Int.zero_add]
      refine sum_sub hk hl'.2 (fun k hk2 => ?_) fun k hk2 hn => hz k (List.mem_cons_of_mem _ hk2) hn
      rcases List.mem_cons.mp (h k hk2) with e | e
      · subst e
        exact absurd hk2 q
      · exact e
section
variable {S : Sys} {n : Str} {pt : List Int} {bs : Nat → Nat} {ks : List Rd2} {cnt : Rd2 → Int} {x : Str} {p : List Int} {T : Nat}
/-- the number of a read of the component -/
noncomputable def uOf (S : Sys) (n : Str) (pt : List Int) (bs : Nat → Nat) (r : Rd2) : Int := if r ∈ compOf S n then (wlp S n pt).num bs ((compOf S n).idxOf r) else 0
theorem uOf_at (hnd : (compOf S n).Nodup) {j : Nat} {r : Rd2} (h : (compOf S n)[j]? = some r) : uOf S n pt bs r = (wlp S n pt).num bs j := by
  have hm := List.mem_of_getElem? h
  unfold uOf
  rw [if_pos hm]
  congr 1
  have hi : (compOf S n).idxOf r < (compOf S n).length := List.idxOf_lt_length_iff.mpr hm
  have e : (compOf S n)[(compOf S n).idxOf r]? = some r := by
    rw [List.getElem?_eq_getElem hi, List.getElem_idxOf]
  exact (List.getElem_inj hnd).mp ((List.getElem?_eq_some_iff.mp e).2.trans (List.getElem?_eq_some_iff.mp h).2.symm)
theorem uOf_nn (G : (wlp S n pt).Good bs) (r : Rd2) : 0 ≤ uOf S n pt bs r := by
  unfold uOf
  split
  · exact Lp.num_nn G _
  · exact Int.le_refl _
theorem uOf_sum (hnd : (compOf S n).Nodup) (f : Rd2 → Int) : ((compOf S n).map fun r => f r * uOf S n pt bs r).sum = sumN (wlp S n pt).w (fun j => f ((compOf S n).getD j rd0) * (wlp S n pt).num bs j) := by
  rw [sum_getD _ rd0]
  show sumN (compOf S n).length _ = sumN (compOf S n).length _
  refine sumN_congr fun j hj => ?_
  have e : (compOf S n)[j]? = some ((compOf S n)[j]'hj) := List.getElem?_eq_getElem hj
  rw [getD_at e, uOf_at hnd e]
theorem WayOk.cnt_nn (h : WayOk S n pt ks cnt x p T) (r : Rd2) : 0 ≤ cnt r := by
  by_cases q : r ∈ ks
  · have := h.pos r q
    omega
  · rw [h.zero r q]
    exact Int.le_refl _
theorem WayOk.sum_comp (h : WayOk S n pt ks cnt x p T) (hnd : (compOf S n).Nodup) (f : Rd2 → Int) : (ks.map fun r => f r * cnt r).sum = ((compOf S n).map fun r => f r * cnt r).sum :=
  sum_sub h.nodup hnd h.comp fun k _ hn => by rw [h.zero k hn, Int.mul_zero]
theorem WayOk.le (h : WayOk S n pt ks cnt x p T) (hnd : (compOf S n).Nodup) (E : (wlp S n pt).Ends bs true) : (T : Int) * (wlp S n pt).D bs ≤ (wlp S n pt).T bs (wlp S n pt).h (wlp S n pt).n := by
  have hp := Lp.Ends.primal_le E (fun j => cnt ((compOf S n).getD j rd0)) (fun j _ => h.cnt_nn _) fun c hc => by
    have e := h.rows hc
    rw [h.sum_comp hnd, sum_getD _ rd0] at e
    exact e
  have e2 : sumN (wlp S n pt).w (fun j => (wlp S n pt).g j * cnt ((compOf S n).getD j rd0)) = T := by
    have e3 := h.sum_comp hnd (fun _ => 1)
    rw [sum_getD _ rd0 (compOf S n)] at e3
    have e4 : (ks.map fun r => 1 * cnt r).sum = T := by
      rw [← h.tot]
      congr 1
      exact List.map_congr_left fun r _ => Int.one_mul _
    rw [e4] at e3
    exact e3.symm
  rw [e2, Int.mul_comm] at hp
  exact hp
/-- the mean of weights and a way -/
noncomputable def mBoth (S : Sys) (n : Str) (pt : List Int) (bs : Nat → Nat) (cnt : Rd2 → Int) (r : Rd2) : Int := uOf S n pt bs r * 1 + cnt r * (wlp S n pt).D bs
theorem both_sum (h : WayOk S n pt ks cnt x p T) (hnd : (compOf S n).Nodup) (G : (wlp S n pt).Good bs) (f : Rd2 → Int) :
    ((compOf S n).map fun r => f r * mBoth S n pt bs cnt r).sum = sumN (wlp S n pt).w (fun j => f ((compOf S n).getD j rd0) * (wlp S n pt).num bs j) + (ks.map fun r => f r * cnt r).sum * (wlp S n pt).D bs := by
  have e : ((compOf S n).map fun r => f r * mBoth S n pt bs cnt r) = (compOf S n).map fun r => f r * uOf S n pt bs r + (f r * cnt r) * (wlp S n pt).D bs := List.map_congr_left fun r _ => by
    unfold mBoth
    rw [Int.mul_one, Int.mul_add, Int.mul_assoc]
  rw [e, sum_add2, uOf_sum hnd, sum_mulR, h.sum_comp hnd]
theorem both_rows (h : WayOk S n pt ks cnt x p T) (hnd : (compOf S n).Nodup) (G : (wlp S n pt).Good bs) {known : List Rd2} (pk : known.Perm (compOf S n)) {c : Nat} (hc : c < (wlp S n pt).h) :
    (known.map fun k => aRd S (cnames S n) c k * mBoth S n pt bs cnt k).sum ≤ (wlp S n pt).b c * (2 * ((wlp S n pt).D bs * 1)) := by
  rw [perm_sum pk, both_sum h hnd G]
  have h1 := Lp.num_row G hc
  have h2 := Int.mul_le_mul_of_nonneg_right (h.rows hc) (Int.le_of_lt G.pos)
  have h3 : sumN (wlp S n pt).w (fun j => aRd S (cnames S n) c ((compOf S n).getD j rd0) * (wlp S n pt).num bs j) ≤ (wlp S n pt).D bs * (wlp S n pt).b c := h1
  have h4 : (wlp S n pt).b c * (2 * ((wlp S n pt).D bs * 1)) = (wlp S n pt).D bs * (wlp S n pt).b c + (wlp S n pt).b c * (wlp S n pt).D bs := by
    generalize (wlp S n pt).D bs = a
    generalize (wlp S n pt).b c = b
    grind
  omega
theorem both_worth (h : WayOk S n pt ks cnt x p T) (hnd : (compOf S n).Nodup) (G : (wlp S n pt).Good bs) {known : List Rd2} (pk : known.Perm (compOf S n)) :
    (known.map (mBoth S n pt bs cnt)).sum = (wlp S n pt).T bs (wlp S n pt).h (wlp S n pt).n * 1 + (T : Int) * (wlp S n pt).D bs := by
  rw [perm_sum pk]
  have e := both_sum h hnd G (fun _ => 1)
  have e1 : ((compOf S n).map fun r => 1 * mBoth S n pt bs cnt r).sum = ((compOf S n).map (mBoth S n pt bs cnt)).sum := by
    congr 1
    exact List.map_congr_left fun r _ => Int.one_mul _
  have e2 : (ks.map fun r => 1 * cnt r).sum = T := by
    rw [← h.tot]
    congr 1
    exact List.map_congr_left fun r _ => Int.one_mul _
  rw [e1, e2] at e
  rw [e, ← Lp.num_worth G, Int.mul_one]
  rfl
/-! ### numbers -/
/-- a vector, and heights lifted by low -/
def lftN (d : Nat) (low : Int) (y : Nat → Int) (c : Nat) : Int := if c < d then y c else y c - low
theorem lft_col {y : Nat → Int} {low : Int} {r : Rd2} (hr : r ∈ compOf S n) : sumN (wlp S n pt).h (fun c => aRd S (cnames S n) c r * lftN S.d low y c) = sumN (S.d + (cnames S n).length) (fun c => aRd S (cnames S n) c r * y c) := by
  obtain ⟨i1, h1⟩ := idx_of (show r.1 ∈ cnames S n from (cnames_mem _).mpr (.inr ⟨r, hr, .inl rfl⟩))
  obtain ⟨i2, h2⟩ := idx_of (show S.tg r ∈ cnames S n from (cnames_mem _).mpr (.inr ⟨r, hr, .inr rfl⟩))
  show sumN (S.d + (cnames S n).length) _ = _
  rw [col_sum (cnames_nodup S n) h1 h2, col_sum (cnames_nodup S n) h1 h2]
  have e1 : sumN S.d (fun c => (S.vc r).getD c 0 * lftN S.d low y c) = sumN S.d (fun c => (S.vc r).getD c 0 * y c) := sumN_congr fun c hc => by
    unfold lftN
    rw [if_pos hc]
  have e2 : lftN S.d low y (S.d + i1) = y (S.d + i1) - low := by
    unfold lftN
    rw [if_neg (by omega)]
  have e3 : lftN S.d low y (S.d + i2) = y (S.d + i2) - low := by
    unfold lftN
    rw [if_neg (by omega)]
  rw [e1, e2, e3]
  omega
theorem sumN_congr2 {n : Nat} {f g : Nat → Int} (h : ∀ i, f i = g i) : sumN n f = sumN n g := sumN_congr fun i _ => h i
/-- the least bound is no more than the numbers' worth -/
theorem nums_ge (G : (wlp S n pt).Good bs) {f : Nat → Int} (hf : ∀ c, c < (wlp S n pt).h → 0 ≤ f c) (hc : ∀ r ∈ compOf S n, 1 ≤ sumN (wlp S n pt).h (fun c => aRd S (cnames S n) c r * f c)) :
    (wlp S n pt).T bs (wlp S n pt).h (wlp S n pt).n ≤ sumN (wlp S n pt).h (fun c => (wlp S n pt).b c * f c) * (wlp S n pt).D bs := by
  rw [Int.mul_comm]
  refine Lp.dual_ge G f hf fun j hj => ?_
  have hj' : j < (compOf S n).length := hj
  have e : (compOf S n)[j]? = some ((compOf S n)[j]'hj') := List.getElem?_eq_getElem hj'
  have := hc _ (List.mem_of_getElem? e)
  rw [← getD_at (d := rd0) e] at this
  exact this
/-- numbers put together with the best -/
noncomputable def mNum (S : Sys) (n : Str) (pt : List Int) (bs : Nat → Nat) (f : Nat → Int) (c : Nat) : Int := f c * (wlp S n pt).D bs + (wlp S n pt).price bs c * 1
theorem num_col (E : (wlp S n pt).Ends bs true) {f : Nat → Int} (hc : ∀ r ∈ compOf S n, 1 ≤ sumN (wlp S n pt).h (fun c => aRd S (cnames S n) c r * f c)) (G : (wlp S n pt).Good bs) {r : Rd2} (hr : r ∈ compOf S n) :
    2 * (1 * (wlp S n pt).D bs) ≤ sumN (wlp S n pt).h (fun c => aRd S (cnames S n) c r * mNum S n pt bs f c) := by
  obtain ⟨j, e⟩ := List.getElem?_of_mem hr
  have hj := (List.getElem?_eq_some_iff.mp e).1
  have p := Lp.Ends.price_ge E (j := j) hj
  have q := hc r hr
  have e1 : sumN (wlp S n pt).h (fun c => aRd S (cnames S n) c r * mNum S n pt bs f c) = (wlp S n pt).D bs * sumN (wlp S n pt).h (fun c => aRd S (cnames S n) c r * f c) + sumN (wlp S n pt).h (fun c => aRd S (cnames S n) c r * (wlp S n pt).price bs c) := by
    rw [← sumN_mul, ← sumN_add]
    refine sumN_congr2 fun c => ?_
    unfold mNum
    generalize aRd S (cnames S n) c r = a
    generalize (wlp S n pt).D bs = b
    generalize (wlp S n pt).price bs c = d
    generalize f c = g
    grind
  have e2 : sumN (wlp S n pt).h (fun c => (wlp S n pt).a c j * (wlp S n pt).price bs c) = sumN (wlp S n pt).h (fun c => aRd S (cnames S n) c r * (wlp S n pt).price bs c) := sumN_congr2 fun c => by
    show aRd S (cnames S n) c ((compOf S n).getD j rd0) * _ = _
    rw [getD_at e]
  rw [e2] at p
  have e3 : (wlp S n pt).g j = 1 := rfl
  rw [e3, Int.one_mul] at p
  rw [e1]
  have m := Int.mul_le_mul_of_nonneg_left q (Int.le_of_lt G.pos)
  rw [Int.mul_one] at m
  omega
theorem num_worth2 {f : Nat → Int} : sumN (wlp S n pt).h (fun c => (wlp S n pt).b c * mNum S n pt bs f c) = sumN (wlp S n pt).h (fun c => (wlp S n pt).b c * f c) * (wlp S n pt).D bs + (wlp S n pt).T bs (wlp S n pt).h (wlp S n pt).n * 1 := by
  rw [Lp.price_worth, Int.mul_one, Int.mul_comm (sumN _ _) ((wlp S n pt).D bs), ← sumN_mul, ← sumN_add]
  refine sumN_congr2 fun c => ?_
  unfold mNum
  generalize (wlp S n pt).b c = a
  generalize (wlp S n pt).D bs = b
  generalize (wlp S n pt).price bs c = d
  generalize f c = g
  grind
end
end Frd
set_option Elab.async false
set_option linter.all false
set_option maxRecDepth 100000
set_option maxHeartbeats 4000000
set_option pp.maxSteps 1000
/-! sorted of tables as data. -/
namespace Frd
open PySem PySem.Spec PyProof.Rows L2
theorem uncV {x : V} {xs : List V} {us : List Value} (h : Vals (x :: xs) us) : ∃ u r, us = u :: r ∧ RelV x u ∧ Vals xs r := by
  cases h with
  | cons r t => exact ⟨_, _, rfl, r, t⟩
def encR (x : Read) : PyData := .tuple [.str x.1, .tuple (x.2.1.map .int), .int x.2.2]
def encT (t : Tb) : PyData := .tuple [.str t.name, .int t.const, .list (t.reads.map encR)]
theorem alike_R (x y : Read) : PySem.W.alike (encR x) (encR y) = true := by
  simp [encR, PySem.W.alike, PySem.W.alikeAll, PySem.W.alike_ints]
theorem alike_Rs : ∀ xs ys : List Read, PySem.W.alikeAll (xs.map encR) (ys.map encR) = true
  | [], _ => by simp [PySem.W.alikeAll]
  | _ :: _, [] => by simp [PySem.W.alikeAll]
  | x :: xs, y :: ys => by
    show PySem.W.alikeAll (encR x :: xs.map encR) (encR y :: ys.map encR) = true
    rw [PySem.W.alikeAll, alike_R, alike_Rs xs ys]
    rfl
theorem alike_T (t u : Tb) : PySem.W.alike (encT t) (encT u) = true := by
  simp [encT, PySem.W.alike, PySem.W.alikeAll, alike_Rs]
theorem depth_R (x : Read) : (encR x).depth ≤ 2 := by
  simp [encR, PyData.depth, PyData.depthAll, PySem.W.depth_ints]
theorem depth_Rs : ∀ xs : List Read, PyData.depthAll (xs.map encR) ≤ 2
  | [] => by simp [PyData.depthAll]
  | x :: xs => by
    show PyData.depthAll (encR x :: xs.map encR) ≤ 2
    rw [PyData.depthAll]
    have := depth_R x
    have := depth_Rs xs
    omega
theorem depth_T (t : Tb) : (encT t).depth ≤ 4 := by
  have := depth_Rs t.reads
  simp [encT, PyData.depth, PyData.depthAll]
  omega
theorem readsAll_ints {h : Heap} : ∀ {us : List Value} {ns : List Int}, IntsAre us ns → ReadsAll h us (ns.map .int) []
  | _, _, .nil => .nil
  | _, _, .cons n t r => .cons (.int n t) (readsAll_ints r)
section
variable {X : Cx} {pins : List (Addr × Obj)} {σ : L2.St} {H : Hp} {s : Shared}
theorem reads_readV (I : Inv X pins σ H s) {v : V} {x : Read} {u : Value} (h : ReadV H v x) (r : RelV v u) : ∃ as, Reads s.heap u (encR x) as := by
  obtain ⟨a, b, rfl, h1, h2⟩ := h
  obtain rfl : u = Value.ref a := r
  obtain ⟨its, rv, ⟨o, ho, hc, n, hd⟩, _⟩ := I.tuple (SqT.of h1)
  obtain ⟨its2, rv2, ⟨o2, ho2, hc2, n2, hd2⟩, _⟩ := I.tuple (SqT.of h2)
  obtain ⟨u1, us1, rfl, r1, rv⟩ := uncV rv
  obtain ⟨u2, us2, rfl, r2, rv⟩ := uncV rv
  obtain ⟨u3, us3, rfl, r3, rv⟩ := uncV rv
  cases rv
  obtain ⟨t1, rfl⟩ := r1
  obtain rfl : u2 = Value.ref b := r2
  obtain ⟨t3, rfl⟩ := r3
  exact ⟨_, .tuple ho hc hd (by
    rw [List.toList_toArray]
    exact .cons (.str _ _) (.cons (.tuple ho2 hc2 hd2 (by rw [List.toList_toArray]; exact readsAll_ints (intsAre_of rv2))) (.cons (.int _ _) .nil)))⟩
theorem readsAll_readV (I : Inv X pins σ H s) : ∀ {vs : List V} {us : List Value} {xs : List Read}, Vals vs us → All2 (ReadV H) vs xs → ∃ as, ReadsAll s.heap us (xs.map encR) as
  | [], _, xs, .nil, h => by
    have : xs = [] := List.length_eq_zero_iff.mp h.1.symm
    subst this
    exact ⟨[], .nil⟩
  | v :: vs, _, xs, .cons r t, h => by
    obtain ⟨x, xs', rfl, hx, h2⟩ := h.uncons
    obtain ⟨as, ra⟩ := reads_readV I hx r
    obtain ⟨bs, rb⟩ := readsAll_readV I t h2
    exact ⟨as ++ bs, .cons ra rb⟩
theorem reads_rawV (I : Inv X pins σ H s) {v : V} {t : Tb} {u : Value} (h : RawV H v t) (r : RelV v u) : ∃ as, Reads s.heap u (encT t) as := by
  obtain ⟨a, l, us, rfl, h1, h2, h3⟩ := h
  obtain rfl : u = Value.ref a := r
  obtain ⟨its, rv, ⟨o, ho, hc, n, hd⟩, _⟩ := I.tuple (SqT.of h1)
  obtain ⟨_, its2, n2, rv2, hl⟩ := I.hok l _ h2
  obtain ⟨u1, us1, rfl, r1, rv⟩ := uncV rv
  obtain ⟨u2, us2, rfl, r2, rv⟩ := uncV rv
  obtain ⟨u3, us3, rfl, r3, rv⟩ := uncV rv
  cases rv
  obtain ⟨t1, rfl⟩ := r1
  obtain ⟨t2, rfl⟩ := r2
  obtain rfl : u3 = Value.ref l := r3
  obtain ⟨as, ra⟩ := readsAll_readV I rv2 h3
  exact ⟨_, .tuple ho hc hd (by
    rw [List.toList_toArray]
    exact .cons (.str _ _) (.cons (.int _ _) (.cons (.list hl rfl rfl (by rw [List.toList_toArray]; exact ra)) .nil)))⟩
theorem each_raw (I : Inv X pins σ H s) : ∀ {vs : List V} {us : List Value} {ts : List Tb}, Vals vs us → All2 (RawV H) vs ts → PySem.W.EachIs (fun u b => RelV b.1 u) us (vs.zip ts) ∧ PySem.W.EachIs (fun u (b : V × Tb) => ∃ as, Reads s.heap u (encT b.2) as) us (vs.zip ts)
  | [], _, ts, .nil, h => ⟨.nil, .nil⟩
  | v :: vs, _, ts, .cons r t, h => by
    obtain ⟨x, xs', rfl, hx, h2⟩ := h.uncons
    obtain ⟨e1, e2⟩ := each_raw I t h2
    exact ⟨.cons r e1, .cons (reads_rawV I hx r) e2⟩
theorem eachV1 : ∀ {us : List Value} {bs : List (V × Tb)}, PySem.W.EachIs (fun u b => RelV b.1 u) us bs → Vals (bs.map (·.1)) us
  | _, _, .nil => .nil
  | _, _, .cons r t => .cons r (eachV1 t)
end
/-- sorted(tables) -/
def rSortedT (K : PySem.W.Frag) : List V → Hp → VK → Prop := fun vs H Q => ∃ (a : Addr) (ys : List V) (ts : List Tb), vs = [V.ref a] ∧ SqL K H a ys ∧ All2 (RawV H) ys ts ∧
  ∀ (p : Addr) (ys' : List V), H p = none → ys'.Perm ys → Q (.ref p) (upd H p (.lst ys'))
theorem cr_sortedT {X : Cx} (hu : X.A.units + 64 < cLine) : CallR X (.builtin "sorted") (rSortedT X.K) := by
  intro pins s σ H vs us Q I r h
  obtain ⟨a, ys, ts, rfl, hs, hA, q⟩ := h
  rw [Vals.ref1 r]
  obtain ⟨its, rv, pl, hz⟩ := I.list hs
  obtain ⟨e1, e2⟩ := each_raw I rv hA
  have hzl : (ys.zip ts).length = ys.length := by rw [List.length_zip, hA.1, Nat.min_self]
  refine PySem.W.sorted_data (bs := ys.zip ts) (R := fun u b => RelV b.1 u) (enc := fun b => encT b.2) pl.isList e1 e2 (PySem.W.AllAlike.of fun b b' => alike_T _ _) (PySem.W.Sortable.tuples fun b => ⟨_, _, rfl⟩) (by rw [hzl]; exact hz) (fun b _ => ?_) fun out hlen eo => ?_
  · have := depth_T b.2
    omega
  · have pm : (((ys.zip ts).mergeSort (PySem.W.dataLe false fun b => encT b.2)).map (·.1)).Perm ys := by
      have e : (ys.zip ts).map (·.1) = ys := List.map_fst_zip (Nat.le_of_eq hA.1)
      have := (List.mergeSort_perm (ys.zip ts) (PySem.W.dataLe false fun b => encT b.2)).map (·.1)
      rw [e] at this
      exact this
    obtain ⟨ep, he'⟩ := PyProof.Rows.sortedAll_at s.heap its out.toArray
    refine ⟨.ref _, upd H (s.heap.objs.size + 1) (.lst _), I.laid (t' := s.toks) (fun _ _ => PyProof.Rows.sortedAll_old) (Nat.le_succ _) ⟨by rw [pm.length_eq]; exact hz, out, ep, eachV1 eo, by simpa using he'⟩, rfl, q _ _ (I.hok.fresh (Nat.le_succ _)) pm⟩
end Frd
set_option Elab.async false
set_option linter.all false
set_option maxRecDepth 100000
set_option maxHeartbeats 4000000
set_option pp.maxSteps 1000
/-! _law_rows. -/
namespace Frd
open PySem PySem.Spec PyProof.Rows L2
def rowOf (n : Str) (i : Nat) (x : Read) : LRow := (n, (i : Int), x.1, x.2.1)
def rowsT (t : Tb) : List LRow := (List.range t.reads.length).map fun i => rowOf t.name i (t.reads.getD i (⟨#[]⟩, [], 0))
theorem rowsT_len (t : Tb) : (rowsT t).length = t.reads.length := by
  unfold rowsT
  rw [List.length_map, List.length_range]
theorem rowsT_at {t : Tb} {i : Nat} {x : Read} (h : t.reads[i]? = some x) : (rowsT t)[i]? = some (rowOf t.name i x) := by
  have hi := (List.getElem?_eq_some_iff.mp h).1
  unfold rowsT
  rw [List.getElem?_map, List.getElem?_range hi]
  show some (rowOf t.name i (t.reads.getD i _)) = _
  rw [getD_at h]
theorem rowsT_rd (t : Tb) : (rowsT t).map rdL = namedT t := by
  unfold rowsT namedT
  rw [List.map_map]
  rfl
theorem take_flatR {ts : List Tb} {i : Nat} {t : Tb} (h : ts[i]? = some t) : (ts.take (i + 1)).flatMap rowsT = (ts.take i).flatMap rowsT ++ rowsT t := by
  rw [List.take_add_one, h]
  simp
theorem flat_rd (ts : List Tb) : (ts.flatMap rowsT).map rdL = ts.flatMap namedT := by
  rw [List.map_flatMap]
  rw [List.flatMap_def, List.flatMap_def]
  exact congrArg List.flatten (List.map_congr_left fun t _ => rowsT_rd t)
/-- the rows are the system's reads -/
theorem rowsOf_flat {S : Sys} (ok : (S.tabs.map (·.name)).Nodup) {ts : List Tb} (p : ts.Perm S.tabs) : RowsOf S (ts.flatMap rowsT) := fun r hr => by
  obtain ⟨t, ht, h2⟩ := List.mem_flatMap.mp hr
  have htS := p.mem_iff.mp ht
  have e0 : S.tab t.name = some t := S.find_of ok htS
  obtain ⟨i, hi⟩ := List.getElem?_of_mem h2
  have hil := (List.getElem?_eq_some_iff.mp hi).1
  rw [rowsT_len] at hil
  have ex : t.reads[i]? = some t.reads[i] := List.getElem?_eq_getElem hil
  rw [rowsT_at ex] at hi
  have hi := (Option.some.inj hi).symm
  subst hi
  have er : S.rd (t.name, (i : Int)) = some t.reads[i] := by
    unfold Sys.rd
    rw [e0]
    show (if 0 ≤ (i : Int) then t.reads[(i : Int).toNat]? else none) = _
    rw [if_pos (by omega), Int.toNat_natCast, ex]
  refine ⟨List.mem_flatMap.mpr ⟨t, htS, ?_⟩, ?_, ?_⟩
  · unfold namedT
    exact List.mem_map.mpr ⟨i, List.mem_range.mpr hil, rfl⟩
  · exact (tg_of er).symm ▸ rfl
  · exact (vc_of er).symm ▸ rfl
section
variable {P : Program} {w : World} {K : PySem.W.Frag} {mg : Str → Option Value} {base : Heap}
theorem scLRw : FnScope ["_law_tables_here", "_law_found", "_law_title", "_law_part", "_law_some", "_law_number", "_law_row"] ["_law_tables_here"] (defScope (topS 48)) := ⟨rfl, rfl, rfl, by decide +kernel, rfl, by decide +kernel, by decide +kernel⟩
def spLRw (K : PySem.W.Frag) : Sp := fun vs H Q _ => ∃ (tl : Addr) (d : Nat) (xs : List V) (ts : List Tb), vs = [.ref tl] ∧ SqL K H tl xs ∧ All2 (RawV H) xs ts ∧ TbsOk d ts ∧
  ∀ (H' : Hp) (rl : Addr) (ys : List V) (ts' : List Tb), Same H H' → H' rl = some (.lst ys) → H rl = none → All2 (LRowV H') ys (ts'.flatMap rowsT) → ts'.Perm ts → Q (.ref rl) H'
theorem ok_lrw {f : Addr} {fd : FuncData} (F : Fun K "_law_rows" "_law_rows" (topS 48) f fd) (msorted : mg "sorted" = none) (me : mg "enumerate" = none) : FnOk P w K mg base CX0 1 f fd ["_law_tables_here"] (spLRw K) := by
  refine F.ok scLRw (fun vs H Q E h => ?_) (fun cdv A outer s H vs Q E hr h => ?_)
  · obtain ⟨tl, d, xs, ts, rfl, _⟩ := h
    rfl
  · obtain ⟨tl, d, xs, ts, rfl, hL, hA, hT, q⟩ := h
    have nd := scLRw.nd
    refine ⟨_, pss_cons (ps_set (i := 1) nd rfl (.inl rfl) (pe_lst pa_nil))
      (pss_cons (ps_for PassesOwn.never rfl (pi_list (pe_callB (cr_sortedT hr.units) (by rfl) msorted (by decide +kernel) (pa_cons (pv 0) pa_nil))) (pg_tup rfl (pgs_cons (pg_name (i := 2) nd rfl (.inl rfl)) (pgs_cons (pg_name (i := 3) nd rfl (.inl rfl)) (pgs_cons (pg_name (i := 4) nd rfl (.inl rfl)) pgs_nil))))
        (pss_one (ps_for PassesOwn.never rfl (pi_enum (by rfl) me (pa_cons (pv 4) pa_nil)) (pg_tup rfl (pgs_cons (pg_name (i := 5) nd rfl (.inl rfl)) (pgs_cons (pg_name (i := 6) nd rfl (.inl rfl)) pgs_nil)))
          (pss_one (ps_expr (pe_bm PySem.F.plainAttrs_list PySem.F.slot_list_append PySem.F.type_list_append mt_append (pv 1) (pa_cons (pe_tup (pa_cons (pv 2) (pa_cons (pv 5) (pa_cons (pe_ix ix_tup (pv 6) pe_int (fun _ _ => rfl)) (pa_cons (pe_ix ix_tup (pv 6) pe_int (fun _ _ => rfl)) pa_nil))))) pa_nil)))))))
      (pss_one (ps_ret (pv 1)))), ?_⟩
    refine ⟨Nat.zero_le _, fun Fd hFd => ?_⟩
    have s1 : Same H (upd H Fd (.lst [])) := same_upd hFd
    have hF1 : (upd H Fd (.lst [])) Fd = some (.lst []) := upd_same
    generalize upd H Fd (.lst []) = H1 at s1 hF1 ⊢
    refine ⟨_, rfl, tl, xs, ts, rfl, s1.seq hL, hA.mono fun v t h => h.mono s1, fun (sl : Addr) (ys : List V) hsl pm => ?_⟩
    obtain ⟨ts', pts, hA'⟩ := hA.perm pm
    have s2 : Same H1 (upd H1 sl (.lst ys)) := same_upd hsl
    have hsl2 : (upd H1 sl (.lst ys)) sl = some (.lst ys) := upd_same
    have nsl : sl ≠ Fd := (ne_of_none hF1 hsl).symm
    generalize upd H1 sl (.lst ys) = H2 at s2 hsl2 ⊢
    have s02 := s1.trans s2
    have hF2 := s2 _ _ hF1
    have keep : ∀ {H' : Hp}, SameX Fd H2 H' → Same H H' := fun sx b o e => sx _ _ (ne_of_none e hFd) (s02 _ _ e)
    have few : (ts'.map (·.reads.length)).sum ≤ 12 := by
      rw [(pts.map (·.reads.length)).sum_nat]
      exact hT.few
    have few2 : ∀ {i t}, ts'[i]? = some t → ((ts'.take i).flatMap rowsT).length + t.reads.length ≤ 12 := fun {i t} e => by
      have e1 : ts' = ts'.take (i + 1) ++ ts'.drop (i + 1) := (List.take_append_drop _ _).symm
      have e2 : ((ts'.take (i + 1)).flatMap rowsT).length ≤ (ts'.flatMap rowsT).length := by
        conv => rhs; rw [e1, List.flatMap_append, List.length_append]
        omega
      have e3 : (ts'.flatMap rowsT).length = (ts'.map (·.reads.length)).sum := by
        rw [List.length_flatMap]
        congr 1
        exact List.map_congr_left fun t _ => rowsT_len t
      rw [take_flatR e, List.length_append, rowsT_len] at e2
      omega
    refine ⟨sl, rfl, ⟨_, SqL.of hsl2⟩, for_list (K := K) (a := sl) (xs := ys) (fun i σ H' => (∃ y2 y3 y4 y5 y6, σ = [some (.ref tl), some (.ref Fd), y2, y3, y4, y5, y6]) ∧ SameX Fd H2 H' ∧ ∃ acc, H' Fd = some (.lst acc) ∧ All2 (LRowV H') acc ((ts'.take i).flatMap rowsT)) ⟨⟨none, none, none, none, none, rfl⟩, fun b o _ e => e, [], hF2, All2.nil⟩ (fun i σ H' _ ⟨_, sx, _⟩ => SqL.of (sx _ _ nsl hsl2)) ?_ ?_⟩
    · rintro i x σ H3 ex ⟨⟨y2, y3, y4, y5, y6, rfl⟩, sx3, acc, hF3, hall⟩
      obtain ⟨tb, etb, a, l, us, rfl, ha, hl, hus⟩ := hA'.at ex
      have fw := few2 etb
      have hul : us.length = tb.reads.length := hus.1
      have sH3 := keep sx3
      refine ⟨a, _, rfl, SqT.of (sH3 _ _ ha), rfl, _, _, rfl, _, _, rfl, _, _, rfl, rfl, ?_⟩
      refine ⟨_, rfl, l, us, rfl, SqL.of (sH3 _ _ hl), ?_⟩
      refine for_it walk_enum (fun j σ H' => (∃ y5 y6, σ = [some (.ref tl), some (.ref Fd), some (.str tb.name), some (.int tb.const), some (.ref l), y5, y6]) ∧ SameX Fd H2 H' ∧ ∃ acc, H' Fd = some (.lst acc) ∧ All2 (LRowV H') acc ((ts'.take i).flatMap rowsT ++ (rowsT tb).take j)) ⟨⟨_, _, rfl⟩, sx3, acc, hF3, by rw [List.take_zero, List.append_nil]; exact hall⟩ (fun j σ H' _ ⟨_, sx, _⟩ => SqL.of (keep sx _ _ hl)) ?_ ?_
      · rintro j x σ H4 H5 hj ⟨⟨y5, y6, rfl⟩, sx4, acc4, hF4, hall4⟩ ⟨t, x1, x2, rfl, nt, rfl, e1, e2⟩
        have ex1 : V.int ((j : Nat) : Int) = x1 := Option.some.inj e1
        subst ex1
        obtain ⟨rd, erd, ra, rb, rfl, hra, hrb⟩ := hus.at e2
        have sH4 := keep sx4
        have s5 : Same H4 (upd H4 t (.tup [.int (j : Int), .ref ra])) := same_upd nt
        have ht5 : (upd H4 t (.tup [.int (j : Int), .ref ra])) t = some (.tup [.int (j : Int), .ref ra]) := upd_same
        generalize upd H4 t (.tup [.int (j : Int), .ref ra]) = H5 at s5 ht5 ⊢
        refine ⟨t, _, rfl, SqT.of ht5, rfl, _, _, rfl, _, _, rfl, rfl, ?_⟩
        have hF5 := s5 _ _ hF4
        have sH5 := sH4.trans s5
        refine ⟨_, rfl, .inl ⟨rfl, _, SqL.of hF5⟩, ?_⟩
        refine ⟨_, rfl, _, rfl, _, rfl, ra, _, 0, .str rd.1, rfl, rfl, SqT.of (sH5 _ _ hra), atI_nat (j := 0) rfl, ?_⟩
        refine ⟨_, rfl, ra, _, 1, .ref rb, rfl, rfl, SqT.of (sH5 _ _ hra), atI_nat (j := 1) rfl, ?_⟩
        refine ⟨Nat.le_of_lt (small1000 (by simp)), fun T1 hT1 => ?_⟩
        have s6 : Same H5 (upd H5 T1 (.tup [.str tb.name, .int (j : Int), .str rd.1, .ref rb])) := same_upd hT1
        have hT6 : (upd H5 T1 (.tup [.str tb.name, .int (j : Int), .str rd.1, .ref rb])) T1 = some (.tup [.str tb.name, .int (j : Int), .str rd.1, .ref rb]) := upd_same
        generalize upd H5 T1 (.tup [.str tb.name, .int (j : Int), .str rd.1, .ref rb]) = H6 at s6 hT6 ⊢
        have hF6 := s6 _ _ hF5
        have s46 := s5.trans s6
        have hal := hall4.1
        rw [List.length_append, List.length_take, rowsT_len] at hal
        refine ⟨Fd, acc4, .ref T1, rfl, rfl, hF6, small1000 (by omega), ?_⟩
        have tup7 : ∀ {b : Addr} {l : List V}, H6 b = some (.tup l) → upd H6 Fd (.lst (acc4 ++ [.ref T1])) b = some (.tup l) := fun e => by
          rw [upd_ne (ne_of e hF6 (by intro z; cases z))]
          exact e
        refine ⟨⟨_, _, rfl⟩, SameX.trans (SameX.trans sx4 (Same.x s46 Fd)) sameX_upd, _, upd_same, ?_⟩
        have etk : (rowsT tb).take (j + 1) = (rowsT tb).take j ++ [rowOf tb.name j rd] := by
          rw [List.take_add_one, rowsT_at erd]
          rfl
        rw [etk, ← List.append_assoc]
        exact All2.snoc (hall4.mono fun v r h => h.mono fun t l e => tup7 (s46 _ _ e)) ⟨T1, rb, rfl, tup7 hT6, tup7 (s6 _ _ (sH5 _ _ hrb))⟩
      · rintro σ H4 ⟨⟨y5, y6, rfl⟩, sx4, acc4, hF4, hall4⟩
        refine ⟨⟨_, _, _, _, _, rfl⟩, sx4, acc4, hF4, ?_⟩
        rw [take_flatR etb]
        have : (rowsT tb).take us.length = rowsT tb := List.take_of_length_le (by rw [rowsT_len]; omega)
        rw [this] at hall4
        exact hall4
    · rintro σ H3 ⟨⟨y2, y3, y4, y5, y6, rfl⟩, sx3, acc, hF3, hall⟩
      have hyl : ys.length = ts'.length := hA'.1
      rw [hyl, List.take_length] at hall
      exact ⟨_, rfl, q H3 Fd acc ts' (keep sx3) hF3 hFd hall pts⟩
end
end Frd
set_option Elab.async false
set_option linter.all false
set_option maxRecDepth 100000
set_option maxHeartbeats 4000000
set_option pp.maxSteps 1000
/-! _law_made. -/
namespace Frd
open PySem PySem.Spec PyProof.Rows L2 LamX
section
variable {P : Program} {w : World} {K : PySem.W.Frag} {mg : Str → Option Value} {base : Heap} {C : Addr}
theorem scMd : FnScope ["_law_axes", "_law_tables_here"] ["_law_axes", "_law_tables_here"] (defScope (topS 49)) := ⟨rfl, rfl, rfl, by decide +kernel, rfl, by decide +kernel, by decide +kernel⟩
def spMd (K : PySem.W.Frag) (C : Addr) (T : List (Addr × Str)) : Sp := fun vs H Q _ => ∃ (tl : Addr) (d : Nat) (xs : List V) (ts : List Tb), vs = [.int (d : Int), .ref tl] ∧ SqL K H tl xs ∧ All2 (RawV H) xs ts ∧ TbsOk d ts ∧ Tabs T H ∧
  ∀ H' p S, ExtN H H' → Tabs T H' → S.d = d → S.tabs.Perm ts → SysAt C H' p S → Q (.ref p) H'
theorem ok_md {T : List (Addr × Str)} {f : Addr} {fd : FuncData} (F : Fun K "_law_made" "_law_made" (topS 49) f fd) (KS : Kn P w K mg base "System" C 4 ["self", "dimensions", "tables", "modulus"] (spSy K C T)) : FnOk P w K mg base CX0 6 f fd ["_law_axes", "_law_tables_here"] (spMd K C T) := by
  refine F.ok scMd (fun vs H Q E h => ?_) (fun cdv A outer s H vs Q E hr h => ?_)
  · obtain ⟨tl, d, xs, ts, rfl, _⟩ := h
    rfl
  · obtain ⟨tl, d, xs, ts, rfl, hL, hA, hT, hTab, q⟩ := h
    have nd := scMd.nd
    refine ⟨_, pss_one (ps_ret (pe_new KS hr (by rfl) (pa_cons (pv 0) (pa_cons (pv 1) (pa_cons pe_int pa_nil))))), ?_⟩
    refine ⟨_, rfl, _, rfl, ?_⟩
    intro x dx hx hdx hne
    have s7 : Same H (upd (upd H dx (.own x)) x (.ins C dx [])) := same_put (same_upd hdx) hx
    exact ⟨x, tl, dx, H, d, xs, ts, rfl, s7, hx, upd_same, hL, hA, hT, hTab, fun H' S eN T' hd pt hS => ⟨rfl, q H' x S eN T' hd pt hS⟩⟩
end
end Frd
set_option Elab.async false
set_option linter.all false
set_option maxRecDepth 100000
set_option maxHeartbeats 400000
set_option pp.maxSteps 1000
/-! dicts of numbers by names. -/
namespace Frd
open PySem PySem.Spec PyProof.Rows L2
def fnS (ns : List Str) (f : Nat → Int) (r : Str) : Int := if r ∈ ns then f (ns.idxOf r) else 0
theorem fnS_at {ns : List Str} (hn : ns.Nodup) {j : Nat} {r : Str} (h : ns[j]? = some r) (f : Nat → Int) : fnS ns f r = f j := by
  have hm := List.mem_of_getElem? h
  unfold fnS
  rw [if_pos hm]
  have hi : ns.idxOf r < ns.length := List.idxOf_lt_length_iff.mpr hm
  have e : ns[ns.idxOf r]? = some r := by rw [List.getElem?_eq_getElem hi, List.getElem_idxOf]
  rw [nodup_at hn e h]
theorem mapK_of {H : Hp} {b : Addr} {kvs : List (Key × V)} {ns : List Str} {f : Nat → Int} {d : Nat} {D : Int} (h5 : H b = some (.dK kvs)) (h6 : kvs.map (·.1) = ns.map Sum.inr) (h7 : FrsAt H (kvs.map (·.2)) (fun j => red (f (d + j)) D)) (hn : ns.Nodup) : MapK H b (fnS ns fun j => f (d + j)) D := by
  refine ⟨kvs, h5, fun r => ?_⟩
  by_cases hr : r ∈ ns
  · left
    have hm : (Sum.inr r : Key) ∈ kvs.map (·.1) := by
      rw [h6]
      exact List.mem_map.mpr ⟨r, hr, rfl⟩
    obtain ⟨j, kv, e1, e2, e3⟩ := valV_mem hm
    have ek : (ns.map (Sum.inr : Str → Key))[j]? = some (Sum.inr r) := by
      rw [← h6, List.getElem?_map, e1, ← e2]
      rfl
    rw [List.getElem?_map] at ek
    cases er : ns[j]? with
    | none =>
      rw [er] at ek
      cases ek
    | some y =>
      rw [er] at ek
      have ey : y = r := Sum.inr.inj (Option.some.inj ek)
      subst ey
      obtain ⟨o, o1, o2⟩ := h7 j kv.2 (by rw [List.getElem?_map, e1]; rfl)
      exact ⟨o, by rw [e3, o1], by rw [o2, fnS_at hn er]⟩
  · right
    refine ⟨?_, by unfold fnS; rw [if_neg hr]⟩
    cases z : valV kvs (Sum.inr r : Key) with
    | none => rfl
    | some v =>
      have : (valV kvs (Sum.inr r : Key)).isSome = true := by rw [z]; rfl
      have hm := valV_iff.mp this
      rw [h6] at hm
      obtain ⟨x, hx, e⟩ := List.mem_map.mp hm
      exact absurd (Sum.inr.inj e ▸ hx) hr
theorem frs_of {H : Hp} {q : Addr} {ns : List Str} {m : Str → Int} {E : Int} (h : DictK H q ns m E) : ∃ kvs : List (Key × V), H q = some (.dK kvs) ∧ kvs.map (·.1) = ns.map Sum.inr ∧ FrsAt H (kvs.map (·.2)) (fun j => red (m (ns.getD j ⟨#[]⟩)) E) := by
  obtain ⟨kvs, h1, h2, h3⟩ := h
  refine ⟨kvs, h1, h2, fun j v e => ?_⟩
  rw [List.getElem?_map] at e
  cases ek : kvs[j]? with
  | none =>
    rw [ek] at e
    cases e
  | some kv =>
    rw [ek] at e
    cases e
    have hl : j < ns.length := by
      have := congrArg List.length h2
      rw [List.length_map, List.length_map] at this
      have := (List.getElem?_eq_some_iff.mp ek).1
      omega
    have er : ns[j]? = some ns[j] := List.getElem?_eq_getElem hl
    obtain ⟨o, e1, e2⟩ := h3 j kv _ ek er
    refine ⟨o, e1, ?_⟩
    show H o = some (frV (red (m (ns.getD j ⟨#[]⟩)) E))
    rw [getD_at er]
    exact e2
/-! sizes -/
theorem wlp_babs {S : Sys} {n : Str} {pt : List Int} (hp : PtOk S pt) {c : Nat} (h : (wlp S n pt).Small 100) (hc : c < (wlp S n pt).h) : ((wlp S n pt).b c).natAbs ≤ 2 ^ 100 := h.b c hc
theorem pow_a : 15 * (2 ^ 100 * 2 ^ 1664) ≤ 2 ^ 1770 := by decide +kernel
theorem pow_b : 2 ^ 1664 * 2 ^ 1664 + 2 ^ 1664 ≤ 2 ^ 3800 := by decide +kernel
theorem worth_abs0 {h A B C : Nat} {b f : Nat → Int} (hh : h ≤ 15) (hb : ∀ c, c < h → (b c).natAbs ≤ A) (hf : ∀ c, c < h → (f c).natAbs ≤ B) (hC : 15 * (A * B) ≤ C) : (sumN h (fun c => b c * f c)).natAbs ≤ C := by
  have h1 : (sumN h (fun c => b c * f c)).natAbs ≤ h * (A * B) := sumN_abs fun c hc => by
    rw [Int.natAbs_mul]
    exact Nat.mul_le_mul (hb c hc) (hf c hc)
  have h2 : h * (A * B) ≤ 15 * (A * B) := Nat.mul_le_mul_right _ hh
  exact Nat.le_trans h1 (Nat.le_trans h2 hC)
theorem worth_abs {S : Sys} {n : Str} {pt : List Int} (hs : (wlp S n pt).Small 100) (hh : (wlp S n pt).h ≤ 15) {f : Nat → Int} (hf : ∀ c, c < (wlp S n pt).h → (f c).natAbs ≤ 2 ^ 1664) : (sumN (wlp S n pt).h (fun c => (wlp S n pt).b c * f c)).natAbs ≤ 2 ^ 1770 :=
  worth_abs0 hh hs.b hf pow_a
theorem mNum_abs0 {f D p : Int} {A C : Nat} (h1 : f.natAbs ≤ A) (h2 : D.natAbs ≤ A) (h3 : p.natAbs ≤ A) (h : A * A + A ≤ C) : (f * D + p * 1).natAbs ≤ C := by
  have h4 := Int.natAbs_add_le (f * D) (p * 1)
  rw [Int.natAbs_mul, Int.mul_one] at h4
  have h5 := Nat.mul_le_mul h1 h2
  rw [Int.mul_one]
  omega
theorem D1664 {L : Lp} {bs : Nat → Nat} (hs : L.Small 100) : (L.D bs).natAbs ≤ 2 ^ 1664 := by
  have h := Lp.D_abs (bs := bs) hs
  rw [show 16 * (100 + 4) = 1664 from rfl] at h
  exact h
theorem T1664 {L : Lp} {bs : Nat → Nat} (hs : L.Small 100) (k j : Nat) : (L.T bs k j).natAbs ≤ 2 ^ 1664 := by
  have h := Lp.T_abs (bs := bs) hs k j
  rw [show 16 * (100 + 4) = 1664 from rfl] at h
  exact h
theorem num1664 {L : Lp} {bs : Nat → Nat} (hs : L.Small 100) (j : Nat) : (L.num bs j).natAbs ≤ 2 ^ 1664 := by
  have h := Lp.num_abs (bs := bs) hs j
  rw [show 16 * (100 + 4) = 1664 from rfl] at h
  exact h
theorem mNum_abs {S : Sys} {n : Str} {pt : List Int} {bs : Nat → Nat} (hs : (wlp S n pt).Small 100) {f : Nat → Int} {c : Nat} (hf : (f c).natAbs ≤ 2 ^ 1664) : (mNum S n pt bs f c).natAbs ≤ 2 ^ 3800 :=
  mNum_abs0 hf (D1664 hs) (T1664 hs _ _) pow_b
theorem lftN_abs {d : Nat} {low : Int} {y : Nat → Int} {c : Nat} (h0 : 0 ≤ low) (h1 : 0 ≤ y c) (h2 : (y c).natAbs ≤ 2 ^ 1664) (h3 : ¬ c < d → low ≤ y c) : 0 ≤ lftN d low y c ∧ (lftN d low y c).natAbs ≤ 2 ^ 1664 := by
  unfold lftN
  split
  · exact ⟨h1, h2⟩
  · rename_i h
    have := h3 h
    generalize (2 ^ 1664 : Nat) = B at h2 ⊢
    omega
theorem bd_of {x : Int} {k : Nat} (h : x.natAbs ≤ 2 ^ k) (hk : k ≤ 3900) : Bd x := Nat.lt_of_le_of_lt h (Nat.pow_lt_pow_right (by omega) (by omega))
theorem bh_of {x : Int} {k : Nat} (h : x.natAbs ≤ 2 ^ k) (hk : k ≤ 1980) : Bh x := Nat.lt_of_le_of_lt h (Nat.pow_lt_pow_right (by omega) (by omega))
end Frd
set_option Elab.async false
set_option linter.all false
set_option maxRecDepth 100000
set_option maxHeartbeats 1000000
set_option pp.maxSteps 1000
/-! _law_numbers_right. -/
namespace Frd
open PySem PySem.Spec PyProof.Rows L2
section
variable {P : Program} {w : World} {K : PySem.W.Frag} {mg : Str → Option Value} {base : Heap} {C : Addr}
theorem scNr : FnScope ["_law_made_here", "_law_place", "_law_told", "_law_paper", "_law_rows_here", "_law_titles", "_law_title", "_law_low", "_law_ways", "_law_heights_here", "_law_worth", "_law_best", "_law_both", "_law_part", "_law_one", "_law_two"] ["_law_made_here", "_law_place", "_law_told", "_law_paper", "_law_rows_here"] (defScope (topS 60)) := ⟨rfl, rfl, rfl, by decide +kernel, rfl, by decide +kernel, by decide +kernel⟩
def spNr (C : Addr) : Sp := fun vs H Q _ => ∃ (p told L rl : Addr) (v : V) (S : Sys) (n : Str) (pt : List Int) (xs : List V) (rows : List LRow) (bs : Nat → Nat), vs = [.ref p, v, .ref told, .ref L, .ref rl] ∧ CellOk C H p v S n pt ∧ (wlp S n pt).Ends bs true ∧ H told = some (frV (red ((wlp S n pt).T bs (wlp S n pt).h (wlp S n pt).n) ((wlp S n pt).D bs))) ∧
  LevelAt S H L ∧ H rl = some (.lst xs) ∧ All2 (LRowV H) xs rows ∧ RowsOf S rows ∧ (rows.map rdL).Perm S.named ∧ ∀ H', Same H H' → Q (.bl true) H'
theorem ok_nr {f : Addr} {fd : FuncData} (F : Fun K "_law_numbers_right" "_law_numbers_right" (topS 60) f fd) (mmin : mg "min" = none) (mtuple : mg "tuple" = none) (mzip : mg "zip" = none)
    (DO : Dn P w K mg base "_law_own" 2 ["_law_rows_here", "_law_title"] spOwn) (DB : Dn P w K mg base "bound_worth" 6 ["system", "cell", "found"] (spBw C)) (DN : Dn P w K mg base "bound_numbers" 6 ["system", "cell"] (spBn C)) (DH : Dn P w K mg base "_law_half" 2 ["_law_one", "_law_two"] (spHf K)) (DM : Dn P w K mg base "_law_mean" 3 ["_law_one", "_law_two", "_law_titles"] (spMnK K)) :
    FnOk P w K mg base CX0 7 f fd ["_law_made_here", "_law_place", "_law_told", "_law_paper", "_law_rows_here"] (spNr C) := by
  refine F.ok scNr (fun vs H Q E h => ?_) (fun cdv A outer s H vs Q E hr h => ?_)
  · obtain ⟨p, told, L, rl, v, S, n, pt, xs, rows, bs, rfl, _⟩ := h
    rfl
  · obtain ⟨p, told, L, rl, v, S, n, pt, xs, rows, bs, rfl, hC, E1, htold, hLv, hrl, hA, hro, hpm, q⟩ := h
    have nd := scNr.nd
    have hun := hu_of hr
    refine ⟨_, pss_cons (ps_set (i := 5) nd rfl (.inl rfl) (pe_ix ix_tup (pe_def DO (hr.mono (by decide)) (by rfl) (pa_cons (pv 4) (pa_cons (pe_ix ix_tup (pv 1) pe_int (fun _ _ => rfl)) pa_nil))) pe_int (fun _ _ => rfl)))
      (pss_cons (ps_if (pt_cmpR (op_neNil hr.units0) (pe_lc (own := [("_law_title", 6)]) (g := gName 6) rfl nd (pi_list (pv 5)) (blkOk_by (N := ["_law_made_here", "_law_place", "_law_told", "_law_paper", "_law_rows_here", "_law_titles", "_law_title", "_law_low", "_law_ways", "_law_heights_here", "_law_worth", "_law_best", "_law_both", "_law_part", "_law_one", "_law_two"]) (sc := defScope (topS 60)) (by decide +kernel))
            (fun _ _ _ _ _ => pg_name (i := 6) nd rfl (Or.inl rfl)) (fun _ _ _ _ _ => pts_one (pt_cmp (pc_dnotin hun (pv 6) (pv 3)))) (fun _ _ _ _ _ => pv 6)) (pe_lst pa_nil) (nomark _)) (pss_one (ps_ret pe_bl)) pss_nil)
      (pss_cons (ps_set (i := 7) nd rfl (.inl rfl) (pe_callB (cr_min rfl) (by rfl) mmin (by decide +kernel) (pa_cons (pe_lc (own := [("_law_title", 6)]) (g := gName 6) (tt := tYes) rfl nd (pi_list (pv 5)) (blkOk_by (N := ["_law_made_here", "_law_place", "_law_told", "_law_paper", "_law_rows_here", "_law_titles", "_law_title", "_law_low", "_law_ways", "_law_heights_here", "_law_worth", "_law_best", "_law_both", "_law_part", "_law_one", "_law_two"]) (sc := defScope (topS 60)) (by decide +kernel))
            (fun _ _ _ _ _ => pg_name (i := 6) nd rfl (Or.inl rfl)) (fun _ _ _ _ _ => pts_nil) (fun _ _ _ _ _ => pe_ix (ix_tupB (K := K) rfl) (pe_dget hun (pv 3) (pv 6) (fun _ _ => rfl)) pe_int (fun _ _ => rfl))) pa_nil)))
      (pss_cons (ps_par (i := 8) (j := 9) rfl nd rfl rfl (by decide) rfl rfl (pa_cons (pe_tupleOf (by rfl) mtuple (pe_lc (own := [("_law_part", 13)]) (g := gName 13) (tt := tYes) rfl nd (pi_tup (pe_ix ix_tup (pe_dget hun (pv 3) (pe_ix ix_tup (pv 1) pe_int (fun _ _ => rfl)) (fun _ _ => rfl)) pe_int (fun _ _ => rfl))) (blkOk_by (N := ["_law_made_here", "_law_place", "_law_told", "_law_paper", "_law_rows_here", "_law_titles", "_law_title", "_law_low", "_law_ways", "_law_heights_here", "_law_worth", "_law_best", "_law_both", "_law_part", "_law_one", "_law_two"]) (sc := defScope (topS 60)) (by decide +kernel))
            (fun _ _ _ _ _ => pg_name (i := 13) nd rfl (Or.inl rfl)) (fun _ _ _ _ _ => pts_nil) (fun _ _ _ _ _ => pe_tup (pa_cons (pv 13) (pa_cons pe_int pa_nil))))) (pa_cons pe_dnewK pa_nil)) (by rfl))
      (pss_cons (ps_for PassesOwn.never rfl (pi_list (pv 5)) (pg_name (i := 6) nd rfl (.inl rfl))
        (pss_one (ps_dput hun (pv 9) (pv 6) (pe_tup (pa_cons (pe_op op_sub (pe_ix ix_tup (pe_dget hun (pv 3) (pv 6) (fun _ _ => rfl)) pe_int (fun _ _ => rfl)) (pv 7)) (pa_cons pe_int pa_nil))) rfl)))
      (pss_cons (ps_par (i := 10) (j := 11) rfl nd rfl rfl (by decide) rfl rfl (pa_cons (pe_def DB hr (by rfl) (pa_cons (pv 0) (pa_cons (pv 1) (pa_cons (pe_tup (pa_cons (pv 8) (pa_cons (pv 9) pa_nil))) pa_nil)))) (pa_cons (pe_def DN hr (by rfl) (pa_cons (pv 0) (pa_cons (pv 1) pa_nil))) pa_nil)) (by rfl))
      (pss_cons (ps_if (PW.pt (pw_or (pt_cmpR op_isN (pv 10) pe_non (nomark _)) (pw_or1 (pt_cmpR op_lt (pe_op op_mulW (pe_ix ix_tup (pv 10) pe_int (fun _ _ => rfl)) (pe_ix ix_tup (pv 2) pe_int (fun _ _ => rfl))) (pe_op op_mulW (pe_ix ix_tup (pv 2) pe_int (fun _ _ => rfl)) (pe_ix ix_tup (pv 10) pe_int (fun _ _ => rfl))) (nomark _))))) pss_never pss_nil)
      (pss_cons (ps_set (i := 12) nd rfl (.inl rfl) (pe_tupleOf (by rfl) mtuple (pe_lc (own := [("_law_one", 14), ("_law_two", 15)]) (g := gTup K 2 (gCons (gName 14) (gCons (gName 15) gNil))) (tt := tYes) rfl nd (RZ.pi_zipA (by rfl) mzip (pa_cons (pv 8) (pa_cons (pe_ix ix_tup (pv 11) pe_int (fun _ _ => rfl)) pa_nil))) (blkOk_by (N := ["_law_made_here", "_law_place", "_law_told", "_law_paper", "_law_rows_here", "_law_titles", "_law_title", "_law_low", "_law_ways", "_law_heights_here", "_law_worth", "_law_best", "_law_both", "_law_part", "_law_one", "_law_two"]) (sc := defScope (topS 60)) (by decide +kernel))
            (fun _ _ _ _ _ => pg_tup rfl (pgs_cons (pg_name (i := 14) nd rfl (Or.inl rfl)) (pgs_cons (pg_name (i := 15) nd rfl (Or.inl rfl)) pgs_nil))) (fun _ _ _ _ _ => pts_nil) (fun _ _ _ _ _ => pe_def DH (hr.mono (by decide)) (by rfl) (pa_cons (pv 14) (pa_cons (pv 15) pa_nil))))))
      (pss_one (ps_ret (pe_cmpR (op_eqD hr.units) (pe_def DB hr (by rfl) (pa_cons (pv 0) (pa_cons (pv 1) (pa_cons (pe_tup (pa_cons (pv 12) (pa_cons (pe_def DM (hr.mono (by decide)) (by rfl) (pa_cons (pv 9) (pa_cons (pe_ix ix_tup (pv 11) pe_int (fun _ _ => rfl)) (pa_cons (pv 5) pa_nil)))) pa_nil))) pa_nil)))) (pe_def DH (hr.mono (by decide)) (by rfl) (pa_cons (pv 10) (pa_cons (pv 2) pa_nil))) (nomark _))))))))))), ?_⟩
    obtain ⟨a, b, rfl, ha, hb⟩ := id hC.cell
    have ok := hC.ok
    have hsm := wlp_small ok hC.mem hC.pt
    obtain ⟨hh15, hw15⟩ := wlp_hw (pt := pt) ok hC.mem
    have G := E1.good (wlp_good hC.pt)
    have cl := cnames_len ok hC.mem
    have cnd := cnames_nodup S n
    have d3 := ok.d3
    have hh : (wlp S n pt).h = S.d + (cnames S n).length := rfl
    obtain ⟨kvs, hL, hpc⟩ := hLv
    refine ⟨_, rfl, _, rfl, a, _, 0, .str n, rfl, rfl, SqT.of ha, atI_nat (j := 0) rfl, rl, n, S, xs, rows, rfl, hrl, hA, hro, hpm, ok, fun H1 T0 lp ln zs prow s1 hT0 _ _ _ _ hln => ?_⟩
    refine ⟨T0, _, 1, .ref ln, rfl, rfl, SqT.of hT0, atI_nat (j := 1) rfl, ?_⟩
    refine ⟨_, rfl, ln, rfl, ⟨_, SqL.of hln⟩, fun D1 hD1 => ?_⟩
    refine lc_filter (walk_list (K := K) (a := ln) (xs := (cnames S n).map V.str)) (fun j => !(valV kvs (Sum.inr ((cnames S n).getD j ⟨#[]⟩) : Key)).isSome) (fun j => .str ((cnames S n).getD j ⟨#[]⟩)) (small1000 (by rw [List.length_map]; omega)) hD1 (fun H' s' => SqL.of (s' _ _ hln)) (fun j H x H' _ => y_at j H x H') ?_ ?_
    · rintro j x H2o H2 acc Z N hj s2 hk ⟨rfl, ex⟩ hZ hN
      rw [List.length_map] at hj
      have er : (cnames S n)[j]? = some (cnames S n)[j] := List.getElem?_eq_getElem hj
      have ex' : x = .str (cnames S n)[j] := by
        rw [List.getElem?_map, er] at ex
        exact (Option.some.inj ex).symm
      subst ex'
      rw [getD_at er] at hZ hN
      refine ⟨rfl, ?_⟩
      refine ⟨_, rfl, _, rfl, L, _, rfl, DGet.k (k := Sum.inr (cnames S n)[j]) (s2 _ _ (s1 _ _ hL)), _, rfl, ite2 (fun e => ?_) (fun e => ?_)⟩
      · exact ⟨_, rfl, hZ _ (Same.refl _) e⟩
      · exact hN _ (Same.refl _) ((Bool.not_eq_true _).mp e)
    intro H2 s2 hD2
    refine ⟨Nat.zero_le _, fun E0 hE0 => ?_⟩
    have s3 : Same H2 (upd H2 E0 (.lst [])) := same_upd hE0
    have hE3 : (upd H2 E0 (.lst [])) E0 = some (.lst []) := upd_same
    generalize upd H2 E0 (.lst []) = H3 at s3 hE3 ⊢
    have s13 := s2.trans s3
    have s03 := s1.trans s13
    generalize hlz : ((List.range ((cnames S n).map V.str).length).filter fun j => !(valV kvs (Sum.inr ((cnames S n).getD j ⟨#[]⟩) : Key)).isSome) = lz at hD2
    refine ⟨D1, E0, _, rfl, rfl, SqL.of (s3 _ _ hD2), SqL.of hE3, _, rfl, ite2 (fun e => q H3 s03) (fun e => ?_)⟩
    have elz : lz = [] := by
      cases lz with
      | nil => rfl
      | cons z zs => exact absurd rfl e
    rw [elz] at hlz
    have hkeys : ∀ (j : Nat) (r : Str), (cnames S n)[j]? = some r → (Sum.inr r : Key) ∈ kvs.map (·.1) := fun j r er => by
      have hj := (List.getElem?_eq_some_iff.mp er).1
      have hne : j ∉ ((List.range ((cnames S n).map V.str).length).filter fun j => !(valV kvs (Sum.inr ((cnames S n).getD j ⟨#[]⟩) : Key)).isSome) := by
        rw [hlz]
        exact fun z => nomatch z
      refine valV_iff.mp ?_
      cases z : (valV kvs (Sum.inr r : Key)).isSome with
      | true => rfl
      | false =>
        refine absurd (List.mem_filter.mpr ⟨List.mem_range.mpr (by rw [List.length_map]; exact hj), ?_⟩) hne
        rw [getD_at er, z]
        rfl
    obtain ⟨in_, hin⟩ := idx_of (show n ∈ cnames S n from (cnames_mem _).mpr (.inl rfl))
    obtain ⟨y, hy, hcol, hent⟩ := (hpc n (hkeys in_ n hin)).ex
    have hLk : ∀ {H'}, Same H3 H' → H' L = some (.dK kvs) := fun s' => s' _ _ (s03 _ _ hL)
    have hln3 := s13 _ _ hln
    -- the least height
    refine ⟨_, rfl, ln, rfl, ⟨_, SqL.of hln3⟩, fun D2 hD2' => ?_⟩
    refine lc_map (walk_list (K := K) (a := ln) (xs := (cnames S n).map V.str)) (fun j _ yv => yv = .int (y (S.d + j))) (fun _ _ _ _ _ _ _ e => e) (small1000 (by rw [List.length_map]; omega)) hD2' (fun H' s' => SqL.of (s' _ _ hln3)) (fun j H x H' _ => y_at j H x H') ?_ ?_ gm_name
    · rintro j x H4o H4 acc Z hj s4 hk ⟨rfl, ex⟩ hZ
      rw [List.length_map] at hj
      have er : (cnames S n)[j]? = some (cnames S n)[j] := List.getElem?_eq_getElem hj
      have ex' : x = .str (cnames S n)[j] := by
        rw [List.getElem?_map, er] at ex
        exact (Option.some.inj ex).symm
      subst ex'
      obtain ⟨t, e, hv, ht, he⟩ := hent j _ er
      refine ⟨rfl, ?_⟩
      refine ⟨_, rfl, _, rfl, L, .ref t, rfl, by rw [← hv]; exact DGet.k (k := Sum.inr (cnames S n)[j]) (hLk s4), ?_⟩
      exact ⟨t, _, 1, .int (y (S.d + j)), rfl, rfl, SqT.of (s4 _ _ (s03 _ _ ht)), atI_nat (j := 1) rfl, hZ _ _ (Same.refl _) rfl⟩
    intro H4 zs4 s4 hz4 hzl4 hzv4
    rw [List.length_map] at hzl4
    have ez4 : zs4 = ((List.range (cnames S n).length).map fun j => y (S.d + j)).map V.int := by
      rw [List.map_map]
      exact list_of hzl4 hzv4
    subst ez4
    refine ⟨D2, _, rfl, SqL.of hz4, by rw [List.length_map, List.length_range]; have := (List.getElem?_eq_some_iff.mp hin).1; omega, fun low hlow hle => ?_⟩
    obtain ⟨jl, hjl, rfl⟩ := List.mem_map.mp hlow
    rw [List.mem_range] at hjl
    have low0 := (hy (S.d + jl) (by omega)).1
    have lowle : ∀ j, j < (cnames S n).length → y (S.d + jl) ≤ y (S.d + j) := fun j hj => hle _ (List.mem_map.mpr ⟨j, List.mem_range.mpr hj, rfl⟩)
    generalize y (S.d + jl) = low at low0 lowle
    have hf : ∀ c, c < (wlp S n pt).h → 0 ≤ lftN S.d low y c ∧ (lftN S.d low y c).natAbs ≤ 2 ^ 1664 := fun c hc => by
      obtain ⟨h1, h2⟩ := hy c hc
      refine lftN_abs low0 h1 h2 fun hd => ?_
      have := lowle (c - S.d) (by rw [hh] at hc; omega)
      rw [show S.d + (c - S.d) = c by omega] at this
      exact this
    have hcolf : ∀ r ∈ compOf S n, 1 ≤ sumN (wlp S n pt).h (fun c => aRd S (cnames S n) c r * lftN S.d low y c) := fun r hr => by
      rw [lft_col hr]
      exact hcol r hr
    have s04 := s03.trans s4
    -- the vector
    obtain ⟨t0, e0, hv0, ht0, he0⟩ := hent in_ n hin
    have he4 := s04 _ _ he0
    refine ⟨_, rfl, _, rfl, a, _, 0, .str n, rfl, rfl, SqT.of (s04 _ _ ha), atI_nat (j := 0) rfl, L, .ref t0, rfl, by rw [← hv0]; exact DGet.k (k := Sum.inr n) (hLk s4), ?_⟩
    refine ⟨t0, _, 0, .ref e0, rfl, rfl, SqT.of (s04 _ _ ht0), atI_nat (j := 0) rfl, e0, rfl, ⟨_, SqT.of he4⟩, fun D3 hD3 => ?_⟩
    refine lc_map (walk_tup (K := K) (a := e0) (xs := (List.range S.d).map fun c => V.int (y c))) (fun j H' yv => ∃ o, yv = .ref o ∧ o ≠ D3 ∧ H' o = some (frV (y j, 1))) (fun j H1 H2 yv acc hD sx ⟨o, e, n, h⟩ => ⟨o, e, n, sx _ _ n h⟩) (small1000 (by rw [List.length_map, List.length_range]; omega)) hD3 (fun H' s' => SqT.of (s' _ _ he4)) (fun j H x H' _ => y_at j H x H') ?_ ?_ gm_name
    · rintro j x H5o H5 acc Z hj s5 hk ⟨rfl, ex⟩ hZ
      rw [List.length_map, List.length_range] at hj
      have ex' : x = .int (y j) := by
        rw [List.getElem?_map, List.getElem?_range hj] at ex
        exact (Option.some.inj ex).symm
      subst ex'
      refine ⟨rfl, _, rfl, Nat.le_of_lt (small1000 (by simp)), fun o ho => ?_⟩
      exact hZ _ _ (same_upd ho) ⟨o, rfl, (ne_of_none hk ho).symm, upd_same⟩
    intro H5 vs5 s5 hz5 hzl5 hzv5
    rw [List.length_map, List.length_range] at hzl5
    refine .inl ⟨D3, _, rfl, SqL.of hz5, fun wt hwt => ?_⟩
    have s6 : Same H5 (upd H5 wt (.tup vs5)) := same_upd hwt
    have hwt6 : (upd H5 wt (.tup vs5)) wt = some (.tup vs5) := upd_same
    generalize upd H5 wt (.tup vs5) = H6 at s6 hwt6 ⊢
    intro hd hhd
    have s7 : Same H6 (upd H6 hd (.dK [])) := same_upd hhd
    have hhd7 : (upd H6 hd (.dK [])) hd = some (.dK []) := upd_same
    generalize upd H6 hd (.dK []) = H7 at s7 hhd7 ⊢
    refine ⟨_, _, rfl, ?_⟩
    have s57 := s6.trans s7
    have s07 := s04.trans (s5.trans s57)
    have hvs7 : FrsAt H7 vs5 (fun c => (y c, 1)) := fun j v e => by
      obtain ⟨o, e1, _, e2⟩ := hzv5 j v e
      exact ⟨o, e1, s57 _ _ e2⟩
    have hwt7 := s7 _ _ hwt6
    have hln7 : H7 ln = some (.lst ((cnames S n).map V.str)) := (s5.trans s57) _ _ (s4 _ _ hln3)
    have hL7 := s07 _ _ hL
    have nLh : L ≠ hd := ne_of_none ((s04.trans (s5.trans s6)) _ _ hL) hhd
    have nlnh : ln ≠ hd := ne_of (hln7) hhd7 (by intro z; cases z)
    have hhd0 : H hd = none := (s04.trans (s5.trans s6)).free hhd
    -- the heights
    refine ⟨_, rfl, ln, rfl, ⟨_, SqL.of hln7⟩, for_list (K := K) (a := ln) (xs := (cnames S n).map V.str) (fun i σ H' => (∃ y6 y10 y11 y12 y13 y14 y15, σ = [some (.ref p), some (.ref a), some (.ref told), some (.ref L), some (.ref rl), some (.ref ln), y6, some (.int low), some (.ref wt), some (.ref hd), y10, y11, y12, y13, y14, y15]) ∧ SameX hd H7 H' ∧
        ∃ kv2 : List (Key × V), H' hd = some (.dK kv2) ∧ kv2.map (·.1) = ((cnames S n).take i).map Sum.inr ∧ FrsAt H' (kv2.map (·.2)) (fun j => (lftN S.d low y (S.d + j), 1))) ⟨⟨_, _, _, _, _, _, _, rfl⟩, fun b o _ e => e, [], hhd7, rfl, fun j v e => by simp at e⟩ (fun i σ H' _ ⟨_, sx, _⟩ => SqL.of (sx _ _ nlnh hln7)) ?_ ?_⟩
    · rintro i x σ H8 ex ⟨⟨y6, y10, y11, y12, y13, y14, y15, rfl⟩, sx8, kv2, hhd8, hk8, hv8⟩
      have hi : i < (cnames S n).length := by
        have := (List.getElem?_eq_some_iff.mp ex).1
        rw [List.length_map] at this
        exact this
      have er : (cnames S n)[i]? = some (cnames S n)[i] := List.getElem?_eq_getElem hi
      have ex' : x = .str (cnames S n)[i] := by
        rw [List.getElem?_map, er] at ex
        exact (Option.some.inj ex).symm
      subst ex'
      generalize (cnames S n)[i] = r at er
      obtain ⟨t, e, hv, ht, he⟩ := hent i r er
      have tup8 : ∀ {t l}, H7 t = some (.tup l) → H8 t = some (.tup l) := fun {t l} e => sx8 _ _ (ne_of e hhd7 (by intro z; cases z)) e
      refine ⟨_, rfl, _, rfl, L, .ref t, rfl, by rw [← hv]; exact DGet.k (k := Sum.inr r) (sx8 _ _ nLh hL7), ?_⟩
      refine ⟨t, _, 1, .int (y (S.d + i)), rfl, rfl, SqT.of (tup8 (s07 _ _ ht)), atI_nat (j := 1) rfl, _, rfl, _, _, rfl, rfl, ?_⟩
      refine ⟨Nat.le_of_lt (small1000 (by simp)), fun o ho => ?_⟩
      have s9 : Same H8 (upd H8 o (.tup [.int (y (S.d + i) - low), .int 1])) := same_upd ho
      have ho9 : (upd H8 o (.tup [.int (y (S.d + i) - low), .int 1])) o = some (.tup [.int (y (S.d + i) - low), .int 1]) := upd_same
      generalize upd H8 o (.tup [.int (y (S.d + i) - low), .int 1]) = H9 at s9 ho9 ⊢
      have hhd9 := s9 _ _ hhd8
      have kvl : kv2.length = i := by
        have := congrArg List.length hk8
        rw [List.length_map, List.length_map, List.length_take] at this
        omega
      refine ⟨_, rfl, _, rfl, hd, _, rfl, DPut.k (k := Sum.inr r) hhd9 (small1000 (by omega)), ?_⟩
      have hnew : (Sum.inr r : Key) ∉ kv2.map (·.1) := by
        rw [hk8]
        intro hm
        obtain ⟨x, hx, e2⟩ := List.mem_map.mp hm
        have e3 : x = r := Sum.inr.inj e2
        subst e3
        obtain ⟨j, hj⟩ := List.getElem?_of_mem hx
        have hj2 := (List.getElem?_eq_some_iff.mp hj).1
        rw [List.length_take] at hj2
        rw [List.getElem?_take_of_lt (by omega)] at hj
        have := nodup_at cnd hj er
        omega
      rw [putK_snoc hnew]
      have tup10 : ∀ {t l}, H9 t = some (.tup l) → upd H9 hd (.dK (kv2 ++ [(Sum.inr r, .ref o)])) t = some (.tup l) := fun {t l} e => by
        rw [upd_ne (ne_of e hhd9 (by intro z; cases z))]
        exact e
      refine ⟨⟨_, _, _, _, _, _, _, rfl⟩, SameX.trans (SameX.trans sx8 (Same.x s9 hd)) sameX_upd, _, upd_same, ?_, fun j v ej => ?_⟩
      · rw [List.map_append, hk8, List.take_add_one, er, List.map_append]
        rfl
      · rw [List.map_append] at ej
        by_cases hj : j < i
        · rw [List.getElem?_append_left (by rw [List.length_map]; omega)] at ej
          obtain ⟨o2, e1, e2⟩ := hv8 j v ej
          exact ⟨o2, e1, tup10 (s9 _ _ e2)⟩
        · rw [List.getElem?_append_right (by rw [List.length_map]; omega), List.length_map, kvl] at ej
          have hj2 : j = i := by
            have := (List.getElem?_eq_some_iff.mp ej).1
            simp at this
            omega
          subst hj2
          rw [Nat.sub_self] at ej
          cases ej
          refine ⟨o, rfl, ?_⟩
          have el : lftN S.d low y (S.d + j) = y (S.d + j) - low := by
            unfold lftN
            rw [if_neg (by omega)]
          show _ = some (frV (lftN S.d low y (S.d + j), 1))
          rw [el]
          exact tup10 ho9
    rintro σ H8 ⟨⟨y6, y10, y11, y12, y13, y14, y15, rfl⟩, sx8, kv2, hhd8, hk8, hv8⟩
    rw [List.length_map, List.take_length] at hk8
    have sH8 : Same H H8 := fun b o e => sx8 _ _ (ne_of_none e hhd0) (s07 _ _ e)
    have tup8 : ∀ {t l}, H7 t = some (.tup l) → H8 t = some (.tup l) := fun {t l} e => sx8 _ _ (ne_of e hhd7 (by intro z; cases z)) e
    have hwt8 := tup8 hwt7
    have hln8 := sx8 _ _ nlnh hln7
    have hvs8 : FrsAt H8 vs5 (fun c => (y c, 1)) := fun j v e => by
      obtain ⟨o, e1, e2⟩ := hvs7 j v e
      exact ⟨o, e1, tup8 e2⟩
    have hvr8 : FrsAt H8 vs5 (fun c => red (lftN S.d low y c) 1) := fun j v e => by
      obtain ⟨o, e1, e2⟩ := hvs8 j v e
      have hj := (List.getElem?_eq_some_iff.mp e).1
      refine ⟨o, e1, ?_⟩
      show H8 o = some (frV (red (lftN S.d low y j) 1))
      rw [red_one]
      have : lftN S.d low y j = y j := by
        unfold lftN
        rw [if_pos (by omega)]
      rw [this]
      exact e2
    have hkr8 : FrsAt H8 (kv2.map (·.2)) (fun j => red (lftN S.d low y (S.d + j)) 1) := fun j v e => by
      obtain ⟨o, e1, e2⟩ := hv8 j v e
      refine ⟨o, e1, ?_⟩
      show H8 o = some (frV (red (lftN S.d low y (S.d + j)) 1))
      rw [red_one]
      exact e2
    have nge := nums_ge G (fun c hc => (hf c hc).1) hcolf
    have w2 := fun (f : Nat → Int) => num_worth2 (S := S) (n := n) (pt := pt) (bs := bs) (f := f)
    have ncol := fun r (hr : r ∈ compOf S n) => num_col E1 hcolf G hr
    have wab := worth_abs hsm hh15 fun c hc => (hf c hc).2
    have Dpos := G.pos
    have mnn : ∀ c, c < (wlp S n pt).h → 0 ≤ mNum S n pt bs (lftN S.d low y) c ∧ (mNum S n pt bs (lftN S.d low y) c).natAbs ≤ 2 ^ 3800 := fun c hc => by
      refine ⟨?_, mNum_abs hsm (hf c hc).2⟩
      have h1 := Int.mul_nonneg (hf c hc).1 (Int.le_of_lt Dpos)
      have h2 := E1.price_nn hc
      unfold mNum
      omega
    have fab : ∀ c, c < (wlp S n pt).h → (lftN S.d low y c).natAbs ≤ 2 ^ 1664 := fun c hc => (hf c hc).2
    have fnn : ∀ c, c < (wlp S n pt).h → 0 ≤ lftN S.d low y c := fun c hc => (hf c hc).1
    have w2' := w2 (lftN S.d low y)
    generalize lftN S.d low y = f at hvr8 hkr8 nge w2' ncol wab mnn hcolf fab fnn
    -- the worth of the level, the best numbers
    refine ⟨_, rfl, _, rfl, _, rfl, _, rfl, Nat.le_of_lt (small1000 (by simp)), fun qd hqd => ?_⟩
    have s9 : Same H8 (upd H8 qd (.tup [.ref wt, .ref hd])) := same_upd hqd
    have hqd9 : (upd H8 qd (.tup [.ref wt, .ref hd])) qd = some (.tup [.ref wt, .ref hd]) := upd_same
    generalize upd H8 qd (.tup [.ref wt, .ref hd]) = H9 at s9 hqd9 ⊢
    have sH9 := sH8.trans s9
    refine ⟨p, qd, .ref a, S, n, pt, f, 1, rfl, hC.mono sH9, ⟨wt, hd, vs5, kv2, hqd9, s9 _ _ hwt8, hzl5, hvr8.mono s9, s9 _ _ hhd8, hk8, hkr8.mono s9⟩, by decide, by unfold Bd; exact Nat.lt_of_le_of_lt (by decide : (1 : Int).natAbs ≤ 2 ^ 1) (Nat.pow_lt_pow_right (by omega) (by omega)), fun c hc => ⟨fnn c hc, Nat.le_trans (fab c hc) (Nat.pow_le_pow_right (by omega) (by omega))⟩, hcolf, fun H10 o s10 ho => ?_⟩
    have sH10 := sH9.trans s10
    refine ⟨_, rfl, _, rfl, p, .ref a, S, n, pt, rfl, hC.mono sH10, ⟨bs, E1⟩, fun H11 q2 bs2 s11 hq2 E2 hN => ?_⟩
    obtain rfl := (Lp.Ends.det (wlp_good hC.pt) E1 E2).1
    refine ⟨_, _, rfl, ?_⟩
    have sH11 := sH10.trans s11
    have s8_11 := (s9.trans s10).trans s11
    have ho11 := s11 _ _ ho
    have htold11 := sH11 _ _ htold
    have tD : ((wlp S n pt).D bs).natAbs ≤ 2 ^ 1664 := D1664 hsm
    have tT : ((wlp S n pt).T bs (wlp S n pt).h (wlp S n pt).n).natAbs ≤ 2 ^ 1664 := T1664 hsm _ _
    have lt1 : ∀ {x : Int} {k : Nat}, x.natAbs ≤ 2 ^ k → x.natAbs < 2 ^ (k + 1) := fun {x k} h => Nat.lt_of_le_of_lt h (Nat.pow_lt_pow_right (by omega) (by omega))
    have one_abs : (1 : Int).natAbs ≤ 2 ^ 1664 := Nat.le_trans (by decide : (1 : Int).natAbs ≤ 2 ^ 1) (Nat.pow_le_pow_right (by omega) (by omega))
    obtain ⟨a2, b2, vs2, kv3, k1, k2, k3, k4, k5, k6, k7⟩ := id hN
    have pab : ∀ c, ((wlp S n pt).price bs c).natAbs ≤ 2 ^ 1664 := fun c => T1664 hsm _ _
    generalize hW : sumN (wlp S n pt).h (fun c => (wlp S n pt).b c * f c) = W1 at *
    generalize hTh : (wlp S n pt).T bs (wlp S n pt).h (wlp S n pt).n = Th at *
    refine ⟨_, rfl, rfl, _, rfl, ?_⟩
    rw [decide_eq_false (by intro z; cases z)]
    refine iteF ?_
    refine ⟨_, rfl, o, _, 0, .int (red W1 1).1, rfl, rfl, SqT.of ho11, atI_nat (j := 0) rfl, _, rfl, told, _, 1, .int (red Th ((wlp S n pt).D bs)).2, rfl, rfl, SqT.of htold11, atI_nat (j := 1) rfl, _, _, rfl, rfl, wide_mul (a := 1771) (b := 1665) (Nat.lt_of_le_of_lt (red_abs1 _ _) (lt1 wab)) (Nat.lt_of_le_of_lt (red_abs2 _ _) (lt1 tD)) (by decide) (by decide) (by decide), ?_⟩
    refine ⟨_, rfl, told, _, 0, .int (red Th ((wlp S n pt).D bs)).1, rfl, rfl, SqT.of htold11, atI_nat (j := 0) rfl, _, rfl, o, _, 1, .int (red W1 1).2, rfl, rfl, SqT.of ho11, atI_nat (j := 1) rfl, _, _, rfl, rfl, wide_mul (a := 1665) (b := 1665) (Nat.lt_of_le_of_lt (red_abs1 _ _) (lt1 tT)) (Nat.lt_of_le_of_lt (red_abs2 _ _) (lt1 one_abs)) (by decide) (by decide) (by decide), _, _, rfl, rfl, _, rfl, ?_⟩
    rw [decide_eq_false (fun z => by
      have := (red_cmp (by decide : (0 : Int) < 1) Dpos).mp z
      omega)]
    refine iteF ?_
    -- the vectors put together
    have hwt11 := s8_11 _ _ hwt8
    refine ⟨_, rfl, _, rfl, q2, _, 0, .ref a2, rfl, rfl, SqT.of k1, atI_nat (j := 0) rfl, ?_⟩
    refine ⟨wt, a2, vs5, vs2, rfl, .inr ⟨SqT.of hwt11, SqT.of k2, fun D4 hD4 => ?_⟩⟩
    refine lc_map (walk_zipT (K := K) (a := wt) (b := a2) (xs := vs5) (ys := vs2) (n := S.d) (by omega)) (fun j H' yv => ∃ o, yv = .ref o ∧ o ≠ D4 ∧ H' o = some (frV (red (mNum S n pt bs f j) (2 * (1 * (wlp S n pt).D bs))))) (fun j H1 H2 yv acc hD sx ⟨o, e, n, h⟩ => ⟨o, e, n, sx _ _ n h⟩) (small1000 (by omega)) hD4 (fun H' s' => ⟨SqT.of (s' _ _ hwt11), SqT.of (s' _ _ k2)⟩) (fun j H x H' _ => y_pair j H x H') ?_ ?_ gm_pair
    · rintro j x H12 H13 acc Z hj s12 hacc ⟨t3, x3, x4, rfl, nt3, rfl, e3, e4⟩ hZ
      obtain ⟨o3, rfl, ho3⟩ := (hvr8.mono s8_11) j x3 e3
      obtain ⟨o4, rfl, ho4⟩ := k4 j x4 e4
      have s13 : Same H12 (upd H12 t3 (.tup [.ref o3, .ref o4])) := same_upd nt3
      have ht13 : (upd H12 t3 (.tup [.ref o3, .ref o4])) t3 = some (.tup [.ref o3, .ref o4]) := upd_same
      generalize upd H12 t3 (.tup [.ref o3, .ref o4]) = H13 at s13 ht13 hacc s12 hZ ⊢
      refine ⟨t3, _, rfl, SqT.of ht13, rfl, _, _, rfl, _, _, rfl, rfl, ?_⟩
      refine ⟨rfl, ?_⟩
      have fj := fab j (by omega)
      refine ⟨_, rfl, _, rfl, .ref o3, .ref o4, (red (f j) 1).1, (red (f j) 1).2, (red ((wlp S n pt).price bs j) ((wlp S n pt).D bs)).1, (red ((wlp S n pt).price bs j) ((wlp S n pt).D bs)).2, rfl, ⟨o3, rfl, SqT.of (s12 _ _ ho3)⟩, ⟨o4, rfl, SqT.of (s12 _ _ ho4)⟩, red_pos (by decide), red_pos Dpos, Nat.lt_of_le_of_lt (red_abs1 _ _) (bh_of fj (by decide)), Nat.lt_of_le_of_lt (red_abs2 _ _) (bh_of one_abs (by decide)), Nat.lt_of_le_of_lt (red_abs1 _ _) (bh_of (pab j) (by decide)), Nat.lt_of_le_of_lt (red_abs2 _ _) (bh_of tD (by decide)), fun H14 o5 s14 hno ho5 => ?_⟩
      rw [red_half (by decide) Dpos] at ho5
      exact hZ _ _ s14 ⟨o5, rfl, (ne_of_none hacc hno).symm, ho5⟩
    intro H12 vs6 s12 hz12 hzl12 hzv12
    refine .inl ⟨D4, _, rfl, SqL.of hz12, fun bt hbt => ?_⟩
    have s13 : Same H12 (upd H12 bt (.tup vs6)) := same_upd hbt
    have hbt13 : (upd H12 bt (.tup vs6)) bt = some (.tup vs6) := upd_same
    generalize upd H12 bt (.tup vs6) = H13 at s13 hbt13 ⊢
    have s11_13 := s12.trans s13
    have sH13 := sH11.trans s11_13
    have s8_13 := s8_11.trans s11_13
    -- the heights put together
    refine ⟨_, rfl, _, rfl, _, rfl, _, rfl, _, rfl, q2, _, 1, .ref b2, rfl, rfl, SqT.of (s11_13 _ _ k1), atI_nat (j := 1) rfl, _, rfl, ?_⟩
    refine ⟨hd, b2, ln, fnS (cnames S n) fun j => f (S.d + j), fnS (cnames S n) fun j => (wlp S n pt).price bs (S.d + j), 1, (wlp S n pt).D bs, _, cnames S n, rfl, mapK_of (s8_13 _ _ hhd8) hk8 (hkr8.mono s8_13) cnd, mapK_of (s11_13 _ _ k5) k6 (k7.mono s11_13) cnd, SqL.of (s8_13 _ _ hln8), rfl, cnd, by omega, by decide, Dpos, fun r hr => ?_, fun H14 q3 s14 hq3 hDK => ?_⟩
    · obtain ⟨j, hj⟩ := List.getElem?_of_mem hr
      have hjl := (List.getElem?_eq_some_iff.mp hj).1
      rw [fnS_at cnd hj, fnS_at cnd hj]
      exact ⟨⟨by decide, Nat.le_trans (fab _ (by omega)) (Nat.pow_le_pow_right (by omega) (by omega)), Nat.le_trans one_abs (Nat.pow_le_pow_right (by omega) (by omega))⟩, ⟨Dpos, Nat.le_trans (pab _) (Nat.pow_le_pow_right (by omega) (by omega)), Nat.le_trans tD (Nat.pow_le_pow_right (by omega) (by omega))⟩⟩
    obtain ⟨kv4, m1, m2, m3⟩ := frs_of hDK
    have m3' : FrsAt H14 (kv4.map (·.2)) (fun j => red (mNum S n pt bs f (S.d + j)) (2 * (1 * (wlp S n pt).D bs))) := fun j v e => by
      obtain ⟨o6, e1, e2⟩ := m3 j v e
      have hl : j < (cnames S n).length := by
        have h1 := (List.getElem?_eq_some_iff.mp e).1
        have h2 := congrArg List.length m2
        rw [List.length_map] at h1 h2
        rw [List.length_map] at h2
        omega
      have er : (cnames S n)[j]? = some (cnames S n)[j] := List.getElem?_eq_getElem hl
      refine ⟨o6, e1, ?_⟩
      have e3 : H14 o6 = some (frV (red (fnS (cnames S n) (fun j => f (S.d + j)) ((cnames S n).getD j ⟨#[]⟩) * (wlp S n pt).D bs + fnS (cnames S n) (fun j => (wlp S n pt).price bs (S.d + j)) ((cnames S n).getD j ⟨#[]⟩) * 1) (2 * (1 * (wlp S n pt).D bs)))) := e2
      rw [getD_at er, fnS_at cnd er, fnS_at cnd er] at e3
      exact e3
    refine ⟨Nat.le_of_lt (small1000 (by simp)), fun qt hqt => ?_⟩
    have s15 : Same H14 (upd H14 qt (.tup [.ref bt, .ref q3])) := same_upd hqt
    have hqt15 : (upd H14 qt (.tup [.ref bt, .ref q3])) qt = some (.tup [.ref bt, .ref q3]) := upd_same
    generalize upd H14 qt (.tup [.ref bt, .ref q3]) = H15 at s15 hqt15 ⊢
    have s13_15 := s14.trans s15
    have sH15 := sH13.trans s13_15
    have hv15 : FrsAt H15 vs6 (fun j => red (mNum S n pt bs f j) (2 * (1 * (wlp S n pt).D bs))) := fun j v e => by
      obtain ⟨o6, e1, _, e2⟩ := hzv12 j v e
      exact ⟨o6, e1, (s13.trans s13_15) _ _ e2⟩
    have hEpos : 0 < 2 * (1 * (wlp S n pt).D bs) := by omega
    have hEab : (2 * (1 * (wlp S n pt).D bs)).natAbs ≤ 2 ^ 1665 := by
      have h1 : (2 * (1 * (wlp S n pt).D bs)).natAbs = 2 * ((wlp S n pt).D bs).natAbs := by
        rw [Int.one_mul, Int.natAbs_mul]
        rfl
      rw [h1, show (1665 : Nat) = 1664 + 1 from rfl, Nat.pow_succ, Nat.mul_comm]
      exact Nat.mul_le_mul_right 2 tD
    refine ⟨p, qt, .ref a, S, n, pt, mNum S n pt bs f, 2 * (1 * (wlp S n pt).D bs), rfl, hC.mono sH15, ⟨bt, q3, vs6, kv4, hqt15, s13_15 _ _ hbt13, hzl12, hv15, s15 _ _ m1, m2, m3'.mono s15⟩, hEpos, bd_of hEab (by decide), mnn, ncol, fun H16 o7 s16 ho7 => ?_⟩
    have s11_16 := (s11_13.trans s13_15).trans s16
    have sH16 := sH15.trans s16
    refine ⟨_, rfl, _, rfl, .ref o, .ref told, (red W1 1).1, (red W1 1).2, (red Th ((wlp S n pt).D bs)).1, (red Th ((wlp S n pt).D bs)).2, rfl, ⟨o, rfl, SqT.of (s11_16 _ _ ho11)⟩, ⟨told, rfl, SqT.of (sH16 _ _ htold)⟩, red_pos (by decide), red_pos Dpos, Nat.lt_of_le_of_lt (red_abs1 _ _) (bh_of wab (by decide)), Nat.lt_of_le_of_lt (red_abs2 _ _) (bh_of one_abs (by decide)), Nat.lt_of_le_of_lt (red_abs1 _ _) (bh_of tT (by decide)), Nat.lt_of_le_of_lt (red_abs2 _ _) (bh_of tD (by decide)), fun H17 o8 s17 hno8 ho8 => ?_⟩
    rw [red_half (by decide) Dpos] at ho8
    rw [w2'] at ho7
    refine ⟨_, _, .tup (SqT.of (s17 _ _ ho7)) (.cons (.int _) (.cons (.int _) .nil)), .tup (SqT.of ho8) (.cons (.int _) (.cons (.int _) .nil)), rfl, rfl, ?_⟩
    rw [PySem.W.eqv_refl_alike _ (by simp [PySem.W.alike, PySem.W.alikeAll])]
    exact q _ (sH16.trans s17)
end
end Frd
set_option Elab.async false
set_option linter.all false
set_option maxRecDepth 100000
set_option maxHeartbeats 1000000
set_option pp.maxSteps 1000
/-! dicts of weights by reads; frames. -/
namespace Frd
open PySem PySem.Spec PyProof.Rows L2 LamX
theorem key_at {kvs : List (List Key × V)} {rs : List Rd2} (h : kvs.map (·.1) = rs.map rk) {j : Nat} {kv : List Key × V} (e : kvs[j]? = some kv) : ∃ r, rs[j]? = some r ∧ kv.1 = rk r := by
  have e1 : (kvs.map (·.1))[j]? = some kv.1 := by rw [List.getElem?_map, e]; rfl
  rw [h, List.getElem?_map] at e1
  cases er : rs[j]? with
  | none =>
    rw [er] at e1
    cases e1
  | some r =>
    rw [er] at e1
    exact ⟨r, rfl, (Option.some.inj e1).symm⟩
theorem valT {kvs : List (List Key × V)} {rs : List Rd2} (h : kvs.map (·.1) = rs.map rk) (r : Rd2) : (∃ (j : Nat) (kv : List Key × V), kvs[j]? = some kv ∧ rs[j]? = some r ∧ valV kvs (rk r) = some kv.2) ∨ (valV kvs (rk r) = none ∧ r ∉ rs) := by
  by_cases hr : r ∈ rs
  · left
    have hm : rk r ∈ kvs.map (·.1) := by
      rw [h]
      exact List.mem_map.mpr ⟨r, hr, rfl⟩
    obtain ⟨j, kv, e1, e2, e3⟩ := valV_mem hm
    obtain ⟨q, hq, e4⟩ := key_at h e1
    have : q = r := rk_inj (e4.symm.trans e2)
    subst this
    exact ⟨j, kv, e1, hq, e3⟩
  · right
    refine ⟨?_, hr⟩
    cases z : valV kvs (rk r) with
    | none => rfl
    | some v =>
      have : (valV kvs (rk r)).isSome = true := by rw [z]; rfl
      have hm := valV_iff.mp this
      rw [h] at hm
      obtain ⟨x, hx, e⟩ := List.mem_map.mp hm
      exact absurd (rk_inj e ▸ hx) hr
theorem mapT_ws {S : Sys} {n : Str} {pt : List Int} {bs : Nat → Nat} {H : Hp} {q : Addr} (h : WsAt H q (wlp S n pt) bs (compOf S n)) (hnd : (compOf S n).Nodup) : MapT H q (uOf S n pt bs) ((wlp S n pt).D bs) := by
  obtain ⟨kvs, h1, h2, h3⟩ := h
  refine ⟨kvs, h1, fun r => ?_⟩
  rcases valT h2 r with ⟨j, kv, e1, e2, e3⟩ | ⟨e1, e2⟩
  · obtain ⟨o, o1, o2⟩ := h3 j kv e1
    exact .inl ⟨o, by rw [e3, o1], by rw [o2, uOf_at hnd e2]⟩
  · refine .inr ⟨e1, ?_⟩
    unfold uOf
    rw [if_neg e2]
theorem mapT_in {H : Hp} {q : Addr} {ks : List Rd2} {m : Rd2 → Int} {E : Int} (h : WsIn H q ks m E) (hz : ∀ r, r ∉ ks → m r = 0) : MapT H q m E := by
  obtain ⟨kvs, h1, h2, h3⟩ := h
  refine ⟨kvs, h1, fun r => ?_⟩
  rcases valT h2 r with ⟨j, kv, e1, e2, e3⟩ | ⟨e1, e2⟩
  · obtain ⟨o, o1, o2⟩ := h3 j kv r e1 e2
    exact .inl ⟨o, by rw [e3, o1], o2⟩
  · exact .inr ⟨e1, hz r e2⟩
theorem cnt_vals {kvs : List (List Key × V)} {ks : List Rd2} {cnt : Rd2 → Int} (hk : kvs.map (·.1) = ks.map rk) (hv : ∀ kv ∈ kvs, ∀ k, kv.1 = rk k → kv.2 = .int (cnt k)) : kvs.map (·.2) = (ks.map cnt).map V.int := by
  have hl : kvs.length = ks.length := by
    have := congrArg List.length hk
    rw [List.length_map, List.length_map] at this
    exact this
  rw [List.map_map]
  refine map_of (by rw [List.length_map]; exact hl) fun i y hy r hr => ?_
  rw [List.getElem?_map] at hy
  cases e : kvs[i]? with
  | none =>
    rw [e] at hy
    cases hy
  | some kv =>
    rw [e] at hy
    obtain ⟨q, hq, e2⟩ := key_at hk e
    rw [hq] at hr
    cases hr
    have := hv kv (List.mem_of_getElem? e) _ e2
    rw [← Option.some.inj hy]
    exact this
theorem WayOk.lenL {S : Sys} {n : Str} {pt : List Int} {ks : List Rd2} {cnt : Rd2 → Int} {x : Str} {p : List Int} {T : Nat} (h : WayOk S n pt ks cnt x p T) : ∀ l : List Rd2, (∀ r ∈ l, r ∈ ks) → (l.length : Int) ≤ (l.map cnt).sum
  | [], _ => by simp
  | r :: l, hl => by
    have := WayOk.lenL h l fun q hq => hl q (List.mem_cons_of_mem _ hq)
    have h1 := h.pos r (hl r List.mem_cons_self)
    rw [List.map_cons, List.sum_cons, List.length_cons]
    omega
theorem WayOk.few {S : Sys} {n : Str} {pt : List Int} {ks : List Rd2} {cnt : Rd2 → Int} {x : Str} {p : List Int} {T : Nat} (h : WayOk S n pt ks cnt x p T) : ks.length ≤ T := by
  have := h.lenL ks fun r hr => hr
  rw [h.tot] at this
  omega
theorem sum_ge {f : Rd2 → Int} : ∀ {l : List Rd2} {r : Rd2}, r ∈ l → (∀ q ∈ l, 0 ≤ f q) → f r ≤ (l.map f).sum
  | a :: l, r, hr, h => by
    rw [List.map_cons, List.sum_cons]
    have h0 : 0 ≤ (l.map f).sum := by
      have : ∀ m : List Rd2, (∀ q ∈ m, 0 ≤ f q) → 0 ≤ (m.map f).sum := fun m => by
        induction m with
        | nil => intro _; simp
        | cons b m ih =>
          intro hm
          rw [List.map_cons, List.sum_cons]
          have := ih fun q hq => hm q (List.mem_cons_of_mem _ hq)
          have := hm b List.mem_cons_self
          omega
      exact this l fun q hq => h q (List.mem_cons_of_mem _ hq)
    rcases List.mem_cons.mp hr with rfl | hr
    · omega
    · have := sum_ge hr fun q hq => h q (List.mem_cons_of_mem _ hq)
      have := h a List.mem_cons_self
      omega
theorem WayOk.cnt_le {S : Sys} {n : Str} {pt : List Int} {ks : List Rd2} {cnt : Rd2 → Int} {x : Str} {p : List Int} {T : Nat} (h : WayOk S n pt ks cnt x p T) (r : Rd2) : 0 ≤ cnt r ∧ cnt r ≤ T := by
  refine ⟨h.cnt_nn r, ?_⟩
  by_cases q : r ∈ ks
  · have := sum_ge (f := cnt) q fun q _ => h.cnt_nn q
    rw [h.tot] at this
    exact this
  · rw [h.zero r q]
    omega
theorem mBoth_abs0 {u c D : Int} {A C : Nat} (h1 : u.natAbs ≤ A) (h2 : c.natAbs ≤ 60) (h3 : D.natAbs ≤ A) (h : A + 60 * A ≤ C) : (u * 1 + c * D).natAbs ≤ C := by
  have h4 := Int.natAbs_add_le (u * 1) (c * D)
  rw [Int.natAbs_mul c D, Int.mul_one] at h4
  have h5 := Nat.mul_le_mul h2 h3
  rw [Int.mul_one]
  omega
theorem pow_c : 2 ^ 1664 + 60 * 2 ^ 1664 ≤ 2 ^ 3900 := by decide +kernel
theorem uOf_abs {S : Sys} {n : Str} {pt : List Int} {bs : Nat → Nat} (hs : (wlp S n pt).Small 100) (r : Rd2) : (uOf S n pt bs r).natAbs ≤ 2 ^ 1664 := by
  unfold uOf
  split
  · exact num1664 hs _
  · exact Nat.zero_le _
/-- all but the pool and the tables stays -/
def FrN (pl : Addr) (H H' : Hp) : Prop := ∀ b o, b ≠ pl → H b = some o → (∀ ps, o ≠ .tbl ps) → H' b = some o
theorem FrN.refl (pl : Addr) (H : Hp) : FrN pl H H := fun _ _ _ e _ => e
theorem FrN.trans {pl : Addr} {H H1 H2 : Hp} (a : FrN pl H H1) (b : FrN pl H1 H2) : FrN pl H H2 := fun c o h e n => b c o h (a c o h e n) n
theorem FrN.of {pl : Addr} {H H' : Hp} (s : SameX pl H H') : FrN pl H H' := fun b o h e _ => s b o h e
theorem FrN.ofE {pl : Addr} {H H' : Hp} (s : ExtN H H') : FrN pl H H' := fun b o _ e n => s b o e n
theorem tabs_pl {T : List (Addr × Str)} {H H' : Hp} {pl : Addr} {n : Nat} (t : Tabs T H) (s : SameX pl H H') (hp : PoolAt H pl n) : Tabs T H' := by
  obtain ⟨x, y, c, e, _⟩ := hp
  exact tabs_x t s e (fun ps z => by cases z) fun c q z => by
    unfold CodeO at z
    cases z
end Frd
set_option Elab.async false
set_option linter.all false
set_option maxRecDepth 100000
set_option maxHeartbeats 1000000
set_option pp.maxSteps 1000
/-! _law_right. -/
namespace Frd
open PySem PySem.Spec PyProof.Rows L2 LamX
section
variable {P : Program} {w : World} {K : PySem.W.Frag} {mg : Str → Option Value} {base : Heap} {C : Addr}
theorem scRt : FnScope ["_law_pool_here", "_law_axes", "_law_tables_here", "_law_made_here", "_law_rows_here", "_law_title", "_law_place", "_law_some", "_law_shares_here", "_law_one", "_law_long", "_law_told", "_law_best", "_law_known", "_law_both", "_law_paper", "_law_row"] ["_law_pool_here"] (defScope (topS 61)) := ⟨rfl, rfl, rfl, by decide +kernel, rfl, by decide +kernel, by decide +kernel⟩
def spRt (T : List (Addr × Str)) : Sp := fun vs H Q _ => ∃ (pl : Addr) (N : Nat), vs = [.ref pl] ∧ PoolAt H pl N ∧ N ≤ 8000 ∧ Tabs T H ∧ ∀ H', FrN pl H H' → PoolAt H' pl (N + 400) → Tabs T H' → Q (.bl true) H'
theorem ok_rt {T : List (Addr × Str)} {f : Addr} {fd : FuncData} (F : Fun K "_law_right" "_law_right" (topS 61) f fd) (mlen : mg "len" = none) (mlist : mg "list" = none) (msum : mg "sum" = none)
    (DD : Dn P w K mg base "_law_draw" 1 ["_law_pool_here", "_law_many"] spDr) (DT : Dn P w K mg base "_law_tables" 3 ["_law_pool_here", "_law_axes", "_law_most"] spTab) (DMd : Dn P w K mg base "_law_made" 6 ["_law_axes", "_law_tables_here"] (spMd K C T)) (DR : Dn P w K mg base "_law_rows" 1 ["_law_tables_here"] (spLRw K))
    (DP : Dn P w K mg base "_law_point" 2 ["_law_pool_here", "_law_axes"] spPt) (DW : Dn P w K mg base "_law_way" 2 ["_law_pool_here", "_law_rows_here", "_law_place"] (spWay K)) (DB : Dn P w K mg base "way_bound" 6 ["system", "cell"] (spWb C)) (DF : Dn P w K mg base "flow_worth" 6 ["system", "cell", "found"] (spFl C))
    (DFw : Dn P w K mg base "flow_weights" 6 ["system", "cell"] (spFw C)) (DO : Dn P w K mg base "_law_own" 2 ["_law_rows_here", "_law_title"] spOwn) (DM : Dn P w K mg base "_law_mean" 3 ["_law_one", "_law_two", "_law_titles"] (spMnT K)) (DH : Dn P w K mg base "_law_half" 2 ["_law_one", "_law_two"] (spHf K))
    (DS : Dn P w K mg base "schedule" 8 ["system"] (spLi C)) (DN : Dn P w K mg base "_law_numbers_right" 7 ["_law_made_here", "_law_place", "_law_told", "_law_paper", "_law_rows_here"] (spNr C)) : FnOk P w K mg base CX0 9 f fd ["_law_pool_here"] (spRt T) := by
  refine F.ok scRt (fun vs H Q E h => ?_) (fun cdv A outer s H vs Q E hr h => ?_)
  · obtain ⟨pl, N, rfl, _⟩ := h
    rfl
  · obtain ⟨pl, N, rfl, hp, hN, hTab, q⟩ := h
    have nd := scRt.nd
    have hun := hu_of hr
    refine ⟨_, (pss_cons (ps_set (i := 1) nd rfl (.inl rfl) (pe_op op_add pe_int (pe_def DD (hr.mono (by decide)) (by rfl) (pa_cons (pv 0) (pa_cons pe_int pa_nil)))))
      (pss_cons (ps_set (i := 2) nd rfl (.inl rfl) (pe_def DT (hr.mono (by decide)) (by rfl) (pa_cons (pv 0) (pa_cons (pv 1) (pa_cons pe_int pa_nil)))))
      (pss_cons (ps_par (i := 3) (j := 4) rfl nd rfl rfl (by decide) rfl rfl (pa_cons (pe_def DMd (hr.mono (by decide)) (by rfl) (pa_cons (pv 1) (pa_cons (pv 2) pa_nil))) (pa_cons (pe_def DR (hr.mono (by decide)) (by rfl) (pa_cons (pv 2) pa_nil)) pa_nil)) (by rfl))
      (pss_cons (ps_set (i := 5) nd rfl (.inl rfl) (pe_ix ix_tup (pe_ix ix_list (pv 2) (pe_def DD (hr.mono (by decide)) (by rfl) (pa_cons (pv 0) (pa_cons (pe_callB call_len_seq (by rfl) mlen PySem.boot_len (pa_cons (pv 2) pa_nil)) pa_nil))) (fun _ _ => rfl)) pe_int (fun _ _ => rfl)))
      (pss_cons (ps_set (i := 6) nd rfl (.inl rfl) (pe_tup (pa_cons (pv 5) (pa_cons (pe_def DP (hr.mono (by decide)) (by rfl) (pa_cons (pv 0) (pa_cons (pv 1) pa_nil))) pa_nil))))
      (pss_cons (ps_par (i := 7) (j := 8) rfl nd rfl rfl (by decide) rfl rfl (pa_cons (pe_def DW (hr.mono (by decide)) (by rfl) (pa_cons (pv 0) (pa_cons (pv 4) (pa_cons (pv 6) pa_nil)))) (pa_cons pe_dnewT pa_nil)) (by rfl))
      (pss_cons (ps_lock (ps_for PassesOwn.never rfl (pi_keys (pv 7)) (pg_name (i := 9) nd rfl (.inl rfl)) (pss_one (ps_dput hun (pv 8) (pv 9) (pe_tup (pa_cons (pe_dget hun (pv 7) (pv 9) (fun _ _ => rfl)) (pa_cons pe_int pa_nil))) rfl))))
      (pss_cons (ps_par (i := 10) (j := 11) rfl nd rfl rfl (by decide) rfl rfl (pa_cons (pe_callB (cr_sum rfl) (by rfl) msum (by decide +kernel) (pa_cons (pe_listVals rfl (by rfl) mlist (pv 7)) pa_nil)) (pa_cons (pe_def DB (hr.mono (by decide)) (by rfl) (pa_cons (pv 3) (pa_cons (pv 6) pa_nil))) pa_nil)) (by rfl))
      (pss_cons (ps_if (pt_cmpR (op_neD hr.units) (pe_def DF (hr.mono (by decide)) (by rfl) (pa_cons (pv 3) (pa_cons (pv 6) (pa_cons (pv 8) pa_nil)))) (pe_tup (pa_cons (pv 10) (pa_cons pe_int pa_nil))) (nomark _)) pss_never pss_nil)
      (pss_cons (ps_if (pt_cmpR op_isN (pv 11) pe_non (nomark _)) (pss_one (ps_ret pe_bl)) pss_nil)
      (pss_cons (ps_par (i := 12) (j := 13) rfl nd rfl rfl (by decide) rfl rfl (pa_cons (pe_def DFw (hr.mono (by decide)) (by rfl) (pa_cons (pv 3) (pa_cons (pv 6) pa_nil))) (pa_cons (pe_lc (own := [("_law_row", 16)]) (g := gName 16) (tt := tYes) rfl nd (pi_list (pe_ix ix_tup (pe_def DO (hr.mono (by decide)) (by rfl) (pa_cons (pv 4) (pa_cons (pv 5) pa_nil))) pe_int (fun _ _ => rfl))) (blkOk_by (N := ["_law_pool_here", "_law_axes", "_law_tables_here", "_law_made_here", "_law_rows_here", "_law_title", "_law_place", "_law_some", "_law_shares_here", "_law_one", "_law_long", "_law_told", "_law_best", "_law_known", "_law_both", "_law_paper", "_law_row"]) (sc := defScope (topS 61)) (by decide +kernel)) (fun _ _ _ _ _ => pg_name (i := 16) nd rfl (Or.inl rfl)) (fun _ _ _ _ _ => pts_nil) (fun _ _ _ _ _ => (pe_tup (pa_cons (pe_ix (ix_tupB (K := K) rfl) (pv 16) pe_int (fun _ _ => rfl)) (pa_cons (pe_ix (ix_tupB (K := K) rfl) (pv 16) pe_int (fun _ _ => rfl)) pa_nil))))) pa_nil)) (by rfl))
      (pss_cons (ps_set (i := 14) nd rfl (.inl rfl) (pe_def DM (hr.mono (by decide)) (by rfl) (pa_cons (pv 12) (pa_cons (pv 8) (pa_cons (pv 13) pa_nil)))))
      (pss_cons (ps_if (PW.pt (pw_or (pt_cmpR op_gt (pe_op op_mulW (pv 10) (pe_ix ix_tup (pv 11) pe_int (fun _ _ => rfl))) (pe_ix ix_tup (pv 11) pe_int (fun _ _ => rfl)) (nomark _)) (pw_or1 (pt_cmpR (op_neD hr.units) (pe_def DF (hr.mono (by decide)) (by rfl) (pa_cons (pv 3) (pa_cons (pv 6) (pa_cons (pv 14) pa_nil)))) (pe_def DH (hr.mono (by decide)) (by rfl) (pa_cons (pv 11) (pa_cons (pe_tup (pa_cons (pv 10) (pa_cons pe_int pa_nil))) pa_nil))) (nomark _))))) pss_never pss_nil)
      (pss_cons (ps_set (i := 15) nd rfl (.inl rfl) (pe_def DS (hr.mono (by decide)) (by rfl) (pa_cons (pv 3) pa_nil)))
      (pss_one (ps_ret (pe_or (pe_cmpR op_isN (pv 15) pe_non (nomark _)) (pe_or (pe_cmpR op_ne (pe_callB call_len_seq (by rfl) mlen PySem.boot_len (pa_cons (pv 15) pa_nil)) pe_int (nomark _)) (pe_one (pe_def DN (hr.mono (by decide)) (by rfl) (pa_cons (pv 3) (pa_cons (pv 6) (pa_cons (pv 11) (pa_cons (pe_ix ix_list (pv 15) pe_int (fun _ _ => rfl)) (pa_cons (pv 4) pa_nil))))))))))))))))))))))))), ?_⟩
    -- the axes, the tables
    refine ⟨_, rfl, pl, 3, N, rfl, hp, by omega, by decide, by decide, fun H1 k1 s1 p1 a1 b1 => ⟨_, _, rfl, rfl, ?_⟩⟩
    obtain ⟨d, hd⟩ : ∃ d : Nat, 1 + k1 = (d : Int) := ⟨(1 + k1).toNat, by omega⟩
    have d1 : 1 ≤ d := by omega
    have d3 : d ≤ 3 := by omega
    refine ⟨_, rfl, _, rfl, pl, d, _, congrArg (fun i => [V.ref pl, V.int i, V.int 7]) hd, p1, by omega, d1, d3, fun H2 tl txs ts s2 p2 htl ntl hraw hTb => ?_⟩
    have sx2 := SameX.trans s1 s2
    have T2 := tabs_pl hTab sx2 hp
    have hraw2 : All2 (RawV H2) txs ts := hraw.mono fun v t h => h.raw
    -- the system, the rows
    refine ⟨_, rfl, _, rfl, tl, d, txs, ts, congrArg (fun i => [V.int i, V.ref tl]) hd, SqL.of htl, hraw2, hTb, T2, fun H3 p S e3 T3 hSd hSp hS => ?_⟩
    have e3' : ∀ b o, H2 b = some o → (∀ ps, o ≠ .tbl ps) → H3 b = some o := e3
    have htl3 : H3 tl = some (.lst txs) := e3' _ _ htl fun ps z => by cases z
    have tup3 : ∀ {t l}, H2 t = some (.tup l) → H3 t = some (.tup l) := fun {t l} e => e3' _ _ e fun ps z => by cases z
    have hraw3 : All2 (RawV H3) txs ts := hraw2.mono fun v t ⟨a, l, us, e, h1, h2, h3⟩ => ⟨a, l, us, e, tup3 h1, e3' _ _ h2 (fun ps z => by cases z), h3.mono fun u x q => readV_keep q fun t l e => tup3 e⟩
    refine ⟨_, rfl, tl, d, txs, ts, rfl, SqL.of htl3, hraw3, hTb, fun H4 rl rxs ts' s4 hrl nrl hLR hpt' => ?_⟩
    refine ⟨_, _, rfl, ?_⟩
    have T4 := T3.ext s4
    have p3 : PoolAt H3 pl (N + 1 + 200) := by
      obtain ⟨x, y, c, e, r⟩ := p2
      exact ⟨x, y, c, e3' _ _ e (fun ps z => by cases z), r⟩
    have p4 := p3.mono s4
    have f4 : FrN pl H H4 := (FrN.of sx2).trans ((FrN.ofE e3).trans (FrN.of (Same.x s4 pl)))
    obtain ⟨d', tabs⟩ := S
    have ed : d' = d := hSd
    subst ed
    have hSp' : tabs.Perm ts := hSp
    have okS : Sys.Ok ⟨d', tabs⟩ := tbsOk_ok hTb hSp'
    have hpt : ts'.Perm tabs := hpt'.trans hSp'.symm
    have hro : RowsOf ⟨d', tabs⟩ (ts'.flatMap rowsT) := rowsOf_flat okS.nodup hpt
    have hpm : ((ts'.flatMap rowsT).map rdL).Perm (Sys.named ⟨d', tabs⟩) := by
      rw [flat_rd]
      exact hpt.flatMap_right _
    have few : (ts'.flatMap rowsT).length ≤ 12 := by
      have h1 := hpm.length_eq
      rw [List.length_map] at h1
      have h2 := okS.few
      omega
    generalize hSS : (⟨d', tabs⟩ : Sys) = S at hS okS hro hpm
    have hSd' : S.d = d' := by rw [← hSS]
    have hSt : S.tabs = tabs := by rw [← hSS]
    have hS4 := hS.mono s4
    have htl4 := s4 _ _ htl3
    have hraw4 : All2 (RawV H4) txs ts := hraw3.mono fun v t h => h.mono s4
    generalize ts'.flatMap rowsT = rows at hLR hro hpm few
    have hxl : txs.length = ts.length := hraw.1
    have hn1 := hTb.n1
    have hn6 := hTb.n6
    -- the title
    refine ⟨_, rfl, _, rfl, _, rfl, tl, _, rfl, .inl (SqL.of htl4), pl, _, _, rfl, p4, by omega, by omega, Int.le_trans (show (txs.length : Int) ≤ 6 by omega) (by decide), fun H5 k5 s5 p5 a5 b5 => ?_⟩
    have hk5 : k5.toNat < txs.length := by omega
    have ek5 : k5 = ((k5.toNat : Nat) : Int) := by omega
    have ex5 : txs[k5.toNat]? = some txs[k5.toNat] := List.getElem?_eq_getElem hk5
    obtain ⟨tb, etb, ta, tll, tus, eta, hta, _⟩ := hraw4.at ex5
    rw [eta] at ex5
    have htl5 := s5 _ _ ntl htl4
    refine ⟨tl, _, k5, .ref ta, rfl, rfl, SqL.of htl5, by rw [ek5]; exact atI_nat ex5, ?_⟩
    refine ⟨ta, _, 0, .str tb.name, rfl, rfl, SqT.of (s5 _ _ (p4.net hta) hta), atI_nat (j := 0) rfl, ?_⟩
    have hmem : tb.name ∈ S.tabs.map (·.name) := by
      rw [hSt]
      exact List.mem_map_of_mem (hSp'.mem_iff.mpr (List.mem_of_getElem? etb))
    generalize tb.name = n at hmem
    -- the place
    refine ⟨_, rfl, _, rfl, _, rfl, pl, d', _, congrArg (fun i => [V.ref pl, V.int i]) hd, p5, by omega, d3, fun H6 pt_ pt s6 p6 hpt6 hptl hptb => ?_⟩
    refine ⟨Nat.le_of_lt (small1000 (by simp)), fun pa hpa => ?_⟩
    have s7 : Same H6 (upd H6 pa (.tup [.str n, .ref pt_])) := same_upd hpa
    have hpa7 : (upd H6 pa (.tup [.str n, .ref pt_])) pa = some (.tup [.str n, .ref pt_]) := upd_same
    generalize upd H6 pa (.tup [.str n, .ref pt_]) = H7 at s7 hpa7 ⊢
    have sx47 : SameX pl H4 H7 := SameX.trans (SameX.trans s5 s6) (Same.x s7 pl)
    have p7 : PoolAt H7 pl (N + 1 + 200 + 1 + 4) := (p6.mono s7).le (by omega)
    have tup47 : ∀ t l, H4 t = some (.tup l) → H7 t = some (.tup l) := fun t l e => sx47 _ _ (p4.net e) e
    have nrlp : rl ≠ pl := p3.ne nrl
    have hrl7 := sx47 _ _ nrlp hrl
    have hLR7 : All2 (LRowV H7) rxs rows := hLR.mono fun v r h => h.mono tup47
    have hPt : PtOk S pt := ⟨by rw [hSd']; exact hptl, fun x hx => (hptb x hx).1, fun x hx => (hptb x hx).2⟩
    have hcell7 : CellV H7 (.ref pa) n pt := ⟨pa, pt_, rfl, hpa7, s7 _ _ hpt6⟩
    have sysX : ∀ {H' : Hp}, SameX pl H4 H' → SysAt C H' p S := fun sx => by
      obtain ⟨dx, kt, nr, kvs, nrs, h1, h2, h3, h4, h5, h6⟩ := hS4
      obtain ⟨px, py, pc, pe, _⟩ := id p4
      have tup : ∀ {t l}, H4 t = some (.tup l) → _ := fun {t l} e => sx _ _ (p4.net e) e
      refine ⟨dx, kt, nr, kvs, nrs, sx _ _ (ne_of h1 pe (by intro z; cases z)) h1, sx _ _ (ne_of h2 pe (by intro z; cases z)) h2, h3, fun i kv t a b => ?_, tup h5, h6.mono fun v r ⟨t, q0, q1⟩ => ⟨t, q0, tup q1⟩⟩
      obtain ⟨a2, b2, ids, e1, e2, e3, e4⟩ := h4 i kv t a b
      exact ⟨a2, b2, ids, e1, tup e2, tup e3, e4.mono fun u x ⟨a3, b3, q0, q1, q2⟩ => ⟨a3, b3, q0, tup q1, tup q2⟩⟩
    have hS7 := sysX sx47
    -- the way
    refine ⟨_, rfl, _, rfl, _, rfl, pl, rl, .ref pa, S, n, pt, _, rxs, rows, rfl, p7, by omega, hrl7, nrlp, hLR7, hcell7, okS, hPt, hro, by omega, fun H8 qw ks cnt xn xp TT s8 p8 hW hT60 hCnt hq0 => ?_⟩
    intro sh hsh
    have s9 : Same H8 (upd H8 sh (.dT [])) := same_upd hsh
    have hsh9 : (upd H8 sh (.dT [])) sh = some (.dT []) := upd_same
    generalize upd H8 sh (.dT []) = H9 at s9 hsh9 ⊢
    refine ⟨_, _, rfl, ?_⟩
    obtain ⟨kvs, hqw8, hkk, hkv⟩ := id hCnt
    have nqpl : qw ≠ pl := p7.ne hq0
    have nshpl : sh ≠ pl := p8.ne hsh
    have nqs : qw ≠ sh := ne_of_none hqw8 hsh
    have hqw9 := s9 _ _ hqw8
    have ksT := hW.few
    have kvl : kvs.length = ks.length := by
      have := congrArg List.length hkk
      rw [List.length_map, List.length_map] at this
      exact this
    -- the shares
    refine ⟨qw, _, hqw9, trivial, fun od => ?_⟩
    have sf : SameX qw H9 (upd H9 qw (.frz od (.dT kvs))) := sameX_upd
    have hqf : (upd H9 qw (.frz od (.dT kvs))) qw = some (.frz od (.dT kvs)) := upd_same
    generalize upd H9 qw (.frz od (.dT kvs)) = Hf at sf hqf ⊢
    have hshf := sf _ _ nqs.symm hsh9
    refine ⟨_, rfl, qw, od, rfl, .inr ⟨kvs, hqf, ?_⟩⟩
    refine for_it walk_keysT (fun i σ H' => (∃ y9 y10 y11 y12 y13 y14 y15 y16, σ = [some (.ref pl), some (.int (1 + k1)), some (.ref tl), some (.ref p), some (.ref rl), some (.str n), some (.ref pa), some (.ref qw), some (.ref sh), y9, y10, y11, y12, y13, y14, y15, y16]) ∧ SameX sh Hf H' ∧ ∃ kv2 : List (List Key × V), H' sh = some (.dT kv2) ∧ kv2.map (·.1) = (ks.take i).map rk ∧
        ∀ (j : Nat) kv k, kv2[j]? = some kv → ks[j]? = some k → ∃ o, kv.2 = .ref o ∧ H' o = some (frV (red (cnt k) 1))) ⟨⟨none, none, none, none, none, none, none, none, rfl⟩, fun b o _ e => e, [], hshf, rfl, fun j kv k e => by simp at e⟩ (fun i σ H' _ ⟨_, sx, _⟩ => sx _ _ nqs hqf) ?_ ?_
    · rintro i x σ Hi Hj hi ⟨⟨y9, y10, y11, y12, y13, y14, y15, y16, rfl⟩, sxi, kv2, hshi, hki, hvi⟩ ⟨rfl, k, v, q', ekv, rfl, hq'⟩
      obtain ⟨r, er, ek⟩ := key_at hkk ekv
      have ek' : k = rk r := ek
      subst ek'
      have ev : v = .int (cnt r) := hkv _ (List.mem_of_getElem? ekv) r rfl
      subst ev
      have hval : some (V.int (cnt r)) = valV kvs (rk r) := by
        rcases valT hkk r with ⟨j, kv, e1, e2, e3⟩ | ⟨_, e2⟩
        · have hji : j = i := (List.getElem_inj hW.nodup).mp ((List.getElem?_eq_some_iff.mp e2).2.trans (List.getElem?_eq_some_iff.mp er).2.symm)
          subst hji
          rw [ekv] at e1
          cases e1
          exact e3.symm
        · exact absurd (List.mem_of_getElem? er) e2
      have hqi := sxi _ _ nqs hqf
      refine ⟨_, rfl, _, rfl, qw, .int (cnt r), rfl, .inr ⟨kvs, rk r, q', .inr ⟨od, hqi⟩, rfl, hq', hval⟩, Nat.le_of_lt (small1000 (by simp)), fun o ho => ?_⟩
      have s10 : Same Hj (upd Hj o (.tup [.int (cnt r), .int 1])) := same_upd ho
      have ho10 : (upd Hj o (.tup [.int (cnt r), .int 1])) o = some (.tup [.int (cnt r), .int 1]) := upd_same
      generalize upd Hj o (.tup [.int (cnt r), .int 1]) = Hk at s10 ho10 ⊢
      have hshk := s10 _ _ hshi
      have k2l : kv2.length = i := by
        have := congrArg List.length hki
        rw [List.length_map, List.length_map, List.length_take] at this
        omega
      refine ⟨_, rfl, _, rfl, sh, _, rfl, DPut.t (k := rk r) hshk (s10 _ _ hq') (small1000 (by omega)), ?_⟩
      have hnew : rk r ∉ kv2.map (·.1) := by
        rw [hki]
        intro hm
        obtain ⟨x, hx, e2⟩ := List.mem_map.mp hm
        have e3 : x = r := rk_inj e2
        subst e3
        obtain ⟨j, hj⟩ := List.getElem?_of_mem hx
        have hj2 := (List.getElem?_eq_some_iff.mp hj).1
        rw [List.length_take] at hj2
        rw [List.getElem?_take_of_lt (by omega)] at hj
        have : j = i := (List.getElem_inj hW.nodup).mp ((List.getElem?_eq_some_iff.mp hj).2.trans (List.getElem?_eq_some_iff.mp er).2.symm)
        omega
      rw [putK_snoc hnew]
      have tup11 : ∀ {t l}, Hk t = some (.tup l) → upd Hk sh (.dT (kv2 ++ [(rk r, .ref o)])) t = some (.tup l) := fun {t l} e => by
        rw [upd_ne (ne_of e hshk (by intro z; cases z))]
        exact e
      refine ⟨⟨_, _, _, _, _, _, _, _, rfl⟩, SameX.trans (SameX.trans sxi (Same.x s10 sh)) sameX_upd, _, upd_same, ?_, fun j kv kq ej eq => ?_⟩
      · rw [List.map_append, hki, List.take_add_one, er, List.map_append]
        rfl
      · by_cases hj : j < i
        · rw [List.getElem?_append_left (by omega)] at ej
          obtain ⟨o2, e1, e2⟩ := hvi j kv kq ej eq
          exact ⟨o2, e1, tup11 (s10 _ _ e2)⟩
        · rw [List.getElem?_append_right (by omega), k2l] at ej
          have hj2 : j = i := by
            have := (List.getElem?_eq_some_iff.mp ej).1
            simp at this
            omega
          subst hj2
          rw [er] at eq
          cases eq
          rw [Nat.sub_self] at ej
          cases ej
          refine ⟨o, rfl, ?_⟩
          rw [red_one]
          exact tup11 ho10
    rintro σ Hi ⟨⟨y9, y10, y11, y12, y13, y14, y15, y16, rfl⟩, sxi, kv2, hshi, hki, hvi⟩
    rw [kvl, List.take_length] at hki
    refine ⟨sxi _ _ nqs hqf, ?_⟩
    have sx10 : SameX sh H9 (upd Hi qw (.dT kvs)) := fun b o nb e => by
      by_cases z : b = qw
      · rw [z, upd_same, ← e, z, hqw9]
      · rw [upd_ne z]
        exact sxi _ _ nb (sf _ _ z e)
    have hsh10 : (upd Hi qw (.dT kvs)) sh = some (.dT kv2) := by
      rw [upd_ne nqs.symm]
      exact hshi
    have hws10 : WsIn (upd Hi qw (.dT kvs)) sh ks cnt 1 := ⟨kv2, hsh10, hki, fun j kv k a b => by
      obtain ⟨o, e1, e2⟩ := hvi j kv k a b
      refine ⟨o, e1, ?_⟩
      rw [upd_ne (ne_of e2 (sxi _ _ nqs hqf) (by intro z; cases z))]
      exact e2⟩
    have hqw10 : (upd Hi qw (.dT kvs)) qw = some (.dT kvs) := upd_same
    generalize upd Hi qw (.dT kvs) = H10 at sx10 hsh10 hws10 hqw10 ⊢
    -- what stands at H10
    have hsh7 : H7 sh = none := sx_free s8 nshpl hsh
    have hsh4 : H4 sh = none := sx_free sx47 nshpl hsh7
    have sx4_9 : SameX pl H4 H9 := SameX.trans (SameX.trans sx47 s8) (Same.x s9 pl)
    have sx4_10 : SameX pl H4 H10 := fun b o nb e => sx10 _ _ (ne_of_none e hsh4) (sx4_9 _ _ nb e)
    have sx7_10 : SameX pl H7 H10 := fun b o nb e => sx10 _ _ (ne_of_none e hsh7) ((SameX.trans s8 (Same.x s9 pl)) _ _ nb e)
    have p10 : PoolAt H10 pl (N + 400) := by
      obtain ⟨x, y, c, e, r⟩ := (p8.mono s9).le (show N + 1 + 200 + 1 + 4 + 60 ≤ N + 400 by omega)
      exact ⟨x, y, c, sx10 _ _ nshpl.symm e, r⟩
    have hS10 := sysX sx4_10
    have hrl10 := sx7_10 _ _ nrlp hrl7
    have tup7_10 : ∀ {t l}, H7 t = some (.tup l) → H10 t = some (.tup l) := fun {t l} e => sx7_10 _ _ (p7.net e) e
    have hLR10 : All2 (LRowV H10) rxs rows := hLR7.mono fun v r h => h.mono fun t l e => tup7_10 e
    have hC10 : CellOk C H10 p (.ref pa) S n pt := ⟨hS10, okS, by
      obtain ⟨a, b, e, h1, h2⟩ := hcell7
      exact ⟨a, b, e, tup7_10 h1, tup7_10 h2⟩, hmem, hPt⟩
    have fin : ∀ H', Same H10 H' → Q (.bl true) H' := fun H' s' => q H' (f4.trans (FrN.of (SameX.trans sx4_10 (Same.x s' pl)))) (p10.mono s') ((tabs_pl T4 sx4_10 p4).ext s')
    -- how long the way is, the least bound
    refine ⟨_, rfl, qw, _, rfl, .inr ⟨kvs, hqw10, rfl⟩, fun l hl => ?_⟩
    have s11 : Same H10 (upd H10 l (.lst (kvs.map (·.2)))) := same_upd hl
    have hl11 : (upd H10 l (.lst (kvs.map (·.2)))) l = some (.lst (kvs.map (·.2))) := upd_same
    generalize upd H10 l (.lst (kvs.map (·.2))) = H11 at s11 hl11 ⊢
    refine ⟨l, ks.map cnt, rfl, by rw [← cnt_vals hkk hkv]; exact SqL.of hl11, ?_⟩
    rw [hW.tot]
    refine ⟨_, rfl, _, rfl, p, .ref pa, S, n, pt, rfl, hC10.mono s11, fun H12 u bs bd s12 E1 hcase => ?_⟩
    refine ⟨_, _, rfl, ?_⟩
    have s10_12 := s11.trans s12
    have cnd := cnames_nodup S n
    have cmd : (compOf S n).Nodup := rsort_nodup ((Sys.named_nodup okS.nodup).sublist List.filter_sublist)
    have bd1 : Bd 1 := Nat.lt_of_le_of_lt (by decide : (1 : Int).natAbs ≤ 2 ^ 1) (Nat.pow_lt_pow_right (by omega) (by omega))
    have cab : ∀ r, 0 ≤ cnt r ∧ (cnt r).natAbs ≤ 60 := fun r => by
      obtain ⟨h1, h2⟩ := hW.cnt_le r
      exact ⟨h1, by omega⟩
    have pw : ∀ {x k : Nat}, x ≤ 60 → 6 ≤ k → x ≤ 2 ^ k := fun {x k} h1 h2 => Nat.le_trans (Nat.le_trans h1 (by decide : 60 ≤ 2 ^ 6)) (Nat.pow_le_pow_right (by omega) h2)
    -- the way's counts are weights
    refine ⟨_, rfl, _, rfl, _, rfl, p, sh, .ref pa, S, n, pt, ks, cnt, 1, rfl, hC10.mono s10_12, hws10.mono s10_12, hW.nodup, hW.comp, by decide, bd1, fun k _ => ⟨(cab k).1, pw (cab k).2 (by omega)⟩, fun c hc => by rw [Int.mul_one]; exact hW.rows hc, fun H13 o13 s13 ho13 => ?_⟩
    rw [red_one, hW.tot] at ho13
    refine ⟨_, rfl, Nat.le_of_lt (small1000 (by simp)), fun t14 ht14 => ?_⟩
    have s14 : Same H13 (upd H13 t14 (.tup [.int (TT : Int), .int 1])) := same_upd ht14
    have ht14' : (upd H13 t14 (.tup [.int (TT : Int), .int 1])) t14 = some (.tup [.int (TT : Int), .int 1]) := upd_same
    generalize upd H13 t14 (.tup [.int (TT : Int), .int 1]) = H14 at s14 ht14' ⊢
    refine ⟨_, _, .tup (SqT.of (s14 _ _ ho13)) (.cons (.int _) (.cons (.int _) .nil)), .tup (SqT.of ht14') (.cons (.int _) (.cons (.int _) .nil)), rfl, rfl, _, rfl, ?_⟩
    rw [PySem.W.eqv_refl_alike _ (by simp [PySem.W.alike, PySem.W.alikeAll])]
    refine iteF ?_
    have s10_14 := s10_12.trans (s13.trans s14)
    refine ⟨_, rfl, rfl, _, rfl, ?_⟩
    rcases hcase with ⟨rfl, q1, rfl, hq1⟩ | ⟨rfl, rfl⟩
    case inr =>
      rw [decide_eq_true rfl]
      exact iteT (fin _ s10_14)
    rw [decide_eq_false (by intro z; cases z)]
    refine iteF ?_
    have G := E1.good (wlp_good hPt)
    have Dpos := G.pos
    have hsm := wlp_small okS hmem hPt
    have tD : ((wlp S n pt).D bs).natAbs ≤ 2 ^ 1664 := D1664 hsm
    have tT : ((wlp S n pt).T bs (wlp S n pt).h (wlp S n pt).n).natAbs ≤ 2 ^ 1664 := T1664 hsm _ _
    have hq14 := (s13.trans s14) _ _ hq1
    -- the best weights, the reads of the piece
    refine ⟨_, rfl, _, rfl, p, .ref pa, S, n, pt, rfl, hC10.mono s10_14, ⟨bs, E1⟩, fun H15 qb bs2 s15 hqb E2 hWs => ?_⟩
    obtain rfl := (Lp.Ends.det (wlp_good hPt) E1 E2).1
    have s10_15 := s10_14.trans s15
    refine ⟨_, rfl, _, rfl, rl, n, S, rxs, rows, rfl, s10_15 _ _ hrl10, hLR10.mono fun v r h => h.mono fun t l e => s10_15 _ _ e, hro, hpm, okS, fun H16 T0 lp ln zs prow s16 hT0 hlp hzs hpr hsub hln => ?_⟩
    refine ⟨T0, _, 0, .ref lp, rfl, rfl, SqT.of hT0, atI_nat (j := 0) rfl, lp, rfl, ⟨_, SqL.of hlp⟩, fun D hD => ?_⟩
    have hpl : prow.length ≤ 12 := by
      have h1 := hpr.length_eq
      rw [List.length_map] at h1
      have h2 := compOf_len okS n
      omega
    have hzl : zs.length = prow.length := hzs.1
    refine lc_map (walk_list (K := K) (a := lp) (xs := zs)) (fun j H' y => ∀ r, (prow.map rdL)[j]? = some r → RdV H' y r) (fun j H1 H2 y acc hD sx h r er => by
      obtain ⟨t, e, ht⟩ := h r er
      exact ⟨t, e, sx _ _ (ne_of ht hD (by intro z; cases z)) ht⟩) (small1000 (by omega)) hD (fun H' s' => SqL.of (s' _ _ hlp)) (fun j H x H' _ => y_at j H x H') ?_ ?_ gm_name
    · rintro j x H17o H17 acc Z hj s17 hk ⟨rfl, ex⟩ hZ
      obtain ⟨row, erow, hrowv⟩ := hzs.at ex
      obtain ⟨xa, xb, rfl, hxa, hxb⟩ := id hrowv
      refine ⟨rfl, ?_⟩
      refine ⟨_, rfl, xa, _, 0, .str row.1, rfl, rfl, SqT.of (s17 _ _ hxa), atI_nat (j := 0) rfl, ?_⟩
      refine ⟨_, rfl, xa, _, 1, .int row.2.1, rfl, rfl, SqT.of (s17 _ _ hxa), atI_nat (j := 1) rfl, Nat.le_of_lt (small1000 (by simp)), fun o ho => ?_⟩
      refine hZ _ _ (same_upd ho) fun r er => ⟨o, rfl, ?_⟩
      rw [List.getElem?_map, erow] at er
      have : r = rdL row := (Option.some.inj er).symm
      subst this
      exact upd_same
    intro H17 ys s17 hys hyl hyv
    refine ⟨_, _, rfl, ?_⟩
    have hall : All2 (RdV H17) ys (prow.map rdL) := ⟨by rw [List.length_map]; omega, fun j y r ey er => hyv j y ey r er⟩
    have knd : (prow.map rdL).Nodup := hpr.nodup_iff.mpr cmd
    have s15_17 := s16.trans s17
    have s10_17 := s10_15.trans s15_17
    have klen : (prow.map rdL).length ≤ 12 := by
      rw [List.length_map]
      exact hpl
    generalize hkn : prow.map rdL = known at hpr hall knd klen
    -- the weights put together
    refine ⟨_, rfl, _, rfl, _, rfl, qb, sh, D, uOf S n pt bs, cnt, (wlp S n pt).D bs, 1, ys, known, rfl, mapT_ws (hWs.mono s15_17) cmd, mapT_in (hws10.mono s10_17) hW.zero, SqL.of hys, hall, knd, by omega, Dpos, by decide, fun r hr => ⟨⟨Dpos, Nat.le_trans (uOf_abs hsm r) (Nat.pow_le_pow_right (by omega) (by omega)), Nat.le_trans tD (Nat.pow_le_pow_right (by omega) (by omega))⟩, ⟨by decide, pw (cab r).2 (by omega), pw (by decide : (1 : Int).natAbs ≤ 60) (by omega)⟩⟩, fun H18 q3 s18 hq3 hDT => ?_⟩
    have s10_18 := s10_17.trans s18
    have hq18 : H18 q1 = some (frV (red ((wlp S n pt).T bs (wlp S n pt).h (wlp S n pt).n) ((wlp S n pt).D bs))) := (s15.trans (s15_17.trans s18)) _ _ hq14
    have lt1 : ∀ {x : Int} {k : Nat}, x.natAbs ≤ 2 ^ k → x.natAbs < 2 ^ (k + 1) := fun {x k} h => Nat.lt_of_le_of_lt h (Nat.pow_lt_pow_right (by omega) (by omega))
    have hle := hW.le cmd E1
    have hbr := fun c (hc : c < (wlp S n pt).h) => both_rows hW cmd G hpr hc
    have hbw := both_worth hW cmd G hpr
    have hws18 : WsIn H18 q3 known (mBoth S n pt bs cnt) (2 * ((wlp S n pt).D bs * 1)) := hDT
    have hEpos : 0 < 2 * ((wlp S n pt).D bs * 1) := by omega
    have hEab : (2 * ((wlp S n pt).D bs * 1)).natAbs ≤ 2 ^ 1665 := by
      have h1 : (2 * ((wlp S n pt).D bs * 1)).natAbs = 2 * ((wlp S n pt).D bs).natAbs := by
        rw [Int.mul_one, Int.natAbs_mul]
        rfl
      rw [h1, show (1665 : Nat) = 1664 + 1 from rfl, Nat.pow_succ, Nat.mul_comm]
      exact Nat.mul_le_mul_right 2 tD
    have hmb : ∀ k, 0 ≤ mBoth S n pt bs cnt k ∧ (mBoth S n pt bs cnt k).natAbs ≤ 2 ^ 3900 := fun k => by
      refine ⟨?_, mBoth_abs0 (uOf_abs hsm k) (cab k).2 tD pow_c⟩
      have h1 := uOf_nn G k
      have h2 := Int.mul_nonneg (cab k).1 (Int.le_of_lt Dpos)
      unfold mBoth
      omega
    generalize hTh : (wlp S n pt).T bs (wlp S n pt).h (wlp S n pt).n = Th at *
    have Tab : ((TT : Int)).natAbs ≤ 60 := by omega
    refine ⟨_, rfl, _, rfl, q1, _, 1, .int (red Th ((wlp S n pt).D bs)).2, rfl, rfl, SqT.of hq18, atI_nat (j := 1) rfl, _, _, rfl, rfl, wide_mul (a := 7) (b := 1665) (Nat.lt_of_le_of_lt Tab (by decide)) (Nat.lt_of_le_of_lt (red_abs2 _ _) (lt1 tD)) (by decide) (by decide) (by decide), ?_⟩
    refine ⟨_, rfl, q1, _, 0, .int (red Th ((wlp S n pt).D bs)).1, rfl, rfl, SqT.of hq18, atI_nat (j := 0) rfl, _, _, rfl, rfl, _, rfl, ?_⟩
    rw [decide_eq_false (fun z => by
      have h1 := (red_ge (l := (TT : Int)) Dpos).mpr hle
      omega)]
    refine iteF ?_
    refine ⟨_, rfl, _, rfl, _, rfl, p, q3, .ref pa, S, n, pt, known, mBoth S n pt bs cnt, 2 * ((wlp S n pt).D bs * 1), rfl, hC10.mono s10_18, hws18, knd, fun k hk => hpr.mem_iff.mp hk, hEpos, bd_of hEab (by decide), fun k _ => hmb k, hbr, fun H19 o19 s19 ho19 => ?_⟩
    rw [hbw] at ho19
    refine ⟨_, rfl, _, rfl, Nat.le_of_lt (small1000 (by simp)), fun t20 ht20 => ?_⟩
    have s20 : Same H19 (upd H19 t20 (.tup [.int (TT : Int), .int 1])) := same_upd ht20
    have ht20' : (upd H19 t20 (.tup [.int (TT : Int), .int 1])) t20 = some (.tup [.int (TT : Int), .int 1]) := upd_same
    generalize upd H19 t20 (.tup [.int (TT : Int), .int 1]) = H20 at s20 ht20' ⊢
    have s18_20 := s19.trans s20
    have onea : (1 : Int).natAbs ≤ 2 ^ 60 := by decide
    refine ⟨.ref q1, .ref t20, (red Th ((wlp S n pt).D bs)).1, (red Th ((wlp S n pt).D bs)).2, (red (TT : Int) 1).1, (red (TT : Int) 1).2, rfl, ⟨q1, rfl, SqT.of (s18_20 _ _ hq18)⟩, ⟨t20, rfl, by rw [red_one]; exact SqT.of ht20'⟩, red_pos Dpos, red_pos (by decide), Nat.lt_of_le_of_lt (red_abs1 _ _) (bh_of tT (by decide)), Nat.lt_of_le_of_lt (red_abs2 _ _) (bh_of tD (by decide)), Nat.lt_of_le_of_lt (red_abs1 _ _) (bh_of (pw Tab (by decide : 6 ≤ 60)) (by decide)), Nat.lt_of_le_of_lt (red_abs2 _ _) (bh_of onea (by decide)), fun H21 o21 s21 hno21 ho21 => ?_⟩
    rw [red_half Dpos (by decide)] at ho21
    refine ⟨_, _, .tup (SqT.of (s21 _ _ (s20 _ _ ho19))) (.cons (.int _) (.cons (.int _) .nil)), .tup (SqT.of ho21) (.cons (.int _) (.cons (.int _) .nil)), rfl, rfl, _, rfl, ?_⟩
    rw [PySem.W.eqv_refl_alike _ (by simp [PySem.W.alike, PySem.W.alikeAll])]
    refine iteF ?_
    have s10_21 := s10_18.trans (s18_20.trans s21)
    -- the schedule
    refine ⟨_, rfl, p, S, rfl, hS10.mono s10_21, okS, fun H22 v s22 hv => ?_⟩
    have s10_22 := s10_21.trans s22
    refine ⟨_, rfl, rfl, _, rfl, ?_⟩
    rcases hv with rfl | ⟨Fs, fs, rfl, hFs, hone⟩
    · rw [decide_eq_true rfl]
      exact iteT (fin _ s10_22)
    rw [decide_eq_false (by intro z; cases z)]
    refine iteF ?_
    refine ⟨_, rfl, Fs, fs, rfl, .inl (SqL.of hFs), rfl, _, rfl, ite2 (fun _ => fin _ s10_22) (fun e => ?_)⟩
    have e1 : fs.length = 1 := by
      by_cases z : V.int (fs.length : Int) = V.int 1
      · have := V.int.inj z
        omega
      · exact absurd (by rw [decide_eq_false z]; rfl) e
    obtain ⟨Lv, rfl, hLv⟩ := hone e1
    refine ⟨_, rfl, _, rfl, _, rfl, _, rfl, Fs, _, 0, .ref Lv, rfl, rfl, SqL.of hFs, atI_nat (j := 0) rfl, _, rfl, ?_⟩
    exact ⟨p, q1, Lv, rl, .ref pa, S, n, pt, rxs, rows, bs, rfl, hC10.mono s10_22, E1, by rw [hTh]; exact ((s18_20.trans s21).trans s22) _ _ hq18, hLv, s10_22 _ _ hrl10, hLR10.mono fun v r h => h.mono fun t l e => s10_22 _ _ e, hro, hpm, fun H' s' => fin _ (s10_22.trans s')⟩
end
end Frd
set_option Elab.async false
set_option linter.all false
set_option maxRecDepth 100000
set_option maxHeartbeats 1000000
set_option pp.maxSteps 1000
/-! law. -/
namespace Frd
open PySem PySem.Spec PyProof.Rows L2 LamX
section
variable {P : Program} {w : World} {K : PySem.W.Frag} {mg : Str → Option Value} {base : Heap}
theorem scLaw : FnScope ["_law_script", "_law_at", "_law_pool_here", "_law_turn"] ["_law_script"] (defScope (topS 62)) := ⟨rfl, rfl, rfl, by decide +kernel, rfl, by decide +kernel, by decide +kernel⟩
def spLaw (K : PySem.W.Frag) (T : List (Addr × Str)) : Sp := fun vs H Q _ => ∃ (a : Addr) (ns : List Int), vs = [.ref a] ∧ SqL K H a (ns.map V.int) ∧ ns.length ≤ 1000000 ∧ Tabs T H ∧ ∀ H', Q (.bl true) H'
theorem ok_law {T : List (Addr × Str)} {f : Addr} {fd : FuncData} (F : Fun K "law" "law" (topS 62) f fd) (mr : mg "range" = none) (mlen : mg "len" = none) (mmax : mg "max" = none) (mmin : mg "min" = none)
    (DP : Dn P w K mg base "_law_pool" 1 ["_law_script", "_law_at"] (spPool K)) (DR : Dn P w K mg base "_law_right" 9 ["_law_pool_here"] (spRt T)) : FnOk P w K mg base CX0 10 f fd ["_law_script"] (spLaw K T) := by
  refine F.ok scLaw (fun vs H Q E h => ?_) (fun cdv A outer s H vs Q E hr h => ?_)
  · obtain ⟨a, ns, rfl, _⟩ := h
    rfl
  · obtain ⟨a, ns, rfl, hL, hlen, hT, q⟩ := h
    have nd := scLaw.nd
    refine ⟨_, pss_cons (ps_for PassesOwn.never rfl (pi_range1 rfl mr (pa_cons (pe_callB (call_max2 rfl) (by rfl) mmax (by decide +kernel) (pa_cons pe_int (pa_cons (pe_callB (call_min2 rfl) (by rfl) mmin (by decide +kernel) (pa_cons pe_int (pa_cons (pe_callB call_len_seq (by rfl) mlen PySem.boot_len (pa_cons (pv 0) pa_nil)) pa_nil))) pa_nil))) pa_nil)) (pg_name (i := 1) nd rfl (.inl rfl))
        (pss_cons (ps_set (i := 2) nd rfl (.inl rfl) (pe_def DP (hr.mono (by decide)) (by rfl) (pa_cons (pv 0) (pa_cons (pv 1) pa_nil))))
        (pss_one (ps_for PassesOwn.never rfl (pi_range1 rfl mr (pa_cons pe_int pa_nil)) (pg_name (i := 3) nd rfl (.inl rfl))
          (pss_one (ps_if (pt_not (pt_val (pe_def DR hr (by rfl) (pa_cons (pv 2) pa_nil)))) pss_never pss_nil))))))
      (pss_one (ps_ret pe_bl)), ?_⟩
    refine ⟨_, rfl, a, _, rfl, .inl hL, _, _, rfl, _, _, rfl, ?_⟩
    have hb : ∀ n : Nat, ((if (if (n : Int) < 10 then (n : Int) else 10) > 1 then (if (n : Int) < 10 then (n : Int) else 10) else 1) : Int) ≤ 10 ∧ 1 ≤ ((if (if (n : Int) < 10 then (n : Int) else 10) > 1 then (if (n : Int) < 10 then (n : Int) else 10) else 1) : Int) := fun n => by
      split <;> split <;> omega
    have hb1 := hb (ns.map V.int).length
    refine ⟨(if (if ((ns.map V.int).length : Int) < 10 then ((ns.map V.int).length : Int) else 10) > 1 then (if ((ns.map V.int).length : Int) < 10 then ((ns.map V.int).length : Int) else 10) else 1), rfl, ?_, ?_, ?_⟩
    · exact Int.le_trans (by decide) hb1.2
    · exact Int.lt_of_le_of_lt hb1.1 (by decide)
    generalize (if (if ((ns.map V.int).length : Int) < 10 then ((ns.map V.int).length : Int) else 10) > 1 then (if ((ns.map V.int).length : Int) < 10 then ((ns.map V.int).length : Int) else 10) else 1) = m at hb1
    refine for_it (walk_range (lo := 0) (n := m.toNat)) (fun i σ H' => (∃ y1 y2 y3, σ = [some (.ref a), y1, y2, y3]) ∧ ExtN H H' ∧ Tabs T H') ⟨⟨none, none, none, rfl⟩, ExtN.refl H, hT⟩ (fun i σ H' _ _ => trivial) ?_ ?_
    · rintro i x σ Ho H1 hi ⟨⟨y1, y2, y3, rfl⟩, e1, T1⟩ ⟨rfl, rfl⟩
      refine ⟨_, rfl, _, rfl, a, ns, i, congrArg (fun z => [V.ref a, V.int z]) (Int.zero_add (i : Int)), extN_sqL e1 hL, by omega, fun H2 pl s2 hpl hp => ?_⟩
      refine ⟨5, rfl, by decide, by decide, ?_⟩
      have T2 := T1.ext s2
      have hpl0 : ∀ b o, H b = some o → (∀ ps, o ≠ .tbl ps) → b ≠ pl := fun b o e n => ne_of_none (e1 b o e n) hpl
      refine for_it (walk_range (lo := 0) (n := (5 : Int).toNat)) (fun j σ H' => (∃ y1 y3, σ = [some (.ref a), y1, some (.ref pl), y3]) ∧ FrN pl H2 H' ∧ PoolAt H' pl (400 * j) ∧ Tabs T H') ⟨⟨_, _, rfl⟩, FrN.refl pl H2, hp, T2⟩ (fun i σ H' _ _ => trivial) ?_ ?_
      · rintro j x σ Hp H3 hj ⟨⟨y1, y3, rfl⟩, f3, p3, T3⟩ ⟨rfl, rfl⟩
        have hj5 : j < 5 := hj
        refine ⟨_, rfl, pl, _, rfl, p3, by omega, T3, fun H4 f4 p4 T4 => ⟨true, rfl, iteF ?_⟩⟩
        exact ⟨⟨_, _, rfl⟩, f3.trans f4, p4.le (by omega), T4⟩
      · rintro σ H3 ⟨⟨y1, y3, rfl⟩, f3, p3, T3⟩
        exact ⟨⟨_, _, _, rfl⟩, fun b o e n => f3 b o (hpl0 b o e n) (s2 _ _ (e1 b o e n)) n, T3⟩
    · rintro σ H1 _
      exact q H1
end
end Frd
set_option Elab.async false
set_option linter.all false
set_option maxRecDepth 100000
set_option maxHeartbeats 4000000
set_option pp.maxSteps 1000
/-! The promises put together. -/
namespace Frd
open PySem PySem.Spec PyProof.Rows L2 LamX
/-- a def of the top as it stands -/
structure Da (K : PySem.W.Frag) (mg : Str → Option Value) (x : Str) (st : Stmt) (f : Addr) : Prop where
  fn : ∃ fd, Fun K x x st f fd
  gx : mg x = some (.ref f)
theorem da {K : PySem.W.Frag} {h : Heap} {mg : Str → Option Value} {x : Str} {st : Stmt} {f : Addr} {oc kV doc pm cd ct : Value} {od an : Option Addr} {sl : Array (Option Value)} (X : K.In h) (G : h.Ns mainGlobals mg) (a : PySem.W.nsIn K mainGlobals x = some (some (.ref f)))
    (l : K.lookup f = some ⟨oc, od, .func (PySem.W.fnOf x x (defArgs st) (defBody st) (defScope st) .none kV doc pm an cd ct), sl⟩) (c : PySem.W.codeIn K cd x = true) (k : PySem.W.keepIn K (.ref f) = true) : Da K mg x st f := ⟨⟨_, fun_mk l c k⟩, PySem.W.mg_of X G a⟩
structure Dc (K : PySem.W.Frag) (mg : Str → Option Value) (x : Str) (C : Addr) : Prop where
  cl : Cls K C
  mki : PySem.W.makesIn K C = true
  kc : PySem.W.keepIn K (.ref C) = true
  gx : mg x = some (.ref C)
theorem dc {K : PySem.W.Frag} {h : Heap} {mg : Str → Option Value} {x : Str} {C : Addr} (X : K.In h) (G : h.Ns mainGlobals mg) (a : PySem.W.nsIn K mainGlobals x = some (some (.ref C))) (pg : PySem.W.plainGet K C Str.empty = true) (hd : PySem.W.hasDictIn K C = true) (po : PySem.W.plainOver K C = true)
    (sa : PySem.W.findIn K (.ref C) "__setattr__" = some (some (.builtin "object.__setattr__"))) (mk : PySem.W.makesIn K C = true) (kc : PySem.W.keepIn K (.ref C) = true) : Dc K mg x C := ⟨⟨pg, hd, po, sa⟩, mk, kc, PySem.W.mg_of X G a⟩
structure Dm (K : PySem.W.Frag) (C : Addr) (m qual : Str) (st : Stmt) (f : Addr) : Prop where
  fn : ∃ fd, Fun K m qual st f fd
  me : Meth K C m f
theorem dm {K : PySem.W.Frag} {mg : Str → Option Value} {x : Str} {C : Addr} {m qual : Str} {st : Stmt} {f : Addr} {oc kV doc pm cd ct : Value} {od an : Option Addr} {sl : Array (Option Value)} (cc : Dc K mg x C) (a : PySem.W.findIn K (.ref C) m = some (some (.ref f))) (i : PySem.W.isFn K (.ref f) = true)
    (l : K.lookup f = some ⟨oc, od, .func (PySem.W.fnOf m qual (defArgs st) (defBody st) (defScope st) .none kV doc pm an cd ct), sl⟩) (c : PySem.W.codeIn K cd qual = true) (k : PySem.W.keepIn K (.ref f) = true) : Dm K C m qual st f := ⟨⟨_, fun_mk l c k⟩, a, i, k⟩
theorem noat {K : PySem.W.Frag} {mg : Str → Option Value} {x : Str} {C : Addr} {f : Str} (cc : Dc K mg x C) (a : PySem.W.findIn K (.ref C) f = some none) : NoAttr K C f := a
structure Ds (K : PySem.W.Frag) (C c f : Addr) : Prop where
  fn : ∃ fd, FunC K "__init__" "System.__init__" (metS 22 0) [.int 1000003] c f fd
  me : Meth K C "__init__" f
theorem ds {K : PySem.W.Frag} {mg : Str → Option Value} {x : Str} {C c f T : Addr} {oc kV doc pm ct : Value} {od an : Option Addr} {sl : Array (Option Value)} {oT : Obj} {t : Tok} {n : Nat} (dC : Dc K mg x C) (a : PySem.W.findIn K (.ref C) "__init__" = some (some (.ref f))) (i : PySem.W.isFn K (.ref f) = true)
    (l : K.lookup f = some ⟨oc, od, .func (PySem.W.fnOf "__init__" "System.__init__" (defArgs (metS 22 0)) (defBody (metS 22 0)) (defScope (metS 22 0)) (.ref T) kV doc pm an (.ref c) ct), sl⟩) (cc : PySem.W.codeIn K (.ref c) "System.__init__" = true) (k : PySem.W.keepIn K (.ref f) = true)
    (lT : K.lookup T = some oT) (oTd : oT.data = .seq #[.int 1000003 t] n) : Ds K C c f :=
  ⟨⟨_, ⟨oc, od, .ref T, kV, doc, pm, an, ct, sl, rfl, l, cc, .inr ⟨by simp, T, oT, [.int 1000003 t], n, rfl, lT, oTd, .cons ⟨t, rfl⟩ .nil⟩⟩, k⟩, a, i, k⟩
theorem funC_binds {K : PySem.W.Frag} {c f : Addr} {fd : FuncData} (F : FunC K "__init__" "System.__init__" (metS 22 0) [.int 1000003] c f fd) : Binds K fd ["self", "dimensions", "tables", "modulus"] [] := by
  obtain ⟨oc, od, dV, kV, doc, pm, an, ct, osl, e, lk, hcd, hD⟩ := F.ex
  have FD : FunD K "__init__" "System.__init__" (defArgs (metS 22 0)) (defBody (metS 22 0)) (defScope (metS 22 0)) [V.int 1000003] [] f fd := ⟨⟨oc, od, dV, kV, doc, pm, an, .ref c, ct, osl, e, lk, hcd, hD, .inl rfl⟩, F.kp⟩
  obtain ⟨ds, hv, hb⟩ := FD.binds1 (ps := ["self", "dimensions", "tables", "modulus"]) 4 1 (by simp) rfl fun T kV doc pm an cdv ct us its hu hi => match us, hu, its, hi with | [_, _, _, _], _, [_], _ => ⟨_, rfl, rfl⟩
  cases hv
  exact hb
theorem all_mk {l : PySem.W.OpenLaw} {w : World} {K : PySem.W.Frag} {h : Heap} {mg : Str → Option Value} {fa : Addr} (X : K.In h) (G : h.Ns mainGlobals mg) (hfa : mg "law" = some (.ref fa))
    {CP CS CE c PT f_sy : Addr} {f_div f_fr f_oft f_sml f_sum f_pl f_hf f_vo f_to f_ct f_cc f_ts f_ro f_pc f_po f_pg f_wb f_fw f_bn f_fl f_bw f_li f_sc f_isn f_isr f_cs f_dr f_pool f_pt f_vec f_mnT f_way f_lp f_own f_tab f_lrw f_md f_nr f_rt f_law f_gr f_pr f_en f_nu f_ex f_st f_in f_se f_le : Addr}
    (d_div : Da K mg "divisor_of" (topS 2) f_div)
    (d_fr : Da K mg "fraction_of" (topS 3) f_fr)
    (d_oft : Da K mg "so_often" (topS 36) f_oft)
    (d_sml : Da K mg "is_small" (topS 37) f_sml)
    (d_sum : Da K mg "sum_of_fractions" (topS 35) f_sum)
    (d_pl : Da K mg "_law_plus" (topS 52) f_pl)
    (d_hf : Da K mg "_law_half" (topS 58) f_hf)
    (d_vo : Da K mg "vector_of" (topS 24) f_vo)
    (d_to : Da K mg "target_of" (topS 25) f_to)
    (d_ct : Da K mg "check_table" (topS 20) f_ct)
    (d_cc : Da K mg "check_cell" (topS 21) f_cc)
    (d_ts : Da K mg "tables_of" (topS 27) f_ts)
    (d_ro : Da K mg "rows_of" (topS 28) f_ro)
    (d_pc : Da K mg "pieces_of" (topS 26) f_pc)
    (d_po : Da K mg "piece_of" (topS 33) f_po)
    (d_pg : Da K mg "program_of" (topS 34) f_pg)
    (d_wb : Da K mg "way_bound" (topS 38) f_wb)
    (d_fw : Da K mg "flow_weights" (topS 40) f_fw)
    (d_bn : Da K mg "bound_numbers" (topS 39) f_bn)
    (d_fl : Da K mg "flow_worth" (topS 42) f_fl)
    (d_bw : Da K mg "bound_worth" (topS 41) f_bw)
    (d_li : Da K mg "levels_in" (topS 30) f_li)
    (d_sc : Da K mg "schedule" (topS 31) f_sc)
    (d_isn : Da K mg "is_name" (topS 17) f_isn)
    (d_isr : Da K mg "is_read" (topS 18) f_isr)
    (d_cs : Da K mg "check_system" (topS 19) f_cs)
    (d_dr : Da K mg "_law_draw" (topS 45) f_dr)
    (d_pool : Da K mg "_law_pool" (topS 44) f_pool)
    (d_pt : Da K mg "_law_point" (topS 56) f_pt)
    (d_vec : Da K mg "_law_vector" (topS 46) f_vec)
    (d_mnT : Da K mg "_law_mean" (topS 59) f_mnT)
    (d_way : Da K mg "_law_way" (topS 57) f_way)
    (d_lp : Da K mg "_law_pieces" (topS 51) f_lp)
    (d_own : Da K mg "_law_own" (topS 55) f_own)
    (d_tab : Da K mg "_law_tables" (topS 47) f_tab)
    (d_lrw : Da K mg "_law_rows" (topS 48) f_lrw)
    (d_md : Da K mg "_law_made" (topS 49) f_md)
    (d_nr : Da K mg "_law_numbers_right" (topS 60) f_nr)
    (d_rt : Da K mg "_law_right" (topS 61) f_rt)
    (d_law : Da K mg "law" (topS 62) f_law)
    (cP : Dc K mg "Program" CP) (nP0 : NoAttr K CP "width") (nP1 : NoAttr K CP "height") (nP2 : NoAttr K CP "grid") (nP3 : NoAttr K CP "bottom") (nP4 : NoAttr K CP "basis") (nP5 : NoAttr K CP "is_bounded")
    (cE : Dc K mg "Settling" CE) (nE0 : NoAttr K CE "piece_reads") (nE1 : NoAttr K CE "piece_names") (nE2 : NoAttr K CE "weights") (nE3 : NoAttr K CE "stuck") (nE4 : NoAttr K CE "vector") (nE5 : NoAttr K CE "heights")
    (cS : Dc K mg "System" CS) (nS0 : NoAttr K CS "dimension_count") (nS1 : NoAttr K CS "kept_modulus") (nS2 : NoAttr K CS "kept_tables") (nS3 : NoAttr K CS "named_reads")
    (d_gr : Dm K CP "greatest" "Program.greatest" (metS 4 4) f_gr)
    (d_pr : Dm K CP "prices" "Program.prices" (metS 4 6) f_pr)
    (d_en : Dm K CP "entering" "Program.entering" (metS 4 1) f_en)
    (d_nu : Dm K CP "numbers" "Program.numbers" (metS 4 5) f_nu)
    (d_ex : Dm K CP "exchange" "Program.exchange" (metS 4 3) f_ex)
    (d_st : Dm K CP "step" "Program.step" (metS 4 2) f_st)
    (d_in : Dm K CP "__init__" "Program.__init__" (metS 4 0) f_in)
    (d_se : Dm K CE "__init__" "Settling.__init__" (metS 29 0) f_se)
    (d_le : Dm K CE "level" "Settling.level" (metS 29 1) f_le)
    (d_sy : Ds K CS c f_sy)
    (y_abs : PySem.W.nsIn K mainGlobals "abs" = some none) (y_all : PySem.W.nsIn K mainGlobals "all" = some none) (y_dict : PySem.W.nsIn K mainGlobals "dict" = some none) (y_enumerate : PySem.W.nsIn K mainGlobals "enumerate" = some none) (y_int : PySem.W.nsIn K mainGlobals "int" = some none) (y_len : PySem.W.nsIn K mainGlobals "len" = some none) (y_list : PySem.W.nsIn K mainGlobals "list" = some none) (y_max : PySem.W.nsIn K mainGlobals "max" = some none) (y_min : PySem.W.nsIn K mainGlobals "min" = some none) (y_range : PySem.W.nsIn K mainGlobals "range" = some none) (y_set : PySem.W.nsIn K mainGlobals "set" = some none) (y_sorted : PySem.W.nsIn K mainGlobals "sorted" = some none) (y_sum : PySem.W.nsIn K mainGlobals "sum" = some none) (y_tuple : PySem.W.nsIn K mainGlobals "tuple" = some none) (y_zip : PySem.W.nsIn K mainGlobals "zip" = some none)
    {t_MOST_LETTERS t_MOST_DIMENSIONS t_MOST_TABLES t_MOST_READS t_LETTERS : Tok} (y_MOST_LETTERS : PySem.W.nsIn K mainGlobals "MOST_LETTERS" = some (some (.int 8 t_MOST_LETTERS))) (y_MOST_DIMENSIONS : PySem.W.nsIn K mainGlobals "MOST_DIMENSIONS" = some (some (.int 3 t_MOST_DIMENSIONS))) (y_MOST_TABLES : PySem.W.nsIn K mainGlobals "MOST_TABLES" = some (some (.int 6 t_MOST_TABLES))) (y_MOST_READS : PySem.W.nsIn K mainGlobals "MOST_READS" = some (some (.int 12 t_MOST_READS))) (y_LETTERS : PySem.W.nsIn K mainGlobals "LETTERS" = some (some (.str letters t_LETTERS)))
    (hT : h.get? PT = some { cls := .none, data := .fields #[] }) (nT : K.lookup PT = none) (hC : PySem.W.CodeHd h c PT) : LawAtS l w K CX0 10 63 "_law_script" mg fa h := by
  obtain ⟨fd_div, F_div⟩ := d_div.fn
  obtain ⟨fd_fr, F_fr⟩ := d_fr.fn
  obtain ⟨fd_oft, F_oft⟩ := d_oft.fn
  obtain ⟨fd_sml, F_sml⟩ := d_sml.fn
  obtain ⟨fd_sum, F_sum⟩ := d_sum.fn
  obtain ⟨fd_pl, F_pl⟩ := d_pl.fn
  obtain ⟨fd_hf, F_hf⟩ := d_hf.fn
  obtain ⟨fd_vo, F_vo⟩ := d_vo.fn
  obtain ⟨fd_to, F_to⟩ := d_to.fn
  obtain ⟨fd_ct, F_ct⟩ := d_ct.fn
  obtain ⟨fd_cc, F_cc⟩ := d_cc.fn
  obtain ⟨fd_ts, F_ts⟩ := d_ts.fn
  obtain ⟨fd_ro, F_ro⟩ := d_ro.fn
  obtain ⟨fd_pc, F_pc⟩ := d_pc.fn
  obtain ⟨fd_po, F_po⟩ := d_po.fn
  obtain ⟨fd_pg, F_pg⟩ := d_pg.fn
  obtain ⟨fd_wb, F_wb⟩ := d_wb.fn
  obtain ⟨fd_fw, F_fw⟩ := d_fw.fn
  obtain ⟨fd_bn, F_bn⟩ := d_bn.fn
  obtain ⟨fd_fl, F_fl⟩ := d_fl.fn
  obtain ⟨fd_bw, F_bw⟩ := d_bw.fn
  obtain ⟨fd_li, F_li⟩ := d_li.fn
  obtain ⟨fd_sc, F_sc⟩ := d_sc.fn
  obtain ⟨fd_isn, F_isn⟩ := d_isn.fn
  obtain ⟨fd_isr, F_isr⟩ := d_isr.fn
  obtain ⟨fd_cs, F_cs⟩ := d_cs.fn
  obtain ⟨fd_dr, F_dr⟩ := d_dr.fn
  obtain ⟨fd_pool, F_pool⟩ := d_pool.fn
  obtain ⟨fd_pt, F_pt⟩ := d_pt.fn
  obtain ⟨fd_vec, F_vec⟩ := d_vec.fn
  obtain ⟨fd_mnT, F_mnT⟩ := d_mnT.fn
  obtain ⟨fd_way, F_way⟩ := d_way.fn
  obtain ⟨fd_lp, F_lp⟩ := d_lp.fn
  obtain ⟨fd_own, F_own⟩ := d_own.fn
  obtain ⟨fd_tab, F_tab⟩ := d_tab.fn
  obtain ⟨fd_lrw, F_lrw⟩ := d_lrw.fn
  obtain ⟨fd_md, F_md⟩ := d_md.fn
  obtain ⟨fd_nr, F_nr⟩ := d_nr.fn
  obtain ⟨fd_rt, F_rt⟩ := d_rt.fn
  obtain ⟨fd_law, F_law⟩ := d_law.fn
  obtain ⟨fd_gr, F_gr⟩ := d_gr.fn
  obtain ⟨fd_pr, F_pr⟩ := d_pr.fn
  obtain ⟨fd_en, F_en⟩ := d_en.fn
  obtain ⟨fd_nu, F_nu⟩ := d_nu.fn
  obtain ⟨fd_ex, F_ex⟩ := d_ex.fn
  obtain ⟨fd_st, F_st⟩ := d_st.fn
  obtain ⟨fd_in, F_in⟩ := d_in.fn
  obtain ⟨fd_se, F_se⟩ := d_se.fn
  obtain ⟨fd_le, F_le⟩ := d_le.fn
  obtain ⟨fd_sy, F_sy⟩ := d_sy.fn
  have b_div := F_div.binds (ps := ["first", "second"]) fun _ _ _ _ _ _ us hl => match us, hl with | [_, _], _ => rfl
  have b_fr := F_fr.binds (ps := ["top", "bottom"]) fun _ _ _ _ _ _ us hl => match us, hl with | [_, _], _ => rfl
  have b_oft := F_oft.binds (ps := ["fraction", "number"]) fun _ _ _ _ _ _ us hl => match us, hl with | [_, _], _ => rfl
  have b_sml := F_sml.binds (ps := ["fraction", "number"]) fun _ _ _ _ _ _ us hl => match us, hl with | [_, _], _ => rfl
  have b_sum := F_sum.binds (ps := ["fractions"]) fun _ _ _ _ _ _ us hl => match us, hl with | [_], _ => rfl
  have b_pl := F_pl.binds (ps := ["_law_one", "_law_two"]) fun _ _ _ _ _ _ us hl => match us, hl with | [_, _], _ => rfl
  have b_hf := F_hf.binds (ps := ["_law_one", "_law_two"]) fun _ _ _ _ _ _ us hl => match us, hl with | [_, _], _ => rfl
  have b_vo := F_vo.binds (ps := ["system", "read"]) fun _ _ _ _ _ _ us hl => match us, hl with | [_, _], _ => rfl
  have b_to := F_to.binds (ps := ["system", "read"]) fun _ _ _ _ _ _ us hl => match us, hl with | [_, _], _ => rfl
  have b_ct := F_ct.binds (ps := ["system", "name"]) fun _ _ _ _ _ _ us hl => match us, hl with | [_, _], _ => rfl
  have b_cc := F_cc.binds (ps := ["system", "cell"]) fun _ _ _ _ _ _ us hl => match us, hl with | [_, _], _ => rfl
  have b_ts := F_ts.binds (ps := ["system", "reads"]) fun _ _ _ _ _ _ us hl => match us, hl with | [_, _], _ => rfl
  have b_ro := F_ro.binds (ps := ["system", "reads", "names"]) fun _ _ _ _ _ _ us hl => match us, hl with | [_, _, _], _ => rfl
  have b_pc := F_pc.binds (ps := ["system", "reads"]) fun _ _ _ _ _ _ us hl => match us, hl with | [_, _], _ => rfl
  have b_po := F_po.binds (ps := ["system", "name"]) fun _ _ _ _ _ _ us hl => match us, hl with | [_, _], _ => rfl
  have b_pg := F_pg.binds (ps := ["system", "cell"]) fun _ _ _ _ _ _ us hl => match us, hl with | [_, _], _ => rfl
  have b_wb := F_wb.binds (ps := ["system", "cell"]) fun _ _ _ _ _ _ us hl => match us, hl with | [_, _], _ => rfl
  have b_fw := F_fw.binds (ps := ["system", "cell"]) fun _ _ _ _ _ _ us hl => match us, hl with | [_, _], _ => rfl
  have b_bn := F_bn.binds (ps := ["system", "cell"]) fun _ _ _ _ _ _ us hl => match us, hl with | [_, _], _ => rfl
  have b_fl := F_fl.binds (ps := ["system", "cell", "found"]) fun _ _ _ _ _ _ us hl => match us, hl with | [_, _, _], _ => rfl
  have b_bw := F_bw.binds (ps := ["system", "cell", "found"]) fun _ _ _ _ _ _ us hl => match us, hl with | [_, _, _], _ => rfl
  have b_li := F_li.binds (ps := ["system"]) fun _ _ _ _ _ _ us hl => match us, hl with | [_], _ => rfl
  have b_sc := F_sc.binds (ps := ["system"]) fun _ _ _ _ _ _ us hl => match us, hl with | [_], _ => rfl
  have b_isn := F_isn.binds (ps := ["word"]) fun _ _ _ _ _ _ us hl => match us, hl with | [_], _ => rfl
  have b_isr := F_isr.binds (ps := ["read", "dimensions"]) fun _ _ _ _ _ _ us hl => match us, hl with | [_, _], _ => rfl
  have b_cs := F_cs.binds (ps := ["dimensions", "tables", "modulus"]) fun _ _ _ _ _ _ us hl => match us, hl with | [_, _, _], _ => rfl
  have b_dr := F_dr.binds (ps := ["_law_pool_here", "_law_many"]) fun _ _ _ _ _ _ us hl => match us, hl with | [_, _], _ => rfl
  have b_pool := F_pool.binds (ps := ["_law_script", "_law_at"]) fun _ _ _ _ _ _ us hl => match us, hl with | [_, _], _ => rfl
  have b_pt := F_pt.binds (ps := ["_law_pool_here", "_law_axes"]) fun _ _ _ _ _ _ us hl => match us, hl with | [_, _], _ => rfl
  have b_vec := F_vec.binds (ps := ["_law_pool_here", "_law_axes", "_law_rows_here"]) fun _ _ _ _ _ _ us hl => match us, hl with | [_, _, _], _ => rfl
  have b_mnT := F_mnT.binds (ps := ["_law_one", "_law_two", "_law_titles"]) fun _ _ _ _ _ _ us hl => match us, hl with | [_, _, _], _ => rfl
  have b_way := F_way.binds (ps := ["_law_pool_here", "_law_rows_here", "_law_place"]) fun _ _ _ _ _ _ us hl => match us, hl with | [_, _, _], _ => rfl
  have b_lp := F_lp.binds (ps := ["_law_rows_here"]) fun _ _ _ _ _ _ us hl => match us, hl with | [_], _ => rfl
  have b_own := F_own.binds (ps := ["_law_rows_here", "_law_title"]) fun _ _ _ _ _ _ us hl => match us, hl with | [_, _], _ => rfl
  have b_tab := F_tab.binds (ps := ["_law_pool_here", "_law_axes", "_law_most"]) fun _ _ _ _ _ _ us hl => match us, hl with | [_, _, _], _ => rfl
  have b_lrw := F_lrw.binds (ps := ["_law_tables_here"]) fun _ _ _ _ _ _ us hl => match us, hl with | [_], _ => rfl
  have b_md := F_md.binds (ps := ["_law_axes", "_law_tables_here"]) fun _ _ _ _ _ _ us hl => match us, hl with | [_, _], _ => rfl
  have b_nr := F_nr.binds (ps := ["_law_made_here", "_law_place", "_law_told", "_law_paper", "_law_rows_here"]) fun _ _ _ _ _ _ us hl => match us, hl with | [_, _, _, _, _], _ => rfl
  have b_rt := F_rt.binds (ps := ["_law_pool_here"]) fun _ _ _ _ _ _ us hl => match us, hl with | [_], _ => rfl
  have b_law := F_law.binds (ps := ["_law_script"]) fun _ _ _ _ _ _ us hl => match us, hl with | [_], _ => rfl
  have b_gr := F_gr.binds (ps := ["self"]) fun _ _ _ _ _ _ us hl => match us, hl with | [_], _ => rfl
  have b_pr := F_pr.binds (ps := ["self"]) fun _ _ _ _ _ _ us hl => match us, hl with | [_], _ => rfl
  have b_en := F_en.binds (ps := ["self"]) fun _ _ _ _ _ _ us hl => match us, hl with | [_], _ => rfl
  have b_nu := F_nu.binds (ps := ["self"]) fun _ _ _ _ _ _ us hl => match us, hl with | [_], _ => rfl
  have b_ex := F_ex.binds (ps := ["self", "spot", "column"]) fun _ _ _ _ _ _ us hl => match us, hl with | [_, _, _], _ => rfl
  have b_st := F_st.binds (ps := ["self", "column"]) fun _ _ _ _ _ _ us hl => match us, hl with | [_, _], _ => rfl
  have b_in := F_in.binds (ps := ["self", "rows", "limits", "goal"]) fun _ _ _ _ _ _ us hl => match us, hl with | [_, _, _, _], _ => rfl
  have b_se := F_se.binds (ps := ["self", "system", "reads"]) fun _ _ _ _ _ _ us hl => match us, hl with | [_, _, _], _ => rfl
  have b_le := F_le.binds (ps := ["self"]) fun _ _ _ _ _ _ us hl => match us, hl with | [_], _ => rfl
  have b_sy := funC_binds F_sy
  have z_abs := PySem.W.mg_none_of X G y_abs
  have z_all := PySem.W.mg_none_of X G y_all
  have z_dict := PySem.W.mg_none_of X G y_dict
  have z_enumerate := PySem.W.mg_none_of X G y_enumerate
  have z_int := PySem.W.mg_none_of X G y_int
  have z_len := PySem.W.mg_none_of X G y_len
  have z_list := PySem.W.mg_none_of X G y_list
  have z_max := PySem.W.mg_none_of X G y_max
  have z_min := PySem.W.mg_none_of X G y_min
  have z_range := PySem.W.mg_none_of X G y_range
  have z_set := PySem.W.mg_none_of X G y_set
  have z_sorted := PySem.W.mg_none_of X G y_sorted
  have z_sum := PySem.W.mg_none_of X G y_sum
  have z_tuple := PySem.W.mg_none_of X G y_tuple
  have z_zip := PySem.W.mg_none_of X G y_zip
  have q_MOST_LETTERS : ∃ u, mg "MOST_LETTERS" = some u ∧ RelV (.int 8) u := ⟨_, PySem.W.mg_of X G y_MOST_LETTERS, t_MOST_LETTERS, rfl⟩
  have q_MOST_DIMENSIONS : ∃ u, mg "MOST_DIMENSIONS" = some u ∧ RelV (.int 3) u := ⟨_, PySem.W.mg_of X G y_MOST_DIMENSIONS, t_MOST_DIMENSIONS, rfl⟩
  have q_MOST_TABLES : ∃ u, mg "MOST_TABLES" = some u ∧ RelV (.int 6) u := ⟨_, PySem.W.mg_of X G y_MOST_TABLES, t_MOST_TABLES, rfl⟩
  have q_MOST_READS : ∃ u, mg "MOST_READS" = some u ∧ RelV (.int 12) u := ⟨_, PySem.W.mg_of X G y_MOST_READS, t_MOST_READS, rfl⟩
  have q_LETTERS : ∃ u, mg "LETTERS" = some u ∧ RelV (.str letters) u := ⟨_, PySem.W.mg_of X G y_LETTERS, t_LETTERS, rfl⟩
  have tP : TxP K CP := ⟨cP.cl, nP0, nP1, nP2, nP3, nP4, nP5⟩
  have tE : TxE K CE := ⟨cE.cl, nE0, nE1, nE2, nE3, nE4, nE5⟩
  have tS : TxS K CS := ⟨cS.cl, nS0, nS1, nS2, nS3⟩
  have e := hfa.symm.trans d_law.gx
  cases e
  have hu1 : ∀ p ∈ [(PT, ("System.__init__.<locals>.<lambda>" : Str))], p.1 = PT → p.2 = ("System.__init__.<locals>.<lambda>" : Str) := fun p hp _ => by rw [List.mem_singleton.mp hp]
  have F : ∀ base : Heap, K.In base → base.Ns mainGlobals mg → (∀ p ∈ [(c, PT)], TabB base mg p.1 p.2) → FnOk l.prog w K mg base CX0 10 fa fd_law ["_law_script"] (spLaw K [(PT, ("System.__init__.<locals>.<lambda>" : Str))]) := fun base _ _ hTB => by
    have TB := hTB (c, PT) List.mem_cons_self
    have N_div : Dn l.prog w K mg base "divisor_of" 1 ["first", "second"] spDiv := Dn.ok F_div d_div.gx b_div (ok_div F_div (mabs := z_abs))
    have N_fr : Dn l.prog w K mg base "fraction_of" 2 ["top", "bottom"] spFr := Dn.ok F_fr d_fr.gx b_fr (ok_fr F_fr (D1 := N_div))
    have N_oft : Dn l.prog w K mg base "so_often" 3 ["fraction", "number"] (spOft K) := Dn.ok F_oft d_oft.gx b_oft (ok_oft F_oft (D1 := N_fr))
    have N_sml : Dn l.prog w K mg base "is_small" 1 ["fraction", "number"] (spSml K) := Dn.ok F_sml d_sml.gx b_sml (ok_sml F_sml )
    have N_sum : Dn l.prog w K mg base "sum_of_fractions" 3 ["fractions"] (spSum K) := Dn.ok F_sum d_sum.gx b_sum (ok_sum F_sum (D1 := N_fr))
    have N_pl : Dn l.prog w K mg base "_law_plus" 1 ["_law_one", "_law_two"] (spPl K) := Dn.ok F_pl d_pl.gx b_pl (ok_pl F_pl (mabs := z_abs))
    have N_hf : Dn l.prog w K mg base "_law_half" 2 ["_law_one", "_law_two"] (spHf K) := Dn.ok F_hf d_hf.gx b_hf (ok_hf F_hf (D1 := N_pl))
    have M_gr : Mn l.prog w K mg base CP "greatest" 1 ["self"] (spGr CP) := ⟨f_gr, fd_gr, ok_gr F_gr (T := tP), d_gr.me, b_gr⟩
    have M_pr : Mn l.prog w K mg base CP "prices" 1 ["self"] (spPr CP) := ⟨f_pr, fd_pr, ok_pr F_pr (T := tP), d_pr.me, b_pr⟩
    have M_en : Mn l.prog w K mg base CP "entering" 1 ["self"] (spEn CP) := ⟨f_en, fd_en, ok_en F_en (T := tP) (mr := z_range), d_en.me, b_en⟩
    have M_nu : Mn l.prog w K mg base CP "numbers" 1 ["self"] (spNu CP) := ⟨f_nu, fd_nu, ok_nu F_nu (T := tP) (me := z_enumerate), d_nu.me, b_nu⟩
    have M_ex : Mn l.prog w K mg base CP "exchange" 1 ["self", "spot", "column"] (spEx CP) := ⟨f_ex, fd_ex, ok_ex F_ex (T := tP) (me := z_enumerate) (ml := z_list) (mz := z_zip), d_ex.me, b_ex⟩
    have M_st : Mn l.prog w K mg base CP "step" 2 ["self", "column"] (spSt CP) := ⟨f_st, fd_st, ok_st F_st (T := tP) (mr := z_range) (MX := M_ex), d_st.me, b_st⟩
    have K_in : Kn l.prog w K mg base "Program" CP 3 ["self", "rows", "limits", "goal"] (spIn K CP) := ⟨f_in, fd_in, ok_in F_in (T := tP) (mr := z_range) (mlen := z_len) (me := z_enumerate) (mi := z_int) (MS := M_st) (ME := M_en), ⟨cP.mki, d_in.me.at_, d_in.me.fn, cP.kc⟩, cP.gx, b_in⟩
    have N_vo : Dn l.prog w K mg base "vector_of" 1 ["system", "read"] (spVo CS) := Dn.ok F_vo d_vo.gx b_vo (ok_vo F_vo (T := tS))
    have N_to : Dn l.prog w K mg base "target_of" 1 ["system", "read"] (spTo CS) := Dn.ok F_to d_to.gx b_to (ok_to F_to (T := tS))
    have N_ct : Dn l.prog w K mg base "check_table" 1 ["system", "name"] (spCt CS) := Dn.ok F_ct d_ct.gx b_ct (ok_ct F_ct (T := tS))
    have N_cc : Dn l.prog w K mg base "check_cell" 2 ["system", "cell"] (spCc CS) := Dn.ok F_cc d_cc.gx b_cc (ok_cc F_cc (T := tS) (mlen := z_len) (mmin := z_min) (D1 := N_ct))
    have N_ts : Dn l.prog w K mg base "tables_of" 2 ["system", "reads"] (spTs K CS) := Dn.ok F_ts d_ts.gx b_ts (ok_ts F_ts (msorted := z_sorted) (D1 := N_to))
    have N_ro : Dn l.prog w K mg base "rows_of" 2 ["system", "reads", "names"] (spRo K CS) := Dn.ok F_ro d_ro.gx b_ro (ok_ro F_ro (T := tS) (mr := z_range) (mi := z_int) (D1 := N_to) (D2 := N_vo))
    have N_pc : Dn l.prog w K mg base "pieces_of" 2 ["system", "reads"] (spPc K CS) := Dn.ok F_pc d_pc.gx b_pc (ok_pc F_pc (msorted := z_sorted) (D1 := N_to))
    have N_po : Dn l.prog w K mg base "piece_of" 3 ["system", "name"] (spPo CS) := Dn.ok F_po d_po.gx b_po (ok_po F_po (T := tS) (D1 := N_pc) (D2 := N_ts))
    have N_pg : Dn l.prog w K mg base "program_of" 5 ["system", "cell"] (spPg CS CP) := Dn.ok F_pg d_pg.gx b_pg (ok_pg F_pg (T := tS) (mi := z_int) (mlen := z_len) (D1 := N_po) (D2 := N_ro) (KP := K_in))
    have N_wb : Dn l.prog w K mg base "way_bound" 6 ["system", "cell"] (spWb CS) := Dn.ok F_wb d_wb.gx b_wb (ok_wb F_wb (T := tS) (TP := tP) (D1 := N_cc) (D2 := N_pg) (D3 := N_fr) (MG := M_gr))
    have N_fw : Dn l.prog w K mg base "flow_weights" 6 ["system", "cell"] (spFw CS) := Dn.ok F_fw d_fw.gx b_fw (ok_fw F_fw (T := tS) (TP := tP) (mdict := z_dict) (mzip := z_zip) (D1 := N_cc) (D2 := N_pg) (D3 := N_fr) (D4 := N_po) (MN := M_nu))
    have N_bn : Dn l.prog w K mg base "bound_numbers" 6 ["system", "cell"] (spBn CS) := Dn.ok F_bn d_bn.gx b_bn (ok_bn F_bn (T := tS) (TP := tP) (mdict := z_dict) (mzip := z_zip) (mtuple := z_tuple) (D1 := N_cc) (D2 := N_pg) (D3 := N_fr) (D4 := N_po) (MP := M_pr))
    have N_fl : Dn l.prog w K mg base "flow_worth" 6 ["system", "cell", "found"] (spFl CS) := Dn.ok F_fl d_fl.gx b_fl (ok_fl F_fl (T := tS) (mall := z_all) (mlist := z_list) (msorted := z_sorted) (mi := z_int) (mzip := z_zip) (D1 := N_cc) (D2 := N_po) (D3 := N_ro) (D4 := N_oft) (D5 := N_sum) (D6 := N_sml))
    have N_bw : Dn l.prog w K mg base "bound_worth" 6 ["system", "cell", "found"] (spBw CS) := Dn.ok F_bw d_bw.gx b_bw (ok_bw F_bw (T := tS) (mlen := z_len) (mlist := z_list) (msorted := z_sorted) (mmin := z_min) (mzip := z_zip) (D1 := N_cc) (D2 := N_po) (D3 := N_vo) (D4 := N_oft) (D5 := N_sum) (D6 := N_to))
    have K_se : Kn l.prog w K mg base "Settling" CE 5 ["self", "system", "reads"] (spSe K CS CE) := ⟨f_se, fd_se, ok_se F_se (T := tS) (TP := tP) (TE := tE) (mlen := z_len) (mzip := z_zip) (mi := z_int) (mtuple := z_tuple) (D1 := N_ts) (D2 := N_ro) (KP := K_in) (MG := M_gr) (MN := M_nu) (MP := M_pr), ⟨cE.mki, d_se.me.at_, d_se.me.fn, cE.kc⟩, cE.gx, b_se⟩
    have M_le : Mn l.prog w K mg base CE "level" 1 ["self"] (spLe CE) := ⟨f_le, fd_le, ok_le F_le (TE := tE) (mzip := z_zip), d_le.me, b_le⟩
    have N_li : Dn l.prog w K mg base "levels_in" 7 ["system"] (spLi CS) := Dn.ok F_li d_li.gx b_li (ok_li F_li (T := tS) (TE := tE) (mlist := z_list) (mlen := z_len) (msorted := z_sorted) (D1 := N_pc) (KE := K_se) (ML := M_le))
    have N_sc : Dn l.prog w K mg base "schedule" 8 ["system"] (spLi CS) := Dn.ok F_sc d_sc.gx b_sc (ok_sc F_sc (D1 := N_li))
    have N_isn : Dn l.prog w K mg base "is_name" 1 ["word"] spIsN := Dn.ok F_isn d_isn.gx b_isn (ok_isn F_isn (mlen := z_len) (mall := z_all) (hM := q_MOST_LETTERS) (hL := q_LETTERS))
    have N_isr : Dn l.prog w K mg base "is_read" 2 ["read", "dimensions"] spIsR := Dn.ok F_isr d_isr.gx b_isr (ok_isr F_isr (mlen := z_len) (D1 := N_isn))
    have N_cs : Dn l.prog w K mg base "check_system" 3 ["dimensions", "tables", "modulus"] (spCs K) := Dn.ok F_cs d_cs.gx b_cs (ok_cs F_cs (mlen := z_len) (mall := z_all) (me := z_enumerate) (hM1 := q_MOST_DIMENSIONS) (hM2 := q_MOST_TABLES) (hM3 := q_MOST_READS) (D1 := N_isn) (D2 := N_isr))
    have N_dr : Dn l.prog w K mg base "_law_draw" 1 ["_law_pool_here", "_law_many"] spDr := Dn.ok F_dr d_dr.gx b_dr (ok_dr F_dr )
    have N_pool : Dn l.prog w K mg base "_law_pool" 1 ["_law_script", "_law_at"] (spPool K) := Dn.ok F_pool d_pool.gx b_pool (ok_pool F_pool (mlen := z_len) (mmax := z_max) (mabs := z_abs))
    have N_pt : Dn l.prog w K mg base "_law_point" 2 ["_law_pool_here", "_law_axes"] spPt := Dn.ok F_pt d_pt.gx b_pt (ok_pt F_pt (mr := z_range) (mtuple := z_tuple) (D1 := N_dr))
    have N_vec : Dn l.prog w K mg base "_law_vector" 2 ["_law_pool_here", "_law_axes", "_law_rows_here"] spVec := Dn.ok F_vec d_vec.gx b_vec (ok_vec F_vec (mr := z_range) (mtuple := z_tuple) (mlen := z_len) (mmax := z_max) (mmin := z_min) (D1 := N_dr))
    have N_mnT : Dn l.prog w K mg base "_law_mean" 3 ["_law_one", "_law_two", "_law_titles"] (spMnT K) := Dn.ok F_mnT d_mnT.gx b_mnT (ok_mnT F_mnT (D1 := N_hf))
    have N_mnK : Dn l.prog w K mg base "_law_mean" 3 ["_law_one", "_law_two", "_law_titles"] (spMnK K) := Dn.ok F_mnT d_mnT.gx b_mnT (ok_mnK F_mnT (D1 := N_hf))
    have N_way : Dn l.prog w K mg base "_law_way" 2 ["_law_pool_here", "_law_rows_here", "_law_place"] (spWay K) := Dn.ok F_way d_way.gx b_way (ok_way F_way (mr := z_range) (mtuple := z_tuple) (mlen := z_len) (mmin := z_min) (mzip := z_zip) (D1 := N_dr))
    have N_lp : Dn l.prog w K mg base "_law_pieces" 1 ["_law_rows_here"] spLp := Dn.ok F_lp d_lp.gx b_lp (ok_lp F_lp (mlist := z_list) (mr := z_range) (mlen := z_len))
    have N_own : Dn l.prog w K mg base "_law_own" 2 ["_law_rows_here", "_law_title"] spOwn := Dn.ok F_own d_own.gx b_own (ok_own F_own (D1 := N_lp) (msorted := z_sorted) (mset := z_set))
    have K_sy : Kn l.prog w K mg base "System" CS 4 ["self", "dimensions", "tables", "modulus"] (spSy K CS [(PT, ("System.__init__.<locals>.<lambda>" : Str))]) := ⟨f_sy, fd_sy, ok_sy F_sy (TX := tS) (TB := TB) (hmT := List.mem_cons_self) (hu := hu1) (msorted := z_sorted) (mtuple := z_tuple) (mr := z_range) (mlen := z_len) (D1 := N_cs), ⟨cS.mki, d_sy.me.at_, d_sy.me.fn, cS.kc⟩, cS.gx, b_sy⟩
    have N_tab : Dn l.prog w K mg base "_law_tables" 3 ["_law_pool_here", "_law_axes", "_law_most"] spTab := Dn.ok F_tab d_tab.gx b_tab (ok_tab F_tab (mr := z_range) (mi := z_int) (mlen := z_len) (mzip := z_zip) (D1 := N_dr) (D2 := N_vec))
    have N_lrw : Dn l.prog w K mg base "_law_rows" 1 ["_law_tables_here"] (spLRw K) := Dn.ok F_lrw d_lrw.gx b_lrw (ok_lrw F_lrw (msorted := z_sorted) (me := z_enumerate))
    have N_md : Dn l.prog w K mg base "_law_made" 6 ["_law_axes", "_law_tables_here"] (spMd K CS [(PT, ("System.__init__.<locals>.<lambda>" : Str))]) := Dn.ok F_md d_md.gx b_md (ok_md F_md (KS := K_sy))
    have N_nr : Dn l.prog w K mg base "_law_numbers_right" 7 ["_law_made_here", "_law_place", "_law_told", "_law_paper", "_law_rows_here"] (spNr CS) := Dn.ok F_nr d_nr.gx b_nr (ok_nr F_nr (mmin := z_min) (mtuple := z_tuple) (mzip := z_zip) (DO := N_own) (DB := N_bw) (DN := N_bn) (DH := N_hf) (DM := N_mnK))
    have N_rt : Dn l.prog w K mg base "_law_right" 9 ["_law_pool_here"] (spRt [(PT, ("System.__init__.<locals>.<lambda>" : Str))]) := Dn.ok F_rt d_rt.gx b_rt (ok_rt F_rt (mlen := z_len) (mlist := z_list) (msum := z_sum) (DD := N_dr) (DT := N_tab) (DMd := N_md) (DR := N_lrw) (DP := N_pt) (DW := N_way) (DB := N_wb) (DF := N_fl) (DFw := N_fw) (DO := N_own) (DM := N_mnT) (DH := N_hf) (DS := N_sc) (DN := N_nr))
    exact ok_law F_law (mr := z_range) (mlen := z_len) (mmax := z_max) (mmin := z_min) (DP := N_pool) (DR := N_rt)
  obtain ⟨oc, od, kV, doc, pm, an, cdv, ct, osl, rfl, lk, hcd⟩ := F_law.ex
  refine ⟨_, [(c, PT)], spLaw K [(PT, ("System.__init__.<locals>.<lambda>" : Str))], fun p hp => ?_, fun p hp => ?_, fun p hp => ?_, fun s u => .of_eq rfl, fun H a ns hl _ hH hS => ⟨a, ns, rfl, hS, by omega, fun p hp => ?_, fun _ => rfl⟩, F⟩
  · rw [List.mem_singleton.mp hp]; exact hT
  · rw [List.mem_singleton.mp hp]; exact nT
  · rw [List.mem_singleton.mp hp]; exact hC
  · rw [List.mem_singleton.mp hp]; exact TabS.nil (hH (c, PT) List.mem_cons_self)
end Frd
set_option Elab.async false
set_option maxRecDepth 100000
open PySem PySem.W PyProof.Rows in
set_option maxHeartbeats 0 in
theorem PySem.Challenge.cw_farreads_k35_whole_ways_are_weights_holds : PySem.Challenge.rw_farreads_k35_whole_ways_are_weights.Holds := by
  w_on; o_law; k_head; (case hw => w_witness2)
  k_fill
  refine LamX.walk_ofTs (l := PySem.Challenge.rw_farreads_k35_whole_ways_are_weights) (n := 63) (k := 10) (x := "_law_script") (CX := fun _ => L2.CX0) rfl (by decide) rfl ⟨rfl, by decide, by decide⟩ (fun w h Y => PySem.W.km_in_of Y) ?F (fun _ _ _ _ _ z => z)
  case F =>
    intro w mg fa h Y KX G hmg
    have hT8 := PySem.W.km_tabs_of Y
    have hT9 := hT8 _ List.mem_cons_self
    have d_div := Frd.da (x := "divisor_of") (st := Frd.topS 2) KX G (by k_is) (by k_is) (by k_is) (by k_is)
    have d_fr := Frd.da (x := "fraction_of") (st := Frd.topS 3) KX G (by k_is) (by k_is) (by k_is) (by k_is)
    have d_oft := Frd.da (x := "so_often") (st := Frd.topS 36) KX G (by k_is) (by k_is) (by k_is) (by k_is)
    have d_sml := Frd.da (x := "is_small") (st := Frd.topS 37) KX G (by k_is) (by k_is) (by k_is) (by k_is)
    have d_sum := Frd.da (x := "sum_of_fractions") (st := Frd.topS 35) KX G (by k_is) (by k_is) (by k_is) (by k_is)
    have d_pl := Frd.da (x := "_law_plus") (st := Frd.topS 52) KX G (by k_is) (by k_is) (by k_is) (by k_is)
    have d_hf := Frd.da (x := "_law_half") (st := Frd.topS 58) KX G (by k_is) (by k_is) (by k_is) (by k_is)
    have d_vo := Frd.da (x := "vector_of") (st := Frd.topS 24) KX G (by k_is) (by k_is) (by k_is) (by k_is)
    have d_to := Frd.da (x := "target_of") (st := Frd.topS 25) KX G (by k_is) (by k_is) (by k_is) (by k_is)
    have d_ct := Frd.da (x := "check_table") (st := Frd.topS 20) KX G (by k_is) (by k_is) (by k_is) (by k_is)
    have d_cc := Frd.da (x := "check_cell") (st := Frd.topS 21) KX G (by k_is) (by k_is) (by k_is) (by k_is)
    have d_ts := Frd.da (x := "tables_of") (st := Frd.topS 27) KX G (by k_is) (by k_is) (by k_is) (by k_is)
    have d_ro := Frd.da (x := "rows_of") (st := Frd.topS 28) KX G (by k_is) (by k_is) (by k_is) (by k_is)
    have d_pc := Frd.da (x := "pieces_of") (st := Frd.topS 26) KX G (by k_is) (by k_is) (by k_is) (by k_is)
    have d_po := Frd.da (x := "piece_of") (st := Frd.topS 33) KX G (by k_is) (by k_is) (by k_is) (by k_is)
    have d_pg := Frd.da (x := "program_of") (st := Frd.topS 34) KX G (by k_is) (by k_is) (by k_is) (by k_is)
    have d_wb := Frd.da (x := "way_bound") (st := Frd.topS 38) KX G (by k_is) (by k_is) (by k_is) (by k_is)
    have d_fw := Frd.da (x := "flow_weights") (st := Frd.topS 40) KX G (by k_is) (by k_is) (by k_is) (by k_is)
    have d_bn := Frd.da (x := "bound_numbers") (st := Frd.topS 39) KX G (by k_is) (by k_is) (by k_is) (by k_is)
    have d_fl := Frd.da (x := "flow_worth") (st := Frd.topS 42) KX G (by k_is) (by k_is) (by k_is) (by k_is)
    have d_bw := Frd.da (x := "bound_worth") (st := Frd.topS 41) KX G (by k_is) (by k_is) (by k_is) (by k_is)
    have d_li := Frd.da (x := "levels_in") (st := Frd.topS 30) KX G (by k_is) (by k_is) (by k_is) (by k_is)
    have d_sc := Frd.da (x := "schedule") (st := Frd.topS 31) KX G (by k_is) (by k_is) (by k_is) (by k_is)
    have d_isn := Frd.da (x := "is_name") (st := Frd.topS 17) KX G (by k_is) (by k_is) (by k_is) (by k_is)
    have d_isr := Frd.da (x := "is_read") (st := Frd.topS 18) KX G (by k_is) (by k_is) (by k_is) (by k_is)
    have d_cs := Frd.da (x := "check_system") (st := Frd.topS 19) KX G (by k_is) (by k_is) (by k_is) (by k_is)
    have d_dr := Frd.da (x := "_law_draw") (st := Frd.topS 45) KX G (by k_is) (by k_is) (by k_is) (by k_is)
    have d_pool := Frd.da (x := "_law_pool") (st := Frd.topS 44) KX G (by k_is) (by k_is) (by k_is) (by k_is)
    have d_pt := Frd.da (x := "_law_point") (st := Frd.topS 56) KX G (by k_is) (by k_is) (by k_is) (by k_is)
    have d_vec := Frd.da (x := "_law_vector") (st := Frd.topS 46) KX G (by k_is) (by k_is) (by k_is) (by k_is)
    have d_mnT := Frd.da (x := "_law_mean") (st := Frd.topS 59) KX G (by k_is) (by k_is) (by k_is) (by k_is)
    have d_way := Frd.da (x := "_law_way") (st := Frd.topS 57) KX G (by k_is) (by k_is) (by k_is) (by k_is)
    have d_lp := Frd.da (x := "_law_pieces") (st := Frd.topS 51) KX G (by k_is) (by k_is) (by k_is) (by k_is)
    have d_own := Frd.da (x := "_law_own") (st := Frd.topS 55) KX G (by k_is) (by k_is) (by k_is) (by k_is)
    have d_tab := Frd.da (x := "_law_tables") (st := Frd.topS 47) KX G (by k_is) (by k_is) (by k_is) (by k_is)
    have d_lrw := Frd.da (x := "_law_rows") (st := Frd.topS 48) KX G (by k_is) (by k_is) (by k_is) (by k_is)
    have d_md := Frd.da (x := "_law_made") (st := Frd.topS 49) KX G (by k_is) (by k_is) (by k_is) (by k_is)
    have d_nr := Frd.da (x := "_law_numbers_right") (st := Frd.topS 60) KX G (by k_is) (by k_is) (by k_is) (by k_is)
    have d_rt := Frd.da (x := "_law_right") (st := Frd.topS 61) KX G (by k_is) (by k_is) (by k_is) (by k_is)
    have d_law := Frd.da (x := "law") (st := Frd.topS 62) KX G (by k_is) (by k_is) (by k_is) (by k_is)
    have cP := Frd.dc (x := "Program") KX G (by k_is) (by k_is) (by k_is) (by k_is) (by k_is) (by k_is) (by k_is)
    have cE := Frd.dc (x := "Settling") KX G (by k_is) (by k_is) (by k_is) (by k_is) (by k_is) (by k_is) (by k_is)
    have cS := Frd.dc (x := "System") KX G (by k_is) (by k_is) (by k_is) (by k_is) (by k_is) (by k_is) (by k_is)
    have d_gr := Frd.dm (m := "greatest") (qual := "Program.greatest") (st := Frd.metS 4 4) cP (by k_is) (by k_is) (by k_is) (by k_is) (by k_is)
    have d_pr := Frd.dm (m := "prices") (qual := "Program.prices") (st := Frd.metS 4 6) cP (by k_is) (by k_is) (by k_is) (by k_is) (by k_is)
    have d_en := Frd.dm (m := "entering") (qual := "Program.entering") (st := Frd.metS 4 1) cP (by k_is) (by k_is) (by k_is) (by k_is) (by k_is)
    have d_nu := Frd.dm (m := "numbers") (qual := "Program.numbers") (st := Frd.metS 4 5) cP (by k_is) (by k_is) (by k_is) (by k_is) (by k_is)
    have d_ex := Frd.dm (m := "exchange") (qual := "Program.exchange") (st := Frd.metS 4 3) cP (by k_is) (by k_is) (by k_is) (by k_is) (by k_is)
    have d_st := Frd.dm (m := "step") (qual := "Program.step") (st := Frd.metS 4 2) cP (by k_is) (by k_is) (by k_is) (by k_is) (by k_is)
    have d_in := Frd.dm (m := "__init__") (qual := "Program.__init__") (st := Frd.metS 4 0) cP (by k_is) (by k_is) (by k_is) (by k_is) (by k_is)
    have d_se := Frd.dm (m := "__init__") (qual := "Settling.__init__") (st := Frd.metS 29 0) cE (by k_is) (by k_is) (by k_is) (by k_is) (by k_is)
    have d_le := Frd.dm (m := "level") (qual := "Settling.level") (st := Frd.metS 29 1) cE (by k_is) (by k_is) (by k_is) (by k_is) (by k_is)
    have d_sy := Frd.ds cS (by k_is) (by k_is) (by k_is) (by k_is) (by k_is) (by k_is) (by rfl)
    have nP0 := Frd.noat (f := "width") cP (by k_is)
    have nP1 := Frd.noat (f := "height") cP (by k_is)
    have nP2 := Frd.noat (f := "grid") cP (by k_is)
    have nP3 := Frd.noat (f := "bottom") cP (by k_is)
    have nP4 := Frd.noat (f := "basis") cP (by k_is)
    have nP5 := Frd.noat (f := "is_bounded") cP (by k_is)
    have nE0 := Frd.noat (f := "piece_reads") cE (by k_is)
    have nE1 := Frd.noat (f := "piece_names") cE (by k_is)
    have nE2 := Frd.noat (f := "weights") cE (by k_is)
    have nE3 := Frd.noat (f := "stuck") cE (by k_is)
    have nE4 := Frd.noat (f := "vector") cE (by k_is)
    have nE5 := Frd.noat (f := "heights") cE (by k_is)
    have nS0 := Frd.noat (f := "dimension_count") cS (by k_is)
    have nS1 := Frd.noat (f := "kept_modulus") cS (by k_is)
    have nS2 := Frd.noat (f := "kept_tables") cS (by k_is)
    have nS3 := Frd.noat (f := "named_reads") cS (by k_is)
    exact Frd.all_mk KX G hmg d_div d_fr d_oft d_sml d_sum d_pl d_hf d_vo d_to d_ct d_cc d_ts d_ro d_pc d_po d_pg d_wb d_fw d_bn d_fl d_bw d_li d_sc d_isn d_isr d_cs d_dr d_pool d_pt d_vec d_mnT d_way d_lp d_own d_tab d_lrw d_md d_nr d_rt d_law cP nP0 nP1 nP2 nP3 nP4 nP5 cE nE0 nE1 nE2 nE3 nE4 nE5 cS nS0 nS1 nS2 nS3 d_gr d_pr d_en d_nu d_ex d_st d_in d_se d_le d_sy (by k_is) (by k_is) (by k_is) (by k_is) (by k_is) (by k_is) (by k_is) (by k_is) (by k_is) (by k_is) (by k_is) (by k_is) (by k_is) (by k_is) (by k_is) (by k_is) (by k_is) (by k_is) (by k_is) (by k_is) hT9 (by kernel_rfl) (PySem.W.codeHd_of_K KX (by kernel_rfl))
