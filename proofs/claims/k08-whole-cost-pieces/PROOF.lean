import PyProof.Rows.All
import Wide.All
import OpenK.AllK
import Wide.FinOn
import KE.KStateDown
import Lean
import HandS.Base
import HandS.Call
import HandS.Ends
import HandS.More
import HandS.Words
import HandS.WordsExc
import HandS.Defaults
import HandS.Head0
import HandS.Head1
import HandS.Head2
import HandS.HeadEnd
import HandS.HeadHook1
import HandS.HeadHook2
import HandS.HeadHook3
import HandS.HeadHook4
import PySem.Challenge.RW_costpapers_k08_whole_cost_pieces
import HandS.ForMost
import HandS.Star
import HandS.IsInst
import HandS.Wide
import HandS.Flow
import HandS.Zip
import KE.GoesNew
/-! ## MDet -/
section
set_option autoImplicit false
set_option linter.all false
set_option maxHeartbeats 4000000
/-! sums and determinants of whole numbers -/
namespace Cp
def sumN : Nat → (Nat → Int) → Int
  | 0, _ => 0
  | n + 1, f => sumN n f + f n
theorem sumN_congr {n : Nat} {f g : Nat → Int} (h : ∀ i, i < n → f i = g i) : sumN n f = sumN n g := by
  induction n with
  | zero => rfl
  | succ n ih =>
    show sumN n f + f n = sumN n g + g n
    rw [ih fun i hi => h i (by omega), h n (by omega)]
theorem sumN_zero {n : Nat} {f : Nat → Int} (h : ∀ i, i < n → f i = 0) : sumN n f = 0 := by
  induction n with
  | zero => rfl
  | succ n ih =>
    show sumN n f + f n = 0
    rw [ih fun i hi => h i (by omega), h n (by omega)]; rfl
theorem sumN_lin {n : Nat} {f g : Nat → Int} (a b : Int) : sumN n (fun i => a * f i + b * g i) = a * sumN n f + b * sumN n g := by
  induction n with
  | zero => simp [sumN]
  | succ n ih =>
    show sumN n _ + _ = a * (sumN n f + f n) + b * (sumN n g + g n)
    rw [ih]; grind
theorem sumN_add {n : Nat} {f g : Nat → Int} : sumN n (fun i => f i + g i) = sumN n f + sumN n g := by
  have := sumN_lin (n := n) (f := f) (g := g) 1 1
  simpa using this
theorem sumN_sub {n : Nat} {f g : Nat → Int} : sumN n (fun i => f i - g i) = sumN n f - sumN n g := by
  have := sumN_lin (n := n) (f := f) (g := g) 1 (-1)
  have e : (fun i => f i - g i) = fun i => 1 * f i + -1 * g i := by funext i; omega
  rw [e, this]; omega
theorem sumN_mul {n : Nat} {f : Nat → Int} (a : Int) : sumN n (fun i => a * f i) = a * sumN n f := by
  have := sumN_lin (n := n) (f := f) (g := fun _ => 0) a 0
  simpa using this
theorem sumN_mulr {n : Nat} {f : Nat → Int} (a : Int) : sumN n (fun i => f i * a) = sumN n f * a := by
  rw [Int.mul_comm, ← sumN_mul]
  exact sumN_congr fun i _ => Int.mul_comm _ _
theorem sumN_one {n k : Nat} {f : Nat → Int} (hk : k < n) (h : ∀ i, i < n → i ≠ k → f i = 0) : sumN n f = f k := by
  induction n with
  | zero => omega
  | succ n ih =>
    show sumN n f + f n = f k
    by_cases e : k = n
    · subst e
      rw [sumN_zero fun i hi => h i (by omega) (by omega)]; omega
    · rw [ih (by omega) fun i hi hn => h i (by omega) hn, h n (by omega) (Ne.symm e)]; omega
theorem sumN_two {n k l : Nat} {f : Nat → Int} (hk : k < n) (hl : l < n) (hne : k ≠ l) (h : ∀ i, i < n → i ≠ k → i ≠ l → f i = 0) : sumN n f = f k + f l := by
  have e : sumN n f = sumN n (fun i => (if i = k then f i else 0) + (if i = k then 0 else f i)) := sumN_congr fun i _ => by by_cases q : i = k <;> simp [q]
  rw [e, sumN_add, sumN_one hk fun i _ q => by simp [q], sumN_one hl fun i hi q => by by_cases z : i = k <;> simp [z]; exact h i hi z q]
  simp [Ne.symm hne]
theorem sumN_swap {n m : Nat} {f : Nat → Nat → Int} : sumN n (fun i => sumN m (fun j => f i j)) = sumN m (fun j => sumN n (fun i => f i j)) := by
  induction n with
  | zero => exact (sumN_zero fun _ _ => rfl).symm
  | succ n ih =>
    show sumN n _ + sumN m _ = sumN m (fun j => sumN n (fun i => f i j) + f n j)
    rw [ih, sumN_add]
/-! determinants: v slot coordinate -/
def skip {α : Type} (i : Nat) (v : Nat → α) : Nat → α := fun j => if j < i then v j else v (j + 1)
def sg (i : Nat) : Int := if i % 2 = 0 then 1 else -1
theorem sg_succ (i : Nat) : sg (i + 1) = - sg i := by
  unfold sg
  by_cases h : i % 2 = 0
  · rw [if_pos h, if_neg (by omega)]
  · rw [if_neg h, if_pos (by omega)]; rfl
def det : Nat → (Nat → Nat → Int) → Int
  | 0, _ => 1
  | m + 1, v => sumN (m + 1) fun i => sg i * v i m * det m (skip i v)
def put {α : Type} (v : Nat → α) (k : Nat) (x : α) : Nat → α := fun i => if i = k then x else v i
theorem put_same {α : Type} {v : Nat → α} {k : Nat} {x : α} : put v k x k = x := if_pos rfl
theorem put_ne {α : Type} {v : Nat → α} {k i : Nat} {x : α} (h : i ≠ k) : put v k x i = v i := if_neg h
theorem det_congr : ∀ {m : Nat} {v w : Nat → Nat → Int}, (∀ i, i < m → ∀ c, c < m → v i c = w i c) → det m v = det m w
  | 0, _, _, _ => rfl
  | m + 1, v, w, h => by
    refine sumN_congr fun i hi => ?_
    rw [h i hi m (by omega), det_congr (v := skip i v) (w := skip i w) fun j hj c hc => ?_]
    unfold skip
    by_cases q : j < i
    · rw [if_pos q, if_pos q]; exact h j (by omega) c (by omega)
    · rw [if_neg q, if_neg q]; exact h (j + 1) (by omega) c (by omega)
theorem skip_put_lt {α : Type} {v : Nat → α} {i k : Nat} {x : α} (h : k < i) : skip i (put v k x) = put (skip i v) k x := by
  funext j
  unfold skip put
  by_cases q : j < i
  · simp only [if_pos q]
  · simp only [if_neg q]
    rw [if_neg (by omega), if_neg (by omega)]
theorem skip_put_eq {α : Type} {v : Nat → α} {k : Nat} {x : α} : skip k (put v k x) = skip k v := by
  funext j
  unfold skip put
  by_cases q : j < k
  · simp only [if_pos q]; rw [if_neg (by omega)]
  · simp only [if_neg q]; rw [if_neg (by omega)]
theorem skip_put_gt {α : Type} {v : Nat → α} {i k : Nat} {x : α} (h : i < k) : skip i (put v k x) = put (skip i v) (k - 1) x := by
  funext j
  unfold skip put
  by_cases q : j < i
  · simp only [if_pos q]
    rw [if_neg (by omega), if_neg (by omega)]
  · simp only [if_neg q]
    by_cases z : j + 1 = k
    · rw [if_pos z, if_pos (by omega)]
    · rw [if_neg z, if_neg (by omega)]
theorem det_lin : ∀ {m k : Nat} {v : Nat → Nat → Int} (x y : Nat → Int) (a b : Int), k < m → det m (put v k fun c => a * x c + b * y c) = a * det m (put v k x) + b * det m (put v k y)
  | 0, k, v, x, y, a, b, h => by omega
  | m + 1, k, v, x, y, a, b, h => by
    show sumN (m + 1) _ = a * sumN (m + 1) _ + b * sumN (m + 1) _
    rw [← sumN_lin]
    refine sumN_congr fun i hi => ?_
    rcases Nat.lt_trichotomy i k with q | q | q
    · rw [skip_put_gt q, skip_put_gt q, skip_put_gt q, put_ne (by omega), put_ne (by omega), put_ne (by omega), det_lin x y a b (by omega)]
      grind
    · subst q
      rw [skip_put_eq, skip_put_eq, skip_put_eq, put_same, put_same, put_same]
      grind
    · rw [skip_put_lt q, skip_put_lt q, skip_put_lt q, put_ne (by omega), put_ne (by omega), put_ne (by omega), det_lin x y a b (by omega)]
      grind
theorem det_zero {m k : Nat} {v : Nat → Nat → Int} (h : k < m) : det m (put v k fun _ => 0) = 0 := by
  have := det_lin (v := v) (fun _ => 0) (fun _ => 0) 0 0 h
  simpa using this
theorem det_sum {m k n : Nat} {v : Nat → Nat → Int} (a : Nat → Int) (w : Nat → Nat → Int) (h : k < m) : det m (put v k fun c => sumN n fun j => a j * w j c) = sumN n fun j => a j * det m (put v k (w j)) := by
  induction n with
  | zero => exact det_zero h
  | succ n ih =>
    have e : (fun c => sumN (n + 1) fun j => a j * w j c) = fun c => 1 * (sumN n fun j => a j * w j c) + a n * w n c := by
      funext c
      show sumN n _ + a n * w n c = _
      omega
    rw [e, det_lin _ _ _ _ h, ih]
    show 1 * sumN n _ + _ = sumN n _ + a n * det m (put v k (w n))
    omega
theorem det_adj : ∀ {m k : Nat} {v : Nat → Nat → Int}, k + 1 < m → (∀ c, c < m → v k c = v (k + 1) c) → det m v = 0
  | 0, k, v, h, _ => by omega
  | m + 1, k, v, h, e => by
    show sumN (m + 1) _ = 0
    rw [sumN_two (k := k) (l := k + 1) (by omega) (by omega) (by omega) fun i hi n1 n2 => ?_]
    · have e2 : det m (skip k v) = det m (skip (k + 1) v) := det_congr fun j hj c hc => by
        unfold skip
        by_cases q : j < k
        · rw [if_pos q, if_pos (by omega)]
        · rw [if_neg q]
          by_cases z : j = k
          · subst z
            rw [if_pos (by omega)]
            exact (e c (by omega)).symm
          · rw [if_neg (by omega)]
      rw [e2, sg_succ, e m (by omega)]
      grind
    · have z : det m (skip i v) = 0 := by
        rcases Nat.lt_or_ge i k with q | q
        · refine det_adj (k := k - 1) (by omega) fun c hc => ?_
          unfold skip
          rw [if_neg (by omega), if_neg (by omega)]
          have e1 : k - 1 + 1 = k := by omega
          rw [e1]
          exact e c (by omega)
        · refine det_adj (k := k) (by omega) fun c hc => ?_
          unfold skip
          rw [if_pos (by omega), if_pos (by omega)]
          exact e c (by omega)
      rw [z]; simp
theorem put_put {α : Type} {v : Nat → α} {k : Nat} {x y : α} : put (put v k x) k y = put v k y := by
  funext i
  unfold put
  by_cases h : i = k <;> simp [h]
theorem put_comm {α : Type} {v : Nat → α} {k l : Nat} {x y : α} (h : k ≠ l) : put (put v k x) l y = put (put v l y) k x := by
  funext i
  unfold put
  by_cases h1 : i = k
  · by_cases h2 : i = l
    · omega
    · simp [h1, h2, h]
  · simp [h1]
theorem put_self {α : Type} {v : Nat → α} {k : Nat} : put v k (v k) = v := by
  funext i
  unfold put
  by_cases h : i = k <;> simp [h]
/-- neighbors changed -/
theorem det_swap {m k : Nat} {v : Nat → Nat → Int} (h : k + 1 < m) : det m (put (put v k (v (k + 1))) (k + 1) (v k)) = - det m v := by
  have add : ∀ (l : Nat) (u : Nat → Nat → Int) (x y : Nat → Int), l < m → det m (put u l fun c => x c + y c) = det m (put u l x) + det m (put u l y) := fun l u x y hl => by
    have := det_lin (v := u) x y 1 1 hl
    simpa using this
  have z : ∀ x : Nat → Int, det m (put (put v k x) (k + 1) x) = 0 := fun x => det_adj h fun c _ => by
    rw [put_same, put_ne (by omega), put_same]
  have fx : ∀ x x' y : Nat → Int, det m (put (put v k fun c => x c + x' c) (k + 1) y) = det m (put (put v k x) (k + 1) y) + det m (put (put v k x') (k + 1) y) := fun x x' y => by
    have := add k (put v (k + 1) y) x x' (by omega)
    rw [put_comm (show k + 1 ≠ k by omega), put_comm (show k + 1 ≠ k by omega), put_comm (show k + 1 ≠ k by omega)] at this
    exact this
  have fy : ∀ x y y' : Nat → Int, det m (put (put v k x) (k + 1) fun c => y c + y' c) = det m (put (put v k x) (k + 1) y) + det m (put (put v k x) (k + 1) y') := fun x y y' => add (k + 1) (put v k x) y y' h
  have s := z (fun c => v k c + v (k + 1) c)
  rw [fx, fy, fy, z, z] at s
  have e : put (put v k (v k)) (k + 1) (v (k + 1)) = v := by rw [put_self, put_self]
  rw [e] at s
  omega
theorem det_alt : ∀ {d m a : Nat} {v : Nat → Nat → Int}, a + d + 1 < m → (∀ c, c < m → v a c = v (a + d + 1) c) → det m v = 0
  | 0, m, a, v, h, e => det_adj (k := a) (by omega) e
  | d + 1, m, a, v, h, e => by
    have s := det_swap (m := m) (k := a + d + 1) (v := v) (by omega)
    have z : det m (put (put v (a + d + 1) (v (a + d + 1 + 1))) (a + d + 1 + 1) (v (a + d + 1))) = 0 := by
      refine det_alt (d := d) (a := a) (by omega) fun c hc => ?_
      rw [put_ne (by omega), put_ne (by omega), put_ne (by omega), put_same]
      exact e c hc
    omega
theorem det_same {m a b : Nat} {v : Nat → Nat → Int} (ha : a < m) (hb : b < m) (hne : a ≠ b) (e : ∀ c, c < m → v a c = v b c) : det m v = 0 := by
  rcases Nat.lt_or_gt_of_ne hne with h | h
  · refine det_alt (d := b - a - 1) (a := a) (by omega) fun c hc => ?_
    rw [show a + (b - a - 1) + 1 = b by omega]; exact e c hc
  · refine det_alt (d := a - b - 1) (a := b) (by omega) fun c hc => ?_
    rw [show b + (a - b - 1) + 1 = a by omega]; exact (e c hc).symm
/-- the unit vectors -/
theorem det_one : ∀ {m : Nat} {v : Nat → Nat → Int}, (∀ i, i < m → ∀ c, c < m → v i c = if i = c then 1 else 0) → (det m v).natAbs = 1
  | 0, v, _ => rfl
  | m + 1, v, h => by
    have e : det (m + 1) v = sg m * det m (skip m v) := by
      show sumN (m + 1) _ = _
      rw [sumN_one (k := m) (by omega) fun i hi hn => by rw [h i hi m (by omega), if_neg hn]; simp]
      rw [h m (by omega) m (by omega), if_pos rfl]; simp
    rw [e, Int.natAbs_mul, det_one (v := skip m v) fun i hi c hc => by
      unfold skip
      rw [if_pos hi]
      exact h i (by omega) c (by omega)]
    unfold sg
    by_cases q : m % 2 = 0 <;> simp [q]
/-- how great a determinant can be -/
def detB : Nat → (Nat → Nat) → Nat
  | 0, _ => 1
  | m + 1, r => (m + 1) * r m * detB m r
theorem natAbs_sumN {n : Nat} {f : Nat → Int} {B : Nat} (h : ∀ i, i < n → (f i).natAbs ≤ B) : (sumN n f).natAbs ≤ n * B := by
  induction n with
  | zero => simp [sumN]
  | succ n ih =>
    have h1 := ih fun i hi => h i (by omega)
    have h2 := h n (by omega)
    have h3 := Int.natAbs_add_le (sumN n f) (f n)
    show (sumN n f + f n).natAbs ≤ (n + 1) * B
    rw [Nat.add_mul]
    omega
theorem det_bound : ∀ {m : Nat} {v : Nat → Nat → Int} {r : Nat → Nat}, (∀ i, i < m → ∀ c, c < m → (v i c).natAbs ≤ r c) → (det m v).natAbs ≤ detB m r
  | 0, v, r, _ => Nat.le_refl _
  | m + 1, v, r, h => by
    have : (det (m + 1) v).natAbs ≤ (m + 1) * (r m * detB m r) := natAbs_sumN fun i hi => by
      have h1 := h i hi m (by omega)
      have h2 : (det m (skip i v)).natAbs ≤ detB m r := det_bound fun j hj c hc => by
        unfold skip
        by_cases q : j < i
        · rw [if_pos q]; exact h j (by omega) c (by omega)
        · rw [if_neg q]; exact h (j + 1) (by omega) c (by omega)
      rw [Int.natAbs_mul, Int.natAbs_mul]
      have h3 : (sg i).natAbs = 1 := by unfold sg; by_cases q : i % 2 = 0 <;> simp [q]
      rw [h3, Nat.one_mul]
      exact Nat.mul_le_mul h1 h2
    show _ ≤ (m + 1) * r m * detB m r
    rw [Nat.mul_assoc]; exact this
end Cp
end
/-! ## MTab -/
section
set_option autoImplicit false
set_option linter.all false
set_option maxHeartbeats 4000000
/-! tableaus over whole numbers: one divisor, exact pivots -/
namespace Cp
structure Tab where
  R : Nat → Nat → Int
  b : Nat → Nat
  low : Int
structure TInv (m n : Nat) (A : Nat → Nat → Int) (t : Tab) : Prop where
  low : 0 < t.low
  bN : ∀ i, i < m → t.b i < n + m
  unit : ∀ i, i < m → ∀ k, k < m → t.R i (t.b k) = if i = k then t.low else 0
  span : ∀ j, j ≤ n + m → ∀ i, i < m → t.low * A i j = sumN m fun k => t.R k j * A i (t.b k)
  comb : ∀ i, i < m → ∀ j, j ≤ n + m → t.R i j = sumN m fun k => t.R i (n + k) * A k j
  dt : (det m fun k i => A i (t.b k)).natAbs = t.low.natAbs
def sgn (x : Int) : Int := if x < 0 then -1 else 1
theorem sgn_mul (x : Int) : sgn x * x = x.natAbs := by
  unfold sgn; split <;> omega
theorem sgn_pm (x : Int) : sgn x = 1 ∨ sgn x = -1 := by
  unfold sgn; split <;> simp
def piv (t : Tab) (r c : Nat) : Tab where
  R := fun i j => if i = r then sgn (t.R r c) * t.R r j else (t.R i j * (sgn (t.R r c) * t.R r c) - t.R i c * (sgn (t.R r c) * t.R r j)) / t.low
  b := put t.b r c
  low := sgn (t.R r c) * t.R r c
section
variable {m n : Nat} {A : Nat → Nat → Int} {t : Tab}
/-- the basis' columns as vectors -/
abbrev bas (A : Nat → Nat → Int) (b : Nat → Nat) : Nat → Nat → Int := fun k i => A i (b k)
theorem det_pm (I : TInv m n A t) : (det m (bas A t.b)).natAbs = t.low.natAbs := I.dt
theorem entry (I : TInv m n A t) {i j : Nat} (hi : i < m) (hj : j ≤ n + m) : t.low * det m (put (bas A t.b) i fun x => A x j) = t.R i j * det m (bas A t.b) := by
  have e : det m (put (bas A t.b) i fun x => t.low * A x j) = t.low * det m (put (bas A t.b) i fun x => A x j) := by
    have := det_lin (v := bas A t.b) (fun x => A x j) (fun _ => 0) t.low 0 hi
    simpa using this
  rw [← e]
  have e2 : det m (put (bas A t.b) i fun x => t.low * A x j) = det m (put (bas A t.b) i fun x => sumN m fun k => t.R k j * A x (t.b k)) := by
    refine det_congr fun a ha c hc => ?_
    by_cases q : a = i
    · subst q
      rw [put_same, put_same]
      exact I.span j hj c hc
    · rw [put_ne q, put_ne q]
  rw [e2, det_sum (fun k => t.R k j) (bas A t.b) hi, sumN_one (k := i) hi fun k hk hne => ?_]
  · rw [put_self]
  · rw [det_same (a := i) (b := k) hi hk (Ne.symm hne) fun c hc => by rw [put_same, put_ne hne]]
    simp
theorem entry_abs (I : TInv m n A t) {i j : Nat} (hi : i < m) (hj : j ≤ n + m) : (t.R i j).natAbs = (det m (put (bas A t.b) i fun x => A x j)).natAbs := by
  have h := congrArg Int.natAbs (entry I hi hj)
  rw [Int.natAbs_mul, Int.natAbs_mul, det_pm I, Nat.mul_comm] at h
  have hl := I.low
  exact (Nat.eq_of_mul_eq_mul_right (by omega) h).symm
theorem pivdet (I : TInv m n A t) {r c : Nat} (hr : r < m) (hc : c ≤ n + m) : (det m (put (bas A t.b) r fun x => A x c)).natAbs = (t.R r c).natAbs := (entry_abs I hr hc).symm
/-- the sum that a pivot rests on -/
theorem pivsum (I : TInv m n A t) {r c : Nat} (hr : r < m) (hc : c ≤ n + m) {j : Nat} (hj : j ≤ n + m) {i : Nat} (hi : i < m) :
    t.R r c * (t.low * A i j) = (sumN m fun k => (t.R k j * t.R r c - t.R k c * t.R r j) * A i (t.b k)) + t.R r j * (t.low * A i c) := by
  rw [I.span j hj i hi, I.span c hc i hi, ← sumN_mul, ← sumN_mul, ← sumN_add]
  exact sumN_congr fun k _ => by grind
theorem exact_ (I : TInv m n A t) {r c : Nat} (hr : r < m) (hc : c ≤ n + m) (hp : t.R r c ≠ 0) {i j : Nat} (hi : i < m) (hne : i ≠ r) (hj : j ≤ n + m) : t.low ∣ t.R i j * t.R r c - t.R i c * t.R r j := by
  have hl := I.low
  generalize hv : put (bas A t.b) r (fun x => A x c) = v'
  have hd : (det m v').natAbs = (t.R r c).natAbs := by rw [← hv]; exact pivdet I hr hc
  have e1 : det m (put v' i fun x => t.R r c * t.low * A x j) = t.R r c * t.low * det m (put v' i fun x => A x j) := by
    have := det_lin (v := v') (fun x => A x j) (fun _ => 0) (t.R r c * t.low) 0 hi
    simpa using this
  have e2 : det m (put v' i fun x => t.R r c * t.low * A x j) = (t.R i j * t.R r c - t.R i c * t.R r j) * det m v' := by
    have s1 : det m (put v' i fun x => t.R r c * t.low * A x j) = det m (put v' i fun x => 1 * (sumN m fun k => (t.R k j * t.R r c - t.R k c * t.R r j) * A x (t.b k)) + (t.R r j * t.low) * A x c) := by
      refine det_congr fun a ha x hx => ?_
      by_cases q : a = i
      · subst q
        rw [put_same, put_same, Int.mul_assoc, pivsum I hr hc hj hx]
        grind
      · rw [put_ne q, put_ne q]
    rw [s1, det_lin _ _ _ _ hi, det_sum (fun k => t.R k j * t.R r c - t.R k c * t.R r j) (bas A t.b) hi]
    have z1 : det m (put v' i fun x => A x c) = 0 := det_same (a := i) (b := r) hi hr hne fun x hx => by rw [put_same, put_ne (Ne.symm hne), ← hv, put_same]
    rw [z1, sumN_one (k := i) hi fun k hk hki => ?_]
    · have e : put v' i (bas A t.b i) = v' := by
        have : v' i = bas A t.b i := by rw [← hv, put_ne hne]
        rw [← this, put_self]
      rw [e]; grind
    · by_cases hkr : k = r
      · subst hkr
        have : t.R k j * t.R k c - t.R k c * t.R k j = 0 := by grind
        rw [this]; simp
      · have : det m (put v' i (bas A t.b k)) = 0 := det_same (a := i) (b := k) hi hk (Ne.symm hki) fun x hx => by rw [put_same, put_ne hki, ← hv, put_ne hkr]
        rw [this]; simp
  rw [e1] at e2
  have h := congrArg Int.natAbs e2
  rw [Int.natAbs_mul, Int.natAbs_mul, Int.natAbs_mul, hd] at h
  have hp' : 0 < (t.R r c).natAbs := by omega
  have h2 : t.low.natAbs * (det m (put v' i fun x => A x j)).natAbs = (t.R i j * t.R r c - t.R i c * t.R r j).natAbs := by
    refine Nat.eq_of_mul_eq_mul_right hp' ?_
    rw [← h]; grind
  exact Int.natAbs_dvd_natAbs.mp ⟨_, h2.symm⟩
/-- the new entries, times the old divisor -/
theorem piv_R (I : TInv m n A t) {r c : Nat} (hr : r < m) (hc : c ≤ n + m) (hp : t.R r c ≠ 0) {i j : Nat} (hi : i < m) (hne : i ≠ r) (hj : j ≤ n + m) :
    t.low * (piv t r c).R i j = sgn (t.R r c) * (t.R i j * t.R r c - t.R i c * t.R r j) := by
  have e : (piv t r c).R i j = (t.R i j * (sgn (t.R r c) * t.R r c) - t.R i c * (sgn (t.R r c) * t.R r j)) / t.low := if_neg hne
  have e2 : t.R i j * (sgn (t.R r c) * t.R r c) - t.R i c * (sgn (t.R r c) * t.R r j) = sgn (t.R r c) * (t.R i j * t.R r c - t.R i c * t.R r j) := by grind
  rw [e, e2]
  exact Int.mul_ediv_cancel' (Int.dvd_mul_of_dvd_right (exact_ I hr hc hp hi hne hj))
theorem piv_r {r c j : Nat} : (piv t r c).R r j = sgn (t.R r c) * t.R r j := if_pos rfl
theorem piv_inv (I : TInv m n A t) {r c : Nat} (hr : r < m) (hc : c < n + m) (hp : t.R r c ≠ 0) : TInv m n A (piv t r c) := by
  have hl := I.low
  have hlow : (piv t r c).low = sgn (t.R r c) * t.R r c := rfl
  have hs := sgn_pm (t.R r c)
  refine ⟨by rw [hlow, sgn_mul]; omega, fun i hi => ?_, fun i hi k hk => ?_, fun j hj i hi => ?_, fun i hi j hj => ?_, ?_⟩
  · show put t.b r c i < n + m
    unfold put
    split
    · exact hc
    · exact I.bN i hi
  · show (piv t r c).R i (put t.b r c k) = _
    by_cases hk' : k = r
    · subst hk'
      rw [put_same]
      by_cases hi' : i = k
      · subst hi'
        rw [piv_r, if_pos rfl, hlow]
      · rw [if_neg hi']
        have := piv_R I hr (by omega : c ≤ n + m) hp hi hi' (by omega : c ≤ n + m)
        have z : t.R i c * t.R k c - t.R i c * t.R k c = 0 := by omega
        rw [z, Int.mul_zero] at this
        exact (Int.mul_eq_zero.mp this).resolve_left (by omega)
    · rw [put_ne hk']
      have hb := I.bN k hk
      by_cases hi' : i = r
      · subst hi'
        rw [piv_r, I.unit i hi k hk, if_neg (Ne.symm hk'), if_neg (Ne.symm hk')]; simp
      · have := piv_R I hr (by omega : c ≤ n + m) hp hi hi' (by omega : t.b k ≤ n + m)
        rw [I.unit i hi k hk, I.unit r hr k hk, if_neg (Ne.symm hk'), Int.mul_zero, Int.sub_zero] at this
        by_cases hik : i = k
        · rw [if_pos hik] at this ⊢
          rw [hlow]
          have h2 : t.low * (piv t r c).R i (t.b k) = t.low * (sgn (t.R r c) * t.R r c) := by rw [this]; grind
          exact Int.eq_of_mul_eq_mul_left (by omega) h2
        · rw [if_neg hik] at this ⊢
          simp only [Int.zero_mul, Int.mul_zero] at this
          exact (Int.mul_eq_zero.mp this).resolve_left (by omega)
  · refine Int.eq_of_mul_eq_mul_left (show t.low ≠ 0 by omega) ?_
    have ps := pivsum I hr (by omega : c ≤ n + m) hj hi
    have e : sumN m (fun k => (piv t r c).R k j * A i ((piv t r c).b k)) * t.low = sgn (t.R r c) * (t.R r c * (t.low * A i j)) := by
      have e1 : (sumN m fun k => (piv t r c).R k j * A i ((piv t r c).b k)) * t.low = sumN m (fun k => sgn (t.R r c) * ((t.R k j * t.R r c - t.R k c * t.R r j) * A i (t.b k)) + (if k = r then sgn (t.R r c) * t.R r j * t.low * A i c else 0)) := by
        rw [← sumN_mulr]
        refine sumN_congr fun k hk => ?_
        by_cases hkr : k = r
        · subst hkr
          have z : t.R k j * t.R k c - t.R k c * t.R k j = 0 := by grind
          rw [piv_r, z, if_pos rfl]
          show _ * A i (put t.b k c k) * _ = _
          rw [put_same]; grind
        · have := piv_R I hr (by omega : c ≤ n + m) hp hk hkr hj
          rw [if_neg hkr]
          show _ * A i (put t.b r c k) * _ = _
          rw [put_ne hkr]; grind
      rw [e1, sumN_add, sumN_mul, sumN_one (k := r) hr fun k hk hkr => if_neg hkr, if_pos rfl, ps]
      grind
    show t.low * ((piv t r c).low * A i j) = _
    rw [hlow]
    grind
  · by_cases hi' : i = r
    · subst hi'
      rw [piv_r, I.comb i hi j hj, ← sumN_mul]
      exact sumN_congr fun k hk => by rw [piv_r]; grind
    · refine Int.eq_of_mul_eq_mul_left (show t.low ≠ 0 by omega) ?_
      rw [piv_R I hr (by omega : c ≤ n + m) hp hi hi' hj, ← sumN_mul]
      have e : ∀ k, k < m → t.low * ((piv t r c).R i (n + k) * A k j) = sgn (t.R r c) * t.R r c * (t.R i (n + k) * A k j) + (- (sgn (t.R r c) * t.R i c)) * (t.R r (n + k) * A k j) := fun k hk => by
        have := piv_R I hr (by omega : c ≤ n + m) hp hi hi' (by omega : n + k ≤ n + m)
        grind
      rw [sumN_congr e, sumN_lin, ← I.comb i hi j hj, ← I.comb r hr j hj]
      grind
  · have e : (det m fun k i => A i ((piv t r c).b k)) = det m (put (bas A t.b) r fun x => A x c) := by
      refine det_congr fun k hk i hi => ?_
      show A i (put t.b r c k) = _
      by_cases hkr : k = r
      · subst hkr; rw [put_same, put_same]
      · rw [put_ne hkr, put_ne hkr]
    rw [e, pivdet I hr (by omega), hlow, sgn_mul]; simp
/-- the costs that are left -/
def topOf (m : Nat) (cost : Nat → Int) (t : Tab) (j : Nat) : Int := t.low * cost j - sumN m fun i => cost (t.b i) * t.R i j
theorem top_key (I : TInv m n A t) {r c : Nat} (hr : r < m) (hc : c < n + m) (hp : t.R r c ≠ 0) (cost : Nat → Int) {j : Nat} (hj : j ≤ n + m) :
    topOf m cost t j * (sgn (t.R r c) * t.R r c) - topOf m cost t c * (sgn (t.R r c) * t.R r j) = t.low * topOf m cost (piv t r c) j := by
  have hl := I.low
  have e : t.low * (sumN m fun i => cost ((piv t r c).b i) * (piv t r c).R i j) = sumN m (fun i => sgn (t.R r c) * (cost (t.b i) * (t.R i j * t.R r c - t.R i c * t.R r j)) + (if i = r then cost c * (t.low * (sgn (t.R r c) * t.R r j)) else 0)) := by
    rw [← sumN_mul]
    refine sumN_congr fun k hk => ?_
    by_cases hkr : k = r
    · subst hkr
      have z : t.R k j * t.R k c - t.R k c * t.R k j = 0 := by grind
      rw [piv_r, z, if_pos rfl]
      show t.low * (cost (put t.b k c k) * _) = _
      rw [put_same]; grind
    · have := piv_R I hr (by omega : c ≤ n + m) hp hk hkr hj
      rw [if_neg hkr]
      show t.low * (cost (put t.b r c k) * _) = _
      rw [put_ne hkr]; grind
  have e2 : (sumN m fun i => sgn (t.R r c) * (cost (t.b i) * (t.R i j * t.R r c - t.R i c * t.R r j))) = sgn (t.R r c) * t.R r c * (sumN m fun i => cost (t.b i) * t.R i j) + (- (sgn (t.R r c) * t.R r j)) * (sumN m fun i => cost (t.b i) * t.R i c) := by
    rw [← sumN_lin]
    exact sumN_congr fun i _ => by grind
  have hlow : (piv t r c).low = sgn (t.R r c) * t.R r c := rfl
  unfold topOf
  rw [Int.mul_sub t.low, e, sumN_add, sumN_one (k := r) hr (fun k hk hkr => if_neg hkr), if_pos rfl, e2, hlow]
  grind
theorem piv_top (I : TInv m n A t) {r c : Nat} (hr : r < m) (hc : c < n + m) (hp : t.R r c ≠ 0) (cost : Nat → Int) {j : Nat} (hj : j ≤ n + m) :
    (topOf m cost t j * (sgn (t.R r c) * t.R r c) - topOf m cost t c * (sgn (t.R r c) * t.R r j)) / t.low = topOf m cost (piv t r c) j := by
  have hl := I.low
  rw [top_key I hr hc hp cost hj, Int.mul_comm]
  exact Int.mul_ediv_cancel _ (by omega)
end
end Cp
end
/-! ## MBland -/
section
set_option autoImplicit false
set_option linter.all false
set_option maxHeartbeats 4000000
/-! the smallest-index rule comes to an end -/
namespace Cp
def Enter (m : Nat) (cost : Nat → Int) (allowed : Nat) (t : Tab) (e : Nat) : Prop := e < allowed ∧ topOf m cost t e < 0 ∧ ∀ j, j < e → 0 ≤ topOf m cost t j
structure Leave (m N : Nat) (t : Tab) (e r : Nat) : Prop where
  lt : r < m
  pos : 0 < t.R r e
  best : ∀ i, i < m → 0 < t.R i e → t.R r N * t.R i e < t.R i N * t.R r e ∨ (t.R r N * t.R i e = t.R i N * t.R r e ∧ t.b r ≤ t.b i)
def Feas (m N : Nat) (t : Tab) : Prop := ∀ i, i < m → 0 ≤ t.R i N
section
variable {m n : Nat} {A : Nat → Nat → Int} {t : Tab} {cost : Nat → Int}
theorem sgn_pos {x : Int} (h : 0 < x) : sgn x = 1 := by unfold sgn; rw [if_neg (by omega)]
theorem top_basic (I : TInv m n A t) {i : Nat} (hi : i < m) : topOf m cost t (t.b i) = 0 := by
  unfold topOf
  rw [sumN_one (k := i) hi fun k hk hne => by rw [I.unit k hk i hi, if_neg hne]; simp]
  rw [I.unit i hi i hi, if_pos rfl]
  grind
theorem b_inj (I : TInv m n A t) {i k : Nat} (hi : i < m) (hk : k < m) (e : t.b i = t.b k) : i = k := by
  have h1 := I.unit i hi k hk
  have h2 := I.unit i hi i hi
  rw [e, h1] at h2
  by_cases q : i = k
  · exact q
  · rw [if_neg q, if_pos rfl] at h2
    have := I.low; omega
theorem feas_piv (I : TInv m n A t) (f : Feas m (n + m) t) {e r : Nat} (he : e < n + m) (l : Leave m (n + m) t e r) : Feas m (n + m) (piv t r e) := fun i hi => by
  have hl := I.low
  have hp := l.pos
  by_cases q : i = r
  · subst q
    rw [piv_r, sgn_pos hp, Int.one_mul]
    exact f i hi
  · have h := piv_R I l.lt (by omega : e ≤ n + m) (by omega) hi q (Nat.le_refl _)
    rw [sgn_pos hp, Int.one_mul] at h
    have hf := f i hi
    have hr := f r l.lt
    have h2 : 0 ≤ t.R i (n + m) * t.R r e - t.R i e * t.R r (n + m) := by
      rcases Int.lt_or_le 0 (t.R i e) with z | z
      · rcases l.best i hi z with y | ⟨y, _⟩
        · grind
        · grind
      · have a1 : 0 ≤ t.R i (n + m) * t.R r e := Int.mul_nonneg hf (by omega)
        have a2 : t.R i e * t.R r (n + m) ≤ 0 := Int.mul_nonpos_of_nonpos_of_nonneg z hr
        omega
    rw [← h] at h2
    exact Int.nonneg_of_mul_nonneg_right h2 hl |> fun z => z
end
/-- more turns than values: two are alike -/
theorem pigeon : ∀ (M : Nat) (f : Nat → Nat), (∀ k, k ≤ M → f k < M) → ∃ i j, i < j ∧ j ≤ M ∧ f i = f j
  | 0, f, h => absurd (h 0 (Nat.le_refl _)) (by omega)
  | M + 1, f, h => by
    by_cases q : ∃ i, i ≤ M ∧ f i = f (M + 1)
    · obtain ⟨i, hi, e⟩ := q
      exact ⟨i, M + 1, by omega, Nat.le_refl _, e⟩
    · have hne : ∀ i, i ≤ M → f i ≠ f (M + 1) := fun i hi e => q ⟨i, hi, e⟩
      obtain ⟨i, j, h1, h2, h3⟩ := pigeon M (fun k => if f k = M then f (M + 1) else f k) fun k hk => by
        have a := h k (by omega)
        have b := h (M + 1) (Nat.le_refl _)
        have c := hne k hk
        show (if f k = M then f (M + 1) else f k) < M
        by_cases z : f k = M
        · rw [if_pos z]; omega
        · rw [if_neg z]; omega
      refine ⟨i, j, h1, by omega, ?_⟩
      have c1 := hne i (by omega)
      have c2 := hne j h2
      by_cases z1 : f i = M
      · by_cases z2 : f j = M
        · omega
        · simp only [if_pos z1, if_neg z2] at h3; omega
      · by_cases z2 : f j = M
        · simp only [if_neg z1, if_pos z2] at h3; omega
        · simpa only [if_neg z1, if_neg z2] using h3
def code (q : Nat) : Nat → (Nat → Nat) → Nat
  | 0, _ => 0
  | m + 1, b => code q m b * q + b m
theorem code_lt {q : Nat} : ∀ {m : Nat} {b : Nat → Nat}, (∀ i, i < m → b i < q) → code q m b < q ^ m
  | 0, b, _ => by simp [code]
  | m + 1, b, h => by
    have h1 := code_lt (m := m) (b := b) fun i hi => h i (by omega)
    have h2 := h m (by omega)
    show code q m b * q + b m < q ^ m * q
    calc code q m b * q + b m < code q m b * q + q := by omega
      _ = (code q m b + 1) * q := by rw [Nat.add_mul]; omega
      _ ≤ q ^ m * q := Nat.mul_le_mul_right _ h1
theorem code_inj {q : Nat} : ∀ {m : Nat} {b b' : Nat → Nat}, (∀ i, i < m → b i < q) → (∀ i, i < m → b' i < q) → code q m b = code q m b' → ∀ i, i < m → b i = b' i
  | 0, b, b', _, _, _, i, hi => by omega
  | m + 1, b, b', h, h', e, i, hi => by
    have e' : code q m b * q + b m = code q m b' * q + b' m := e
    have h1 := h m (by omega)
    have h2 := h' m (by omega)
    have e1 : b m = b' m := by
      have := congrArg (· % q) e'
      simp only [Nat.mul_add_mod_self_right, Nat.mod_eq_of_lt h1, Nat.mod_eq_of_lt h2] at this
      exact this
    have e2 : code q m b = code q m b' := by
      rw [e1] at e'
      exact Nat.eq_of_mul_eq_mul_right (by omega) (Nat.add_right_cancel e')
    by_cases z : i = m
    · rw [z]; exact e1
    · exact code_inj (fun i hi => h i (by omega)) (fun i hi => h' i (by omega)) e2 i (by omega)
theorem sumN_pos {n : Nat} {f : Nat → Int} (h : 0 < sumN n f) : ∃ i, i < n ∧ 0 < f i := by
  induction n with
  | zero => simp [sumN] at h
  | succ n ih =>
    have h' : 0 < sumN n f + f n := h
    by_cases q : 0 < f n
    · exact ⟨n, by omega, q⟩
    · obtain ⟨i, hi, z⟩ := ih (by omega)
      exact ⟨i, by omega, z⟩
theorem sumN_nonneg {n : Nat} {f : Nat → Int} (h : ∀ i, i < n → 0 ≤ f i) : 0 ≤ sumN n f := by
  induction n with
  | zero => simp [sumN]
  | succ n ih =>
    have h1 := ih fun i hi => h i (by omega)
    have h2 := h n (by omega)
    show 0 ≤ sumN n f + f n
    omega
section
variable {m n : Nat} {A : Nat → Nat → Int} {cost : Nat → Int}
/-- the same base, the same tableau -/
theorem same_tab {t u : Tab} (I : TInv m n A t) (J : TInv m n A u) (e : ∀ i, i < m → t.b i = u.b i) : t.low = u.low ∧ ∀ i, i < m → ∀ j, j ≤ n + m → t.R i j = u.R i j := by
  have ed : det m (bas A t.b) = det m (bas A u.b) := det_congr fun k hk i hi => by
    show A i (t.b k) = A i (u.b k)
    rw [e k hk]
  have hl : t.low = u.low := by
    have h1 := det_pm I
    have h2 := det_pm J
    have := I.low
    have := J.low
    rw [ed] at h1
    omega
  refine ⟨hl, fun i hi j hj => ?_⟩
  have h1 := entry I hi hj
  have h2 := entry J hi hj
  have e2 : det m (put (bas A t.b) i fun x => A x j) = det m (put (bas A u.b) i fun x => A x j) := det_congr fun k hk x hx => by
    by_cases q : k = i
    · subst q; rw [put_same, put_same]
    · rw [put_ne q, put_ne q]
      show A x (t.b k) = A x (u.b k)
      rw [e k hk]
  rw [e2, hl, h2, ed] at h1
  have hd : det m (bas A u.b) ≠ 0 := by
    have := det_pm J
    have := J.low
    omega
  exact (Int.eq_of_mul_eq_mul_right hd h1).symm
/-- along a column's change the costs fall by its left cost -/
def dir (m : Nat) (t : Tab) (s q : Nat) : Int := (if q = s then t.low else 0) - sumN m fun i => if t.b i = q then t.R i s else 0
theorem sum_dir {t : Tab} (hb : ∀ i, i < m → t.b i < n + m) {s : Nat} (hs : s < n + m) (f : Nat → Int) : (sumN (n + m) fun q => f q * dir m t s q) = f s * t.low - sumN m fun i => f (t.b i) * t.R i s := by
  have e : ∀ q, q < n + m → f q * dir m t s q = (if q = s then f s * t.low else 0) - sumN m fun i => (if t.b i = q then f (t.b i) * t.R i s else 0) := fun q _ => by
    unfold dir
    rw [Int.mul_sub, ← sumN_mul]
    congr 1
    · by_cases z : q = s
      · subst z; simp
      · simp [z]
    · refine sumN_congr fun i _ => ?_
      by_cases z : t.b i = q
      · subst z; simp
      · simp [z]
  rw [sumN_congr e, sumN_sub, sumN_one (k := s) hs fun q _ z => if_neg z, if_pos rfl, sumN_swap]
  congr 1
  refine sumN_congr fun i hi => ?_
  rw [sumN_one (k := t.b i) (hb i hi) fun q _ z => if_neg (Ne.symm z), if_pos rfl]
theorem A_dir {t : Tab} (I : TInv m n A t) {s : Nat} (hs : s < n + m) {x : Nat} (hx : x < m) : (sumN (n + m) fun q => A x q * dir m t s q) = 0 := by
  rw [sum_dir I.bN hs, Int.mul_comm, I.span s (by omega) x hx]
  have : ∀ k, k < m → t.R k s * A x (t.b k) = A x (t.b k) * t.R k s := fun k _ => Int.mul_comm _ _
  rw [sumN_congr this]; omega
/-- the left costs of any tableau along a change that keeps all rows -/
theorem top_dir {t u : Tab} (I : TInv m n A t) (J : TInv m n A u) {s : Nat} (hs : s < n + m) : (sumN (n + m) fun q => topOf m cost u q * dir m t s q) = u.low * sumN (n + m) fun q => cost q * dir m t s q := by
  have e : ∀ q, q < n + m → topOf m cost u q * dir m t s q = u.low * (cost q * dir m t s q) - sumN m fun i => cost (u.b i) * (u.R i q * dir m t s q) := fun q _ => by
    unfold topOf
    rw [Int.sub_mul, ← sumN_mulr]
    congr 1
    · grind
    · exact sumN_congr fun i _ => by grind
  rw [sumN_congr e, sumN_sub, sumN_mul, sumN_swap]
  have z : (sumN m fun i => sumN (n + m) fun q => cost (u.b i) * (u.R i q * dir m t s q)) = 0 := sumN_zero fun i hi => by
    rw [sumN_mul]
    have : (sumN (n + m) fun q => u.R i q * dir m t s q) = 0 := by
      have e1 : ∀ q, q < n + m → u.R i q * dir m t s q = sumN m fun k => u.R i (n + k) * (A k q * dir m t s q) := fun q hq => by
        rw [J.comb i hi q (by omega), ← sumN_mulr]
        exact sumN_congr fun k _ => by grind
      rw [sumN_congr e1, sumN_swap]
      refine sumN_zero fun k hk => ?_
      rw [sumN_mul, A_dir I hs hk]; simp
    rw [this]; simp
  rw [z]; omega
theorem cost_dir {t : Tab} (I : TInv m n A t) {s : Nat} (hs : s < n + m) : (sumN (n + m) fun q => cost q * dir m t s q) = topOf m cost t s := by
  have h1 := top_dir (cost := cost) I I hs
  rw [sum_dir I.bN hs (fun q => topOf m cost t q)] at h1
  rw [sumN_zero (f := fun i => topOf m cost t (t.b i) * t.R i s) fun i hi => by rw [top_basic I hi]; simp] at h1
  have hl := I.low
  rw [Int.sub_zero, Int.mul_comm] at h1
  exact (Int.eq_of_mul_eq_mul_left (by omega) h1).symm

/-- THE END: no run of pivots by the smallest-index rule goes on for ever -/
theorem bland {allowed : Nat} (ha : allowed ≤ n) (hc0 : cost (n + m) = 0) (s : Nat → Tab) (I : ∀ k, TInv m n A (s k)) (f : ∀ k, Feas m (n + m) (s k)) (e r : Nat → Nat)
    (he : ∀ k, Enter m cost allowed (s k) (e k)) (hr : ∀ k, Leave m (n + m) (s k) (e k) (r k)) (hs : ∀ k, s (k + 1) = piv (s k) (r k) (e k)) : False := by
  obtain ⟨i, j, hij, _, ec⟩ := pigeon ((n + m) ^ m) (fun k => code (n + m) m (s k).b) fun k _ => code_lt fun i hi => (I k).bN i hi
  have eb : ∀ x, x < m → (s i).b x = (s j).b x := code_inj (fun x hx => (I i).bN x hx) (fun x hx => (I j).bN x hx) ec
  obtain ⟨el, eR⟩ := same_tab (I i) (I j) eb
  have en : ∀ k, e k < n + m := fun k => by have := (he k).1; omega
  -- basic at turn k
  let B : Nat → Nat → Prop := fun k q => ∃ x, x < m ∧ (s k).b x = q
  have bs : ∀ k x, (s (k + 1)).b x = if x = r k then e k else (s k).b x := fun k x => by rw [hs k]; rfl
  have nb : ∀ k, ¬ B k (e k) := fun k ⟨x, hx, q⟩ => by
    have h1 := (he k).2.1
    rw [← q, top_basic (I k) hx] at h1
    omega
  -- a word that goes forward goes round
  have round : ∀ (W : Nat → Prop), (∀ k, i ≤ k → k < j → W k → W (k + 1)) → (W j → W i) → ∀ k1 k2, i ≤ k1 → k1 ≤ j → i ≤ k2 → k2 ≤ j → W k1 → W k2 := fun W st cl k1 k2 a1 a2 a3 a4 w => by
    have fw : ∀ d k, i ≤ k → k + d ≤ j → W k → W (k + d) := fun d => by
      induction d with
      | zero => intro k _ _ w; exact w
      | succ d ih => intro k h1 h2 w; exact st (k + d) (by omega) (by omega) (ih k h1 (by omega) w)
    have wj : W j := by
      have := fw (j - k1) k1 a1 (by omega) w
      rwa [show k1 + (j - k1) = j by omega] at this
    have := fw (k2 - i) i (Nat.le_refl _) (by omega) (cl wj)
    rwa [show i + (k2 - i) = k2 by omega] at this
  -- the turns are idle
  have idle : ∀ k, i ≤ k → k < j → (s k).R (r k) (n + m) = 0 := by
    have low : ∀ k, 0 < (s k).low := fun k => (I k).low
    have stp : ∀ k, topOf m cost (s (k + 1)) (n + m) * (s k).low = topOf m cost (s k) (n + m) * (s (k + 1)).low - topOf m cost (s k) (e k) * (s k).R (r k) (n + m) := fun k => by
      have hp := (hr k).pos
      have h := piv_top (I k) (hr k).lt (en k) (by omega) cost (j := n + m) (Nat.le_refl _)
      have l1 : (s (k + 1)).low = (s k).R (r k) (e k) := by rw [hs k]; show sgn _ * _ = _; rw [sgn_pos hp, Int.one_mul]
      rw [← hs k] at h
      rw [← h, l1, sgn_pos hp, Int.one_mul, Int.one_mul]
      -- exactness
      have hx := piv_top (I k) (hr k).lt (en k) (by omega) cost (j := n + m) (Nat.le_refl _)
      have key : (s k).low ∣ topOf m cost (s k) (n + m) * (s k).R (r k) (e k) - topOf m cost (s k) (e k) * (s k).R (r k) (n + m) := by
        have e1 := top_key (I k) (hr k).lt (en k) (by omega) cost (Nat.le_refl (n + m))
        rw [sgn_pos hp, Int.one_mul, Int.one_mul] at e1
        exact ⟨_, e1⟩
      exact Int.ediv_mul_cancel key
    have mono : ∀ d, topOf m cost (s i) (n + m) * (s (i + d)).low ≤ topOf m cost (s (i + d)) (n + m) * (s i).low := fun d => by
      induction d with
      | zero => exact Int.le_refl _
      | succ d ih =>
        have h1 := stp (i + d)
        have h2 := (he (i + d)).2.1
        have h3 := f (i + d) (r (i + d)) (hr (i + d)).lt
        have l0 := low i
        have l1 := low (i + d)
        have l2 := low (i + d + 1)
        show topOf m cost (s i) (n + m) * (s (i + d + 1)).low ≤ topOf m cost (s (i + d + 1)) (n + m) * (s i).low
        have p1 : topOf m cost (s (i + d)) (e (i + d)) * (s (i + d)).R (r (i + d)) (n + m) ≤ 0 := Int.mul_nonpos_of_nonpos_of_nonneg (by omega) h3
        have p2 : topOf m cost (s (i + d)) (n + m) * (s (i + d + 1)).low ≤ topOf m cost (s (i + d + 1)) (n + m) * (s (i + d)).low := by omega
        have p3 := Int.mul_le_mul_of_nonneg_right ih (Int.le_of_lt l2)
        have p4 := Int.mul_le_mul_of_nonneg_right p2 (Int.le_of_lt l0)
        refine Int.le_of_mul_le_mul_right (a := (s (i + d)).low) ?_ l1
        calc topOf m cost (s i) (n + m) * (s (i + d + 1)).low * (s (i + d)).low = topOf m cost (s i) (n + m) * (s (i + d)).low * (s (i + d + 1)).low := by grind
          _ ≤ topOf m cost (s (i + d)) (n + m) * (s i).low * (s (i + d + 1)).low := p3
          _ = topOf m cost (s (i + d)) (n + m) * (s (i + d + 1)).low * (s i).low := by grind
          _ ≤ topOf m cost (s (i + d + 1)) (n + m) * (s (i + d)).low * (s i).low := p4
          _ = topOf m cost (s (i + d + 1)) (n + m) * (s i).low * (s (i + d)).low := by grind
    have mono2 : ∀ d k, i ≤ k → topOf m cost (s k) (n + m) * (s (k + d)).low ≤ topOf m cost (s (k + d)) (n + m) * (s k).low := fun d => by
      induction d with
      | zero => intro k _; exact Int.le_refl _
      | succ d ih =>
        intro k hk
        have ih := ih k hk
        have h1 := stp (k + d)
        have h2 := (he (k + d)).2.1
        have h3 := f (k + d) (r (k + d)) (hr (k + d)).lt
        have l0 := low k
        have l1 := low (k + d)
        have l2 := low (k + d + 1)
        show topOf m cost (s k) (n + m) * (s (k + d + 1)).low ≤ topOf m cost (s (k + d + 1)) (n + m) * (s k).low
        have p1 : topOf m cost (s (k + d)) (e (k + d)) * (s (k + d)).R (r (k + d)) (n + m) ≤ 0 := Int.mul_nonpos_of_nonpos_of_nonneg (by omega) h3
        have p2 : topOf m cost (s (k + d)) (n + m) * (s (k + d + 1)).low ≤ topOf m cost (s (k + d + 1)) (n + m) * (s (k + d)).low := by omega
        have p3 := Int.mul_le_mul_of_nonneg_right ih (Int.le_of_lt l2)
        have p4 := Int.mul_le_mul_of_nonneg_right p2 (Int.le_of_lt l0)
        refine Int.le_of_mul_le_mul_right (a := (s (k + d)).low) ?_ l1
        calc topOf m cost (s k) (n + m) * (s (k + d + 1)).low * (s (k + d)).low = topOf m cost (s k) (n + m) * (s (k + d)).low * (s (k + d + 1)).low := by grind
          _ ≤ topOf m cost (s (k + d)) (n + m) * (s k).low * (s (k + d + 1)).low := p3
          _ = topOf m cost (s (k + d)) (n + m) * (s (k + d + 1)).low * (s k).low := by grind
          _ ≤ topOf m cost (s (k + d + 1)) (n + m) * (s (k + d)).low * (s k).low := p4
          _ = topOf m cost (s (k + d + 1)) (n + m) * (s k).low * (s (k + d)).low := by grind
    have et : topOf m cost (s i) (n + m) = topOf m cost (s j) (n + m) := by
      unfold topOf
      rw [el, hc0]
      congr 1
      exact sumN_congr fun x hx => by rw [eb x hx, eR x hx _ (Nat.le_refl _)]
    intro k h1 h2
    have a1 := mono (k - i)
    rw [show i + (k - i) = k by omega] at a1
    have a2 := mono2 (j - (k + 1)) (k + 1) (by omega)
    rw [show k + 1 + (j - (k + 1)) = j by omega, ← et, ← el] at a2
    have a3 := stp k
    have l0 := low i
    have l1 := low k
    have l2 := low (k + 1)
    -- z k ≤ z (k+1) ≤ z i ≤ z k
    have b1 := Int.mul_le_mul_of_nonneg_right a1 (Int.le_of_lt l2)
    have b2 := Int.mul_le_mul_of_nonneg_right a2 (Int.le_of_lt l1)
    have b3 : topOf m cost (s (k + 1)) (n + m) * (s k).low * (s i).low ≤ topOf m cost (s k) (n + m) * (s (k + 1)).low * (s i).low := by
      calc topOf m cost (s (k + 1)) (n + m) * (s k).low * (s i).low = topOf m cost (s (k + 1)) (n + m) * (s i).low * (s k).low := by grind
        _ ≤ topOf m cost (s i) (n + m) * (s (k + 1)).low * (s k).low := b2
        _ = topOf m cost (s i) (n + m) * (s k).low * (s (k + 1)).low := by grind
        _ ≤ topOf m cost (s k) (n + m) * (s i).low * (s (k + 1)).low := b1
        _ = topOf m cost (s k) (n + m) * (s (k + 1)).low * (s i).low := by grind
    have b4 := Int.le_of_mul_le_mul_right b3 l0
    have b5 : 0 ≤ topOf m cost (s k) (e k) * (s k).R (r k) (n + m) := by omega
    have b6 := (he k).2.1
    have b7 := f k (r k) (hr k).lt
    rcases Int.lt_or_eq_of_le b7 with z | z
    · have := Int.mul_neg_of_neg_of_pos b6 z
      omega
    · exact z.symm
  -- values that are 0 stay 0
  have zer : ∀ q k1 k2, i ≤ k1 → k1 ≤ j → i ≤ k2 → k2 ≤ j → ¬ B k1 q → ∀ x, x < m → (s k2).b x = q → (s k2).R x (n + m) = 0 := fun q k1 k2 a1 a2 a3 a4 hn => by
    refine round (fun k => ∀ x, x < m → (s k).b x = q → (s k).R x (n + m) = 0) (fun k h1 h2 w x hx hb => ?_) (fun w x hx hb => ?_) k1 k2 a1 a2 a3 a4 fun x hx hb => absurd ⟨x, hx, hb⟩ hn
    · have hp := (hr k).pos
      have z := idle k h1 h2
      rw [bs k x] at hb
      by_cases hxr : x = r k
      · rw [hxr, hs k, piv_r, z]; simp
      · rw [if_neg hxr] at hb
        have h := piv_R (I k) (hr k).lt (by have := en k; omega : e k ≤ n + m) (by omega) hx hxr (Nat.le_refl _)
        rw [z, w x hx hb] at h
        rw [hs k]
        have hl := (I k).low
        simp only [Int.zero_mul, Int.mul_zero, Int.sub_zero] at h
        exact (Int.mul_eq_zero.mp h).resolve_left (by omega)
    · rw [eR x hx _ (Nat.le_refl _)]
      exact w x hx (by rw [← eb x hx]; exact hb)
  -- the greatest column that comes in
  obtain ⟨k1, hk1, hk1', hmax⟩ : ∃ k1, i ≤ k1 ∧ k1 < j ∧ ∀ k, i ≤ k → k < j → e k ≤ e k1 := by
    have go : ∀ d, ∃ k1, i ≤ k1 ∧ k1 ≤ i + d ∧ ∀ k, i ≤ k → k ≤ i + d → e k ≤ e k1 := fun d => by
      induction d with
      | zero => exact ⟨i, Nat.le_refl _, Nat.le_refl _, fun k h1 h2 => by rw [show k = i by omega]; exact Nat.le_refl _⟩
      | succ d ih =>
        obtain ⟨k1, h1, h2, h3⟩ := ih
        by_cases q : e (i + d + 1) ≤ e k1
        · refine ⟨k1, h1, by omega, fun k h4 h5 => ?_⟩
          by_cases z : k = i + d + 1
          · rw [z]; exact q
          · exact h3 k h4 (by omega)
        · refine ⟨i + d + 1, by omega, by omega, fun k h4 h5 => ?_⟩
          by_cases z : k = i + d + 1
          · rw [z]; exact Nat.le_refl _
          · have := h3 k h4 (by omega)
            omega
    obtain ⟨k1, h1, h2, h3⟩ := go (j - i - 1)
    exact ⟨k1, h1, by omega, fun k h4 h5 => h3 k h4 (by omega)⟩
  -- it goes out, too
  obtain ⟨k2, hk2, hk2', hout⟩ : ∃ k2, i ≤ k2 ∧ k2 < j ∧ (s k2).b (r k2) = e k1 := by
    refine Classical.byContradiction fun hno => ?_
    have hno' : ∀ k, i ≤ k → k < j → (s k).b (r k) ≠ e k1 := fun k h1 h2 q => hno ⟨k, h1, h2, q⟩
    have hB : B (k1 + 1) (e k1) := ⟨r k1, (hr k1).lt, by rw [bs k1, if_pos rfl]⟩
    refine nb k1 (round (fun k => B k (e k1)) (fun k h1 h2 ⟨x, hx, hb⟩ => ⟨x, hx, ?_⟩) (fun ⟨x, hx, hb⟩ => ⟨x, hx, by rw [eb x hx]; exact hb⟩) (k1 + 1) k1 (by omega) (by omega) hk1 (by omega) hB)
    rw [bs k]
    have : x ≠ r k := fun z => hno' k h1 h2 (by rw [← z]; exact hb)
    rw [if_neg this]; exact hb
  have comes : ∀ q, B k2 q → ¬ B k1 q → q ≤ e k1 := fun q h1 h2 => by
    refine Classical.byContradiction fun hno => ?_
    have hno' : ∀ k, i ≤ k → k < j → e k ≠ q := fun k a1 a2 z => hno (by rw [← z]; exact hmax k a1 a2)
    refine (round (fun k => ¬ B k q) (fun k a1 a2 w ⟨x, hx, hb⟩ => ?_) (fun w ⟨x, hx, hb⟩ => w ⟨x, hx, by rw [← eb x hx]; exact hb⟩) k1 k2 hk1 (by omega) hk2 (by omega) h2) h1
    rw [bs k] at hb
    by_cases z : x = r k
    · rw [if_pos z] at hb; exact hno' k a1 a2 hb
    · rw [if_neg z] at hb; exact w ⟨x, hx, hb⟩
  -- the sums
  have S := top_dir (cost := cost) (I k2) (I k1) (en k2)
  rw [cost_dir (cost := cost) (I k2) (en k2), sum_dir (I k2).bN (en k2) (fun q => topOf m cost (s k1) q)] at S
  have h1 := (he k2).2.1
  have l1 := (I k1).low
  have l2 := (I k2).low
  have neg : (s k1).low * topOf m cost (s k2) (e k2) < 0 := Int.mul_neg_of_pos_of_neg l1 h1
  have hse : e k2 < e k1 := by
    have a := hmax k2 hk2 hk2'
    have b : e k2 ≠ e k1 := fun z => nb k2 ⟨r k2, (hr k2).lt, by rw [z]; exact hout⟩
    omega
  have hs0 : 0 ≤ topOf m cost (s k1) (e k2) := (he k1).2.2 _ hse
  have hs1 : 0 ≤ topOf m cost (s k1) (e k2) * (s k2).low := Int.mul_nonneg hs0 (by omega)
  obtain ⟨x, hx, hpos⟩ := sumN_pos (n := m) (f := fun x => topOf m cost (s k1) ((s k2).b x) * (s k2).R x (e k2)) (by omega)
  have hnB : ¬ B k1 ((s k2).b x) := fun ⟨y, hy, hb⟩ => by
    rw [← hb, top_basic (I k1) hy] at hpos
    simp at hpos
  have hle := comes _ ⟨x, hx, rfl⟩ hnB
  have hz := zer _ k1 k2 hk1 (by omega) hk2 (by omega) hnB x hx rfl
  rcases Nat.lt_or_eq_of_le hle with q | q
  · have h3 := (he k1).2.2 _ q
    have h4 : 0 < (s k2).R x (e k2) := by
      rcases Int.lt_or_le 0 ((s k2).R x (e k2)) with z | z
      · exact z
      · have := Int.mul_nonpos_of_nonneg_of_nonpos h3 z
        omega
    have h5 := (hr k2).best x hx h4
    rw [hz, idle k2 hk2 hk2', hout] at h5
    simp at h5
    omega
  · have hxr : x = r k2 := b_inj (I k2) hx (hr k2).lt (by rw [q, hout])
    subst hxr
    have h3 := (he k1).2.1
    have h4 := (hr k2).pos
    rw [q] at hpos
    have := Int.mul_neg_of_neg_of_pos h3 h4
    omega
end
end Cp
end
/-! ## MLp -/
section
set_option autoImplicit false
set_option linter.all false
set_option maxHeartbeats 4000000
/-! what a tableau tells of solutions -/
namespace Cp
def sumQ : Nat → (Nat → Rat) → Rat
  | 0, _ => 0
  | n + 1, f => sumQ n f + f n
theorem sumQ_congr {n : Nat} {f g : Nat → Rat} (h : ∀ i, i < n → f i = g i) : sumQ n f = sumQ n g := by
  induction n with
  | zero => rfl
  | succ n ih =>
    show sumQ n f + f n = sumQ n g + g n
    rw [ih fun i hi => h i (by omega), h n (by omega)]
theorem sumQ_zero {n : Nat} {f : Nat → Rat} (h : ∀ i, i < n → f i = 0) : sumQ n f = 0 := by
  induction n with
  | zero => rfl
  | succ n ih =>
    show sumQ n f + f n = 0
    rw [ih fun i hi => h i (by omega), h n (by omega)]; grind
theorem sumQ_lin {n : Nat} {f g : Nat → Rat} (a b : Rat) : sumQ n (fun i => a * f i + b * g i) = a * sumQ n f + b * sumQ n g := by
  induction n with
  | zero => simp only [sumQ]; grind
  | succ n ih =>
    show sumQ n _ + _ = a * (sumQ n f + f n) + b * (sumQ n g + g n)
    rw [ih]; grind
theorem sumQ_add {n : Nat} {f g : Nat → Rat} : sumQ n (fun i => f i + g i) = sumQ n f + sumQ n g := by
  induction n with
  | zero => simp only [sumQ]; grind
  | succ n ih =>
    show sumQ n _ + _ = (sumQ n f + f n) + (sumQ n g + g n)
    rw [ih]; grind
theorem sumQ_sub {n : Nat} {f g : Nat → Rat} : sumQ n (fun i => f i - g i) = sumQ n f - sumQ n g := by
  induction n with
  | zero => simp only [sumQ]; grind
  | succ n ih =>
    show sumQ n _ + _ = (sumQ n f + f n) - (sumQ n g + g n)
    rw [ih]; grind
theorem sumQ_mul {n : Nat} {f : Nat → Rat} (a : Rat) : sumQ n (fun i => a * f i) = a * sumQ n f := by
  induction n with
  | zero => simp only [sumQ]; grind
  | succ n ih =>
    show sumQ n _ + _ = a * (sumQ n f + f n)
    rw [ih]; grind
theorem sumQ_one {n k : Nat} {f : Nat → Rat} (hk : k < n) (h : ∀ i, i < n → i ≠ k → f i = 0) : sumQ n f = f k := by
  induction n with
  | zero => omega
  | succ n ih =>
    show sumQ n f + f n = f k
    by_cases e : k = n
    · subst e
      rw [sumQ_zero fun i hi => h i (by omega) (by omega)]; grind
    · rw [ih (by omega) fun i hi hn => h i (by omega) hn, h n (by omega) (Ne.symm e)]; grind
theorem sumQ_swap {n m : Nat} {f : Nat → Nat → Rat} : sumQ n (fun i => sumQ m (fun j => f i j)) = sumQ m (fun j => sumQ n (fun i => f i j)) := by
  induction n with
  | zero => exact (sumQ_zero fun _ _ => rfl).symm
  | succ n ih =>
    show sumQ n _ + sumQ m _ = sumQ m (fun j => sumQ n (fun i => f i j) + f n j)
    rw [ih, sumQ_add]
theorem sumQ_split {n m : Nat} {f : Nat → Rat} : sumQ (n + m) f = sumQ n f + sumQ m (fun i => f (n + i)) := by
  induction m with
  | zero => simp only [sumQ, Nat.add_zero]; grind
  | succ m ih =>
    show sumQ (n + m) f + f (n + m) = sumQ n f + (sumQ m (fun i => f (n + i)) + f (n + m))
    rw [ih]; grind
theorem sumQ_nonneg {n : Nat} {f : Nat → Rat} (h : ∀ i, i < n → 0 ≤ f i) : 0 ≤ sumQ n f := by
  induction n with
  | zero => exact Rat.le_refl
  | succ n ih =>
    have h1 := ih fun i hi => h i (by omega)
    have h2 := h n (by omega)
    show 0 ≤ sumQ n f + f n
    grind
theorem sumQ_le {n : Nat} {f g : Nat → Rat} (h : ∀ i, i < n → f i ≤ g i) : sumQ n f ≤ sumQ n g := by
  have := sumQ_nonneg (n := n) (f := fun i => g i - f i) fun i hi => by have := h i hi; grind
  rw [sumQ_sub] at this
  grind
theorem cast_sum {n : Nat} {f : Nat → Int} : ((sumN n f : Int) : Rat) = sumQ n fun i => (f i : Rat) := by
  induction n with
  | zero => rfl
  | succ n ih =>
    show ((sumN n f + f n : Int) : Rat) = sumQ n _ + _
    rw [Rat.intCast_add, ih]
theorem mul_nonneg' {a b : Rat} (ha : 0 ≤ a) (hb : 0 ≤ b) : 0 ≤ a * b := Rat.mul_nonneg ha hb
theorem cast_nonneg {x : Int} (h : 0 ≤ x) : (0 : Rat) ≤ (x : Rat) := Rat.intCast_nonneg.mpr h
theorem cast_pos {x : Int} (h : 0 < x) : (0 : Rat) < (x : Rat) := Rat.intCast_pos.mpr h
section
variable {m n : Nat} {A : Nat → Nat → Int} {t : Tab} {cost : Nat → Int}
/-- all columns, the helping ones too, make the right sides -/
def Makes (m N : Nat) (A : Nat → Nat → Int) (x : Nat → Rat) (y : Nat → Rat) : Prop := ∀ k, k < m → (sumQ N fun q => (A k q : Rat) * x q) = y k
theorem row_makes (I : TInv m n A t) {x y : Nat → Rat} (h : Makes m (n + m) A x y) {i : Nat} (hi : i < m) : (sumQ (n + m) fun q => (t.R i q : Rat) * x q) = sumQ m fun k => (t.R i (n + k) : Rat) * y k := by
  have e : ∀ q, q < n + m → (t.R i q : Rat) * x q = sumQ m fun k => (t.R i (n + k) : Rat) * ((A k q : Rat) * x q) := fun q hq => by
    rw [I.comb i hi q (by omega), cast_sum, Rat.mul_comm, ← sumQ_mul]
    exact sumQ_congr fun k _ => by rw [Rat.intCast_mul]; grind
  rw [sumQ_congr e, sumQ_swap]
  exact sumQ_congr fun k hk => by rw [sumQ_mul, h k hk]
/-- the left costs over any columns -/
theorem top_makes (I : TInv m n A t) {x y : Nat → Rat} (h : Makes m (n + m) A x y) :
    (sumQ (n + m) fun q => (topOf m cost t q : Rat) * x q) = (t.low : Rat) * (sumQ (n + m) fun q => (cost q : Rat) * x q) - sumQ m fun i => (cost (t.b i) : Rat) * sumQ m fun k => (t.R i (n + k) : Rat) * y k := by
  have e : ∀ q, q < n + m → (topOf m cost t q : Rat) * x q = (t.low : Rat) * ((cost q : Rat) * x q) - sumQ m fun i => (cost (t.b i) : Rat) * ((t.R i q : Rat) * x q) := fun q hq => by
    unfold topOf
    rw [Rat.intCast_sub, Rat.intCast_mul, cast_sum]
    have : (sumQ m fun i => (cost (t.b i) : Rat) * ((t.R i q : Rat) * x q)) = (sumQ m fun i => ((cost (t.b i) * t.R i q : Int) : Rat)) * x q := by
      rw [Rat.mul_comm, ← sumQ_mul]
      exact sumQ_congr fun i _ => by rw [Rat.intCast_mul]; grind
    rw [this]; grind
  rw [sumQ_congr e, sumQ_sub, sumQ_mul, sumQ_swap]
  congr 1
  exact sumQ_congr fun i hi => by rw [sumQ_mul, row_makes I h hi]
/-- .. that make the right sides of the rows -/
theorem top_right (I : TInv m n A t) {x : Nat → Rat} (h : Makes m (n + m) A x fun k => (A k (n + m) : Rat)) (hc : cost (n + m) = 0) :
    (sumQ (n + m) fun q => (topOf m cost t q : Rat) * x q) = (t.low : Rat) * (sumQ (n + m) fun q => (cost q : Rat) * x q) + (topOf m cost t (n + m) : Rat) := by
  rw [top_makes I h]
  have e : (topOf m cost t (n + m) : Rat) = - sumQ m fun i => (cost (t.b i) : Rat) * sumQ m fun k => (t.R i (n + k) : Rat) * (A k (n + m) : Rat) := by
    unfold topOf
    rw [hc, Int.mul_zero, Int.zero_sub, Rat.intCast_neg, cast_sum]
    congr 1
    refine sumQ_congr fun i hi => ?_
    rw [Rat.intCast_mul, I.comb i hi (n + m) (Nat.le_refl _), cast_sum]
    congr 1
    exact sumQ_congr fun k _ => Rat.intCast_mul _ _
  rw [e]; grind
/-- the amounts that the base tells -/
def amt (m N : Nat) (t : Tab) (q : Nat) : Rat := (sumN m fun i => if t.b i = q then t.R i N else 0 : Int) / (t.low : Rat)
theorem amt_sum (I : TInv m n A t) (f : Nat → Rat) : (sumQ (n + m) fun q => f q * amt m (n + m) t q) = (sumQ m fun i => f (t.b i) * (t.R i (n + m) : Rat)) / (t.low : Rat) := by
  have e : ∀ q, q < n + m → f q * amt m (n + m) t q = (1 / (t.low : Rat)) * sumQ m fun i => if t.b i = q then f (t.b i) * (t.R i (n + m) : Rat) else 0 := fun q _ => by
    unfold amt
    rw [cast_sum]
    have : (sumQ m fun i => if t.b i = q then f (t.b i) * (t.R i (n + m) : Rat) else 0) = f q * sumQ m fun i => (((if t.b i = q then t.R i (n + m) else 0 : Int)) : Rat) := by
      rw [← sumQ_mul]
      refine sumQ_congr fun i _ => ?_
      by_cases z : t.b i = q
      · simp [z]
      · simp [z]
    rw [this]; grind
  rw [sumQ_congr e, sumQ_mul, sumQ_swap]
  have e2 : ∀ i, i < m → (sumQ (n + m) fun q => if t.b i = q then f (t.b i) * (t.R i (n + m) : Rat) else 0) = f (t.b i) * (t.R i (n + m) : Rat) := fun i hi => by
    rw [sumQ_one (k := t.b i) (I.bN i hi) fun q _ z => if_neg (Ne.symm z), if_pos rfl]
  rw [sumQ_congr e2]; grind
theorem low_ne (I : TInv m n A t) : (t.low : Rat) ≠ 0 := by
  have := cast_pos I.low
  grind
theorem amt_makes (I : TInv m n A t) : Makes m (n + m) A (amt m (n + m) t) fun k => (A k (n + m) : Rat) := fun k hk => by
  rw [amt_sum I fun q => (A k q : Rat)]
  have h := congrArg (fun z : Int => (z : Rat)) (I.span (n + m) (Nat.le_refl _) k hk)
  simp only [Rat.intCast_mul, cast_sum] at h
  have e : (sumQ m fun i => (A k (t.b i) : Rat) * (t.R i (n + m) : Rat)) = sumQ m fun i => (t.R i (n + m) : Rat) * (A k (t.b i) : Rat) := sumQ_congr fun i _ => Rat.mul_comm _ _
  rw [e, ← h]
  have := low_ne I
  grind
theorem amt_basic (I : TInv m n A t) {i : Nat} (hi : i < m) : amt m (n + m) t (t.b i) = (t.R i (n + m) : Rat) / (t.low : Rat) := by
  unfold amt
  rw [sumN_one (k := i) hi fun k hk hne => if_neg fun e => hne (b_inj I hk hi e), if_pos rfl]
theorem amt_other {q : Nat} (h : ∀ i, i < m → t.b i ≠ q) : amt m (n + m) t q = 0 := by
  unfold amt
  rw [sumN_zero fun i hi => if_neg (h i hi)]
  simp [Rat.div_def]
theorem div_nonneg {a b : Rat} (ha : 0 ≤ a) (hb : 0 < b) : 0 ≤ a / b := by
  rw [Rat.div_def]
  exact Rat.mul_nonneg ha (Rat.le_of_lt (Rat.inv_pos.mpr hb))
theorem amt_nonneg (I : TInv m n A t) (f : Feas m (n + m) t) (q : Nat) : 0 ≤ amt m (n + m) t q := by
  by_cases h : ∃ i, i < m ∧ t.b i = q
  · obtain ⟨i, hi, rfl⟩ := h
    rw [amt_basic I hi]
    exact div_nonneg (cast_nonneg (f i hi)) (cast_pos I.low)
  · rw [amt_other fun i hi e => h ⟨i, hi, e⟩]; exact Rat.le_refl
theorem amt_cost (I : TInv m n A t) (hc : cost (n + m) = 0) : (t.low : Rat) * (sumQ (n + m) fun q => (cost q : Rat) * amt m (n + m) t q) = - (topOf m cost t (n + m) : Rat) := by
  have h := top_right (cost := cost) I (amt_makes I) hc
  have z : (sumQ (n + m) fun q => (topOf m cost t q : Rat) * amt m (n + m) t q) = 0 := sumQ_zero fun q hq => by
    by_cases h : ∃ i, i < m ∧ t.b i = q
    · obtain ⟨i, hi, rfl⟩ := h
      rw [top_basic I hi]; grind
    · rw [amt_other fun i hi e => h ⟨i, hi, e⟩]; grind
  rw [z] at h
  grind
end
end Cp
end
/-! ## MG -/
section
set_option autoImplicit false
set_option linter.all false
set_option maxHeartbeats 4000000
/-! the grid on lists -/
namespace Cp
structure G where
  signs : List Int
  many : Nat
  rows : List (List Int)
  inside : List Nat
  low : Int
  top : List Int
def rowAt (g : G) (i : Nat) : List Int := g.rows.getD i []
def sweptM (low : Int) (told row : List Int) (pivot weight : Int) : List Int := List.zipWith (fun one other => (one * pivot - weight * other) / low) told row
def turnRow (g : G) (index column : Nat) : List Int := if (rowAt g index).getD column 0 < 0 then (rowAt g index).map (fun one => -one) else rowAt g index
def turnM (g : G) (index column : Nat) : G :=
  { g with
    rows := g.rows.mapIdx fun at_ told => if at_ = index then turnRow g index column else sweptM g.low told (turnRow g index column) ((turnRow g index column).getD column 0) (told.getD column 0)
    top := sweptM g.low g.top (turnRow g index column) ((turnRow g index column).getD column 0) (g.top.getD column 0)
    low := (turnRow g index column).getD column 0
    inside := g.inside.set index column }
def firstNeg (allowed : Nat) (top : List Int) : Option Nat := (List.range allowed).find? fun j => decide (top.getD j 0 < 0)
/-- the key of a row: its right side, its number, its column of the base, its place -/
def keyOf (g : G) (column i : Nat) : Int × Int × Nat × Nat := ((rowAt g i).getLastD 0, (rowAt g i).getD column 0, g.inside.getD i 0, i)
def keyLess (a b : Int × Int × Nat × Nat) : Bool := decide (a.1 * b.2.1 - b.1 * a.2.1 < 0) || (decide (a.1 * b.2.1 - b.1 * a.2.1 = 0) && decide (a.2.2.1 < b.2.2.1))
def goesStep (g : G) (column : Nat) (best : Option (Int × Int × Nat × Nat)) (i : Nat) : Option (Int × Int × Nat × Nat) :=
  if 0 < (rowAt g i).getD column 0 then
    (match best with
    | none => some (keyOf g column i)
    | some b => if keyLess (keyOf g column i) b then some (keyOf g column i) else some b)
  else best
def goesOutM (g : G) (column : Nat) : Option (Int × Int × Nat × Nat) := (List.range g.rows.length).foldl (goesStep g column) none
/-- settle: g comes to g' in n turns at most, res the column that lowers the costs for ever -/
inductive Run (W : G → Prop) (allowed : Nat) : Nat → G → G → Option Nat → Prop
  | stop {n : Nat} {g : G} : W g → firstNeg allowed g.top = none → Run W allowed n g g none
  | ray {n : Nat} {g : G} {c : Nat} : W g → firstNeg allowed g.top = some c → goesOutM g c = none → Run W allowed n g g (some c)
  | step {n : Nat} {g g' : G} {c : Nat} {k : Int × Int × Nat × Nat} {res : Option Nat} : W g → firstNeg allowed g.top = some c → goesOutM g c = some k → Run W allowed n (turnM g k.2.2.2 c) g' res → Run W allowed (n + 1) g g' res
theorem Run.mono {W W' : G → Prop} {allowed n : Nat} {g g' : G} {res : Option Nat} (h : Run W allowed n g g' res) (hw : ∀ g, W g → W' g) : Run W' allowed n g g' res := by
  induction h with
  | stop w e => exact .stop (hw _ w) e
  | ray w e1 e2 => exact .ray (hw _ w) e1 e2
  | step w e1 e2 _ ih => exact .step (hw _ w) e1 e2 ih
theorem Run.first {W : G → Prop} {allowed n : Nat} {g g' : G} {res : Option Nat} (h : Run W allowed n g g' res) : W g := by
  cases h <;> assumption
theorem Run.last {W : G → Prop} {allowed n : Nat} {g g' : G} {res : Option Nat} (h : Run W allowed n g g' res) : W g' := by
  induction h with
  | stop w e => exact w
  | ray w e1 e2 => exact w
  | step w e1 e2 _ ih => exact ih
/-! as a tableau -/
def tab (g : G) : Tab where
  R := fun i j => (rowAt g i).getD j 0
  b := fun i => g.inside.getD i 0
  low := g.low
structure Shp (m n : Nat) (g : G) : Prop where
  rows : g.rows.length = m
  row : ∀ i, i < m → (rowAt g i).length = n + m + 1
  inside : g.inside.length = m
  top : g.top.length = n + m + 1
  many : g.many = n
theorem getD_zipWith {f : Int → Int → Int} {xs ys : List Int} (h : xs.length = ys.length) (f0 : f 0 0 = 0) (j : Nat) : (List.zipWith f xs ys).getD j 0 = f (xs.getD j 0) (ys.getD j 0) := by
  unfold List.getD
  rw [List.getElem?_zipWith]
  rcases Nat.lt_or_ge j xs.length with q | q
  · rw [List.getElem?_eq_getElem q, List.getElem?_eq_getElem (by omega : j < ys.length)]
    rfl
  · rw [List.getElem?_eq_none q, List.getElem?_eq_none (by omega : ys.length ≤ j)]
    exact f0.symm
theorem getD_map {f : Int → Int} {xs : List Int} (f0 : f 0 = 0) (j : Nat) : (xs.map f).getD j 0 = f (xs.getD j 0) := by
  unfold List.getD
  rw [List.getElem?_map]
  cases xs[j]? with
  | none => exact f0.symm
  | some x => rfl
section
variable {m n : Nat} {g : G} {r c : Nat}
theorem turnRow_len (S : Shp m n g) (hr : r < m) : (turnRow g r c).length = n + m + 1 := by
  unfold turnRow
  split
  · rw [List.length_map, S.row r hr]
  · exact S.row r hr
theorem turnRow_get (j : Nat) : (turnRow g r c).getD j 0 = sgn ((tab g).R r c) * (tab g).R r j := by
  unfold turnRow
  show _ = sgn ((rowAt g r).getD c 0) * (rowAt g r).getD j 0
  unfold sgn
  split
  · rw [getD_map (f := fun one => -one) (by rfl)]; omega
  · omega
theorem rowAt_turn (S : Shp m n g) (hr : r < m) {i : Nat} (hi : i < m) : rowAt (turnM g r c) i = if i = r then turnRow g r c else sweptM g.low (rowAt g i) (turnRow g r c) ((turnRow g r c).getD c 0) ((rowAt g i).getD c 0) := by
  have hi' : i < g.rows.length := by rw [S.rows]; exact hi
  show (g.rows.mapIdx _).getD i [] = _
  unfold rowAt List.getD
  rw [List.getElem?_mapIdx, List.getElem?_eq_getElem hi']
  rfl
theorem shp_turn (S : Shp m n g) (hr : r < m) : Shp m n (turnM g r c) := by
  refine ⟨by show (g.rows.mapIdx _).length = m; rw [List.length_mapIdx, S.rows], fun i hi => ?_, by show (g.inside.set r c).length = m; rw [List.length_set, S.inside], ?_, S.many⟩
  · rw [rowAt_turn S hr hi]
    split
    · exact turnRow_len S hr
    · unfold sweptM
      rw [List.length_zipWith, S.row i hi, turnRow_len S hr, Nat.min_self]
  · show (sweptM _ _ _ _ _).length = _
    unfold sweptM
    rw [List.length_zipWith, S.top, turnRow_len S hr, Nat.min_self]
theorem Tab.ext' : ∀ {a b : Tab}, a.R = b.R → a.b = b.b → a.low = b.low → a = b
  | ⟨_, _, _⟩, ⟨_, _, _⟩, rfl, rfl, rfl => rfl
theorem tab_turn (S : Shp m n g) (hr : r < m) : tab (turnM g r c) = piv (tab g) r c := by
  have hR : (tab (turnM g r c)).R = (piv (tab g) r c).R := by
    funext i j
    show (rowAt (turnM g r c) i).getD j 0 = if i = r then sgn ((tab g).R r c) * (tab g).R r j else ((tab g).R i j * (sgn ((tab g).R r c) * (tab g).R r c) - (tab g).R i c * (sgn ((tab g).R r c) * (tab g).R r j)) / (tab g).low
    rcases Nat.lt_or_ge i m with hi | hi
    · rw [rowAt_turn S hr hi]
      by_cases q : i = r
      · rw [if_pos q, if_pos q, turnRow_get]
      · rw [if_neg q, if_neg q]
        unfold sweptM
        rw [getD_zipWith (by rw [S.row i hi, turnRow_len S hr]) (by simp), turnRow_get, turnRow_get]
        rfl
    · rw [if_neg (by omega)]
      have e1 : rowAt (turnM g r c) i = [] := by
        show (g.rows.mapIdx _).getD i [] = []
        unfold List.getD
        rw [List.getElem?_eq_none (by rw [List.length_mapIdx, S.rows]; exact hi)]
        rfl
      have e2 : rowAt g i = [] := by
        unfold rowAt List.getD
        rw [List.getElem?_eq_none (by rw [S.rows]; exact hi)]
        rfl
      have e3 : ∀ j, (tab g).R i j = 0 := fun j => by show (rowAt g i).getD j 0 = 0; rw [e2]; rfl
      rw [e1, e3, e3]
      simp
  have hb : (tab (turnM g r c)).b = (piv (tab g) r c).b := by
    funext i
    show (g.inside.set r c).getD i 0 = put (tab g).b r c i
    unfold List.getD put
    rw [List.getElem?_set]
    by_cases q : i = r
    · subst q
      rw [if_pos rfl, if_pos rfl, if_pos (by rw [S.inside]; exact hr)]; rfl
    · rw [if_neg (Ne.symm q), if_neg q]; rfl
  have hl : (tab (turnM g r c)).low = (piv (tab g) r c).low := turnRow_get c
  exact Tab.ext' hR hb hl
theorem top_turn (S : Shp m n g) (hr : r < m) (j : Nat) : (turnM g r c).top.getD j 0 = (g.top.getD j 0 * (sgn ((tab g).R r c) * (tab g).R r c) - g.top.getD c 0 * (sgn ((tab g).R r c) * (tab g).R r j)) / (tab g).low := by
  show (sweptM _ _ _ _ _).getD j 0 = _
  unfold sweptM
  rw [getD_zipWith (by rw [S.top, turnRow_len S hr]) (by simp), turnRow_get, turnRow_get]
  rfl
/-- what holds of the grid ahead of each turn -/
structure GInv (m n : Nat) (A : Nat → Nat → Int) (cost : Nat → Int) (g : G) : Prop where
  shp : Shp m n g
  inv : TInv m n A (tab g)
  top : ∀ j, j ≤ n + m → g.top.getD j 0 = topOf m cost (tab g) j
theorem ginv_turn {A : Nat → Nat → Int} {cost : Nat → Int} (I : GInv m n A cost g) (hr : r < m) (hc : c < n + m) (hp : (tab g).R r c ≠ 0) : GInv m n A cost (turnM g r c) :=
  ⟨shp_turn I.shp hr, by rw [tab_turn I.shp hr]; exact piv_inv I.inv hr hc hp, fun j hj => by
    rw [top_turn I.shp hr, I.top j hj, I.top c (by omega), tab_turn I.shp hr]
    exact piv_top I.inv hr hc hp cost hj⟩
end
theorem find_range_none {p : Nat → Bool} {n : Nat} (h : (List.range n).find? p = none) : ∀ j, j < n → p j = false := fun j hj => by
  have := List.find?_eq_none.mp h j (List.mem_range.mpr hj)
  simpa using this
theorem find_range_some {p : Nat → Bool} : ∀ {n c : Nat}, (List.range n).find? p = some c → c < n ∧ p c = true ∧ ∀ j, j < c → p j = false
  | 0, c, h => by simp at h
  | n + 1, c, h => by
    rw [List.range_succ, List.find?_append] at h
    cases e : (List.range n).find? p with
    | some d =>
      rw [e] at h
      have : d = c := Option.some.inj h
      subst this
      obtain ⟨h1, h2, h3⟩ := find_range_some e
      exact ⟨by omega, h2, h3⟩
    | none =>
      rw [e] at h
      have h1 := find_range_none e
      have h2 : List.find? p [n] = some c := h
      simp only [List.find?_cons, List.find?_nil] at h2
      cases q : p n with
      | true =>
        rw [q] at h2
        have : n = c := by simpa using h2
        subst this
        exact ⟨by omega, q, h1⟩
      | false => rw [q] at h2; cases h2
/-- the chosen key is a least one -/
theorem goes_spec {g : G} {column : Nat} : ∀ (k : Nat), match (List.range k).foldl (goesStep g column) none with
    | none => ∀ i, i < k → ¬ 0 < (rowAt g i).getD column 0
    | some b => ∃ r, r < k ∧ b = keyOf g column r ∧ 0 < (rowAt g r).getD column 0 ∧ ∀ i, i < k → 0 < (rowAt g i).getD column 0 →
        (rowAt g r).getLastD 0 * (rowAt g i).getD column 0 < (rowAt g i).getLastD 0 * (rowAt g r).getD column 0 ∨
        ((rowAt g r).getLastD 0 * (rowAt g i).getD column 0 = (rowAt g i).getLastD 0 * (rowAt g r).getD column 0 ∧ g.inside.getD r 0 ≤ g.inside.getD i 0)
  | 0 => by
    intro i hi; omega
  | k + 1 => by
    have ih := goes_spec (g := g) (column := column) k
    rw [List.range_succ, List.foldl_append]
    show (match goesStep g column ((List.range k).foldl (goesStep g column) none) k with | none => _ | some b => _)
    generalize (List.range k).foldl (goesStep g column) none = best at ih ⊢
    unfold goesStep
    by_cases hp : 0 < (rowAt g k).getD column 0
    · rw [if_pos hp]
      cases best with
      | none =>
        refine ⟨k, by omega, rfl, hp, fun i hi hpi => ?_⟩
        by_cases q : i = k
        · subst q; exact .inr ⟨rfl, Nat.le_refl _⟩
        · exact absurd hpi (ih i (by omega))
      | some b =>
        obtain ⟨r, hr, rfl, hpr, hb⟩ := ih
        by_cases hl : keyLess (keyOf g column k) (keyOf g column r) = true
        · simp only [hl, if_true]
          refine ⟨k, by omega, rfl, hp, fun i hi hpi => ?_⟩
          unfold keyLess keyOf at hl
          simp only [Bool.or_eq_true, decide_eq_true_eq, Bool.and_eq_true] at hl
          by_cases q : i = k
          · subst q; exact .inr ⟨rfl, Nat.le_refl _⟩
          · have h1 := hb i (by omega) hpi
            generalize (rowAt g k).getLastD 0 = xk at *
            generalize (rowAt g r).getLastD 0 = xr at *
            generalize (rowAt g i).getLastD 0 = xi at *
            generalize (rowAt g k).getD column 0 = pk at *
            generalize (rowAt g r).getD column 0 = pr at *
            generalize (rowAt g i).getD column 0 = pi at *
            -- xk/pk ≤ xr/pr ≤ xi/pi
            rcases hl with hl | ⟨hl, hl2⟩
            · have a1 : xk * pr < xr * pk := by omega
              have a2 : xr * pi ≤ xi * pr := by rcases h1 with h1 | ⟨h1, _⟩ <;> omega
              left
              have b1 := Int.mul_lt_mul_of_pos_right a1 hpi
              have b2 := Int.mul_le_mul_of_nonneg_right a2 (Int.le_of_lt hp)
              refine Int.lt_of_mul_lt_mul_right (a := pr) ?_ (Int.le_of_lt hpr)
              calc xk * pi * pr = xk * pr * pi := by grind
                _ < xr * pk * pi := b1
                _ = xr * pi * pk := by grind
                _ ≤ xi * pr * pk := b2
                _ = xi * pk * pr := by grind
            · have a1 : xk * pr = xr * pk := by omega
              rcases h1 with h1 | ⟨h1, h2⟩
              · left
                have b2 := Int.mul_lt_mul_of_pos_right h1 hp
                refine Int.lt_of_mul_lt_mul_right (a := pr) ?_ (Int.le_of_lt hpr)
                calc xk * pi * pr = xk * pr * pi := by grind
                  _ = xr * pk * pi := by rw [a1]
                  _ = xr * pi * pk := by grind
                  _ < xi * pr * pk := b2
                  _ = xi * pk * pr := by grind
              · right
                refine ⟨?_, by omega⟩
                refine Int.eq_of_mul_eq_mul_right (show pr ≠ 0 by omega) ?_
                calc xk * pi * pr = xk * pr * pi := by grind
                  _ = xr * pk * pi := by rw [a1]
                  _ = xr * pi * pk := by grind
                  _ = xi * pr * pk := by rw [h1]
                  _ = xi * pk * pr := by grind
        · have hl' : keyLess (keyOf g column k) (keyOf g column r) = false := by simpa using hl
          simp only [hl', Bool.false_eq_true, if_false]
          refine ⟨r, by omega, rfl, hpr, fun i hi hpi => ?_⟩
          by_cases q : i = k
          · subst q
            unfold keyLess keyOf at hl'
            simp only [Bool.or_eq_false_iff, decide_eq_false_iff_not, Bool.and_eq_false_iff] at hl'
            obtain ⟨c1, c2⟩ := hl'
            rcases Int.lt_or_le ((rowAt g r).getLastD 0 * (rowAt g i).getD column 0) ((rowAt g i).getLastD 0 * (rowAt g r).getD column 0) with z | z
            · exact .inl z
            · right
              refine ⟨by omega, ?_⟩
              rcases c2 with c2 | c2 <;> omega
          · exact hb i (by omega) hpi
    · rw [if_neg hp]
      cases best with
      | none =>
        intro i hi
        by_cases q : i = k
        · subst q; exact hp
        · exact ih i (by omega)
      | some b =>
        obtain ⟨r, hr, rfl, hpr, hb⟩ := ih
        refine ⟨r, by omega, rfl, hpr, fun i hi hpi => ?_⟩
        by_cases q : i = k
        · subst q; exact absurd hpi hp
        · exact hb i (by omega) hpi
theorem lastD_get {xs : List Int} {k : Nat} (h : xs.length = k + 1) : xs.getLastD 0 = xs.getD k 0 := by
  rw [List.getLastD_eq_getLast?, List.getLast?_eq_getElem?, h]
  rfl
section
variable {m n : Nat} {A : Nat → Nat → Int} {cost : Nat → Int} {allowed : Nat}
theorem enter_of {g : G} {c : Nat} (I : GInv m n A cost g) (ha : allowed ≤ n) (h : firstNeg allowed g.top = some c) : Enter m cost allowed (tab g) c := by
  obtain ⟨h1, h2, h3⟩ := find_range_some h
  refine ⟨h1, ?_, fun j hj => ?_⟩
  · rw [← I.top c (by omega)]; exact of_decide_eq_true h2
  · rw [← I.top j (by omega)]
    have := of_decide_eq_false (h3 j hj)
    omega
theorem leave_of {g : G} {c : Nat} {k : Int × Int × Nat × Nat} (I : GInv m n A cost g) (h : goesOutM g c = some k) : k.2.2.2 < m ∧ Leave m (n + m) (tab g) c k.2.2.2 := by
  have s := goes_spec (g := g) (column := c) g.rows.length
  unfold goesOutM at h
  rw [h] at s
  obtain ⟨r, hr, rfl, hp, hb⟩ := s
  rw [I.shp.rows] at hr
  refine ⟨hr, hr, hp, fun i hi hpi => ?_⟩
  have h1 := hb i (by rw [I.shp.rows]; exact hi) hpi
  rw [lastD_get (I.shp.row r hr), lastD_get (I.shp.row i hi)] at h1
  exact h1
theorem no_leave {g : G} {c : Nat} (I : GInv m n A cost g) (h : goesOutM g c = none) : ∀ i, i < m → (tab g).R i c ≤ 0 := fun i hi => by
  have s := goes_spec (g := g) (column := c) g.rows.length
  unfold goesOutM at h
  rw [h] at s
  have := s i (by rw [I.shp.rows]; exact hi)
  show (rowAt g i).getD c 0 ≤ 0
  omega
/-- a state of the run -/
def Good (m n : Nat) (A : Nat → Nat → Int) (cost : Nat → Int) (g : G) : Prop := GInv m n A cost g ∧ Feas m (n + m) (tab g)
theorem good_turn {g : G} {c : Nat} {k : Int × Int × Nat × Nat} (I : Good m n A cost g) (ha : allowed ≤ n) (h1 : firstNeg allowed g.top = some c) (h2 : goesOutM g c = some k) : Good m n A cost (turnM g k.2.2.2 c) := by
  have he := enter_of I.1 ha h1
  obtain ⟨hr, hl⟩ := leave_of I.1 h2
  have hc : c < n + m := by have := he.1; omega
  exact ⟨ginv_turn I.1 hr hc (by have := hl.pos; omega), by rw [tab_turn I.1.shp hr]; exact feas_piv I.1.inv I.2 hc hl⟩
theorem settle_ends (ha : allowed ≤ n) (hc0 : cost (n + m) = 0) {g : G} (I : Good m n A cost g) : ∃ k g' res, Run (Good m n A cost) allowed k g g' res := by
  refine Classical.byContradiction fun hno => ?_
  let Bad : G → Prop := fun g => Good m n A cost g ∧ ¬ ∃ k g' res, Run (Good m n A cost) allowed k g g' res
  have nxt : ∀ g, Bad g → ∃ c k, firstNeg allowed g.top = some c ∧ goesOutM g c = some k ∧ Bad (turnM g k.2.2.2 c) := fun g ⟨I, hn⟩ => by
    cases e1 : firstNeg allowed g.top with
    | none => exact absurd ⟨0, g, none, .stop I e1⟩ hn
    | some c =>
      cases e2 : goesOutM g c with
      | none => exact absurd ⟨0, g, some c, .ray I e1 e2⟩ hn
      | some k => exact ⟨c, k, rfl, e2, good_turn I ha e1 e2, fun ⟨k', g', res, R⟩ => hn ⟨k' + 1, g', res, .step I e1 e2 R⟩⟩
  let S := { g : G // Bad g }
  let f : S → S := fun s => ⟨turnM s.1 (Classical.choose (Classical.choose_spec (nxt s.1 s.2))).2.2.2 (Classical.choose (nxt s.1 s.2)), (Classical.choose_spec (Classical.choose_spec (nxt s.1 s.2))).2.2⟩
  let q : Nat → S := fun k => Nat.rec ⟨g, I, hno⟩ (fun _ s => f s) k
  refine bland (m := m) (n := n) (A := A) (cost := cost) ha hc0 (fun k => tab (q k).1) (fun k => (q k).2.1.1.inv) (fun k => (q k).2.1.2)
    (fun k => Classical.choose (nxt (q k).1 (q k).2)) (fun k => (Classical.choose (Classical.choose_spec (nxt (q k).1 (q k).2))).2.2.2) (fun k => ?_) (fun k => ?_) fun k => ?_
  · exact enter_of (q k).2.1.1 ha (Classical.choose_spec (Classical.choose_spec (nxt (q k).1 (q k).2))).1
  · exact (leave_of (q k).2.1.1 (Classical.choose_spec (Classical.choose_spec (nxt (q k).1 (q k).2))).2.1).2
  · have hr := (leave_of (q k).2.1.1 (Classical.choose_spec (Classical.choose_spec (nxt (q k).1 (q k).2))).2.1).1
    exact tab_turn (q k).2.1.1.shp hr
/-- how a run ends -/
theorem run_end (ha : allowed ≤ n) {k : Nat} {g g' : G} {res : Option Nat} (R : Run (Good m n A cost) allowed k g g' res) : (res = none → ∀ j, j < allowed → 0 ≤ topOf m cost (tab g') j) ∧ (∀ c, res = some c → c < allowed ∧ topOf m cost (tab g') c < 0 ∧ ∀ i, i < m → (tab g').R i c ≤ 0) := by
  induction R with
  | @stop _ g w e =>
    refine ⟨fun _ j hj => ?_, fun c h => by cases h⟩
    have := of_decide_eq_false (find_range_none e j hj)
    rw [← w.1.top j (by omega)]
    omega
  | @ray _ g c w e1 e2 =>
    refine ⟨fun h => (by cases h), fun c' h => ?_⟩
    cases h
    have he := enter_of w.1 ha e1
    exact ⟨he.1, he.2.1, no_leave w.1 e2⟩
  | step w e1 e2 _ ih => exact ih
end
end Cp
end
/-! ## MStd -/
section
set_option autoImplicit false
set_option linter.all false
set_option maxHeartbeats 4000000
/-! what the two runs tell of a task in columns not below 0 -/
namespace Cp
def SolA (m n : Nat) (A : Nat → Nat → Int) (x : Nat → Rat) : Prop := (∀ q, q < n → 0 ≤ x q) ∧ ∀ k, k < m → (sumQ n fun q => (A k q : Rat) * x q) = (A k (n + m) : Rat)
def ext0 (n : Nat) (x : Nat → Rat) (q : Nat) : Rat := if q < n then x q else 0
theorem sumQ_ext {n m : Nat} (f : Nat → Rat) (x : Nat → Rat) : (sumQ (n + m) fun q => f q * ext0 n x q) = sumQ n fun q => f q * x q := by
  rw [sumQ_split, sumQ_zero (n := m) fun i _ => by rw [ext0, if_neg (by omega)]; grind]
  rw [sumQ_congr (g := fun q => f q * x q) fun q hq => by rw [ext0, if_pos hq]]
  grind
theorem sumQ_cut {n m : Nat} (f : Nat → Rat) (x : Nat → Rat) (h : ∀ k, k < m → x (n + k) = 0) : (sumQ (n + m) fun q => f q * x q) = sumQ n fun q => f q * x q := by
  rw [sumQ_split, sumQ_zero (n := m) fun i hi => by rw [h i hi]; grind]
  grind
section
variable {m n : Nat} {A : Nat → Nat → Int} {t : Tab}
theorem ext_makes {x : Nat → Rat} (h : SolA m n A x) : Makes m (n + m) A (ext0 n x) fun k => (A k (n + m) : Rat) := fun k hk => by
  rw [sumQ_ext]; exact h.2 k hk
/-- costs of the first run -/
def cost1 (m n : Nat) (j : Nat) : Int := if n ≤ j ∧ j < n + m then 1 else 0
theorem cost1_nonneg (j : Nat) : 0 ≤ cost1 m n j := by unfold cost1; split <;> omega
theorem no_ray1 (I : TInv m n A t) {c : Nat} (h : ∀ i, i < m → t.R i c ≤ 0) : ¬ topOf m (cost1 m n) t c < 0 := by
  have hl := I.low
  have h1 := Int.mul_nonneg (Int.le_of_lt hl) (cost1_nonneg (m := m) (n := n) c)
  have h2 : 0 ≤ sumN m fun i => - (cost1 m n (t.b i) * t.R i c) := sumN_nonneg fun i hi => by
    have := Int.mul_nonneg (cost1_nonneg (m := m) (n := n) (t.b i)) (show 0 ≤ - t.R i c by have := h i hi; omega)
    rw [Int.mul_neg] at this
    exact this
  have h3 : (sumN m fun i => - (cost1 m n (t.b i) * t.R i c)) = - sumN m fun i => cost1 m n (t.b i) * t.R i c := by
    have := sumN_mul (n := m) (f := fun i => cost1 m n (t.b i) * t.R i c) (-1)
    rw [sumN_congr (g := fun i => -1 * (cost1 m n (t.b i) * t.R i c)) fun i _ => by omega, this]; omega
  unfold topOf
  omega
theorem top1_le (I : TInv m n A t) (f : Feas m (n + m) t) : topOf m (cost1 m n) t (n + m) ≤ 0 := by
  have h2 : 0 ≤ sumN m fun i => cost1 m n (t.b i) * t.R i (n + m) := sumN_nonneg fun i hi => Int.mul_nonneg (cost1_nonneg _) (f i hi)
  have h : cost1 m n (n + m) = 0 := by unfold cost1; rw [if_neg (by omega)]
  unfold topOf
  rw [h]; omega
theorem none1 (I : TInv m n A t) (f : Feas m (n + m) t) (ht : ∀ j, j < n → 0 ≤ topOf m (cost1 m n) t j) (hz : topOf m (cost1 m n) t (n + m) ≠ 0) : ¬ ∃ x, SolA m n A x := fun ⟨x, hx⟩ => by
  have h := top_right (cost := cost1 m n) I (ext_makes hx) (by unfold cost1; rw [if_neg (by omega)])
  rw [sumQ_ext, sumQ_ext] at h
  have h1 : 0 ≤ sumQ n fun q => (topOf m (cost1 m n) t q : Rat) * x q := sumQ_nonneg fun q hq => mul_nonneg' (cast_nonneg (ht q hq)) (hx.1 q hq)
  have h2 : (sumQ n fun q => (cost1 m n q : Rat) * x q) = 0 := sumQ_zero fun q hq => by
    unfold cost1; rw [if_neg (by omega)]; simp
  rw [h, h2] at h1
  have h3 := top1_le I f
  have h4 : (topOf m (cost1 m n) t (n + m) : Rat) < 0 := by
    have := cast_pos (show 0 < - topOf m (cost1 m n) t (n + m) by omega)
    rw [Rat.intCast_neg] at this
    grind
  grind
theorem zero1 (I : TInv m n A t) (f : Feas m (n + m) t) (hz : topOf m (cost1 m n) t (n + m) = 0) : ∀ i, i < m → n ≤ t.b i → t.R i (n + m) = 0 := fun i hi hb => by
  have h : cost1 m n (n + m) = 0 := by unfold cost1; rw [if_neg (by omega)]
  unfold topOf at hz
  rw [h, Int.mul_zero, Int.zero_sub] at hz
  have hs : (sumN m fun i => cost1 m n (t.b i) * t.R i (n + m)) = 0 := by omega
  refine Classical.byContradiction fun hne => ?_
  have hf := f i hi
  have hpos : 0 < sumN m fun i => cost1 m n (t.b i) * t.R i (n + m) := by
    have h1 := sumN_one (n := m) (k := i) (f := fun k => if k = i then t.R i (n + m) else 0) hi fun k _ hk => if_neg hk
    rw [if_pos rfl] at h1
    have h2 : 0 ≤ sumN m fun k => cost1 m n (t.b k) * t.R k (n + m) - (if k = i then t.R i (n + m) else 0) := sumN_nonneg fun k hk => by
      by_cases q : k = i
      · subst q
        have hc : cost1 m n (t.b k) = 1 := by unfold cost1; rw [if_pos ⟨hb, I.bN k hi⟩]
        rw [if_pos rfl, hc]; omega
      · rw [if_neg q]
        have := Int.mul_nonneg (cost1_nonneg (m := m) (n := n) (t.b k)) (f k hk)
        omega
    rw [sumN_sub, h1] at h2
    omega
  omega
/-- rows of helping columns that stay in the base tell nothing -/
def Dead (m n : Nat) (t : Tab) : Prop := ∀ i, i < m → n ≤ t.b i → t.R i (n + m) = 0 ∧ ∀ j, j < n → t.R i j = 0
theorem dead_piv (I : TInv m n A t) (d : Dead m n t) {r c : Nat} (hr : r < m) (hc : c < n) (hp : t.R r c ≠ 0) : Dead m n (piv t r c) := fun i hi hb => by
  by_cases q : i = r
  · subst q
    have : (piv t i c).b i = c := put_same
    omega
  · have e : (piv t r c).b i = t.b i := put_ne q
    rw [e] at hb
    obtain ⟨h1, h2⟩ := d i hi hb
    have key : ∀ j, j ≤ n + m → t.R i j = 0 → (piv t r c).R i j = 0 := fun j hj h0 => by
      show (if i = r then _ else _) = (0 : Int)
      rw [if_neg q, h0, h2 c hc]
      simp
    exact ⟨key _ (Nat.le_refl _) h1, fun j hj => key j (by omega) (h2 j hj)⟩
theorem amt_dead (I : TInv m n A t) (d : Dead m n t) : ∀ k, k < m → amt m (n + m) t (n + k) = 0 := fun k hk => by
  by_cases h : ∃ i, i < m ∧ t.b i = n + k
  · obtain ⟨i, hi, e⟩ := h
    rw [← e, amt_basic I hi, (d i hi (by omega)).1]
    simp [Rat.div_def]
  · exact amt_other fun i hi e => h ⟨i, hi, e⟩
theorem amt_sol (I : TInv m n A t) (f : Feas m (n + m) t) (d : Dead m n t) : SolA m n A (amt m (n + m) t) :=
  ⟨fun q _ => amt_nonneg I f q, fun k hk => by
    rw [← sumQ_cut (m := m) (fun q => (A k q : Rat)) _ (amt_dead I d)]
    exact amt_makes I k hk⟩
/-- weights of the rows, for costs that are 0 at the helping columns -/
def dualOf (m n : Nat) (cost : Nat → Int) (t : Tab) (k : Nat) : Rat := (sumQ m fun i => (cost (t.b i) : Rat) * (t.R i (n + k) : Rat)) / (t.low : Rat)
theorem dual_sum (I : TInv m n A t) (cost : Nat → Int) {q : Nat} (hq : q ≤ n + m) : (sumQ m fun k => dualOf m n cost t k * (A k q : Rat)) = (sumQ m fun i => (cost (t.b i) : Rat) * (t.R i q : Rat)) / (t.low : Rat) := by
  have e : ∀ k, k < m → dualOf m n cost t k * (A k q : Rat) = (1 / (t.low : Rat)) * sumQ m fun i => (cost (t.b i) : Rat) * ((t.R i (n + k) : Rat) * (A k q : Rat)) := fun k _ => by
    unfold dualOf
    have : (sumQ m fun i => (cost (t.b i) : Rat) * ((t.R i (n + k) : Rat) * (A k q : Rat))) = (A k q : Rat) * sumQ m fun i => (cost (t.b i) : Rat) * (t.R i (n + k) : Rat) := by
      rw [← sumQ_mul]; exact sumQ_congr fun i _ => by grind
    rw [this]; grind
  rw [sumQ_congr e, sumQ_mul, sumQ_swap]
  have e2 : ∀ i, i < m → (sumQ m fun k => (cost (t.b i) : Rat) * ((t.R i (n + k) : Rat) * (A k q : Rat))) = (cost (t.b i) : Rat) * (t.R i q : Rat) := fun i hi => by
    rw [sumQ_mul, I.comb i hi q hq, cast_sum]
    congr 1
    exact sumQ_congr fun k _ => (Rat.intCast_mul _ _).symm
  rw [sumQ_congr e2]; grind
theorem top_rat (cost : Nat → Int) (q : Nat) : (topOf m cost t q : Rat) = (t.low : Rat) * (cost q : Rat) - sumQ m fun i => (cost (t.b i) : Rat) * (t.R i q : Rat) := by
  unfold topOf
  rw [Rat.intCast_sub, Rat.intCast_mul, cast_sum]
  congr 1
  exact sumQ_congr fun i _ => Rat.intCast_mul _ _
theorem dual_top (I : TInv m n A t) (cost : Nat → Int) {q : Nat} (hq : q ≤ n + m) : (sumQ m fun k => dualOf m n cost t k * (A k q : Rat)) = (cost q : Rat) - (topOf m cost t q : Rat) / (t.low : Rat) := by
  rw [dual_sum I cost hq, top_rat]
  have := low_ne I
  grind
/-- the end of the second run without a column left -/
theorem best2 (I : TInv m n A t) {cost : Nat → Int} (hc : cost (n + m) = 0) (f : Feas m (n + m) t) (d : Dead m n t) (ht : ∀ j, j < n → 0 ≤ topOf m cost t j) :
    (∀ q, q < n → (sumQ m fun k => dualOf m n cost t k * (A k q : Rat)) ≤ (cost q : Rat)) ∧
    (sumQ m fun k => dualOf m n cost t k * (A k (n + m) : Rat)) = sumQ n fun q => (cost q : Rat) * amt m (n + m) t q := by
  refine ⟨fun q hq => ?_, ?_⟩
  · rw [dual_top I cost (by omega)]
    have := div_nonneg (cast_nonneg (ht q hq)) (cast_pos I.low)
    grind
  · rw [dual_top I cost (Nat.le_refl _), hc, ← sumQ_cut (m := m) _ _ (amt_dead I d)]
    have h := amt_cost (cost := cost) I hc
    have := low_ne I
    grind
/-- a column that lowers the costs for ever -/
def wayOf (m : Nat) (t : Tab) (c q : Nat) : Rat := (dir m t c q : Rat) / (t.low : Rat)
theorem way_sum (I : TInv m n A t) {c : Nat} (hc : c < n + m) (f : Nat → Int) : (sumQ (n + m) fun q => (f q : Rat) * wayOf m t c q) = ((sumN (n + m) fun q => f q * dir m t c q : Int) : Rat) / (t.low : Rat) := by
  rw [cast_sum, Rat.div_def, Rat.mul_comm, ← sumQ_mul]
  exact sumQ_congr fun q _ => by
    unfold wayOf
    rw [Rat.intCast_mul, Rat.div_def]; grind
theorem way_dead (I : TInv m n A t) (d : Dead m n t) {c : Nat} (hc : c < n) : ∀ k, k < m → wayOf m t c (n + k) = 0 := fun k hk => by
  have : dir m t c (n + k) = 0 := by
    unfold dir
    rw [if_neg (by omega), sumN_zero fun i hi => ?_]
    · rfl
    · by_cases q : t.b i = n + k
      · rw [if_pos q]; exact (d i hi (by omega)).2 c hc
      · rw [if_neg q]
  unfold wayOf
  rw [this]; simp [Rat.div_def]
theorem ray2 (I : TInv m n A t) {cost : Nat → Int} (d : Dead m n t) {c : Nat} (hc : c < n) (h1 : topOf m cost t c < 0) (h2 : ∀ i, i < m → t.R i c ≤ 0) :
    (∀ q, q < n → 0 ≤ wayOf m t c q) ∧ (∀ k, k < m → (sumQ n fun q => (A k q : Rat) * wayOf m t c q) = 0) ∧ (sumQ n fun q => (cost q : Rat) * wayOf m t c q) < 0 := by
  refine ⟨fun q hq => ?_, fun k hk => ?_, ?_⟩
  · refine div_nonneg (cast_nonneg ?_) (cast_pos I.low)
    unfold dir
    have hs : 0 ≤ sumN m fun i => -(if t.b i = q then t.R i c else 0) := sumN_nonneg fun i hi => by
      have := h2 i hi
      split <;> omega
    have e : (sumN m fun i => -(if t.b i = q then t.R i c else 0)) = - sumN m fun i => if t.b i = q then t.R i c else 0 := by
      have := sumN_mul (n := m) (f := fun i => if t.b i = q then t.R i c else 0) (-1)
      rw [sumN_congr (g := fun i => -1 * (if t.b i = q then t.R i c else 0)) fun i _ => by omega, this]; omega
    have := I.low
    split <;> omega
  · rw [← sumQ_cut (m := m) _ _ (way_dead I d hc), way_sum I (by omega), A_dir I (by omega) hk]
    simp [Rat.div_def]
  · rw [← sumQ_cut (m := m) _ _ (way_dead I d hc), way_sum I (by omega), cost_dir I (by omega), Rat.div_def]
    have h3 := cast_pos (show 0 < - topOf m cost t c by omega)
    rw [Rat.intCast_neg] at h3
    have h4 : (0 : Rat) < (t.low : Rat)⁻¹ := Rat.inv_pos.mpr (cast_pos I.low)
    have := Rat.mul_pos h3 h4
    grind
/-- the amounts by one divisor -/
theorem amt_num (I : TInv m n A t) (q : Nat) {B : Int} (hB : 0 ≤ B) (h : ∀ i, i < m → (t.R i (n + m)).natAbs ≤ B.natAbs) : ∃ p : Int, amt m (n + m) t q = (p : Rat) / (t.low : Rat) ∧ p.natAbs ≤ B.natAbs := by
  by_cases e : ∃ i, i < m ∧ t.b i = q
  · obtain ⟨i, hi, rfl⟩ := e
    exact ⟨_, amt_basic I hi, h i hi⟩
  · refine ⟨0, ?_, by simp⟩
    rw [amt_other fun i hi z => e ⟨i, hi, z⟩]
    simp [Rat.div_def]
end
end Cp
end
/-! ## MSolve -/
section
set_option autoImplicit false
set_option linter.all false
set_option maxHeartbeats 4000000
/-! the whole run of the grid -/
namespace Cp
def signOf (r : Int) : Int := if r < 0 then -1 else 1
theorem signOf_pm (r : Int) : signOf r = 1 ∨ signOf r = -1 := by unfold signOf; split <;> simp
theorem signOf_mul (r : Int) : 0 ≤ signOf r * r := by unfold signOf; split <;> omega
def lineOf (rows : List (List Int)) (rights : List Int) (i : Nat) (row : List Int) : List Int :=
  row.map (fun one => signOf (rights.getD i 0) * one) ++ ((List.range rows.length).map fun at_ => if at_ = i then (1 : Int) else 0) ++ [signOf (rights.getD i 0) * rights.getD i 0]
def gridInit (rows : List (List Int)) (rights : List Int) (many : Nat) : G where
  signs := rights.map signOf
  many := many
  rows := rows.mapIdx (lineOf rows rights)
  inside := (List.range rows.length).map fun i => many + i
  low := 1
  top := []
structure GInv0 (m n : Nat) (A : Nat → Nat → Int) (g : G) : Prop where
  rows : g.rows.length = m
  row : ∀ i, i < m → (rowAt g i).length = n + m + 1
  inside : g.inside.length = m
  many : g.many = n
  inv : TInv m n A (tab g)
theorem GInv.to0 {m n : Nat} {A : Nat → Nat → Int} {cost : Nat → Int} {g : G} (I : GInv m n A cost g) : GInv0 m n A g :=
  ⟨I.shp.rows, I.shp.row, I.shp.inside, I.shp.many, I.inv⟩
def topStep (costs : List Int) (g : G) (top : List Int) (i : Nat) : List Int :=
  if costs.getD (g.inside.getD i 0) 0 ≠ 0 then List.zipWith (fun one other => one - costs.getD (g.inside.getD i 0) 0 * other) top (rowAt g i) else top
def top0 (costs : List Int) (g : G) : List Int := costs.map (fun one => g.low * one) ++ [0]
def priceM (costs : List Int) (g : G) : G := { g with top := (List.range g.rows.length).foldl (topStep costs g) (top0 costs g) }
section
variable {m n : Nat} {A : Nat → Nat → Int} {g : G} {costs : List Int}
theorem top0_get (hc : costs.length = n + m) (j : Nat) : (top0 costs g).getD j 0 = g.low * costs.getD j 0 := by
  unfold top0 List.getD
  rcases Nat.lt_or_ge j (n + m) with h | h
  · rw [List.getElem?_append_left (by rw [List.length_map, hc]; exact h), List.getElem?_map, List.getElem?_eq_getElem (by omega)]
    rfl
  · rw [List.getElem?_eq_none (l := costs) (by omega)]
    rcases Nat.eq_or_lt_of_le h with e | h
    · rw [List.getElem?_append_right (by rw [List.length_map, hc]; omega), List.length_map, hc, ← e, Nat.sub_self]
      simp
    · rw [List.getElem?_eq_none (by simp; omega)]
      simp
theorem price_fold (G0 : GInv0 m n A g) (hc : costs.length = n + m) : ∀ k, k ≤ m → ((List.range k).foldl (topStep costs g) (top0 costs g)).length = n + m + 1 ∧
    ∀ j, ((List.range k).foldl (topStep costs g) (top0 costs g)).getD j 0 = g.low * costs.getD j 0 - sumN k fun i => costs.getD ((tab g).b i) 0 * (tab g).R i j
  | 0, _ => ⟨by simp [top0, hc], fun j => by show (top0 costs g).getD j 0 = _; rw [top0_get hc]; simp [sumN]⟩
  | k + 1, hk => by
    obtain ⟨h1, h2⟩ := price_fold G0 hc k (by omega)
    rw [List.range_succ, List.foldl_append]
    generalize (List.range k).foldl (topStep costs g) (top0 costs g) = top at h1 h2 ⊢
    show (topStep costs g top k).length = _ ∧ ∀ j, (topStep costs g top k).getD j 0 = g.low * costs.getD j 0 - (sumN k _ + costs.getD ((tab g).b k) 0 * (tab g).R k j)
    unfold topStep
    by_cases q : costs.getD (g.inside.getD k 0) 0 ≠ 0
    · rw [if_pos q]
      refine ⟨by rw [List.length_zipWith, h1, G0.row k (by omega), Nat.min_self], fun j => ?_⟩
      rw [getD_zipWith (by rw [h1, G0.row k (by omega)]) (by simp), h2]
      show _ - _ * (rowAt g k).getD j 0 = _ - (_ + _ * (rowAt g k).getD j 0)
      show _ - costs.getD (g.inside.getD k 0) 0 * _ = _ - (_ + costs.getD (g.inside.getD k 0) 0 * _)
      omega
    · rw [if_neg q]
      have q0 : costs.getD ((tab g).b k) 0 = 0 := by
        show costs.getD (g.inside.getD k 0) 0 = 0
        omega
      refine ⟨h1, fun j => ?_⟩
      rw [h2, q0]; omega
theorem tab_price : tab (priceM costs g) = tab g := rfl
theorem price_inv (G0 : GInv0 m n A g) (hc : costs.length = n + m) : GInv m n A (fun j => costs.getD j 0) (priceM costs g) := by
  have h := price_fold G0 hc m (Nat.le_refl _)
  exact ⟨⟨G0.rows, G0.row, G0.inside, by show ((List.range g.rows.length).foldl (topStep costs g) (top0 costs g)).length = _; rw [G0.rows]; exact h.1, G0.many⟩, G0.inv, fun j _ => by
    show ((List.range g.rows.length).foldl (topStep costs g) (top0 costs g)).getD j 0 = _
    rw [G0.rows]; exact h.2 j⟩
end
/-! the first grid -/
section
variable {m n : Nat} {rows : List (List Int)} {rights : List Int}
theorem rowAt_init {i : Nat} (hi : i < rows.length) : rowAt (gridInit rows rights n) i = lineOf rows rights i (rows.getD i []) := by
  unfold rowAt gridInit List.getD
  rw [List.getElem?_mapIdx, List.getElem?_eq_getElem hi]
  rfl
theorem line_get {i j : Nat} {row : List Int} (hl : row.length = n) : (lineOf rows rights i row).getD j 0 =
    if j < n then signOf (rights.getD i 0) * row.getD j 0 else if j < n + rows.length then (if j - n = i then 1 else 0) else if j = n + rows.length then signOf (rights.getD i 0) * rights.getD i 0 else 0 := by
  unfold lineOf List.getD
  by_cases h1 : j < n
  · rw [if_pos h1, List.append_assoc, List.getElem?_append_left (by simp [hl, h1]), List.getElem?_map, List.getElem?_eq_getElem (show j < row.length by omega)]
    rfl
  · rw [if_neg h1, List.append_assoc, List.getElem?_append_right (by simp [hl]; omega), List.length_map, hl]
    by_cases h2 : j < n + rows.length
    · rw [if_pos h2, List.getElem?_append_left (by simp; omega), List.getElem?_map, List.getElem?_range (by omega)]
      rfl
    · rw [if_neg h2, List.getElem?_append_right (by simp; omega), List.length_map, List.length_range]
      by_cases h3 : j = n + rows.length
      · rw [if_pos h3, h3]
        simp
      · rw [if_neg h3, List.getElem?_eq_none (by simp; omega)]
        rfl
theorem line_len {i : Nat} {row : List Int} (hl : row.length = n) : (lineOf rows rights i row).length = n + rows.length + 1 := by
  simp [lineOf, hl]; omega
def A0 (rows : List (List Int)) (rights : List Int) (n : Nat) : Nat → Nat → Int := (tab (gridInit rows rights n)).R
structure Rect (m n : Nat) (rows : List (List Int)) (rights : List Int) : Prop where
  many : rows.length = m
  rights : rights.length = m
  row : ∀ i, i < m → (rows.getD i []).length = n
theorem A0_get (h : Rect m n rows rights) {i j : Nat} (hi : i < m) : A0 rows rights n i j = 
    if j < n then signOf (rights.getD i 0) * (rows.getD i []).getD j 0 else if j < n + m then (if j - n = i then 1 else 0) else if j = n + m then signOf (rights.getD i 0) * rights.getD i 0 else 0 := by
  show (rowAt _ i).getD j 0 = _
  rw [rowAt_init (by rw [h.many]; exact hi), line_get (h.row i hi), h.many]
theorem A0_col (h : Rect m n rows rights) {i k : Nat} (hi : i < m) (hk : k < m) : A0 rows rights n i (n + k) = if i = k then 1 else 0 := by
  rw [A0_get h hi, if_neg (by omega), if_pos (by omega), Nat.add_sub_cancel_left]
  by_cases q : i = k
  · rw [if_pos q, if_pos q.symm]
  · rw [if_neg q, if_neg (Ne.symm q)]
theorem init_b (h : Rect m n rows rights) {i : Nat} (hi : i < m) : (tab (gridInit rows rights n)).b i = n + i := by
  show ((List.range rows.length).map fun i => n + i).getD i 0 = _
  unfold List.getD
  rw [List.getElem?_map, List.getElem?_range (by rw [h.many]; exact hi)]
  rfl
theorem init_inv (h : Rect m n rows rights) : GInv0 m n (A0 rows rights n) (gridInit rows rights n) := by
  refine ⟨by show (rows.mapIdx _).length = _; rw [List.length_mapIdx, h.many], fun i hi => ?_, by show ((List.range rows.length).map _).length = m; rw [List.length_map, List.length_range, h.many], rfl, ?_⟩
  · rw [rowAt_init (by rw [h.many]; exact hi), line_len (h.row i hi), h.many]
  · refine ⟨Int.zero_lt_one, fun i hi => by rw [init_b h hi]; omega, fun i hi k hk => ?_, fun j hj i hi => ?_, fun i hi j hj => ?_, ?_⟩
    · rw [init_b h hk]; exact A0_col h hi hk
    · show 1 * A0 rows rights n i j = _
      rw [sumN_congr (g := fun k => A0 rows rights n k j * (if i = k then 1 else 0)) fun k hk => by rw [init_b h hk, A0_col h hi hk]; rfl, sumN_one (k := i) hi fun k _ q => by rw [if_neg (Ne.symm q), Int.mul_zero], if_pos rfl]
      omega
    · show A0 rows rights n i j = _
      rw [sumN_congr (g := fun k => (if i = k then 1 else 0) * A0 rows rights n k j) fun k hk => by
        show A0 rows rights n i (n + k) * _ = _
        rw [A0_col h hi hk], sumN_one (k := i) hi fun k _ q => by rw [if_neg (Ne.symm q), Int.zero_mul], if_pos rfl]
      omega
    · have := det_one (m := m) (v := fun k i => A0 rows rights n i ((tab (gridInit rows rights n)).b k)) fun k hk c hc => by
        rw [init_b h hk, A0_col h hc hk]
        by_cases q : k = c
        · rw [if_pos q, if_pos q.symm]
        · rw [if_neg q, if_neg (Ne.symm q)]
      rw [this]; rfl
theorem init_feas (h : Rect m n rows rights) : Feas m (n + m) (tab (gridInit rows rights n)) := fun i hi => by
  show 0 ≤ A0 rows rights n i (n + m)
  rw [A0_get h hi, if_neg (by omega), if_neg (by omega), if_pos rfl]
  exact signOf_mul _
end
/-! helping columns go out -/
def firstNz (many : Nat) (row : List Int) : Option Nat := (List.range many).find? fun j => decide (row.getD j 0 ≠ 0)
def driveStep (g : G) (i : Nat) : G := if g.many ≤ g.inside.getD i 0 then (match firstNz g.many (rowAt g i) with | none => g | some c => turnM g i c) else g
def driveM (g : G) (k : Nat) : G := (List.range k).foldl driveStep g
section
variable {m n : Nat} {A : Nat → Nat → Int} {cost : Nat → Int} {g : G}
/-- the state ahead of row k: helping columns in the base have no amount, those of the rows ahead tell nothing -/
structure Drv (m n : Nat) (A : Nat → Nat → Int) (cost : Nat → Int) (k : Nat) (g : G) : Prop where
  inv : GInv m n A cost g
  feas : Feas m (n + m) (tab g)
  zero : ∀ i, i < m → n ≤ (tab g).b i → (tab g).R i (n + m) = 0
  dead : ∀ i, i < k → i < m → n ≤ (tab g).b i → ∀ j, j < n → (tab g).R i j = 0
theorem drv_step {k : Nat} (D : Drv m n A cost k g) (hk : k < m) : Drv m n A cost (k + 1) (driveStep g k) := by
  unfold driveStep
  rw [D.inv.shp.many]
  by_cases hb : n ≤ g.inside.getD k 0
  · rw [if_pos hb]
    cases e : firstNz n (rowAt g k) with
    | none =>
      have h := find_range_none e
      refine ⟨D.inv, D.feas, D.zero, fun i hi hm hb' j hj => ?_⟩
      rcases Nat.eq_or_lt_of_le (show i ≤ k by omega) with q | q
      · subst q
        have := h j hj
        show (rowAt g i).getD j 0 = 0
        simpa using this
      · exact D.dead i q hm hb' j hj
    | some c =>
      obtain ⟨h1, h2, h3⟩ := find_range_some e
      have hp : (tab g).R k c ≠ 0 := by
        show (rowAt g k).getD c 0 ≠ 0
        simpa using h2
      have z : (tab g).R k (n + m) = 0 := D.zero k hk hb
      have I := D.inv.inv
      have key : ∀ i, i < m → i ≠ k → (piv (tab g) k c).R i (n + m) = (tab g).R i (n + m) * (sgn ((tab g).R k c) * (tab g).R k c) / (tab g).low := fun i hi q => by
        show (if i = k then _ else _) = _
        rw [if_neg q, z]
        simp
      refine ⟨ginv_turn D.inv hk (by omega) hp, fun i hi => ?_, fun i hi hb' => ?_, fun i hi hm hb' j hj => ?_⟩
      · rw [tab_turn D.inv.shp hk]
        by_cases q : i = k
        · subst q
          rw [piv_r, z]; simp
        · rw [key i hi q, sgn_mul]
          exact Int.ediv_nonneg (Int.mul_nonneg (D.feas i hi) (by omega)) (Int.le_of_lt I.low)
      · rw [tab_turn D.inv.shp hk] at hb' ⊢
        by_cases q : i = k
        · subst q
          have : (piv (tab g) i c).b i = c := put_same
          omega
        · have e2 : (piv (tab g) k c).b i = (tab g).b i := put_ne q
          rw [e2] at hb'
          rw [key i hi q, D.zero i hi hb']
          simp
      · rw [tab_turn D.inv.shp hk] at hb' ⊢
        by_cases q : i = k
        · subst q
          have : (piv (tab g) i c).b i = c := put_same
          omega
        · have e2 : (piv (tab g) k c).b i = (tab g).b i := put_ne q
          rw [e2] at hb'
          have d := D.dead i (by omega) hm hb'
          show (if i = k then _ else _) = (0 : Int)
          rw [if_neg q, d j hj, d c h1]
          simp
  · rw [if_neg hb]
    refine ⟨D.inv, D.feas, D.zero, fun i hi hm hb' j hj => ?_⟩
    rcases Nat.eq_or_lt_of_le (show i ≤ k by omega) with q | q
    · subst q
      exact absurd hb' hb
    · exact D.dead i q hm hb' j hj
theorem drv_all (D : Drv m n A cost 0 g) : ∀ k, k ≤ m → Drv m n A cost k (driveM g k)
  | 0, _ => D
  | k + 1, hk => by
    have := drv_step (drv_all D k (by omega)) (by omega)
    unfold driveM
    rw [List.range_succ, List.foldl_append]
    exact this
theorem drv_dead {k : Nat} (D : Drv m n A cost k g) (hk : m ≤ k) : Dead m n (tab g) := fun i hi hb => ⟨D.zero i hi hb, fun j hj => D.dead i (by omega) hi hb j hj⟩
end
/-- what holds at each turn holds at the end -/
theorem Run.keep {m n allowed : Nat} {A : Nat → Nat → Int} {cost : Nat → Int} (ha : allowed ≤ n) {k : Nat} {g g' : G} {res : Option Nat} (R : Run (Good m n A cost) allowed k g g' res) (d : Dead m n (tab g)) : Dead m n (tab g') := by
  induction R with
  | stop w e => exact d
  | ray w e1 e2 => exact d
  | @step _ g _ c k _ w e1 e2 _ ih =>
    obtain ⟨hr, hl⟩ := leave_of w.1 e2
    have he := enter_of w.1 ha e1
    refine ih ?_
    rw [tab_turn w.1.shp hr]
    exact dead_piv w.1.inv d hr (by have := he.1; omega) (by have := hl.pos; omega)
end Cp
end
/-! ## MSolve2 -/
section
set_option autoImplicit false
set_option linter.all false
set_option maxHeartbeats 4000000
/-! the run from the first grid to the end; sizes -/
namespace Cp
theorem detB_le : ∀ {m E : Nat}, 1 ≤ E → m ≤ 5 → detB m (fun _ => E) ≤ 120 * E ^ m
  | 0, E, _, _ => by simp [detB]
  | 1, E, h, _ => by simp [detB]; omega
  | 2, E, h, _ => by simp only [detB]; have : E ^ 2 = E * E := by rw [Nat.pow_succ, Nat.pow_one]
                     rw [this]; have := Nat.mul_le_mul_right (E * E) (show 2 ≤ 120 by decide); grind
  | 3, E, h, _ => by simp only [detB]; have : E ^ 3 = E * E * E := by grind
                     rw [this]; have := Nat.mul_le_mul_right (E * E * E) (show 6 ≤ 120 by decide); grind
  | 4, E, h, _ => by simp only [detB]; have : E ^ 4 = E * E * E * E := by grind
                     rw [this]; have := Nat.mul_le_mul_right (E * E * E * E) (show 24 ≤ 120 by decide); grind
  | 5, E, h, _ => by simp only [detB]; have : E ^ 5 = E * E * E * E * E := by grind
                     rw [this]; have := Nat.mul_le_mul_right (E * E * E * E * E) (show 120 ≤ 120 by decide); grind
  | m + 6, E, _, h => by omega
/-- how great the numbers of the grid are -/
def Abd (m n : Nat) (A : Nat → Nat → Int) (E : Nat) : Prop := ∀ i, i < m → ∀ j, j ≤ n + m → (A i j).natAbs ≤ E
section
variable {m n : Nat} {A : Nat → Nat → Int} {t : Tab} {E : Nat}
theorem R_le (I : TInv m n A t) (h : Abd m n A E) {i j : Nat} (hi : i < m) (hj : j ≤ n + m) : (t.R i j).natAbs ≤ detB m fun _ => E := by
  rw [entry_abs I hi hj]
  refine det_bound fun k hk c hc => ?_
  by_cases q : k = i
  · subst q; rw [put_same]; exact h c hc j hj
  · rw [put_ne q]; exact h c hc _ (Nat.le_of_lt (I.bN k hk))
theorem low_le (I : TInv m n A t) (h : Abd m n A E) : t.low.natAbs ≤ detB m fun _ => E := by
  rw [← I.dt]
  exact det_bound fun k hk c hc => h c hc _ (Nat.le_of_lt (I.bN k hk))
theorem top_le {cost : Nat → Int} (I : TInv m n A t) (h : Abd m n A E) {C : Nat} (hc : ∀ j, (cost j).natAbs ≤ C) {j : Nat} (hj : j ≤ n + m) : (topOf m cost t j).natAbs ≤ (m + 1) * ((detB m fun _ => E) * C) := by
  unfold topOf
  have h1 : (t.low * cost j).natAbs ≤ (detB m fun _ => E) * C := by
    rw [Int.natAbs_mul]; exact Nat.mul_le_mul (low_le I h) (hc j)
  have h2 : (sumN m fun i => cost (t.b i) * t.R i j).natAbs ≤ m * ((detB m fun _ => E) * C) := natAbs_sumN fun i hi => by
    rw [Int.natAbs_mul, Nat.mul_comm]; exact Nat.mul_le_mul (R_le I h hi hj) (hc _)
  have := Int.natAbs_sub_le (t.low * cost j) (sumN m fun i => cost (t.b i) * t.R i j)
  rw [Nat.add_mul]; omega
end
def costs1 (n m : Nat) : List Int := List.replicate n 0 ++ List.replicate m 1
def costs2 (prices : List Int) (m : Nat) : List Int := prices ++ List.replicate m 0
theorem costs1_get (n m : Nat) : (fun j => (costs1 n m).getD j 0) = cost1 m n := by
  funext j
  unfold costs1 cost1 List.getD
  by_cases h : j < n
  · rw [List.getElem?_append_left (by simpa using h), if_neg (by omega), List.getElem?_replicate, if_pos h]; rfl
  · rw [List.getElem?_append_right (by simp; omega), List.getElem?_replicate, List.length_replicate]
    by_cases h2 : j < n + m
    · rw [if_pos (by omega), if_pos (by omega)]; rfl
    · rw [if_neg (by omega), if_neg (by omega)]; rfl
theorem costs2_get {prices : List Int} {n m : Nat} (hp : prices.length = n) (j : Nat) : (costs2 prices m).getD j 0 = prices.getD j 0 := by
  unfold costs2 List.getD
  by_cases h : j < n
  · rw [List.getElem?_append_left (by omega)]
  · rw [List.getElem?_append_right (by omega), List.getElem?_replicate, List.getElem?_eq_none (l := prices) (by omega)]
    split <;> rfl
theorem costs1_len (n m : Nat) : (costs1 n m).length = n + m := by simp [costs1]
theorem costs2_len {prices : List Int} {n m : Nat} (hp : prices.length = n) : (costs2 prices m).length = n + m := by simp [costs2, hp]
section
variable {m n : Nat} {rows : List (List Int)} {rights prices : List Int}
/-- the first run -/
def Ph1 (m n : Nat) (rows : List (List Int)) (rights : List Int) (g2 : G) : Prop :=
  ∃ k res, Run (Good m n (A0 rows rights n) (cost1 m n)) n k (priceM (costs1 n m) (gridInit rows rights n)) g2 res
theorem good1 (h : Rect m n rows rights) : Good m n (A0 rows rights n) (cost1 m n) (priceM (costs1 n m) (gridInit rows rights n)) := by
  have := price_inv (init_inv h) (costs1_len n m)
  rw [costs1_get] at this
  exact ⟨this, init_feas h⟩
theorem ph1_ex (h : Rect m n rows rights) : ∃ g2, Ph1 m n rows rights g2 := by
  obtain ⟨k, g', res, R⟩ := settle_ends (allowed := n) (Nat.le_refl _) (by unfold cost1; rw [if_neg (by omega)]) (good1 h)
  exact ⟨g', k, res, R⟩
theorem ph1_good {g2 : G} (p : Ph1 m n rows rights g2) : Good m n (A0 rows rights n) (cost1 m n) g2 := by
  obtain ⟨_, _, R⟩ := p
  exact R.last
theorem ph1_top {g2 : G} (p : Ph1 m n rows rights g2) : ∀ j, j < n → 0 ≤ topOf m (cost1 m n) (tab g2) j := by
  obtain ⟨k, res, R⟩ := p
  obtain ⟨h1, h2⟩ := run_end (Nat.le_refl n) R
  cases res with
  | none => exact h1 rfl
  | some c =>
    obtain ⟨_, q, z⟩ := h2 c rfl
    exact absurd q (no_ray1 R.last.1.inv z)
theorem last_top {m n : Nat} {A : Nat → Nat → Int} {cost : Nat → Int} {g : G} (I : GInv m n A cost g) : g.top.getLastD 0 = topOf m cost (tab g) (n + m) := by
  rw [lastD_get I.shp.top, I.top _ (Nat.le_refl _)]
theorem ph1_none {g2 : G} (p : Ph1 m n rows rights g2) (hz : g2.top.getLastD 0 ≠ 0) : ¬ ∃ x, SolA m n (A0 rows rights n) x := by
  have G2 := ph1_good p
  rw [last_top G2.1] at hz
  exact none1 G2.1.inv G2.2 (ph1_top p) hz
theorem ph1_drv {g2 : G} (p : Ph1 m n rows rights g2) (hz : g2.top.getLastD 0 = 0) : Drv m n (A0 rows rights n) (cost1 m n) 0 g2 := by
  have G2 := ph1_good p
  rw [last_top G2.1] at hz
  exact ⟨G2.1, G2.2, zero1 G2.1.inv G2.2 hz, fun i hi => by omega⟩
theorem drv_good {g3 : G} {k : Nat} (hk : m ≤ k) (hp : prices.length = n) (D : Drv m n (A0 rows rights n) (cost1 m n) k g3) :
    Good m n (A0 rows rights n) (fun j => (costs2 prices m).getD j 0) (priceM (costs2 prices m) g3) ∧ Dead m n (tab (priceM (costs2 prices m) g3)) :=
  ⟨⟨price_inv D.inv.to0 (costs2_len hp), D.feas⟩, (drv_dead D hk : Dead m n (tab g3))⟩
/-- the second run -/
def Ph2 (m n : Nat) (rows : List (List Int)) (rights prices : List Int) (g5 : G) (res : Option Nat) : Prop :=
  ∃ g2 k, Ph1 m n rows rights g2 ∧ g2.top.getLastD 0 = 0 ∧ Run (Good m n (A0 rows rights n) (fun j => (costs2 prices m).getD j 0)) n k (priceM (costs2 prices m) (driveM g2 m)) g5 res
theorem ph2_ex (hp : prices.length = n) {g2 : G} (p : Ph1 m n rows rights g2) (hz : g2.top.getLastD 0 = 0) : ∃ g5 res, Ph2 m n rows rights prices g5 res := by
  obtain ⟨w, _⟩ := drv_good (prices := prices) (Nat.le_refl m) hp (drv_all (ph1_drv p hz) m (Nat.le_refl _))
  obtain ⟨k, g', res, R⟩ := settle_ends (allowed := n) (Nat.le_refl _) (by rw [costs2_get hp]; unfold List.getD; rw [List.getElem?_eq_none (by omega)]; rfl) w
  exact ⟨g', res, g2, k, p, hz, R⟩
theorem ph2_end (hp : prices.length = n) {g5 : G} {res : Option Nat} (p : Ph2 m n rows rights prices g5 res) : GInv m n (A0 rows rights n) (fun j => (costs2 prices m).getD j 0) g5 ∧ Feas m (n + m) (tab g5) ∧ Dead m n (tab g5) ∧
    (res = none → ∀ j, j < n → 0 ≤ topOf m (fun j => (costs2 prices m).getD j 0) (tab g5) j) ∧ (∀ c, res = some c → c < n ∧ topOf m (fun j => (costs2 prices m).getD j 0) (tab g5) c < 0 ∧ ∀ i, i < m → (tab g5).R i c ≤ 0) := by
  obtain ⟨g2, k, p1, hz, R⟩ := p
  obtain ⟨w, d⟩ := drv_good (prices := prices) (Nat.le_refl m) hp (drv_all (ph1_drv p1 hz) m (Nat.le_refl _))
  obtain ⟨h1, h2⟩ := run_end (Nat.le_refl n) R
  exact ⟨R.last.1, R.last.2, R.keep (Nat.le_refl n) d, h1, h2⟩
end
end Cp
end
/-! ## MTask -/
section
set_option autoImplicit false
set_option linter.all false
set_option maxHeartbeats 4000000
/-! tasks: plans, weights, columns not below 0 -/
namespace Cp
inductive Sn | ge | le | eq
deriving DecidableEq
structure Rw where
  cs : List Int
  sn : Sn
  rt : Int
structure Tsk where
  ks : List Bool
  cs : List Int
  rows : List Rw
/-- the sum of the products -/
def dotR : List Int → List Rat → Rat
  | n :: ns, x :: xs => n * x + dotR ns xs
  | _, _ => 0
def dotQ : List Rat → List Rat → Rat
  | n :: ns, x :: xs => n * x + dotQ ns xs
  | _, _ => 0
def PosK : List Bool → List Rat → Prop
  | [], [] => True
  | k :: ks, x :: xs => (k = true → 0 ≤ x) ∧ PosK ks xs
  | _, _ => False
def Rw.holds (r : Rw) (x : List Rat) : Prop := match r.sn with
  | .ge => (r.rt : Rat) ≤ dotR r.cs x
  | .le => dotR r.cs x ≤ (r.rt : Rat)
  | .eq => dotR r.cs x = (r.rt : Rat)
structure Plan (T : Tsk) (x : List Rat) : Prop where
  pos : PosK T.ks x
  rows : ∀ r, r ∈ T.rows → r.holds x
def negs (xs : List Int) : List Int := xs.map fun one => -one
def Rw.plain (r : Rw) : Rw := match r.sn with
  | .le => ⟨negs r.cs, .ge, -r.rt⟩
  | _ => r
def Tsk.plain (T : Tsk) : Tsk := ⟨T.ks, T.cs, T.rows.map Rw.plain⟩
theorem dotR_negs : ∀ (a : List Int) (x : List Rat), dotR (negs a) x = - dotR a x
  | [], x => by cases x <;> simp [negs, dotR]
  | a :: as, [] => by simp [negs, dotR]
  | a :: as, x :: xs => by
    have := dotR_negs as xs
    show ((-a : Int) : Rat) * x + dotR (negs as) xs = -(_ + _)
    rw [this, Rat.intCast_neg]; grind
theorem plain_holds (r : Rw) (x : List Rat) : r.plain.holds x ↔ r.holds x := by
  unfold Rw.plain Rw.holds
  cases h : r.sn with
  | ge => simp [h]
  | eq => simp [h]
  | le =>
    simp only
    rw [dotR_negs, Rat.intCast_neg]
    constructor <;> intro <;> grind
theorem plain_plan (T : Tsk) (x : List Rat) : Plan T.plain x ↔ Plan T x :=
  ⟨fun h => ⟨h.pos, fun r hr => (plain_holds r x).mp (h.rows _ (List.mem_map.mpr ⟨r, hr, rfl⟩))⟩, fun h => ⟨h.pos, fun r hr => by
    obtain ⟨q, hq, rfl⟩ := List.mem_map.mp hr
    exact (plain_holds q x).mpr (h.rows q hq)⟩⟩
theorem PosK.len : ∀ {ks : List Bool} {x : List Rat}, PosK ks x → x.length = ks.length
  | [], [], _ => rfl
  | k :: ks, x :: xs, h => by show xs.length + 1 = ks.length + 1; rw [PosK.len h.2]
  | [], _ :: _, h => h.elim
  | _ :: _, [], h => h.elim
/-! rows as sums -/
theorem sumQ_shift {n : Nat} {f : Nat → Rat} : sumQ (n + 1) f = f 0 + sumQ n fun i => f (i + 1) := by
  induction n with
  | zero => simp only [sumQ]; grind
  | succ n ih =>
    show sumQ (n + 1) f + f (n + 1) = f 0 + (sumQ n (fun i => f (i + 1)) + f (n + 1))
    rw [ih]; grind
theorem dot_sum : ∀ {n : Nat} {a : List Int} {x : List Rat}, a.length = n → x.length = n → dotR a x = sumQ n fun q => (a.getD q 0 : Rat) * x.getD q 0
  | 0, [], [], _, _ => rfl
  | n + 1, a :: as, x :: xs, h1, h2 => by
    rw [sumQ_shift]
    show (a : Rat) * x + dotR as xs = _
    rw [dot_sum (n := n) (by simpa using h1) (by simpa using h2)]
    rfl
  | 0, _ :: _, _, h, _ => by simp at h
  | 0, [], _ :: _, _, h => by simp at h
  | _ + 1, [], _, h, _ => by simp at h
  | _ + 1, _ :: _, [], _, h => by simp at h
theorem dotQ_sum : ∀ {n : Nat} {a : List Rat} {x : List Rat}, a.length = n → x.length = n → dotQ a x = sumQ n fun q => a.getD q 0 * x.getD q 0
  | 0, [], [], _, _ => rfl
  | n + 1, a :: as, x :: xs, h1, h2 => by
    rw [sumQ_shift]
    show a * x + dotQ as xs = _
    rw [dotQ_sum (n := n) (by simpa using h1) (by simpa using h2)]
    rfl
  | 0, _ :: _, _, h, _ => by simp at h
  | 0, [], _ :: _, _, h => by simp at h
  | _ + 1, [], _, h, _ => by simp at h
  | _ + 1, _ :: _, [], _, h => by simp at h
/-! spread -/
def expand : List Bool → List Int → List Int
  | k :: ks, a :: as => if k then a :: expand ks as else a :: -a :: expand ks as
  | _, _ => []
def wid : List Bool → Nat
  | [] => 0
  | k :: ks => (if k then 1 else 2) + wid ks
def gath : List Bool → List Rat → List Rat
  | [], _ => []
  | k :: ks, xs => if k then xs.getD 0 0 :: gath ks (xs.drop 1) else (xs.getD 0 0 - xs.getD 1 0) :: gath ks (xs.drop 2)
def ungath : List Bool → List Rat → List Rat
  | k :: ks, x :: xs => if k then x :: ungath ks xs else (if 0 ≤ x then x else 0) :: (if 0 ≤ x then 0 else -x) :: ungath ks xs
  | _, _ => []
theorem expand_len : ∀ {ks : List Bool} {as : List Int}, as.length = ks.length → (expand ks as).length = wid ks
  | [], [], _ => rfl
  | k :: ks, a :: as, h => by
    have := expand_len (ks := ks) (as := as) (by simpa using h)
    cases k <;> simp [expand, wid, this] <;> omega
  | [], _ :: _, h => by simp at h
  | _ :: _, [], h => by simp at h
theorem ungath_len : ∀ {ks : List Bool} {as : List Rat}, as.length = ks.length → (ungath ks as).length = wid ks
  | [], [], _ => rfl
  | k :: ks, a :: as, h => by
    have := ungath_len (ks := ks) (as := as) (by simpa using h)
    cases k <;> simp [ungath, wid, this] <;> omega
  | [], _ :: _, h => by simp at h
  | _ :: _, [], h => by simp at h
theorem gath_len : ∀ {ks : List Bool} {xs : List Rat}, (gath ks xs).length = ks.length
  | [], _ => rfl
  | k :: ks, xs => by cases k <;> simp [gath, gath_len]
theorem dot_gath : ∀ {ks : List Bool} {as sl : List Int} {xs : List Rat}, as.length = ks.length → xs.length = wid ks + sl.length → dotR (expand ks as ++ sl) xs = dotR as (gath ks xs) + dotR sl (xs.drop (wid ks))
  | [], [], sl, xs, _, _ => by
    show dotR sl xs = dotR [] _ + dotR sl xs
    simp only [dotR]; grind
  | true :: ks, a :: as, sl, x :: xs, h1, h2 => by
    have ih := dot_gath (ks := ks) (as := as) (sl := sl) (xs := xs) (by simpa using h1) (by simp [wid] at h2; omega)
    have e : (x :: xs).drop (wid (true :: ks)) = xs.drop (wid ks) := by
      simp [wid, Nat.add_comm 1]
    rw [e]
    show (a : Rat) * x + dotR (expand ks as ++ sl) xs = (a : Rat) * x + dotR as (gath ks xs) + _
    rw [ih]; grind
  | false :: ks, a :: as, sl, x :: y :: xs, h1, h2 => by
    have ih := dot_gath (ks := ks) (as := as) (sl := sl) (xs := xs) (by simpa using h1) (by simp [wid] at h2; omega)
    have e : (x :: y :: xs).drop (wid (false :: ks)) = xs.drop (wid ks) := by
      simp [wid, Nat.add_comm 2]
    rw [e]
    show (a : Rat) * x + (((-a : Int) : Rat) * y + dotR (expand ks as ++ sl) xs) = (a : Rat) * (x - y) + dotR as (gath ks xs) + _
    rw [ih, Rat.intCast_neg]; grind
  | true :: ks, _ :: _, sl, [], _, h => by simp [wid] at h; omega
  | false :: ks, _ :: _, sl, [], _, h => by simp [wid] at h; omega
  | false :: ks, _ :: _, sl, [_], _, h => by simp [wid] at h; omega
  | [], _ :: _, _, _, h, _ => by simp at h
  | _ :: _, [], _, _, h, _ => by simp at h
theorem gath_ungath : ∀ {ks : List Bool} {x s : List Rat}, x.length = ks.length → gath ks (ungath ks x ++ s) = x
  | [], [], s, _ => rfl
  | true :: ks, x :: xs, s, h => by
    show x :: gath ks (ungath ks xs ++ s) = _
    rw [gath_ungath (by simpa using h)]
  | false :: ks, x :: xs, s, h => by
    show ((if 0 ≤ x then x else 0) - (if 0 ≤ x then 0 else -x)) :: gath ks (ungath ks xs ++ s) = _
    rw [gath_ungath (by simpa using h)]
    congr 1
    split <;> grind
  | [], _ :: _, _, h => by simp at h
  | _ :: _, [], _, h => by simp at h
theorem getD_nonneg {xs : List Rat} (h : ∀ x, x ∈ xs → 0 ≤ x) (j : Nat) : 0 ≤ xs.getD j 0 := by
  unfold List.getD
  cases e : xs[j]? with
  | none => exact Rat.le_refl
  | some v => exact h v (List.mem_of_getElem? e)
theorem ungath_nonneg : ∀ {ks : List Bool} {x : List Rat}, PosK ks x → ∀ v, v ∈ ungath ks x → 0 ≤ v
  | [], [], _, v, h => by simp [ungath] at h
  | true :: ks, x :: xs, p, v, h => by
    have h : v ∈ x :: ungath ks xs := h
    rcases List.mem_cons.mp h with rfl | h
    · exact p.1 rfl
    · exact ungath_nonneg p.2 v h
  | false :: ks, x :: xs, p, v, h => by
    have h : v ∈ (if 0 ≤ x then x else 0) :: (if 0 ≤ x then 0 else -x) :: ungath ks xs := h
    rcases List.mem_cons.mp h with rfl | h
    · split <;> grind
    rcases List.mem_cons.mp h with rfl | h
    · split <;> grind
    · exact ungath_nonneg p.2 v h
theorem gath_pos : ∀ {ks : List Bool} {xs : List Rat}, (∀ x, x ∈ xs → 0 ≤ x) → PosK ks (gath ks xs)
  | [], _, _ => trivial
  | true :: ks, xs, h => ⟨fun _ => getD_nonneg h 0, gath_pos fun x hx => h x (List.mem_of_mem_drop hx)⟩
  | false :: ks, xs, h => ⟨fun q => (by cases q), gath_pos fun x hx => h x (List.mem_of_mem_drop hx)⟩
/-! slack columns -/
def slackAt (rows : List Rw) : List Nat := (List.range rows.length).filter fun i => decide ((rows.getD i ⟨[], .eq, 0⟩).sn = .ge)
def slackLine (at_ : Nat) (idx : List Nat) : List Int := idx.map fun i => if i = at_ then -1 else 0
theorem slack_le : ∀ {idx : List Nat} {i : Nat} {s : List Rat}, (∀ x, x ∈ s → 0 ≤ x) → dotR (slackLine i idx) s ≤ 0
  | [], i, s, _ => by cases s <;> exact Rat.le_refl
  | _ :: _, i, [], _ => Rat.le_refl
  | k :: idx, i, x :: s, h => by
    have ih := slack_le (idx := idx) (i := i) (s := s) fun x hx => h x (List.mem_cons_of_mem _ hx)
    have := h x List.mem_cons_self
    show ((if k = i then (-1 : Int) else 0 : Int) : Rat) * x + dotR (slackLine i idx) s ≤ 0
    by_cases q : k = i
    · rw [if_pos q]
      have : ((-1 : Int) : Rat) = -1 := rfl
      rw [this]; grind
    · rw [if_neg q]
      have : ((0 : Int) : Rat) = 0 := rfl
      rw [this]; grind
theorem slack_no : ∀ {idx : List Nat} {i : Nat} {s : List Rat}, ¬ i ∈ idx → dotR (slackLine i idx) s = 0
  | [], i, s, _ => by cases s <;> rfl
  | _ :: _, i, [], _ => rfl
  | k :: idx, i, x :: s, h => by
    have ih := slack_no (idx := idx) (i := i) (s := s) fun q => h (List.mem_cons_of_mem _ q)
    show ((if k = i then (-1 : Int) else 0 : Int) : Rat) * x + dotR (slackLine i idx) s = 0
    rw [if_neg fun (q : k = i) => h (by rw [q]; exact List.mem_cons_self), ih]
    have : ((0 : Int) : Rat) = 0 := rfl
    rw [this]; grind
theorem slack_yes : ∀ {idx : List Nat} {i : Nat} (v : Nat → Rat), i ∈ idx → idx.Nodup → dotR (slackLine i idx) (idx.map v) = - v i
  | [], i, v, h, _ => by simp at h
  | k :: idx, i, v, h, nd => by
    show ((if k = i then (-1 : Int) else 0 : Int) : Rat) * v k + dotR (slackLine i idx) (idx.map v) = - v i
    rw [List.nodup_cons] at nd
    by_cases q : k = i
    · subst q
      rw [if_pos rfl, slack_no nd.1]
      have : ((-1 : Int) : Rat) = -1 := rfl
      rw [this]; grind
    · rw [if_neg q, slack_yes v (by rcases List.mem_cons.mp h with z | z; exact absurd z.symm q; exact z) nd.2]
      have : ((0 : Int) : Rat) = 0 := rfl
      rw [this]; grind
theorem slack_nodup (rows : List Rw) : (slackAt rows).Nodup := List.Pairwise.filter _ List.nodup_range
def rwAt (rows : List Rw) (i : Nat) : Rw := rows.getD i ⟨[], .eq, 0⟩
theorem mem_slack {rows : List Rw} {i : Nat} (hi : i < rows.length) : i ∈ slackAt rows ↔ (rwAt rows i).sn = .ge := by
  unfold slackAt
  rw [List.mem_filter]
  simp [hi, rwAt]
theorem rwAt_mem {rows : List Rw} {i : Nat} (hi : i < rows.length) : rwAt rows i ∈ rows := by
  unfold rwAt List.getD
  rw [List.getElem?_eq_getElem hi]
  exact List.getElem_mem hi
theorem mem_rwAt {rows : List Rw} {r : Rw} (h : r ∈ rows) : ∃ i, i < rows.length ∧ rwAt rows i = r := by
  obtain ⟨i, hi, e⟩ := List.getElem_of_mem h
  refine ⟨i, hi, ?_⟩
  unfold rwAt List.getD
  rw [List.getElem?_eq_getElem hi]
  exact e
/-- the lines of the grid -/
def linesOf (T : Tsk) : List (List Int) := T.rows.mapIdx fun i r => expand T.ks r.cs ++ slackLine i (slackAt T.rows)
def pricesOf (T : Tsk) : List Int := expand T.ks T.cs ++ List.replicate (slackAt T.rows).length 0
def rightsOf (T : Tsk) : List Int := T.rows.map (·.rt)
def widOf (T : Tsk) : Nat := wid T.ks + (slackAt T.rows).length
/-- well laid -/
structure Wl (T : Tsk) : Prop where
  cs : T.cs.length = T.ks.length
  row : ∀ r, r ∈ T.rows → r.cs.length = T.ks.length
section
variable {T : Tsk}
theorem line_at (i : Nat) (hi : i < T.rows.length) : (linesOf T).getD i [] = expand T.ks (rwAt T.rows i).cs ++ slackLine i (slackAt T.rows) := by
  unfold linesOf rwAt List.getD
  rw [List.getElem?_mapIdx, List.getElem?_eq_getElem hi]
  rfl
theorem right_at (i : Nat) (hi : i < T.rows.length) : (rightsOf T).getD i 0 = (rwAt T.rows i).rt := by
  unfold rightsOf rwAt List.getD
  rw [List.getElem?_map, List.getElem?_eq_getElem hi]
  rfl
theorem rect (W : Wl T) : Rect T.rows.length (widOf T) (linesOf T) (rightsOf T) :=
  ⟨by simp [linesOf], by simp [rightsOf], fun i hi => by
    rw [line_at i hi, List.length_append, expand_len (W.row _ (rwAt_mem hi))]
    simp [slackLine, widOf]⟩
theorem prices_len (W : Wl T) : (pricesOf T).length = widOf T := by
  simp [pricesOf, expand_len W.cs, widOf]
/-- a function of columns as a list -/
def listOf (n : Nat) (x : Nat → Rat) : List Rat := (List.range n).map x
theorem listOf_len (n : Nat) (x : Nat → Rat) : (listOf n x).length = n := by simp [listOf]
theorem listOf_get {n : Nat} {x : Nat → Rat} {q : Nat} (h : q < n) : (listOf n x).getD q 0 = x q := by
  unfold listOf List.getD
  rw [List.getElem?_map, List.getElem?_range h]; rfl
theorem listOf_nonneg {n : Nat} {x : Nat → Rat} (h : ∀ q, q < n → 0 ≤ x q) : ∀ v, v ∈ listOf n x → 0 ≤ v := fun v hv => by
  obtain ⟨q, hq, rfl⟩ := List.mem_map.mp hv
  exact h q (List.mem_range.mp hq)
theorem sum_dot {n : Nat} {a : List Int} {x : Nat → Rat} (h : a.length = n) : (sumQ n fun q => (a.getD q 0 : Rat) * x q) = dotR a (listOf n x) := by
  rw [dot_sum h (listOf_len n x)]
  exact sumQ_congr fun q hq => by rw [listOf_get hq]
/-- the rows of the grid, signs aside -/
theorem row_sum (W : Wl T) {k : Nat} (hk : k < T.rows.length) (x : Nat → Rat) : (sumQ (widOf T) fun q => (A0 (linesOf T) (rightsOf T) (widOf T) k q : Rat) * x q) = (signOf (rwAt T.rows k).rt : Rat) * dotR (expand T.ks (rwAt T.rows k).cs ++ slackLine k (slackAt T.rows)) (listOf (widOf T) x) := by
  have R := rect W
  rw [← sum_dot (by rw [← line_at k hk]; exact R.row k hk), ← sumQ_mul]
  refine sumQ_congr fun q hq => ?_
  rw [A0_get R hk, if_pos hq, right_at k hk, line_at k hk, Rat.intCast_mul]
  grind
theorem row_right (W : Wl T) {k : Nat} (hk : k < T.rows.length) : A0 (linesOf T) (rightsOf T) (widOf T) k (widOf T + T.rows.length) = signOf (rwAt T.rows k).rt * (rwAt T.rows k).rt := by
  rw [A0_get (rect W) hk, if_neg (by omega), if_neg (by omega), if_pos rfl, right_at k hk]
theorem signOf_sq (r : Int) : (signOf r : Rat) * (signOf r : Rat) = 1 := by
  have := signOf_pm r
  rcases this with h | h <;> rw [h] <;> rw [← Rat.intCast_mul] <;> rfl
theorem row_plan (W : Wl T) {k : Nat} (hk : k < T.rows.length) (x : Nat → Rat) : (sumQ (widOf T) fun q => (A0 (linesOf T) (rightsOf T) (widOf T) k q : Rat) * x q) = (A0 (linesOf T) (rightsOf T) (widOf T) k (widOf T + T.rows.length) : Rat) ↔ dotR (rwAt T.rows k).cs (gath T.ks (listOf (widOf T) x)) + dotR (slackLine k (slackAt T.rows)) ((listOf (widOf T) x).drop (wid T.ks)) = ((rwAt T.rows k).rt : Rat) := by
  rw [row_sum W hk, row_right W hk, Rat.intCast_mul, dot_gath (W.row _ (rwAt_mem hk)) (by simp [listOf_len, widOf, slackLine])]
  have := signOf_sq (rwAt T.rows k).rt
  constructor
  · intro h
    have h2 : ((signOf (rwAt T.rows k).rt : Rat) * (signOf (rwAt T.rows k).rt : Rat)) * (dotR (rwAt T.rows k).cs (gath T.ks (listOf (widOf T) x)) + dotR (slackLine k (slackAt T.rows)) ((listOf (widOf T) x).drop (wid T.ks))) = ((signOf (rwAt T.rows k).rt : Rat) * (signOf (rwAt T.rows k).rt : Rat)) * ((rwAt T.rows k).rt : Rat) := by grind
    rw [this] at h2
    grind
  · intro h; rw [h]
/-- plain: rows with >= or = -/
def Pn (T : Tsk) : Prop := ∀ r, r ∈ T.rows → r.sn = .ge ∨ r.sn = .eq
theorem plan_of (W : Wl T) (Pp : Pn T) {x : Nat → Rat} (h : SolA T.rows.length (widOf T) (A0 (linesOf T) (rightsOf T) (widOf T)) x) : Plan T (gath T.ks (listOf (widOf T) x)) := by
  have nn := listOf_nonneg h.1
  refine ⟨gath_pos nn, fun r hr => ?_⟩
  obtain ⟨k, hk, rfl⟩ := mem_rwAt hr
  have e := (row_plan W hk x).mp (h.2 k hk)
  unfold Rw.holds
  rcases Pp _ hr with q | q
  · rw [q]
    have := slack_le (idx := slackAt T.rows) (i := k) (s := (listOf (widOf T) x).drop (wid T.ks)) fun v hv => nn v (List.mem_of_mem_drop hv)
    show _ ≤ _
    grind
  · rw [q]
    have := slack_no (idx := slackAt T.rows) (i := k) (s := (listOf (widOf T) x).drop (wid T.ks)) fun z => by rw [mem_slack hk, q] at z; cases z
    show _ = _
    grind
/-- the columns of the grid for a plan -/
def planUp (T : Tsk) (x : List Rat) : List Rat := ungath T.ks x ++ (slackAt T.rows).map fun i => dotR (rwAt T.rows i).cs x - ((rwAt T.rows i).rt : Rat)
theorem listOf_getD {n : Nat} {x : List Rat} (h : x.length = n) : listOf n (fun q => x.getD q 0) = x := by
  refine List.ext_getElem? fun i => ?_
  unfold listOf
  rw [List.getElem?_map]
  rcases Nat.lt_or_ge i n with q | q
  · rw [List.getElem?_range q, List.getElem?_eq_getElem (by omega)]
    show some (x.getD i 0) = _
    unfold List.getD
    rw [List.getElem?_eq_getElem (by omega)]; rfl
  · rw [List.getElem?_eq_none (by simpa using q), List.getElem?_eq_none (by omega)]; rfl
theorem sol_of (W : Wl T) (Pp : Pn T) {x : List Rat} (h : Plan T x) : SolA T.rows.length (widOf T) (A0 (linesOf T) (rightsOf T) (widOf T)) fun q => (planUp T x).getD q 0 := by
  have hl : (ungath T.ks x).length = wid T.ks := ungath_len h.pos.len
  have hl2 : (planUp T x).length = widOf T := by simp [planUp, hl, widOf]
  refine ⟨fun q _ => getD_nonneg (fun v hv => ?_) q, fun k hk => ?_⟩
  · rcases List.mem_append.mp hv with z | z
    · exact ungath_nonneg h.pos v z
    · obtain ⟨i, hi, rfl⟩ := List.mem_map.mp z
      have hil : i < T.rows.length := List.mem_range.mp (List.mem_filter.mp hi).1
      have hs := (mem_slack hil).mp hi
      have := h.rows _ (rwAt_mem hil)
      unfold Rw.holds at this
      rw [hs] at this
      have this : ((rwAt T.rows i).rt : Rat) ≤ dotR (rwAt T.rows i).cs x := this
      grind
  · rw [row_plan W hk, listOf_getD hl2]
    unfold planUp
    rw [gath_ungath h.pos.len, List.drop_append_of_le_length (by omega), List.drop_of_length_le (by omega), List.nil_append]
    have hr := h.rows _ (rwAt_mem hk)
    unfold Rw.holds at hr
    rcases Pp _ (rwAt_mem hk) with q | q
    · rw [slack_yes _ ((mem_slack hk).mpr q) (slack_nodup _)]; grind
    · rw [slack_no fun z => by rw [mem_slack hk, q] at z; cases z]
      rw [q] at hr
      have hr : dotR (rwAt T.rows k).cs x = ((rwAt T.rows k).rt : Rat) := hr
      rw [hr]; grind
theorem dot_zeros : ∀ {k : Nat} {x : List Rat}, dotR (List.replicate k 0) x = 0
  | 0, x => by cases x <;> rfl
  | k + 1, [] => rfl
  | k + 1, x :: xs => by
    show ((0 : Int) : Rat) * x + dotR (List.replicate k 0) xs = 0
    rw [dot_zeros]
    have : ((0 : Int) : Rat) = 0 := rfl
    rw [this]; grind
/-- what columns of the grid cost -/
theorem cost_sum (W : Wl T) (x : Nat → Rat) : (sumQ (widOf T) fun q => ((costs2 (pricesOf T) T.rows.length).getD q 0 : Rat) * x q) = dotR T.cs (gath T.ks (listOf (widOf T) x)) := by
  rw [sumQ_congr (g := fun q => ((pricesOf T).getD q 0 : Rat) * x q) fun q _ => by rw [costs2_get (prices_len W)], sum_dot (prices_len W)]
  unfold pricesOf
  rw [dot_gath W.cs (by simp [listOf_len, widOf]), dot_zeros]; grind
end
/-! what the ends tell -/
/-- weights of the rows that no plan can cost less than -/
structure Dual (T : Tsk) (y : Nat → Rat) : Prop where
  pos : ∀ i, i < T.rows.length → (rwAt T.rows i).sn = .ge → 0 ≤ y i
  low : ∀ x, PosK T.ks x → (sumQ T.rows.length fun i => y i * dotR (rwAt T.rows i).cs x) ≤ dotR T.cs x
def promise (T : Tsk) (y : Nat → Rat) : Rat := sumQ T.rows.length fun i => y i * ((rwAt T.rows i).rt : Rat)
theorem weak {T : Tsk} (Pp : Pn T) {y : Nat → Rat} (D : Dual T y) {x : List Rat} (h : Plan T x) : promise T y ≤ dotR T.cs x := by
  have h1 := D.low x h.pos
  have h2 : promise T y ≤ sumQ T.rows.length fun i => y i * dotR (rwAt T.rows i).cs x := sumQ_le fun i hi => by
    have hr := h.rows _ (rwAt_mem hi)
    unfold Rw.holds at hr
    rcases Pp _ (rwAt_mem hi) with q | q
    · rw [q] at hr
      have hr : ((rwAt T.rows i).rt : Rat) ≤ dotR (rwAt T.rows i).cs x := hr
      exact Rat.mul_le_mul_of_nonneg_left hr (D.pos i hi q)
    · rw [q] at hr
      have hr : dotR (rwAt T.rows i).cs x = ((rwAt T.rows i).rt : Rat) := hr
      rw [hr]; exact Rat.le_refl
  exact Rat.le_trans h2 h1
/-- a change that can be added for ever -/
structure Way (T : Tsk) (w : List Rat) : Prop where
  pos : PosK T.ks w
  rows : ∀ r, r ∈ T.rows → match r.sn with
    | .ge => 0 ≤ dotR r.cs w
    | .le => dotR r.cs w ≤ 0
    | .eq => dotR r.cs w = 0
end Cp
end
/-! ## MTask2 -/
section
set_option autoImplicit false
set_option linter.all false
set_option maxHeartbeats 4000000
/-! how a plain task ends -/
namespace Cp
theorem ratle_of_eq {a b : Rat} (h : a = b) : a ≤ b := h ▸ Rat.le_refl
section
variable {T : Tsk}
theorem up_len {x : List Rat} (hx : x.length = T.ks.length) (v : Nat → Rat) : (ungath T.ks x ++ (slackAt T.rows).map v).length = widOf T := by
  simp [ungath_len hx, widOf]
theorem up_drop {x : List Rat} (hx : x.length = T.ks.length) (v : Nat → Rat) : (ungath T.ks x ++ (slackAt T.rows).map v).drop (wid T.ks) = (slackAt T.rows).map v := by
  have hl : (ungath T.ks x).length = wid T.ks := ungath_len hx
  rw [List.drop_append_of_le_length (by omega), List.drop_of_length_le (by omega), List.nil_append]
theorem end_low (W : Wl T) (Pp : Pn T) {t : Tab} (I : TInv T.rows.length (widOf T) (A0 (linesOf T) (rightsOf T) (widOf T)) t)
    (h : ∀ q, q < widOf T → (sumQ T.rows.length fun k => dualOf T.rows.length (widOf T) (fun j => (costs2 (pricesOf T) T.rows.length).getD j 0) t k * (A0 (linesOf T) (rightsOf T) (widOf T) k q : Rat)) ≤ ((costs2 (pricesOf T) T.rows.length).getD q 0 : Rat))
    (z : List Rat) (hz : z.length = widOf T) (hn : ∀ v, v ∈ z → 0 ≤ v) :
    (sumQ T.rows.length fun k => (signOf (rwAt T.rows k).rt : Rat) * dualOf T.rows.length (widOf T) (fun j => (costs2 (pricesOf T) T.rows.length).getD j 0) t k * (dotR (rwAt T.rows k).cs (gath T.ks z) + dotR (slackLine k (slackAt T.rows)) (z.drop (wid T.ks)))) ≤ dotR T.cs (gath T.ks z) := by
  have e := cost_sum W fun q => z.getD q 0
  rw [listOf_getD hz] at e
  rw [← e]
  have e2 : ∀ k, k < T.rows.length → (signOf (rwAt T.rows k).rt : Rat) * dualOf T.rows.length (widOf T) (fun j => (costs2 (pricesOf T) T.rows.length).getD j 0) t k * (dotR (rwAt T.rows k).cs (gath T.ks z) + dotR (slackLine k (slackAt T.rows)) (z.drop (wid T.ks)))
      = sumQ (widOf T) fun q => dualOf T.rows.length (widOf T) (fun j => (costs2 (pricesOf T) T.rows.length).getD j 0) t k * ((A0 (linesOf T) (rightsOf T) (widOf T) k q : Rat) * z.getD q 0) := fun k hk => by
    have r := row_sum W hk fun q => z.getD q 0
    rw [listOf_getD hz, dot_gath (W.row _ (rwAt_mem hk)) (by simp [hz, widOf, slackLine])] at r
    rw [sumQ_mul, r]; grind
  rw [sumQ_congr e2, sumQ_swap]
  refine sumQ_le fun q hq => ?_
  have h1 := h q hq
  have h2 : 0 ≤ z.getD q 0 := getD_nonneg hn q
  have h3 := Rat.mul_le_mul_of_nonneg_right h1 h2
  have e3 : (sumQ T.rows.length fun k => dualOf T.rows.length (widOf T) (fun j => (costs2 (pricesOf T) T.rows.length).getD j 0) t k * ((A0 (linesOf T) (rightsOf T) (widOf T) k q : Rat) * z.getD q 0)) = (sumQ T.rows.length fun k => dualOf T.rows.length (widOf T) (fun j => (costs2 (pricesOf T) T.rows.length).getD j 0) t k * (A0 (linesOf T) (rightsOf T) (widOf T) k q : Rat)) * z.getD q 0 := by
    rw [Rat.mul_comm, ← sumQ_mul]
    exact sumQ_congr fun k _ => by grind
  rw [e3]; exact h3
theorem zeros_dot : ∀ {a : List Int} {k : Nat}, dotR a (List.replicate k (0 : Rat)) = 0
  | [], k => by cases k <;> rfl
  | a :: as, 0 => rfl
  | a :: as, k + 1 => by
    show (a : Rat) * 0 + dotR as (List.replicate k 0) = 0
    rw [zeros_dot]; grind
theorem PosK.zeros : ∀ {ks : List Bool}, PosK ks (List.replicate ks.length 0)
  | [] => trivial
  | k :: ks => ⟨fun _ => Rat.le_refl, PosK.zeros⟩
theorem up_nonneg {x : List Rat} {v : Nat → Rat} (hx : PosK T.ks x) (hv : ∀ i, 0 ≤ v i) : ∀ z, z ∈ ungath T.ks x ++ (slackAt T.rows).map v → 0 ≤ z := fun z hz => by
  rcases List.mem_append.mp hz with h | h
  · exact ungath_nonneg hx z h
  · obtain ⟨i, _, rfl⟩ := List.mem_map.mp h
    exact hv i
theorem end_best (W : Wl T) (Pp : Pn T) {t : Tab} (I : TInv T.rows.length (widOf T) (A0 (linesOf T) (rightsOf T) (widOf T)) t) (f : Feas T.rows.length (widOf T + T.rows.length) t) (d : Dead T.rows.length (widOf T) t)
    (ht : ∀ j, j < widOf T → 0 ≤ topOf T.rows.length (fun j => (costs2 (pricesOf T) T.rows.length).getD j 0) t j) :
    Plan T (gath T.ks (listOf (widOf T) (amt T.rows.length (widOf T + T.rows.length) t))) ∧ ∃ y, Dual T y ∧ promise T y = dotR T.cs (gath T.ks (listOf (widOf T) (amt T.rows.length (widOf T + T.rows.length) t))) := by
  have c0 : (costs2 (pricesOf T) T.rows.length).getD (widOf T + T.rows.length) 0 = 0 := by
    unfold List.getD
    rw [List.getElem?_eq_none (by rw [costs2_len (prices_len W)]; omega)]; rfl
  obtain ⟨h1, h2⟩ := best2 I (cost := fun j => (costs2 (pricesOf T) T.rows.length).getD j 0) c0 f d ht
  refine ⟨plan_of W Pp (amt_sol I f d), fun k => (signOf (rwAt T.rows k).rt : Rat) * dualOf T.rows.length (widOf T) (fun j => (costs2 (pricesOf T) T.rows.length).getD j 0) t k, ⟨fun i hi hs => ?_, fun x hx => ?_⟩, ?_⟩
  · have z := end_low W Pp I h1 (ungath T.ks (List.replicate T.ks.length 0) ++ (slackAt T.rows).map fun j => if j = i then 1 else 0) (up_len (by simp) _) (up_nonneg PosK.zeros fun j => by split <;> decide)
    rw [gath_ungath (by simp), up_drop (by simp), zeros_dot, sumQ_one (k := i) hi fun k hk hne => ?_] at z
    · rw [zeros_dot, slack_yes _ ((mem_slack hi).mpr hs) (slack_nodup _), if_pos rfl] at z
      grind
    · rw [zeros_dot]
      by_cases q : k ∈ slackAt T.rows
      · rw [slack_yes _ q (slack_nodup _), if_neg hne]; grind
      · rw [slack_no q]; grind
  · have z := end_low W Pp I h1 (ungath T.ks x ++ (slackAt T.rows).map fun _ => 0) (up_len hx.len _) (up_nonneg hx fun _ => Rat.le_refl)
    rw [gath_ungath hx.len, up_drop hx.len] at z
    refine Rat.le_trans (ratle_of_eq ?_) z
    refine sumQ_congr fun k hk => ?_
    have : dotR (slackLine k (slackAt T.rows)) ((slackAt T.rows).map fun _ => (0 : Rat)) = 0 := by
      by_cases q : k ∈ slackAt T.rows
      · rw [slack_yes _ q (slack_nodup _)]; grind
      · rw [slack_no q]
    rw [this]; grind
  · rw [← cost_sum W, ← h2]
    unfold promise
    refine sumQ_congr fun k hk => ?_
    rw [row_right W hk, Rat.intCast_mul]; grind
theorem end_ray (W : Wl T) (Pp : Pn T) {t : Tab} (I : TInv T.rows.length (widOf T) (A0 (linesOf T) (rightsOf T) (widOf T)) t) (d : Dead T.rows.length (widOf T) t) {c : Nat} (hc : c < widOf T)
    (h1 : topOf T.rows.length (fun j => (costs2 (pricesOf T) T.rows.length).getD j 0) t c < 0) (h2 : ∀ i, i < T.rows.length → t.R i c ≤ 0) :
    Way T (gath T.ks (listOf (widOf T) (wayOf T.rows.length t c))) ∧ dotR T.cs (gath T.ks (listOf (widOf T) (wayOf T.rows.length t c))) < 0 := by
  obtain ⟨r1, r2, r3⟩ := ray2 I d hc h1 h2
  rw [cost_sum W] at r3
  have nn := listOf_nonneg r1
  refine ⟨⟨gath_pos nn, fun r hr => ?_⟩, r3⟩
  obtain ⟨k, hk, rfl⟩ := mem_rwAt hr
  have e := r2 k hk
  rw [row_sum W hk, dot_gath (W.row _ (rwAt_mem hk)) (by simp [listOf_len, widOf, slackLine])] at e
  have sq := signOf_sq (rwAt T.rows k).rt
  have e : dotR (rwAt T.rows k).cs (gath T.ks (listOf (widOf T) (wayOf T.rows.length t c))) + dotR (slackLine k (slackAt T.rows)) ((listOf (widOf T) (wayOf T.rows.length t c)).drop (wid T.ks)) = 0 := by
    have : ((signOf (rwAt T.rows k).rt : Rat) * (signOf (rwAt T.rows k).rt : Rat)) * (dotR (rwAt T.rows k).cs (gath T.ks (listOf (widOf T) (wayOf T.rows.length t c))) + dotR (slackLine k (slackAt T.rows)) ((listOf (widOf T) (wayOf T.rows.length t c)).drop (wid T.ks))) = 0 := by grind
    rw [sq] at this; grind
  rcases Pp _ hr with q | q
  · rw [q]
    have := slack_le (idx := slackAt T.rows) (i := k) (s := (listOf (widOf T) (wayOf T.rows.length t c)).drop (wid T.ks)) fun v hv => nn v (List.mem_of_mem_drop hv)
    show 0 ≤ _
    grind
  · rw [q]
    have := slack_no (idx := slackAt T.rows) (i := k) (s := (listOf (widOf T) (wayOf T.rows.length t c)).drop (wid T.ks)) fun z => by rw [mem_slack hk, q] at z; cases z
    show _ = _
    grind
/-- sizes -/
def Rsz (T : Tsk) (E : Nat) : Prop := ∀ r, r ∈ T.rows → (∀ a, a ∈ r.cs → a.natAbs ≤ E) ∧ r.rt.natAbs ≤ E
theorem getD_le {xs : List Int} {E : Nat} (h : ∀ a, a ∈ xs → a.natAbs ≤ E) (j : Nat) : (xs.getD j 0).natAbs ≤ E := by
  unfold List.getD
  cases e : xs[j]? with
  | none => exact Nat.zero_le _
  | some v => exact h v (List.mem_of_getElem? e)
theorem expand_mem : ∀ {ks : List Bool} {as : List Int} {E : Nat}, (∀ a, a ∈ as → a.natAbs ≤ E) → ∀ v, v ∈ expand ks as → v.natAbs ≤ E
  | [], as, E, _, v, hv => by cases as <;> simp [expand] at hv
  | k :: ks, [], E, _, v, hv => by simp [expand] at hv
  | true :: ks, a :: as, E, h, v, hv => by
    have hv : v ∈ a :: expand ks as := hv
    rcases List.mem_cons.mp hv with rfl | hv
    · exact h _ List.mem_cons_self
    · exact expand_mem (fun b hb => h b (List.mem_cons_of_mem _ hb)) v hv
  | false :: ks, a :: as, E, h, v, hv => by
    have hv : v ∈ a :: -a :: expand ks as := hv
    have := h a List.mem_cons_self
    rcases List.mem_cons.mp hv with rfl | hv
    · exact this
    rcases List.mem_cons.mp hv with rfl | hv
    · omega
    · exact expand_mem (fun b hb => h b (List.mem_cons_of_mem _ hb)) v hv
theorem signOf_le (r x : Int) : (signOf r * x).natAbs = x.natAbs := by
  rcases signOf_pm r with h | h <;> rw [h] <;> omega
theorem abd (W : Wl T) {E : Nat} (hE : 1 ≤ E) (S : Rsz T E) : Abd T.rows.length (widOf T) (A0 (linesOf T) (rightsOf T) (widOf T)) E := fun i hi j hj => by
  rw [A0_get (rect W) hi]
  have hS := S _ (rwAt_mem hi)
  split
  · rw [signOf_le, line_at i hi]
    refine getD_le (fun a ha => ?_) j
    rcases List.mem_append.mp ha with z | z
    · exact expand_mem hS.1 a z
    · obtain ⟨q, _, rfl⟩ := List.mem_map.mp z
      split <;> omega
  split
  · split <;> omega
  split
  · rw [signOf_le, right_at i hi]; exact hS.2
  · omega
/-- numbers by one divisor -/
def Box (B : Nat) (x : List Rat) : Prop := ∃ d : Nat, 0 < d ∧ d ≤ B ∧ ∀ v, v ∈ x → ∃ p : Int, p.natAbs ≤ 2 * B ∧ v = (p : Rat) / (d : Rat)
theorem gath_mem : ∀ {ks : List Bool} {xs : List Rat} {Q : Rat → Prop}, (∀ x y, (x = 0 ∨ x ∈ xs) → (y = 0 ∨ y ∈ xs) → Q (x - y)) → (∀ x, (x = 0 ∨ x ∈ xs) → Q x) → ∀ v, v ∈ gath ks xs → Q v
  | [], xs, Q, _, _, v, hv => by simp [gath] at hv
  | k :: ks, xs, Q, h1, h2, v, hv => by
    have gm : ∀ j, xs.getD j 0 = 0 ∨ xs.getD j 0 ∈ xs := fun j => by
      unfold List.getD
      cases e : xs[j]? with
      | none => exact .inl rfl
      | some v => exact .inr (List.mem_of_getElem? e)
    have dr : ∀ k x, (x = 0 ∨ x ∈ xs.drop k) → (x = 0 ∨ x ∈ xs) := fun k x h => h.imp id List.mem_of_mem_drop
    cases k with
    | true =>
      have hv : v ∈ xs.getD 0 0 :: gath ks (xs.drop 1) := hv
      rcases List.mem_cons.mp hv with rfl | hv
      · exact h2 _ (gm 0)
      · exact gath_mem (fun x y hx hy => h1 x y (dr 1 x hx) (dr 1 y hy)) (fun x hx => h2 x (dr 1 x hx)) v hv
    | false =>
      have hv : v ∈ (xs.getD 0 0 - xs.getD 1 0) :: gath ks (xs.drop 2) := hv
      rcases List.mem_cons.mp hv with rfl | hv
      · exact h1 _ _ (gm 0) (gm 1)
      · exact gath_mem (fun x y hx hy => h1 x y (dr 2 x hx) (dr 2 y hy)) (fun x hx => h2 x (dr 2 x hx)) v hv
theorem sub_div' (a b d : Rat) : a / d - b / d = (a - b) / d := by
  rw [Rat.div_def, Rat.div_def, Rat.div_def]; grind
theorem box_of (W : Wl T) {E : Nat} (hE : 1 ≤ E) (S : Rsz T E) {t : Tab} (I : TInv T.rows.length (widOf T) (A0 (linesOf T) (rightsOf T) (widOf T)) t) :
    Box (detB T.rows.length fun _ => E) (gath T.ks (listOf (widOf T) (amt T.rows.length (widOf T + T.rows.length) t))) := by
  have ha := abd W hE S
  have hl := I.low
  have key : ∀ x, (x = 0 ∨ x ∈ listOf (widOf T) (amt T.rows.length (widOf T + T.rows.length) t)) → ∃ p : Int, x = (p : Rat) / (t.low : Rat) ∧ p.natAbs ≤ detB T.rows.length fun _ => E := fun x hx => by
    rcases hx with rfl | hx
    · exact ⟨0, by simp [Rat.div_def], Nat.zero_le _⟩
    · obtain ⟨q, _, rfl⟩ := List.mem_map.mp hx
      obtain ⟨p, h1, h2⟩ := amt_num I q (B := ((detB T.rows.length fun _ => E : Nat) : Int)) (by omega) fun i hi => by
        have := R_le I ha hi (Nat.le_refl (widOf T + T.rows.length)); omega
      exact ⟨p, h1, by omega⟩
  refine ⟨t.low.natAbs, by omega, low_le I ha, ?_⟩
  have el : ((t.low.natAbs : Nat) : Rat) = (t.low : Rat) := by
    have : ((t.low.natAbs : Nat) : Int) = t.low := by omega
    rw [← Rat.intCast_natCast, this]
  rw [el]
  refine gath_mem (fun x y hx hy => ?_) fun x hx => ?_
  · obtain ⟨p, rfl, h1⟩ := key x hx
    obtain ⟨q, rfl, h2⟩ := key y hy
    refine ⟨p - q, by have := Int.natAbs_sub_le p q; omega, ?_⟩
    rw [sub_div', Rat.intCast_sub]
  · obtain ⟨p, rfl, h1⟩ := key x hx
    exact ⟨p, by omega, rfl⟩
/-- one of three ends -/
theorem task_cases (W : Wl T) (Pp : Pn T) {E : Nat} (hE : 1 ≤ E) (S : Rsz T E) : (¬ ∃ x, Plan T x) ∨
    (∃ x y, Plan T x ∧ Box (detB T.rows.length fun _ => E) x ∧ Dual T y ∧ promise T y = dotR T.cs x) ∨ (∃ x w, Plan T x ∧ Way T w ∧ dotR T.cs w < 0) := by
  obtain ⟨g2, p1⟩ := ph1_ex (rect W)
  by_cases hz : g2.top.getLastD 0 = 0
  · obtain ⟨g5, res, p2⟩ := ph2_ex (prices_len W) p1 hz
    obtain ⟨I, f, d, h1, h2⟩ := ph2_end (prices_len W) p2
    cases res with
    | none =>
      obtain ⟨pl, y, dy, pr⟩ := end_best W Pp I.inv f d (h1 rfl)
      exact .inr (.inl ⟨_, y, pl, box_of W hE S I.inv, dy, pr⟩)
    | some c =>
      obtain ⟨c1, c2, c3⟩ := h2 c rfl
      obtain ⟨w1, w2⟩ := end_ray W Pp I.inv d c1 c2 c3
      exact .inr (.inr ⟨_, _, plan_of W Pp (amt_sol I.inv f d), w1, w2⟩)
  · exact .inl fun ⟨x, hx⟩ => ph1_none p1 hz ⟨_, sol_of W Pp hx⟩
end
end Cp
end
/-! ## MPar -/
section
set_option autoImplicit false
set_option linter.all false
set_option maxHeartbeats 4000000
/-! least values along a line -/
namespace Cp
abbrev Ln := Rat × Rat
theorem ratTotal (a b : Rat) : a ≤ b ∨ b ≤ a := Rat.le_total
theorem ratLtEq {a b : Rat} (h : a ≤ b) : a < b ∨ a = b := by
  by_cases e : a = b
  · exact .inr e
  · exact .inl (by grind)
def at_ (v : Ln) (t : Rat) : Rat := v.1 + t * v.2
/-- v is least at t -/
def Mn (X : Ln → Prop) (t : Rat) (v : Ln) : Prop := X v ∧ ∀ w, X w → at_ v t ≤ at_ w t
def Dom (X : Ln → Prop) (t : Rat) : Prop := ∃ v, Mn X t v
structure Fan (X : Ln → Prop) (V : List Ln) (cd : Ln → Nat) : Prop where
  ne : ∃ v, X v
  att : ∀ t z, (∀ w, X w → z ≤ at_ w t) → ∃ v, v ∈ V ∧ Mn X t v
  lt : ∀ v, cd v < 128
  inj : ∀ v w t1 t2, t1 < t2 → Mn X t1 v → Mn X t2 v → X w → cd v = cd w → v = w
section
variable {X : Ln → Prop} {V : List Ln} {cd : Ln → Nat}
theorem mul_cancel_le {a b c : Rat} (hc : 0 < c) (h : c * a ≤ c * b) : a ≤ b := by
  rcases ratTotal a b with z | z
  · exact z
  · rcases ratLtEq z with q | q
    · have := Rat.mul_lt_mul_of_pos_left q hc; grind
    · rw [q]; exact Rat.le_refl
theorem mn_val {t : Rat} {v w : Ln} (hv : Mn X t v) (hw : Mn X t w) : at_ v t = at_ w t := Rat.le_antisymm (hv.2 w hw.1) (hw.2 v hv.1)
theorem mn_eq {t : Rat} {v w : Ln} (hv : Mn X t v) (hw : X w) (e : at_ w t = at_ v t) : Mn X t w := ⟨hw, fun z hz => by rw [e]; exact hv.2 z hz⟩
theorem at_mix (v : Ln) (t1 t t2 : Rat) : (t2 - t1) * at_ v t = (t2 - t) * at_ v t1 + (t - t1) * at_ v t2 := by unfold at_; grind
theorem mn_conv {t1 t t2 : Rat} {v : Ln} (h1 : Mn X t1 v) (h2 : Mn X t2 v) (a : t1 ≤ t) (b : t ≤ t2) : Mn X t v := ⟨h1.1, fun w hw => by
  rcases ratLtEq (Rat.le_trans a b) with q | q
  · refine mul_cancel_le (c := t2 - t1) (by grind) ?_
    rw [at_mix, at_mix w]
    have e1 := Rat.mul_le_mul_of_nonneg_left (h1.2 w hw) (show 0 ≤ t2 - t by grind)
    have e2 := Rat.mul_le_mul_of_nonneg_left (h2.2 w hw) (show 0 ≤ t - t1 by grind)
    grind
  · have : t = t1 := by grind
    rw [this]; exact h1.2 w hw⟩
theorem dom_conv (F : Fan X V cd) {t1 t t2 : Rat} (h1 : Dom X t1) (h2 : Dom X t2) (a : t1 ≤ t) (b : t ≤ t2) : Dom X t := by
  obtain ⟨v1, m1⟩ := h1
  obtain ⟨v2, m2⟩ := h2
  rcases ratLtEq (Rat.le_trans a b) with q | q
  · obtain ⟨v, _, hv⟩ := F.att t (((t2 - t) * at_ v1 t1 + (t - t1) * at_ v2 t2) / (t2 - t1)) fun w hw => by
      refine mul_cancel_le (c := t2 - t1) (by grind) ?_
      have hne : t2 - t1 ≠ 0 := by grind
      have : (t2 - t1) * (((t2 - t) * at_ v1 t1 + (t - t1) * at_ v2 t2) / (t2 - t1)) = (t2 - t) * at_ v1 t1 + (t - t1) * at_ v2 t2 := by grind
      rw [this, at_mix w t1 t t2]
      have e1 := Rat.mul_le_mul_of_nonneg_left (m1.2 w hw) (show 0 ≤ t2 - t by grind)
      have e2 := Rat.mul_le_mul_of_nonneg_left (m2.2 w hw) (show 0 ≤ t - t1 by grind)
      grind
    exact ⟨v, hv⟩
  · have : t = t1 := by grind
    rw [this]; exact ⟨v1, m1⟩
theorem slope_le {t t' : Rat} {v w : Ln} (hv : Mn X t v) (hw : Mn X t' w) (h : t < t') : w.2 ≤ v.2 := by
  have h1 := hv.2 w hw.1
  have h2 := hw.2 v hv.1
  unfold at_ at h1 h2
  refine mul_cancel_le (c := t' - t) (by grind) ?_
  grind
theorem same_slope {t t' : Rat} {v w : Ln} (hv : Mn X t v) (hw : Mn X t' w) (e : v.2 = w.2) : v = w := by
  have h1 := hv.2 w hw.1
  have h2 := hw.2 v hv.1
  unfold at_ at h1 h2
  rw [e] at h1 h2
  have : v.1 = w.1 := by grind
  exact Prod.ext this e
/-- the lines that touch on, and behind a time -/
def RightL (X : Ln → Prop) (t : Rat) (v : Ln) : Prop := Mn X t v ∧ ∃ t', t < t' ∧ Mn X t' v
def LeftL (X : Ln → Prop) (t : Rat) (v : Ln) : Prop := Mn X t v ∧ ∃ t', t' < t ∧ Mn X t' v
theorem right_least {t : Rat} {v w : Ln} (h : RightL X t v) (hw : X w) (e : at_ w t = at_ v t) : v.2 ≤ w.2 := by
  obtain ⟨m, t', ht, m'⟩ := h
  have := m'.2 w hw
  unfold at_ at this e
  refine mul_cancel_le (c := t' - t) (by grind) ?_
  grind
theorem left_most {t : Rat} {v w : Ln} (h : LeftL X t v) (hw : X w) (e : at_ w t = at_ v t) : w.2 ≤ v.2 := by
  obtain ⟨m, t', ht, m'⟩ := h
  have := m'.2 w hw
  unfold at_ at this e
  refine mul_cancel_le (c := t - t') (by grind) ?_
  grind
theorem right_one {t : Rat} {v w : Ln} (hv : RightL X t v) (hw : RightL X t w) : v = w :=
  same_slope hv.1 hw.1 (Rat.le_antisymm (right_least hv hw.1.1 (mn_val hw.1 hv.1)) (right_least hw hv.1.1 (mn_val hv.1 hw.1)))
theorem left_one {t : Rat} {v w : Ln} (hv : LeftL X t v) (hw : LeftL X t w) : v = w :=
  same_slope hv.1 hw.1 (Rat.le_antisymm (left_most hw hv.1.1 (mn_val hv.1 hw.1)) (left_most hv hw.1.1 (mn_val hw.1 hv.1)))
/-- near a time only lines that touch there are least -/
theorem near_gap {t : Rat} {w : Ln} (hw : Mn X t w) : ∀ (V : List Ln), ∃ e, 0 < e ∧ ∀ v, v ∈ V → X v → ¬ Mn X t v → ∀ d, 0 < d → d < e → at_ w (t + d) < at_ v (t + d)
  | [] => ⟨1, by decide, fun v hv => by simp at hv⟩
  | u :: V => by
    obtain ⟨e, he, h⟩ := near_gap hw V
    by_cases hu : X u ∧ ¬ Mn X t u
    · have hg : at_ w t < at_ u t := by
        rcases ratLtEq (hw.2 u hu.1) with z | z
        · exact z
        · exact absurd (mn_eq hw hu.1 z.symm) hu.2
      by_cases hs : w.2 ≤ u.2
      · refine ⟨e, he, fun v hv hX hm d h1 h2 => ?_⟩
        rcases List.mem_cons.mp hv with rfl | hv
        · unfold at_ at hg ⊢
          have := Rat.mul_le_mul_of_nonneg_left hs (Rat.le_of_lt h1)
          grind
        · exact h v hv hX hm d h1 h2
      · have hs : u.2 < w.2 := by grind
        have hs' : 0 < w.2 - u.2 := by grind
        have hq : 0 < (at_ u t - at_ w t) / (w.2 - u.2) := by
          rw [Rat.div_def]
          exact Rat.mul_pos (by grind) (Rat.inv_pos.mpr hs')
        refine ⟨if e ≤ (at_ u t - at_ w t) / (w.2 - u.2) then e else (at_ u t - at_ w t) / (w.2 - u.2), by split <;> assumption, fun v hv hX hm d h1 h2 => ?_⟩
        have d1 : d < e := by split at h2 <;> grind
        have d2 : d < (at_ u t - at_ w t) / (w.2 - u.2) := by split at h2 <;> grind
        rcases List.mem_cons.mp hv with rfl | hv
        · have := Rat.mul_lt_mul_of_pos_left d2 hs'
          have e3 : (w.2 - v.2) * ((at_ v t - at_ w t) / (w.2 - v.2)) = at_ v t - at_ w t := by
            have : w.2 - v.2 ≠ 0 := by grind
            grind
          rw [e3] at this
          unfold at_ at this ⊢
          grind
        · exact h v hv hX hm d h1 d1
    · refine ⟨e, he, fun v hv hX hm d h1 h2 => ?_⟩
      rcases List.mem_cons.mp hv with rfl | hv
      · exact absurd ⟨hX, hm⟩ hu
      · exact h v hv hX hm d h1 h2
theorem right_ex (F : Fan X V cd) {t t' : Rat} (h : Dom X t) (h' : Dom X t') (lt : t < t') : ∃ v, RightL X t v := by
  obtain ⟨w, hw⟩ := h
  obtain ⟨e, he, hg⟩ := near_gap hw V
  have hd : ∃ d, 0 < d ∧ d < e ∧ t + d ≤ t' := by
    rcases ratTotal (e / 2) (t' - t) with z | z
    · exact ⟨e / 2, by grind, by grind, by grind⟩
    · exact ⟨t' - t, by grind, by grind, by grind⟩
  obtain ⟨d, d1, d2, d3⟩ := hd
  obtain ⟨u, hu⟩ := dom_conv F ⟨w, hw⟩ h' (t := t + d) (by grind) d3
  obtain ⟨v, hv, mv⟩ := F.att (t + d) (at_ u (t + d)) hu.2
  refine ⟨v, ?_, t + d, by grind, mv⟩
  refine Classical.byContradiction fun hn => ?_
  have h1 := hg v hv mv.1 hn d d1 d2
  have h2 := mv.2 w hw.1
  grind
/-! mirrored -/
def mir (v : Ln) : Ln := (v.1, -v.2)
theorem mir_mir (v : Ln) : mir (mir v) = v := by unfold mir; simp
theorem at_mir (v : Ln) (t : Rat) : at_ (mir v) t = at_ v (-t) := by unfold at_ mir; grind
theorem mn_mir {t : Rat} {v : Ln} : Mn (fun w => X (mir w)) t v ↔ Mn X (-t) (mir v) :=
  ⟨fun h => ⟨h.1, fun w hw => by rw [at_mir, Rat.neg_neg]; have := h.2 (mir w) (by show X (mir (mir w)); rw [mir_mir]; exact hw); rw [at_mir] at this; exact this⟩,
   fun h => ⟨h.1, fun w hw => by have := h.2 (mir w) hw; rw [at_mir, at_mir, Rat.neg_neg] at this; exact this⟩⟩
theorem fan_mir (F : Fan X V cd) : Fan (fun w => X (mir w)) (V.map mir) (fun w => cd (mir w)) := by
  refine ⟨?_, fun t z h => ?_, fun v => F.lt _, fun v w t1 t2 lt m1 m2 hw e => ?_⟩
  · obtain ⟨v, hv⟩ := F.ne
    exact ⟨mir v, by show X (mir (mir v)); rw [mir_mir]; exact hv⟩
  · obtain ⟨v, hv, m⟩ := F.att (-t) z fun w hw => by have := h (mir w) (by show X (mir (mir w)); rw [mir_mir]; exact hw); rw [at_mir] at this; exact this
    exact ⟨mir v, List.mem_map.mpr ⟨v, hv, rfl⟩, mn_mir.mpr (by rw [mir_mir]; exact m)⟩
  · have := F.inj (mir v) (mir w) (-t2) (-t1) (by grind) (mn_mir.mp m2) (mn_mir.mp m1) hw e
    rw [← mir_mir v, this, mir_mir]
theorem left_ex (F : Fan X V cd) {t t' : Rat} (h : Dom X t) (h' : Dom X t') (lt : t' < t) : ∃ v, LeftL X t v := by
  have dm : ∀ {t}, Dom X t → Dom (fun w => X (mir w)) (-t) := fun ⟨v, m⟩ => ⟨mir v, mn_mir.mpr (by rw [mir_mir, Rat.neg_neg]; exact m)⟩
  obtain ⟨v, m, s, hs, m'⟩ := right_ex (fan_mir F) (dm h) (dm h') (by grind)
  refine ⟨mir v, ?_, -s, by grind, mn_mir.mp m'⟩
  have := mn_mir.mp m
  rw [Rat.neg_neg] at this
  exact this
/-- the line of all great times -/
def UpL (X : Ln → Prop) (v : Ln) : Prop := ∃ s, ∀ t, s ≤ t → Mn X t v
def DownL (X : Ln → Prop) (v : Ln) : Prop := ∃ s, ∀ t, t ≤ s → Mn X t v
theorem far_none : ∀ (V : List Ln), (∀ v, v ∈ V → ¬ UpL X v) → ∃ s, ∀ v, v ∈ V → ∀ t, s ≤ t → ¬ Mn X t v
  | [], _ => ⟨0, fun v hv => by simp at hv⟩
  | u :: V, h => by
    obtain ⟨s, hs⟩ := far_none V fun v hv => h v (List.mem_cons_of_mem _ hv)
    have hu := h u List.mem_cons_self
    have h2 : ∃ r, ∀ t, r ≤ t → ¬ Mn X t u := by
      refine Classical.byContradiction fun hn => hu ?_
      have hn' : ∀ r, ∃ t, r ≤ t ∧ Mn X t u := fun r => Classical.byContradiction fun q => hn ⟨r, fun t a b => q ⟨t, a, b⟩⟩
      obtain ⟨t0, _, m0⟩ := hn' 0
      refine ⟨t0, fun t ht => ?_⟩
      obtain ⟨t1, h1, m1⟩ := hn' t
      exact mn_conv m0 m1 ht h1
    obtain ⟨r, hr⟩ := h2
    refine ⟨if s ≤ r then r else s, fun v hv t ht => ?_⟩
    rcases List.mem_cons.mp hv with rfl | hv
    · exact hr t (by split at ht <;> grind)
    · exact hs v hv t (by split at ht <;> grind)
theorem up_ex (F : Fan X V cd) {s : Rat} (h : ∀ t, s ≤ t → Dom X t) : ∃ v, UpL X v := by
  refine Classical.byContradiction fun hn => ?_
  obtain ⟨r, hr⟩ := far_none V fun v _ q => hn ⟨v, q⟩
  obtain ⟨u, hu⟩ := h (if s ≤ r then r else s) (by split <;> grind)
  obtain ⟨v, hv, m⟩ := F.att _ _ hu.2
  exact hr v hv _ (by split <;> grind) m
theorem up_least {v w : Ln} (h : UpL X v) (hw : X w) : v.2 ≤ w.2 ∧ (w.2 = v.2 → v.1 ≤ w.1) := by
  obtain ⟨s, hs⟩ := h
  refine ⟨?_, fun e => ?_⟩
  · refine Classical.byContradiction fun hn => ?_
    have hn : 0 < v.2 - w.2 := by grind
    have h1 : ∀ t, s ≤ t → t * (v.2 - w.2) ≤ w.1 - v.1 := fun t ht => by
      have := (hs t ht).2 w hw
      unfold at_ at this; grind
    have h2 := h1 (if s ≤ (w.1 - v.1) / (v.2 - w.2) + 1 then (w.1 - v.1) / (v.2 - w.2) + 1 else s) (by split <;> grind)
    have h3 : (w.1 - v.1) / (v.2 - w.2) + 1 ≤ (if s ≤ (w.1 - v.1) / (v.2 - w.2) + 1 then (w.1 - v.1) / (v.2 - w.2) + 1 else s) := by split <;> grind
    have h4 := Rat.mul_le_mul_of_nonneg_right h3 (Rat.le_of_lt hn)
    have h5 : ((w.1 - v.1) / (v.2 - w.2) + 1) * (v.2 - w.2) = w.1 - v.1 + (v.2 - w.2) := by
      have : v.2 - w.2 ≠ 0 := by grind
      grind
    grind
  · have := (hs s Rat.le_refl).2 w hw
    unfold at_ at this
    rw [e] at this; grind
theorem up_one {v w : Ln} (hv : UpL X v) (hw : UpL X w) : v = w := by
  obtain ⟨s, hs⟩ := hv
  obtain ⟨r, hr⟩ := hw
  have a := hs s Rat.le_refl
  have b := hr r Rat.le_refl
  exact same_slope a b (Rat.le_antisymm (up_least ⟨s, hs⟩ b.1).1 (up_least ⟨r, hr⟩ a.1).1)
theorem down_mir {v : Ln} : DownL X v ↔ UpL (fun w => X (mir w)) (mir v) :=
  ⟨fun ⟨s, h⟩ => ⟨-s, fun t ht => mn_mir.mpr (by rw [mir_mir]; exact h (-t) (by grind))⟩, fun ⟨s, h⟩ => ⟨-s, fun t ht => by
    have := mn_mir.mp (h (-t) (by grind))
    rw [mir_mir, Rat.neg_neg] at this; exact this⟩⟩
theorem down_ex (F : Fan X V cd) {s : Rat} (h : ∀ t, t ≤ s → Dom X t) : ∃ v, DownL X v := by
  obtain ⟨v, hv⟩ := up_ex (fan_mir F) (s := -s) fun t ht => by
    obtain ⟨u, m⟩ := h (-t) (by grind)
    exact ⟨mir u, mn_mir.mpr (by rw [mir_mir]; exact m)⟩
  exact ⟨mir v, down_mir.mpr (by rw [mir_mir]; exact hv)⟩
theorem down_most {v w : Ln} (h : DownL X v) (hw : X w) : w.2 ≤ v.2 ∧ (w.2 = v.2 → v.1 ≤ w.1) := by
  have := up_least (down_mir.mp h) (w := mir w) (by show X (mir (mir w)); rw [mir_mir]; exact hw)
  unfold mir at this
  refine ⟨by have := this.1; grind, fun e => this.2 (by show -w.2 = -v.2; rw [e])⟩
theorem down_one {v w : Ln} (hv : DownL X v) (hw : DownL X w) : v = w := by
  have := up_one (down_mir.mp hv) (down_mir.mp hw)
  rw [← mir_mir v, this, mir_mir]
/-- lines that touch in more than one time -/
def Es (X : Ln → Prop) (v : Ln) : Prop := ∃ t1 t2, t1 < t2 ∧ Mn X t1 v ∧ Mn X t2 v
theorem RightL.es {t : Rat} {v : Ln} (h : RightL X t v) : Es X v := ⟨t, h.2.choose, h.2.choose_spec.1, h.1, h.2.choose_spec.2⟩
theorem LeftL.es {t : Rat} {v : Ln} (h : LeftL X t v) : Es X v := ⟨h.2.choose, t, h.2.choose_spec.1, h.2.choose_spec.2, h.1⟩
theorem UpL.es {v : Ln} (h : UpL X v) : Es X v := by
  obtain ⟨s, hs⟩ := h
  exact ⟨s, s + 1, by grind, hs s Rat.le_refl, hs (s + 1) (by grind)⟩
theorem DownL.es {v : Ln} (h : DownL X v) : Es X v := by
  obtain ⟨s, hs⟩ := h
  exact ⟨s - 1, s, by grind, hs (s - 1) (by grind), hs s Rat.le_refl⟩
def cross (v w : Ln) : Rat := (v.1 - w.1) / (w.2 - v.2)
theorem at_cross {v w : Ln} (h : w.2 < v.2) : at_ v (cross v w) = at_ w (cross v w) := by
  have : w.2 - v.2 ≠ 0 := by grind
  have e : cross v w * (w.2 - v.2) = v.1 - w.1 := by unfold cross; grind
  unfold at_
  grind
theorem cross_of {v w : Ln} {t : Rat} (h : w.2 < v.2) (e : at_ v t = at_ w t) : cross v w = t := by
  have : w.2 - v.2 ≠ 0 := by grind
  have e2 : t * (w.2 - v.2) = v.1 - w.1 := by unfold at_ at e; grind
  unfold cross
  rw [← e2]; grind
theorem touch_le {v w : Ln} {t : Rat} (h : w.2 < v.2) (hv : Mn X t v) (hw : X w) : t ≤ cross v w := by
  have h1 := hv.2 w hw
  have e := at_cross h
  unfold at_ at h1 e
  refine mul_cancel_le (c := v.2 - w.2) (by grind) ?_
  grind
theorem touch_ge {v w : Ln} {t : Rat} (h : w.2 < v.2) (hw : Mn X t w) (hv : X v) : cross v w ≤ t := by
  have h1 := hw.2 v hv
  have e := at_cross h
  unfold at_ at h1 e
  refine mul_cancel_le (c := v.2 - w.2) (by grind) ?_
  grind
/-- the lines between two lines, as the program finds them -/
inductive Brk (X : Ln → Prop) : Ln → Ln → List Ln → Prop
  | same (v : Ln) : Brk X v v [v]
  | two {v w : Ln} : v ≠ w → Mn X (cross v w) v → Brk X v w [v, w]
  | split {v w l r : Ln} {A B : List Ln} : v ≠ w → ¬ Mn X (cross v w) v → LeftL X (cross v w) l → RightL X (cross v w) r → Brk X v l A → Brk X r w B →
      Brk X v w (A ++ if l = r then B.drop 1 else B)
theorem Brk.det {v w : Ln} {A B : List Ln} (h : Brk X v w A) : Brk X v w B → A = B := by
  induction h generalizing B with
  | same v =>
    intro h
    cases h with
    | same => rfl
    | two hne _ => exact absurd rfl hne
    | split hne => exact absurd rfl hne
  | two hne m =>
    intro h
    cases h with
    | same => exact absurd rfl hne
    | two _ _ => rfl
    | split _ hm => exact absurd m hm
  | split hne hm hl hr h1 h2 ih1 ih2 =>
    intro h
    cases h with
    | same => exact absurd rfl hne
    | two _ m => exact absurd m hm
    | split _ _ hl' hr' h1' h2' =>
      have e1 := left_one hl hl'
      have e2 := right_one hr hr'
      subst e1; subst e2
      rw [ih1 h1', ih2 h2']
/-- lines that follow on one another -/
inductive Ch (X : Ln → Prop) : Ln → Ln → List Ln → Prop
  | one {v : Ln} : Es X v → Ch X v v [v]
  | cons {v w z : Ln} {L : List Ln} : Es X v → w.2 < v.2 → Mn X (cross v w) v → Mn X (cross v w) w → Ch X w z L → Ch X v z (v :: L)
theorem Ch.head {v z : Ln} {L : List Ln} (h : Ch X v z L) : ∃ R, L = v :: R := by cases h <;> exact ⟨_, rfl⟩
theorem Ch.last {v z : Ln} {L : List Ln} (h : Ch X v z L) : L.getLast? = some z := by
  induction h with
  | one _ => rfl
  | cons _ _ _ _ c ih =>
    obtain ⟨R, rfl⟩ := c.head
    rw [List.getLast?_cons_cons]; exact ih
theorem Ch.es {v z : Ln} {L : List Ln} (h : Ch X v z L) : Es X v := by cases h <;> assumption
theorem Ch.join {v l r z : Ln} {A B : List Ln} (h : Ch X v l A) (h2 : Ch X r z B) : (l = r → Ch X v z (A ++ B.drop 1)) ∧ (r.2 < l.2 → Mn X (cross l r) l → Mn X (cross l r) r → Ch X v z (A ++ B)) := by
  induction h with
  | one e =>
    refine ⟨fun q => ?_, fun a b c => .cons e a b c h2⟩
    subst q
    obtain ⟨R, rfl⟩ := h2.head
    exact h2
  | cons e a b c _ ih => exact ⟨fun q => .cons e a b c (ih.1 q), fun p q r => .cons e a b c (ih.2 p q r)⟩
/-- what the split of two lines tells -/
theorem split_at (F : Fan X V cd) {v w : Ln} (hv : Es X v) (hw : Es X w) (lt : w.2 < v.2) (hm : ¬ Mn X (cross v w) v) : ∃ s s', s < cross v w ∧ cross v w < s' ∧ Mn X s v ∧ Mn X s' w ∧ Dom X s ∧ Dom X s' ∧ Dom X (cross v w) := by
  obtain ⟨t1, t2, _, m1, _⟩ := hv
  obtain ⟨s1, s2, _, n1, _⟩ := hw
  have a := touch_le lt m1 n1.1
  have b := touch_ge lt n1 m1.1
  have a' : t1 < cross v w := by
    rcases ratLtEq a with z | z
    · exact z
    · rw [z] at m1; exact absurd m1 hm
  have b' : cross v w < s1 := by
    rcases ratLtEq b with z | z
    · exact z
    · rw [← z] at n1; exact absurd (mn_eq n1 m1.1 (at_cross lt)) hm
  exact ⟨t1, s1, a', b', m1, n1, ⟨v, m1⟩, ⟨w, n1⟩, dom_conv F ⟨v, m1⟩ ⟨w, n1⟩ a b⟩
theorem split_left {v w l : Ln} {s : Rat} (h : s < cross v w) (ms : Mn X s v) (hm : ¬ Mn X (cross v w) v) (hl : LeftL X (cross v w) l) : l.2 < v.2 := by
  rcases ratLtEq (slope_le ms hl.1 h) with z | z
  · exact z
  · exact absurd (same_slope hl.1 ms z ▸ hl.1) hm
theorem split_right {v w r : Ln} {s : Rat} (lt : w.2 < v.2) (hX : X v) (h : cross v w < s) (ms : Mn X s w) (hm : ¬ Mn X (cross v w) v) (hr : RightL X (cross v w) r) : w.2 < r.2 := by
  rcases ratLtEq (slope_le hr.1 ms h) with z | z
  · exact z
  · have e := same_slope ms hr.1 z
    exact absurd (mn_eq (e ▸ hr.1 : Mn X (cross v w) w) hX (at_cross lt)) hm
theorem left_right {t : Rat} {l r : Ln} (hl : LeftL X t l) (hr : RightL X t r) : r.2 ≤ l.2 := left_most hl hr.1.1 (mn_val hr.1 hl.1)
theorem brk_ch (F : Fan X V cd) {v w : Ln} {L : List Ln} (h : Brk X v w L) : Es X v → Es X w → (v = w ∨ w.2 < v.2) → Ch X v w L := by
  induction h with
  | same v => exact fun e _ _ => .one e
  | @two v w hne m =>
    intro e1 e2 o
    have lt := o.resolve_left hne
    have e2' := e2
    obtain ⟨_, _, _, n1, _⟩ := e2
    exact .cons e1 lt m (mn_eq m n1.1 (at_cross lt).symm) (.one e2')
  | @split v w l r A B hne hm hl hr _ _ ih1 ih2 =>
    intro e1 e2 o
    have lt := o.resolve_left hne
    obtain ⟨s, s', hs, hs', ms, ms', _⟩ := split_at F e1 e2 lt hm
    have c1 := ih1 e1 hl.es (.inr (split_left hs ms hm hl))
    have c2 := ih2 hr.es e2 (.inr (split_right lt ms.1 hs' ms' hm hr))
    have j := c1.join c2
    by_cases q : l = r
    · rw [if_pos q]; exact j.1 q
    · rw [if_neg q]
      have lr : r.2 < l.2 := by
        rcases ratLtEq (left_right hl hr) with z | z
        · exact z
        · exact absurd (same_slope hl.1 hr.1 z.symm) q
      have cr := cross_of lr (mn_val hl.1 hr.1)
      exact j.2 lr (cr ▸ hl.1) (cr ▸ hr.1)
/-! how deep the search goes -/
open Classical in
noncomputable def btw (X : Ln → Prop) (cd : Ln → Nat) (v w : Ln) : Nat := (List.range 128).countP fun k => decide (∃ u, Es X u ∧ cd u = k ∧ w.2 < u.2 ∧ u.2 < v.2)
theorem countP_lt {p q : Nat → Bool} : ∀ {l : List Nat}, (∀ x, p x = true → q x = true) → (∃ x, x ∈ l ∧ q x = true ∧ p x = false) → l.countP p < l.countP q
  | [], _, ⟨x, h, _⟩ => by simp at h
  | a :: l, hpq, ⟨x, hx, h1, h2⟩ => by
    rw [List.countP_cons, List.countP_cons]
    have mono : l.countP p ≤ l.countP q := List.countP_mono_left fun x _ => hpq x
    rcases List.mem_cons.mp hx with rfl | hx
    · rw [h1, h2]; simp; omega
    · have ih := countP_lt hpq ⟨x, hx, h1, h2⟩
      have := hpq a
      cases e : p a with
      | true => rw [this e]; simp; omega
      | false => cases q a <;> simp <;> omega
theorem btw_le (v w : Ln) : btw X cd v w ≤ 128 := by
  unfold btw
  exact Nat.le_trans List.countP_le_length (by simp)
open Classical in
theorem btw_left (F : Fan X V cd) {v w l : Ln} (hl : Es X l) (h1 : w.2 < l.2) (h2 : l.2 < v.2) : btw X cd v l < btw X cd v w ∧ btw X cd l w < btw X cd v w := by
  unfold btw
  have hc : cd l ∈ List.range 128 := List.mem_range.mpr (F.lt l)
  refine ⟨countP_lt (fun k h => ?_) ⟨cd l, hc, ?_, ?_⟩, countP_lt (fun k h => ?_) ⟨cd l, hc, ?_, ?_⟩⟩
  · obtain ⟨u, a, b, c, d⟩ := of_decide_eq_true h
    exact decide_eq_true ⟨u, a, b, by grind, d⟩
  · exact decide_eq_true ⟨l, hl, rfl, h1, h2⟩
  · refine decide_eq_false fun ⟨u, a, b, c, d⟩ => ?_
    obtain ⟨t1, t2, lt, m1, m2⟩ := a
    obtain ⟨_, _, _, n1, _⟩ := hl
    have := F.inj u l t1 t2 lt m1 m2 n1.1 b
    rw [this] at c; grind
  · obtain ⟨u, a, b, c, d⟩ := of_decide_eq_true h
    exact decide_eq_true ⟨u, a, b, c, by grind⟩
  · exact decide_eq_true ⟨l, hl, rfl, h1, h2⟩
  · refine decide_eq_false fun ⟨u, a, b, c, d⟩ => ?_
    obtain ⟨t1, t2, lt, m1, m2⟩ := a
    obtain ⟨_, _, _, n1, _⟩ := hl
    have := F.inj u l t1 t2 lt m1 m2 n1.1 b
    rw [this] at d; grind
end
end Cp
end
/-! ## MPcs -/
section
set_option autoImplicit false
set_option linter.all false
set_option maxHeartbeats 4000000
/-! pieces -/
namespace Cp
structure Pc where
  lo : Option Rat
  hi : Option Rat
  ln : Ln
def mkP (low high : Option Rat) : List Ln → List Pc
  | [] => []
  | [v] => [⟨low, high, v⟩]
  | v :: w :: L => ⟨low, some (cross v w), v⟩ :: mkP (some (cross v w)) high (w :: L)
def fromB (lo : Option Rat) (t : Rat) : Bool := match lo with | none => true | some l => decide (l ≤ t)
def toB (hi : Option Rat) (t : Rat) : Bool := match hi with | none => true | some h => decide (t ≤ h)
def inB (t : Rat) (p : Pc) : Bool := fromB p.lo t && toB p.hi t
section
variable {X : Ln → Prop} {V : List Ln} {cd : Ln → Nat}
def Lo (X : Ln → Prop) (low : Option Rat) (v : Ln) : Prop := match low with | some l => RightL X l v | none => DownL X v
def Hi (X : Ln → Prop) (high : Option Rat) (v : Ln) : Prop := match high with | some h => LeftL X h v | none => UpL X v
theorem Lo.es {low : Option Rat} {v : Ln} (h : Lo X low v) : Es X v := by
  cases low with
  | none => exact DownL.es h
  | some l => exact RightL.es h
theorem Hi.es {low : Option Rat} {v : Ln} (h : Hi X low v) : Es X v := by
  cases low with
  | none => exact UpL.es h
  | some l => exact LeftL.es h
/-- a line that touches at t stays so back to the start -/
theorem lo_mn {low : Option Rat} {v : Ln} {t c : Rat} (h : Lo X low v) (hc : Mn X c v) (ht : t ≤ c) (hf : fromB low t = true) : Mn X t v := by
  cases low with
  | none =>
    obtain ⟨s, hs⟩ := h
    rcases ratTotal t s with z | z
    · exact hs t z
    · exact mn_conv (hs s Rat.le_refl) hc z ht
  | some l => exact mn_conv h.1 hc (of_decide_eq_true hf) ht
theorem hi_mn {high : Option Rat} {v : Ln} {t c : Rat} (h : Hi X high v) (hc : Mn X c v) (ht : c ≤ t) (hf : toB high t = true) : Mn X t v := by
  cases high with
  | none =>
    obtain ⟨s, hs⟩ := h
    rcases ratTotal s t with z | z
    · exact hs t z
    · exact mn_conv hc (hs s Rat.le_refl) ht z
  | some l => exact mn_conv hc h.1 ht (of_decide_eq_true hf)
theorem next_lo {v w : Ln} (lt : w.2 < v.2) (hv : X v) (m : Mn X (cross v w) w) (e : Es X w) : Lo X (some (cross v w)) w := by
  obtain ⟨t1, t2, h, m1, m2⟩ := e
  exact ⟨m, t2, by have := touch_ge lt m1 hv; grind, m2⟩
theorem mkP_val {v z : Ln} {L : List Ln} (c : Ch X v z L) {high : Option Rat} : ∀ {low : Option Rat}, Lo X low v → Hi X high z → ∀ p, p ∈ mkP low high L → ∀ t, inB t p = true → Mn X t p.ln := by
  induction c with
  | @one v e =>
    intro low hl hh p hp t ht
    have hp : p ∈ [Pc.mk low high v] := hp
    rw [List.mem_singleton] at hp
    subst hp
    have ht : (fromB low t && toB high t) = true := ht
    rw [Bool.and_eq_true] at ht
    obtain ⟨t1, t2, h, m1, m2⟩ := e
    rcases ratTotal t t1 with z | z
    · exact lo_mn hl m1 z ht.1
    · exact hi_mn hh m1 z ht.2
  | @cons v w z L e lt m1 m2 c ih =>
    intro low hl hh p hp t ht
    obtain ⟨R, rfl⟩ := c.head
    have hp : p ∈ Pc.mk low (some (cross v w)) v :: mkP (some (cross v w)) high (w :: R) := hp
    rcases List.mem_cons.mp hp with rfl | hp
    · have ht : (fromB low t && decide (t ≤ cross v w)) = true := ht
      rw [Bool.and_eq_true] at ht
      exact lo_mn hl m1 (of_decide_eq_true ht.2) ht.1
    · exact ih (next_lo lt m1.1 m2 c.es) hh p hp t ht
theorem mkP_cov {v z : Ln} {L : List Ln} (c : Ch X v z L) {high : Option Rat} {t : Rat} (hh : toB high t = true) : ∀ {low : Option Rat}, fromB low t = true → ∃ p, p ∈ mkP low high L ∧ inB t p = true := by
  induction c with
  | @one v e => exact fun {low} hl => ⟨_, List.mem_singleton.mpr rfl, by show (fromB low t && toB high t) = true; rw [hl, hh]; rfl⟩
  | @cons v w z L e lt m1 m2 c ih =>
    intro low hl
    obtain ⟨R, rfl⟩ := c.head
    show ∃ p, p ∈ Pc.mk low (some (cross v w)) v :: mkP (some (cross v w)) high (w :: R) ∧ _
    rcases ratTotal t (cross v w) with q | q
    · exact ⟨_, List.mem_cons_self, by show (fromB low t && decide (t ≤ cross v w)) = true; rw [hl, decide_eq_true q]; rfl⟩
    · obtain ⟨p, hp, h⟩ := ih (low := some (cross v w)) (decide_eq_true q)
      exact ⟨p, List.mem_cons_of_mem _ hp, h⟩
/-- each piece ends where the next one begins, the slopes fall -/
def Fol : List Pc → Prop
  | p :: q :: L => p.hi = q.lo ∧ p.hi ≠ none ∧ q.ln.2 < p.ln.2 ∧ Fol (q :: L)
  | _ => True
theorem mkP_fol {v z : Ln} {L : List Ln} (c : Ch X v z L) {high : Option Rat} : ∀ {low : Option Rat}, Fol (mkP low high L) := by
  induction c with
  | one e => exact trivial
  | @cons v w z L e lt m1 m2 c ih =>
    intro low
    cases c with
    | one e => exact ⟨rfl, (by intro h; cases h), lt, trivial⟩
    | cons e' lt' m1' m2' c' =>
      obtain ⟨R, rfl⟩ := c'.head
      exact ⟨rfl, (by intro h; cases h), lt, ih⟩
theorem mkP_before {v z : Ln} {L : List Ln} (c : Ch X v z L) {high : Option Rat} : ∀ {l t : Rat}, t < l → Lo X (some l) v → ((mkP (some l) high L).filter (inB t)) = [] := by
  induction c with
  | @one v e =>
    intro l t h _
    show ([Pc.mk (some l) high v].filter (inB t)) = []
    rw [List.filter_cons, if_neg]
    · rfl
    · show ¬ (decide (l ≤ t) && _) = true
      rw [decide_eq_false (by grind)]; simp
  | @cons v w z L e lt m1 m2 c ih =>
    intro l t h hl
    obtain ⟨R, rfl⟩ := c.head
    show ((Pc.mk (some l) (some (cross v w)) v :: mkP (some (cross v w)) high (w :: R)).filter (inB t)) = []
    have hlc : l < cross v w := by
      obtain ⟨m, t', h1, h2⟩ := hl
      have := touch_le lt h2 m2.1
      grind
    rw [List.filter_cons, if_neg]
    · exact ih (by grind) (next_lo lt m1.1 m2 c.es)
    · show ¬ (decide (l ≤ t) && _) = true
      rw [decide_eq_false (by grind)]; simp
theorem mkP_start {v z : Ln} {L : List Ln} (c : Ch X v z L) {high : Option Rat} {l : Rat} (hl : Lo X (some l) v) : ((mkP (some l) high L).filter (inB l)).length ≤ 1 := by
  cases c with
  | one e => exact Nat.le_trans (List.length_filter_le _ _) (Nat.le_refl _)
  | @cons _ w _ L e lt m1 m2 c =>
    obtain ⟨R, rfl⟩ := c.head
    show ((Pc.mk (some l) (some (cross v w)) v :: mkP (some (cross v w)) high (w :: R)).filter (inB l)).length ≤ 1
    have hlc : l < cross v w := by
      obtain ⟨m, t', h1, h2⟩ := hl
      have := touch_le lt h2 m2.1
      grind
    rw [List.filter_cons, mkP_before c hlc (next_lo lt m1.1 m2 c.es)]
    split <;> simp
theorem mkP_two {v z : Ln} {L : List Ln} (c : Ch X v z L) {high : Option Rat} {t : Rat} : ∀ {low : Option Rat}, Lo X low v → ((mkP low high L).filter (inB t)).length ≤ 2 := by
  induction c with
  | one e => exact fun _ => Nat.le_trans (List.length_filter_le _ _) (Nat.le_succ 1)
  | @cons v w z L e lt m1 m2 c ih =>
    intro low hl
    obtain ⟨R, rfl⟩ := c.head
    show ((Pc.mk low (some (cross v w)) v :: mkP (some (cross v w)) high (w :: R)).filter (inB t)).length ≤ 2
    have nl := next_lo lt m1.1 m2 c.es
    rw [List.filter_cons]
    by_cases q : inB t ⟨low, some (cross v w), v⟩ = true
    · rw [if_pos q]
      have q : (fromB low t && decide (t ≤ cross v w)) = true := q
      rw [Bool.and_eq_true] at q
      rcases ratLtEq (of_decide_eq_true q.2) with z | z
      · rw [mkP_before c z nl]; simp
      · rw [z]
        have := mkP_start (high := high) c nl
        rw [List.length_cons]; omega
    · rw [if_neg q]; exact ih nl
/-- what is promised of pieces -/
structure PcsOK (X : Ln → Prop) (ps : List Pc) : Prop where
  val : ∀ p, p ∈ ps → ∀ t, inB t p = true → ∃ w, Mn X t w ∧ at_ p.ln t = at_ w t
  cov : ∀ t, Dom X t → ∃ p, p ∈ ps ∧ inB t p = true
  fol : Fol ps
  two : ∀ t, (ps.filter (inB t)).length ≤ 2
/-- the times with a least value -/
structure Spn (X : Ln → Prop) (low high : Option Rat) : Prop where
  dom : ∀ t, Dom X t ↔ fromB low t = true ∧ toB high t = true
  ne : ∃ t, Dom X t
theorem pcs_ok {low high : Option Rat} (S : Spn X low high) {v z : Ln} {L : List Ln} (c : Ch X v z L) (hl : Lo X low v) (hh : Hi X high z) : PcsOK X (mkP low high L) :=
  ⟨fun p hp t ht => ⟨p.ln, mkP_val c hl hh p hp t ht, rfl⟩, fun t ht => by obtain ⟨a, b⟩ := (S.dom t).mp ht; exact mkP_cov c b a, mkP_fol c, fun t => mkP_two c hl⟩
theorem pcs_one {l : Rat} {w : Ln} (S : Spn X (some l) (some l)) (m : Mn X l w) : PcsOK X [⟨some l, some l, (at_ w l, 0)⟩] := by
  have key : ∀ t, inB t ⟨some l, some l, (at_ w l, 0)⟩ = true → t = l := fun t ht => by
    have ht : (decide (l ≤ t) && decide (t ≤ l)) = true := ht
    rw [Bool.and_eq_true] at ht
    exact Rat.le_antisymm (of_decide_eq_true ht.2) (of_decide_eq_true ht.1)
  refine ⟨fun p hp t ht => ?_, fun t ht => ?_, trivial, fun t => Nat.le_trans (List.length_filter_le _ _) (Nat.le_succ 1)⟩
  · rw [List.mem_singleton] at hp
    subst hp
    rw [key t ht]
    refine ⟨w, m, ?_⟩
    show at_ w l + l * 0 = _
    grind
  · obtain ⟨a, b⟩ := (S.dom t).mp ht
    exact ⟨_, List.mem_singleton.mpr rfl, by show (fromB (some l) t && toB (some l) t) = true; rw [a, b]; rfl⟩
theorem lo_hi {low high : Option Rat} (h : ∀ l r, low = some l → high = some r → l < r) {v z : Ln} (hl : Lo X low v) (hh : Hi X high z) : v = z ∨ z.2 < v.2 := by
  have key : ∃ a b, a < b ∧ Mn X a v ∧ Mn X b z := by
    cases low with
    | some l =>
      cases high with
      | some r => exact ⟨l, r, h l r rfl rfl, hl.1, hh.1⟩
      | none =>
        obtain ⟨s, hs⟩ := hh
        exact ⟨l, if l + 1 ≤ s then s else l + 1, by split <;> grind, hl.1, hs _ (by split <;> grind)⟩
    | none =>
      obtain ⟨s, hs⟩ := hl
      cases high with
      | some r => exact ⟨if s ≤ r - 1 then s else r - 1, r, by split <;> grind, hs _ (by split <;> grind), hh.1⟩
      | none =>
        obtain ⟨s', hs'⟩ := hh
        exact ⟨s, if s + 1 ≤ s' then s' else s + 1, by split <;> grind, hs _ Rat.le_refl, hs' _ (by split <;> grind)⟩
  obtain ⟨a, b, lt, m1, m2⟩ := key
  rcases ratLtEq (slope_le m1 m2 lt) with q | q
  · exact .inr q
  · exact .inl (same_slope m1 m2 q.symm)
/-- the lines at the ends are there -/
theorem lo_ex (F : Fan X V cd) {low high : Option Rat} (S : Spn X low high) (h : ∀ l r, low = some l → high = some r → l < r) : ∃ v, Lo X low v := by
  obtain ⟨t, ht⟩ := S.ne
  obtain ⟨a, b⟩ := (S.dom t).mp ht
  cases low with
  | some l =>
    have dl : Dom X l := (S.dom l).mpr ⟨by show decide (l ≤ l) = true; simp [Rat.le_refl], by
      cases high with
      | none => rfl
      | some r => exact decide_eq_true (by have := h l r rfl rfl; grind)⟩
    have : ∃ t', Dom X t' ∧ l < t' := by
      cases high with
      | none => exact ⟨l + 1, (S.dom _).mpr ⟨decide_eq_true (by grind), rfl⟩, by grind⟩
      | some r => exact ⟨r, (S.dom _).mpr ⟨decide_eq_true (by have := h l r rfl rfl; grind), decide_eq_true Rat.le_refl⟩, h l r rfl rfl⟩
    obtain ⟨t', d', lt⟩ := this
    exact right_ex F dl d' lt
  | none => exact down_ex F (s := t) fun t' h' => (S.dom t').mpr ⟨rfl, by
      cases high with
      | none => rfl
      | some r => exact decide_eq_true (by have : t ≤ r := of_decide_eq_true b; grind)⟩
theorem hi_ex (F : Fan X V cd) {low high : Option Rat} (S : Spn X low high) (h : ∀ l r, low = some l → high = some r → l < r) : ∃ v, Hi X high v := by
  obtain ⟨t, ht⟩ := S.ne
  obtain ⟨a, b⟩ := (S.dom t).mp ht
  cases high with
  | some r =>
    have dl : Dom X r := (S.dom r).mpr ⟨by
      cases low with
      | none => rfl
      | some l => exact decide_eq_true (by have := h l r rfl rfl; grind), decide_eq_true Rat.le_refl⟩
    have : ∃ t', Dom X t' ∧ t' < r := by
      cases low with
      | none => exact ⟨r - 1, (S.dom _).mpr ⟨rfl, decide_eq_true (by grind)⟩, by grind⟩
      | some l => exact ⟨l, (S.dom _).mpr ⟨decide_eq_true Rat.le_refl, decide_eq_true (by have := h l r rfl rfl; grind)⟩, h l r rfl rfl⟩
    obtain ⟨t', d', lt⟩ := this
    exact left_ex F dl d' lt
  | none => exact up_ex F (s := t) fun t' h' => (S.dom t').mpr ⟨by
      cases low with
      | none => rfl
      | some l => exact decide_eq_true (by have : l ≤ t := of_decide_eq_true a; grind), rfl⟩
end
end Cp
end
/-! ## MFan -/
section
set_option autoImplicit false
set_option linter.all false
set_option maxHeartbeats 4000000
/-! the costs of a task's plans along a line -/
namespace Cp
/-- sums of plans -/
def comb (a b : Rat) (x y : List Rat) : List Rat := List.zipWith (fun u v => a * u + b * v) x y
theorem dot_comb {a b : Rat} : ∀ {c : List Int} {x y : List Rat}, x.length = y.length → dotR c (comb a b x y) = a * dotR c x + b * dotR c y
  | [], x, y, _ => by cases h : comb a b x y <;> cases x <;> cases y <;> simp only [dotR] <;> grind
  | c :: cs, [], [], _ => by simp only [comb, List.zipWith, dotR]; grind
  | c :: cs, x :: xs, y :: ys, h => by
    have := dot_comb (a := a) (b := b) (c := cs) (x := xs) (y := ys) (by simpa using h)
    show (c : Rat) * (a * x + b * y) + dotR cs (comb a b xs ys) = _
    rw [this]
    show _ = a * ((c : Rat) * x + dotR cs xs) + b * ((c : Rat) * y + dotR cs ys)
    grind
  | _ :: _, [], _ :: _, h => by simp at h
  | _ :: _, _ :: _, [], h => by simp at h
theorem comb_pos {a b : Rat} (ha : 0 ≤ a) (hb : 0 ≤ b) : ∀ {ks : List Bool} {x y : List Rat}, PosK ks x → PosK ks y → PosK ks (comb a b x y)
  | [], [], [], _, _ => trivial
  | k :: ks, x :: xs, y :: ys, h1, h2 => ⟨fun q => by
      have e1 := Rat.mul_nonneg ha (h1.1 q)
      have e2 := Rat.mul_nonneg hb (h2.1 q)
      grind, comb_pos ha hb h1.2 h2.2⟩
  | [], [], _ :: _, _, h => h.elim
  | [], _ :: _, _, h, _ => h.elim
  | _ :: _, [], _, h, _ => h.elim
  | _ :: _, _ :: _, [], _, h => h.elim
section
variable {T : Tsk}
/-- a plan moved along a way -/
theorem plan_way (Pp : Pn T) {x w : List Rat} (hx : Plan T x) (hw : Way T w) {l : Rat} (hl : 0 ≤ l) : Plan T (comb 1 l x w) := by
  have hlen : x.length = w.length := by rw [hx.pos.len, hw.pos.len]
  refine ⟨comb_pos (by decide) hl hx.pos hw.pos, fun r hr => ?_⟩
  have h1 := hx.rows r hr
  have h2 := hw.rows r hr
  unfold Rw.holds at h1 ⊢
  rcases Pp r hr with q | q
  · rw [q] at h1 h2 ⊢
    have h1 : (r.rt : Rat) ≤ dotR r.cs x := h1
    have h2 : 0 ≤ dotR r.cs w := h2
    show _ ≤ _
    rw [dot_comb hlen]
    have := Rat.mul_nonneg hl h2
    grind
  · rw [q] at h1 h2 ⊢
    have h1 : dotR r.cs x = (r.rt : Rat) := h1
    have h2 : dotR r.cs w = 0 := h2
    show _ = _
    rw [dot_comb hlen, h1, h2]; grind
/-- costs without an end -/
theorem way_below (Pp : Pn T) {x w : List Rat} (hx : Plan T x) (hw : Way T w) {c : List Int} (hc : dotR c w < 0) (z : Rat) : ∃ x', Plan T x' ∧ dotR c x' < z := by
  have hlen : x.length = w.length := by rw [hx.pos.len, hw.pos.len]
  by_cases q : dotR c x < z
  · exact ⟨x, hx, q⟩
  · have hd : 0 < - dotR c w := by grind
    have h0 : 0 ≤ (dotR c x - z + 1) / (- dotR c w) := div_nonneg (by grind) hd
    refine ⟨_, plan_way Pp hx hw h0, ?_⟩
    rw [dot_comb hlen]
    have : (dotR c x - z + 1) / (- dotR c w) * dotR c w = -(dotR c x - z + 1) := by grind
    rw [this]; grind
end
/-- costs moved: c by q and s by p -/
def mixC (q p : Int) : List Int → List Int → List Int := List.zipWith fun a b => a * q + b * p
theorem dot_mix {q p : Int} : ∀ {c s : List Int} {x : List Rat}, c.length = s.length → dotR (mixC q p c s) x = (q : Rat) * dotR c x + (p : Rat) * dotR s x
  | [], [], x, _ => by cases x <;> simp only [mixC, List.zipWith, dotR] <;> grind
  | c :: cs, s :: ss, [], _ => by simp only [mixC, List.zipWith, dotR]; grind
  | c :: cs, s :: ss, x :: xs, h => by
    have := dot_mix (q := q) (p := p) (c := cs) (s := ss) (x := xs) (by simpa using h)
    show ((c * q + s * p : Int) : Rat) * x + dotR (mixC q p cs ss) xs = (q : Rat) * ((c : Rat) * x + dotR cs xs) + (p : Rat) * ((s : Rat) * x + dotR ss xs)
    rw [this, Rat.intCast_add, Rat.intCast_mul, Rat.intCast_mul]; grind
  | [], _ :: _, _, h => by simp at h
  | _ :: _, [], _, h => by simp at h
theorem rat_self' (x : Rat) : (x.num : Rat) / (x.den : Rat) = x := by
  rw [← Rat.mkRat_eq_div, Rat.mkRat_self]
def lnOf (T : Tsk) (s : List Int) (x : List Rat) : Ln := (dotR T.cs x, dotR s x)
def XT (T : Tsk) (s : List Int) (v : Ln) : Prop := ∃ x, Plan T x ∧ lnOf T s x = v
/-- the task at a time -/
def Tmv (T : Tsk) (s : List Int) (t : Rat) : Tsk := ⟨T.ks, mixC t.den t.num T.cs s, T.rows⟩
theorem dot_mv {T : Tsk} {s : List Int} (hs : T.cs.length = s.length) (t : Rat) (x : List Rat) : dotR (Tmv T s t).cs x = (t.den : Rat) * at_ (lnOf T s x) t := by
  show dotR (mixC _ _ _ _) x = _
  rw [dot_mix hs]
  unfold at_ lnOf
  have h1 : (t.num : Rat) = t * (t.den : Rat) := by
    have := rat_self' t
    have h2 : ((t.den : Nat) : Rat) ≠ 0 := by
      have := t.den_pos
      intro h
      have h2 : ((t.den : Nat) : Rat) = ((0 : Nat) : Rat) := by simpa using h
      have := Rat.natCast_inj.mp h2
      omega
    grind
  rw [h1]
  simp only [Rat.intCast_natCast]
  grind
/-- all lists of numbers by one divisor -/
def numsL (B d : Nat) : List Rat := (List.range (4 * B + 1)).map fun (i : Nat) => (((i : Int) - 2 * (B : Int) : Int) : Rat) / (d : Rat)
def tupL (ns : List Rat) : Nat → List (List Rat)
  | 0 => [[]]
  | n + 1 => ns.flatMap fun a => (tupL ns n).map (a :: ·)
def boxL (B n : Nat) : List (List Rat) := (List.range (B + 1)).flatMap fun d => tupL (numsL B d) n
theorem mem_tup {ns : List Rat} : ∀ {x : List Rat}, (∀ v, v ∈ x → v ∈ ns) → x ∈ tupL ns x.length
  | [], _ => List.mem_singleton.mpr rfl
  | a :: x, h => List.mem_flatMap.mpr ⟨a, h a List.mem_cons_self, List.mem_map.mpr ⟨x, mem_tup fun v hv => h v (List.mem_cons_of_mem _ hv), rfl⟩⟩
theorem mem_box {B : Nat} {x : List Rat} (h : Box B x) : x ∈ boxL B x.length := by
  obtain ⟨d, h0, h1, h2⟩ := h
  refine List.mem_flatMap.mpr ⟨d, List.mem_range.mpr (by omega), mem_tup fun v hv => ?_⟩
  obtain ⟨p, hp, rfl⟩ := h2 v hv
  refine List.mem_map.mpr ⟨(p + 2 * B).toNat, List.mem_range.mpr (by omega), ?_⟩
  have : (((p + 2 * (B : Int)).toNat : Int) - 2 * (B : Int)) = p := by omega
  rw [this]
/-- which rows and columns are at their ends -/
def tightB (T : Tsk) (x : List Rat) (i : Nat) : Bool :=
  if i < T.ks.length then T.ks.getD i false && decide (x.getD i 0 = 0) else decide ((rwAt T.rows (i - T.ks.length)).sn = .ge) && decide (dotR (rwAt T.rows (i - T.ks.length)).cs x = ((rwAt T.rows (i - T.ks.length)).rt : Rat))
open Classical in
noncomputable def cdT (T : Tsk) (s : List Int) (v : Ln) : Nat :=
  if h : XT T s v then code 2 7 (fun i => if tightB T h.choose i then 1 else 0) else 0
/-- a little way back -/
theorem back : ∀ (L : List (Rat × Rat)), (∀ p, p ∈ L → 0 ≤ p.1 ∧ 0 ≤ p.2 ∧ (p.1 = 0 → p.2 = 0)) → ∃ e, 0 < e ∧ ∀ p, p ∈ L → 0 ≤ (1 + e) * p.1 - e * p.2
  | [], _ => ⟨1, by decide, fun p hp => by simp at hp⟩
  | q :: L, h => by
    obtain ⟨e, he, hL⟩ := back L fun p hp => h p (List.mem_cons_of_mem _ hp)
    obtain ⟨h1, h2, h3⟩ := h q List.mem_cons_self
    -- smaller ones do too
    have small : ∀ e', 0 < e' → e' ≤ e → ∀ p, p ∈ L → 0 ≤ (1 + e') * p.1 - e' * p.2 := fun e' a b p hp => by
      have k1 := hL p hp
      have k2 := (h p (List.mem_cons_of_mem _ hp)).1
      rcases ratTotal p.2 p.1 with z | z
      · have := Rat.mul_nonneg (Rat.le_of_lt a) (show 0 ≤ p.1 - p.2 by grind); grind
      · have := Rat.mul_le_mul_of_nonneg_right b (show 0 ≤ p.2 - p.1 by grind); grind
    by_cases z : q.1 = 0
    · refine ⟨e, he, fun p hp => ?_⟩
      rcases List.mem_cons.mp hp with rfl | hp
      · rw [z, h3 z]; grind
      · exact hL p hp
    · have pos : 0 < q.1 := by grind
      have pos2 : 0 < q.2 + 1 := by grind
      have f0 : 0 < q.1 / (q.2 + 1) := by
        rw [Rat.div_def]; exact Rat.mul_pos pos (Rat.inv_pos.mpr pos2)
      have key : ∀ e', 0 < e' → e' ≤ q.1 / (q.2 + 1) → 0 ≤ (1 + e') * q.1 - e' * q.2 := fun e' a b => by
        have k := Rat.mul_le_mul_of_nonneg_right b (Rat.le_of_lt pos2)
        have k2 : q.1 / (q.2 + 1) * (q.2 + 1) = q.1 := by grind
        have k3 := Rat.mul_nonneg (Rat.le_of_lt a) h1
        grind
      refine ⟨if e ≤ q.1 / (q.2 + 1) then e else q.1 / (q.2 + 1), by split <;> assumption, fun p hp => ?_⟩
      rcases List.mem_cons.mp hp with rfl | hp
      · exact key _ (by split <;> assumption) (by split <;> grind)
      · exact small _ (by split <;> assumption) (by split <;> grind) p hp
theorem PosK.get : ∀ {ks : List Bool} {x : List Rat}, PosK ks x → ∀ i, ks.getD i false = true → 0 ≤ x.getD i 0
  | [], [], _, i, h => by simp [List.getD] at h
  | k :: ks, x :: xs, p, 0, h => p.1 h
  | k :: ks, x :: xs, p, i + 1, h => PosK.get (ks := ks) (x := xs) p.2 i h
  | [], _ :: _, h, _, _ => h.elim
  | _ :: _, [], h, _, _ => h.elim
theorem posK_of : ∀ {ks : List Bool} {x : List Rat}, x.length = ks.length → (∀ i, i < ks.length → ks.getD i false = true → 0 ≤ x.getD i 0) → PosK ks x
  | [], [], _, _ => trivial
  | k :: ks, x :: xs, h, p => ⟨fun q => p 0 (by simp) q, posK_of (by simpa using h) fun i hi q => p (i + 1) (by simpa using hi) q⟩
  | [], _ :: _, h, _ => by simp at h
  | _ :: _, [], h, _ => by simp at h
theorem comb_get {a b : Rat} {x y : List Rat} (h : x.length = y.length) (i : Nat) : (comb a b x y).getD i 0 = a * x.getD i 0 + b * y.getD i 0 := by
  unfold comb List.getD
  rw [List.getElem?_zipWith]
  rcases Nat.lt_or_ge i x.length with q | q
  · rw [List.getElem?_eq_getElem q, List.getElem?_eq_getElem (by omega : i < y.length)]
    rfl
  · rw [List.getElem?_eq_none q, List.getElem?_eq_none (by omega : y.length ≤ i)]
    show (0 : Rat) = a * 0 + b * 0
    grind
section
variable {T : Tsk}
/-- a plan that is tight wherever .. can be left the other way -/
theorem plan_back (Pp : Pn T) {x y : List Rat} (hx : Plan T x) (hy : Plan T y) (ht : ∀ i, i < T.ks.length + T.rows.length → tightB T x i = true → tightB T y i = true) : ∃ e : Rat, 0 < e ∧ Plan T (comb (1 + e) (-e) x y) := by
  have hlen : x.length = y.length := by rw [hx.pos.len, hy.pos.len]
  obtain ⟨e, he, h⟩ := back ((((List.range T.ks.length).filter fun i => T.ks.getD i false).map fun i => (x.getD i 0, y.getD i 0)) ++ (slackAt T.rows).map fun i => (dotR (rwAt T.rows i).cs x - ((rwAt T.rows i).rt : Rat), dotR (rwAt T.rows i).cs y - ((rwAt T.rows i).rt : Rat))) fun p hp => by
    rcases List.mem_append.mp hp with hp | hp
    · obtain ⟨i, hi, rfl⟩ := List.mem_map.mp hp
      obtain ⟨h1, h2⟩ := List.mem_filter.mp hi
      have h1 := List.mem_range.mp h1
      refine ⟨hx.pos.get i h2, hy.pos.get i h2, fun z => ?_⟩
      have t1 : tightB T x i = true := by unfold tightB; rw [if_pos h1, h2, decide_eq_true z]; rfl
      have t2 := ht i (by omega) t1
      unfold tightB at t2
      rw [if_pos h1, h2] at t2
      exact of_decide_eq_true t2
    · obtain ⟨i, hi, rfl⟩ := List.mem_map.mp hp
      have hil : i < T.rows.length := List.mem_range.mp (List.mem_filter.mp hi).1
      have hs := (mem_slack hil).mp hi
      have f : ∀ z, Plan T z → 0 ≤ dotR (rwAt T.rows i).cs z - ((rwAt T.rows i).rt : Rat) := fun z hz => by
        have := hz.rows _ (rwAt_mem hil)
        unfold Rw.holds at this
        rw [hs] at this
        have this : ((rwAt T.rows i).rt : Rat) ≤ dotR (rwAt T.rows i).cs z := this
        grind
      refine ⟨f x hx, f y hy, fun z => ?_⟩
      have z : dotR (rwAt T.rows i).cs x - ((rwAt T.rows i).rt : Rat) = 0 := z
      have t1 : tightB T x (T.ks.length + i) = true := by
        unfold tightB
        rw [if_neg (by omega), Nat.add_sub_cancel_left, decide_eq_true hs, decide_eq_true (by grind)]; rfl
      have t2 := ht (T.ks.length + i) (by omega) t1
      unfold tightB at t2
      rw [if_neg (by omega), Nat.add_sub_cancel_left, decide_eq_true hs] at t2
      have t2 : dotR (rwAt T.rows i).cs y = ((rwAt T.rows i).rt : Rat) := of_decide_eq_true t2
      show dotR (rwAt T.rows i).cs y - ((rwAt T.rows i).rt : Rat) = 0
      grind
  refine ⟨e, he, posK_of (by simp [comb, hx.pos.len, hy.pos.len]) fun i hi q => ?_, fun r hr => ?_⟩
  · have := h (x.getD i 0, y.getD i 0) (List.mem_append.mpr (.inl (List.mem_map.mpr ⟨i, List.mem_filter.mpr ⟨List.mem_range.mpr hi, q⟩, rfl⟩)))
    rw [comb_get hlen]
    have this : 0 ≤ (1 + e) * x.getD i 0 - e * y.getD i 0 := this
    grind
  · obtain ⟨k, hk, rfl⟩ := mem_rwAt hr
    unfold Rw.holds
    rcases Pp _ hr with q | q
    · have := h (dotR (rwAt T.rows k).cs x - ((rwAt T.rows k).rt : Rat), dotR (rwAt T.rows k).cs y - ((rwAt T.rows k).rt : Rat)) (List.mem_append.mpr (.inr (List.mem_map.mpr ⟨k, (mem_slack hk).mpr q, rfl⟩)))
      rw [q]
      show _ ≤ _
      rw [dot_comb hlen]
      have this : 0 ≤ (1 + e) * (dotR (rwAt T.rows k).cs x - ((rwAt T.rows k).rt : Rat)) - e * (dotR (rwAt T.rows k).cs y - ((rwAt T.rows k).rt : Rat)) := this
      grind
    · have f : ∀ z, Plan T z → dotR (rwAt T.rows k).cs z = ((rwAt T.rows k).rt : Rat) := fun z hz => by
        have := hz.rows _ hr
        unfold Rw.holds at this
        rw [q] at this
        exact this
      rw [q]
      show _ = _
      rw [dot_comb hlen, f x hx, f y hy]; grind
theorem lt_step {e a b : Rat} (he : 0 < e) (h : a ≤ (1 + e) * a + -e * b) : b ≤ a := by
  refine mul_cancel_le he ?_
  grind
theorem fan_of (W : Wl T) (Pp : Pn T) {s : List Int} (hs : T.cs.length = s.length) (hp : ∃ x, Plan T x) (h7 : T.ks.length + T.rows.length ≤ 7) {E : Nat} (hE : 1 ≤ E) (S : Rsz T E) :
    Fan (XT T s) ((boxL (detB T.rows.length fun _ => E) T.ks.length).map (lnOf T s)) (cdT T s) := by
  refine ⟨?_, fun t z hz => ?_, fun v => ?_, fun v w t1 t2 lt m1 m2 hw e => ?_⟩
  · obtain ⟨x, hx⟩ := hp
    exact ⟨_, x, hx, rfl⟩
  · have den0 : (0 : Rat) < (t.den : Rat) := by
      have := t.den_pos
      have h2 := cast_pos (show (0 : Int) < (t.den : Int) by omega)
      rw [Rat.intCast_natCast] at h2
      exact h2
    have hlen : (mixC t.den t.num T.cs s).length = T.ks.length := by
      unfold mixC; rw [List.length_zipWith, ← hs, W.cs, Nat.min_self]
    rcases task_cases (T := Tmv T s t) ⟨hlen, W.row⟩ Pp hE S with h | ⟨x, y, px, bx, dy, e⟩ | ⟨x, w, px, hw, hc⟩
    · obtain ⟨x, hx⟩ := hp
      exact absurd ⟨x, hx.pos, hx.rows⟩ h
    · have px' : Plan T x := ⟨px.pos, px.rows⟩
      refine ⟨lnOf T s x, List.mem_map.mpr ⟨x, ?_, rfl⟩, ⟨x, px', rfl⟩, fun w hw => ?_⟩
      · have := mem_box bx
        rw [px.pos.len] at this
        exact this
      · obtain ⟨x', hx', rfl⟩ := hw
        have h1 := weak (T := Tmv T s t) Pp dy (x := x') ⟨hx'.pos, hx'.rows⟩
        rw [e, dot_mv hs, dot_mv hs] at h1
        exact mul_cancel_le den0 h1
    · obtain ⟨x', hx', lt⟩ := way_below (T := Tmv T s t) Pp px hw hc ((t.den : Rat) * z)
      rw [dot_mv hs] at lt
      have h1 := hz _ ⟨x', ⟨hx'.pos, hx'.rows⟩, rfl⟩
      have h2 := Rat.mul_le_mul_of_nonneg_left h1 (Rat.le_of_lt den0)
      grind
  · unfold cdT
    split
    · exact code_lt (q := 2) (m := 7) fun i _ => by split <;> omega
    · decide
  · have hv := m1.1
    unfold cdT at e
    rw [dif_pos hv, dif_pos hw] at e
    have e2 := code_inj (q := 2) (m := 7) (fun i _ => by split <;> omega) (fun i _ => by split <;> omega) e
    obtain ⟨px, ex⟩ := hv.choose_spec
    obtain ⟨py, ey⟩ := hw.choose_spec
    generalize hv.choose = x at *
    generalize hw.choose = y at *
    obtain ⟨ep, hep, pb⟩ := plan_back Pp px py fun i hi ht => by
      have := e2 i (by omega)
      rw [if_pos ht] at this
      by_cases q : tightB T y i = true
      · exact q
      · rw [if_neg q] at this; omega
    have hlen : x.length = y.length := by rw [px.pos.len, py.pos.len]
    have key : ∀ t, Mn (XT T s) t v → at_ w t = at_ v t := fun t m => by
      have h1 := m.2 _ ⟨_, pb, rfl⟩
      have h2 := m.2 w hw
      have h3 : at_ (lnOf T s (comb (1 + ep) (-ep) x y)) t = (1 + ep) * at_ v t + -ep * at_ w t := by
        unfold lnOf
        rw [dot_comb hlen, dot_comb hlen, ← ex, ← ey]
        unfold at_ lnOf
        grind
      rw [h3] at h1
      exact Rat.le_antisymm (lt_step hep h1) h2
    have k1 := key t1 m1
    have k2 := key t2 m2
    unfold at_ at k1 k2
    have hne : t2 - t1 ≠ 0 := by grind
    have e3 : (t2 - t1) * (v.2 - w.2) = 0 := by grind
    have e4 : v.2 = w.2 := by
      rcases Rat.mul_eq_zero.mp e3 with z | z
      · exact absurd z hne
      · grind
    exact Prod.ext (by rw [e4] at k1; grind) e4
end
end Cp
end
/-! ## MDual -/
section
set_option autoImplicit false
set_option linter.all false
set_option maxHeartbeats 4000000
/-! the other side of a task -/
namespace Cp
def sideR (P : Tsk) (j : Nat) : Rw := ⟨P.rows.map fun r => -(r.cs.getD j 0), if P.ks.getD j false then .ge else .eq, -(P.cs.getD j 0)⟩
/-- the other side of a plain task -/
def other (P : Tsk) : Tsk := ⟨P.rows.map fun r => decide (r.sn = .ge), P.rows.map fun r => -r.rt, (List.range P.ks.length).map (sideR P)⟩
def BestV (U : Tsk) (v : Rat) : Prop := (∃ x, Plan U x ∧ dotR U.cs x = v) ∧ ∀ x, Plan U x → v ≤ dotR U.cs x
theorem BestV.one {U : Tsk} {v w : Rat} (hv : BestV U v) (hw : BestV U w) : v = w := by
  obtain ⟨⟨x, px, rfl⟩, h⟩ := hv
  obtain ⟨⟨y, py, rfl⟩, k⟩ := hw
  exact Rat.le_antisymm (h y py) (k x px)
theorem map_getD {α : Type} {f : α → Int} {xs : List α} {d : α} (h : f d = 0) (i : Nat) : (xs.map f).getD i 0 = f (xs.getD i d) := by
  unfold List.getD
  rw [List.getElem?_map]
  cases xs[i]? with
  | none => exact h.symm
  | some x => rfl
section
variable {P : Tsk}
theorem other_wl (W : Wl P) : Wl (other P) := ⟨by simp [other], fun r hr => by
  obtain ⟨j, _, rfl⟩ := List.mem_map.mp hr
  simp [sideR, other]⟩
theorem other_pn : Pn (other P) := fun r hr => by
  obtain ⟨j, _, rfl⟩ := List.mem_map.mp hr
  show (if _ then _ else _) = _ ∨ (if _ then _ else _) = _
  split
  · exact .inl rfl
  · exact .inr rfl
theorem range_map_getD {α : Type} {xs : List α} {d : α} {n : Nat} (h : xs.length = n) : (List.range n).map (fun i => xs.getD i d) = xs := by
  refine List.ext_getElem? fun i => ?_
  rw [List.getElem?_map]
  rcases Nat.lt_or_ge i n with q | q
  · rw [List.getElem?_range q, List.getElem?_eq_getElem (by omega)]
    show some (xs.getD i d) = _
    unfold List.getD
    rw [List.getElem?_eq_getElem (by omega)]; rfl
  · rw [List.getElem?_eq_none (by simpa using q), List.getElem?_eq_none (by omega)]; rfl
theorem map_rwAt {α : Type} {f : Rw → α} {rows : List Rw} : rows.map f = (List.range rows.length).map fun i => f (rwAt rows i) := by
  refine List.ext_getElem? fun i => ?_
  rw [List.getElem?_map, List.getElem?_map]
  rcases Nat.lt_or_ge i rows.length with q | q
  · rw [List.getElem?_range q, List.getElem?_eq_getElem q]
    unfold rwAt List.getD
    simp [List.getElem?_eq_getElem q]
  · rw [List.getElem?_eq_none q, List.getElem?_eq_none (by simpa using q)]; rfl
theorem rows_ext {rows : List Rw} : rows = (List.range rows.length).map fun i => rwAt rows i := by
  have := map_rwAt (f := id) (rows := rows)
  simpa using this
theorem other_other (W : Wl P) (Pp : Pn P) : other (other P) = P := by
  have h1 : (other (other P)).ks = P.ks := by
    show ((List.range P.ks.length).map (sideR P)).map (fun r => decide (r.sn = .ge)) = _
    rw [List.map_map]
    have e : ((fun r : Rw => decide (r.sn = .ge)) ∘ sideR P) = fun j => P.ks.getD j false := by
      funext j
      show decide ((if P.ks.getD j false = true then Sn.ge else Sn.eq) = .ge) = _
      cases P.ks.getD j false <;> rfl
    rw [e]
    exact range_map_getD rfl
  have h2 : (other (other P)).cs = P.cs := by
    show ((List.range P.ks.length).map (sideR P)).map (fun r => -r.rt) = _
    rw [List.map_map]
    have e : ((fun r : Rw => -r.rt) ∘ sideR P) = fun j => P.cs.getD j 0 := by
      funext j
      show - -(P.cs.getD j 0) = _
      omega
    rw [e]
    exact range_map_getD W.cs
  have h3 : (other (other P)).rows = P.rows := by
    show (List.range (P.rows.map fun r => decide (r.sn = .ge)).length).map (sideR (other P)) = _
    rw [List.length_map]
    conv => rhs; rw [rows_ext (rows := P.rows)]
    refine List.map_congr_left fun i hi => ?_
    have hi := List.mem_range.mp hi
    have hr := rwAt_mem hi
    have e1 : (((List.range P.ks.length).map (sideR P)).map fun r => -(r.cs.getD i 0)) = (rwAt P.rows i).cs := by
      rw [List.map_map]
      have e : ((fun r : Rw => -(r.cs.getD i 0)) ∘ sideR P) = fun j => (rwAt P.rows i).cs.getD j 0 := by
        funext j
        show -((P.rows.map fun r => -(r.cs.getD j 0)).getD i 0) = _
        rw [map_getD (d := ⟨[], .eq, 0⟩) (by rfl)]
        show - -((rwAt P.rows i).cs.getD j 0) = _
        omega
      rw [e]
      exact range_map_getD (W.row _ hr)
    have e2 : (if (P.rows.map fun r => decide (r.sn = .ge)).getD i false = true then Sn.ge else Sn.eq) = (rwAt P.rows i).sn := by
      have : (P.rows.map fun r => decide (r.sn = .ge)).getD i false = decide ((rwAt P.rows i).sn = .ge) := by
        unfold List.getD rwAt
        rw [List.getElem?_map, List.getElem?_eq_getElem hi]
        simp [List.getElem?_eq_getElem hi]
      rw [this]
      rcases Pp _ hr with q | q <;> rw [q] <;> rfl
    have e3 : -((P.rows.map fun r => -r.rt).getD i 0) = (rwAt P.rows i).rt := by
      rw [map_getD (d := ⟨[], .eq, 0⟩) (by rfl)]
      show - -(rwAt P.rows i).rt = _
      omega
    show Rw.mk _ _ _ = _
    show Rw.mk (((List.range P.ks.length).map (sideR P)).map fun r => -(r.cs.getD i 0)) (if (P.rows.map fun r => decide (r.sn = .ge)).getD i false = true then Sn.ge else Sn.eq) (-((P.rows.map fun r => -r.rt).getD i 0)) = _
    rw [e1, e2, e3]
  cases P with
  | mk ks cs rows =>
    cases h : other (other ⟨ks, cs, rows⟩) with
    | mk a b c =>
      rw [h] at h1 h2 h3
      rw [show a = ks from h1, show b = cs from h2, show c = rows from h3]
/-- a column's sum over the rows -/
def colS (P : Tsk) (y : Nat → Rat) (j : Nat) : Rat := sumQ P.rows.length fun i => y i * ((rwAt P.rows i).cs.getD j 0 : Rat)
theorem col_dot {y : List Rat} (hy : y.length = P.rows.length) (j : Nat) : dotR (P.rows.map fun r => -(r.cs.getD j 0)) y = - colS P (fun i => y.getD i 0) j := by
  rw [dot_sum (n := P.rows.length) (by simp) hy]
  have : - colS P (fun i => y.getD i 0) j = sumQ P.rows.length fun i => (-1 : Rat) * (y.getD i 0 * ((rwAt P.rows i).cs.getD j 0 : Rat)) := by
    rw [sumQ_mul]; unfold colS; grind
  rw [this]
  refine sumQ_congr fun i _ => ?_
  rw [map_getD (d := ⟨[], .eq, 0⟩) (by rfl)]
  show ((-((rwAt P.rows i).cs.getD j 0) : Int) : Rat) * _ = _
  rw [Rat.intCast_neg]; grind
def unitR (n j : Nat) (v : Rat) : List Rat := (List.range n).map fun i => if i = j then v else 0
theorem unit_get {n j : Nat} {v : Rat} {i : Nat} (hi : i < n) : (unitR n j v).getD i 0 = if i = j then v else 0 := by
  unfold unitR List.getD
  rw [List.getElem?_map, List.getElem?_range hi]; rfl
theorem unit_dot {n j : Nat} {v : Rat} {a : List Int} (ha : a.length = n) (hj : j < n) : dotR a (unitR n j v) = (a.getD j 0 : Rat) * v := by
  rw [dot_sum ha (by simp [unitR]), sumQ_one (k := j) hj fun i hi q => by rw [unit_get hi, if_neg q]; grind, unit_get hj, if_pos rfl]
/-- sums over rows as sums over columns -/
theorem rows_cols (W : Wl P) (y : Nat → Rat) {x : List Rat} (hx : x.length = P.ks.length) : (sumQ P.rows.length fun i => y i * dotR (rwAt P.rows i).cs x) = sumQ P.ks.length fun j => colS P y j * x.getD j 0 := by
  have e : ∀ i, i < P.rows.length → y i * dotR (rwAt P.rows i).cs x = sumQ P.ks.length fun j => y i * (((rwAt P.rows i).cs.getD j 0 : Rat) * x.getD j 0) := fun i hi => by
    rw [dot_sum (W.row _ (rwAt_mem hi)) hx, sumQ_mul]
  rw [sumQ_congr e, sumQ_swap]
  refine sumQ_congr fun j _ => ?_
  unfold colS
  rw [Rat.mul_comm, ← sumQ_mul]
  exact sumQ_congr fun i _ => by grind
/-- weights in columns, for costs that need not be whole -/
def ColD (P : Tsk) (c : Nat → Rat) (y : Nat → Rat) : Prop := (∀ i, i < P.rows.length → (rwAt P.rows i).sn = .ge → 0 ≤ y i) ∧ ∀ j, j < P.ks.length → if P.ks.getD j false = true then colS P y j ≤ c j else colS P y j = c j
theorem dual_col (W : Wl P) {y : Nat → Rat} : Dual P y ↔ ColD P (fun j => (P.cs.getD j 0 : Rat)) y := by
  constructor
  · intro D
    refine ⟨D.pos, fun j hj => ?_⟩
    have h1 := fun (v : Rat) (h : P.ks.getD j false = true → 0 ≤ v) => D.low (unitR P.ks.length j v) (posK_of (by simp [unitR]) fun i hi q => by
      rw [unit_get hi]
      by_cases z : i = j
      · rw [if_pos z]; exact h (z ▸ q)
      · rw [if_neg z]; exact Rat.le_refl)
    have h2 : ∀ v, (P.ks.getD j false = true → 0 ≤ v) → colS P y j * v ≤ (P.cs.getD j 0 : Rat) * v := fun v h => by
      have := h1 v h
      rw [rows_cols W y (by simp [unitR]), unit_dot W.cs hj, sumQ_one (k := j) hj fun i hi q => by rw [unit_get hi, if_neg q]; grind, unit_get hj, if_pos rfl] at this
      exact this
    have h3 := h2 1 fun _ => by decide
    by_cases q : P.ks.getD j false = true
    · rw [if_pos q]; grind
    · rw [if_neg q]
      have h4 := h2 (-1) fun z => absurd z q
      grind
  · rintro ⟨h1, h2⟩
    refine ⟨h1, fun x hx => ?_⟩
    rw [rows_cols W y hx.len, dot_sum W.cs hx.len]
    refine sumQ_le fun j hj => ?_
    have h := h2 j hj
    by_cases q : P.ks.getD j false = true
    · rw [if_pos q] at h
      exact Rat.mul_le_mul_of_nonneg_right h (hx.get j q)
    · rw [if_neg q] at h
      rw [h]; exact Rat.le_refl
theorem posK_rows {y : List Rat} (hy : y.length = P.rows.length) : PosK (other P).ks y ↔ ∀ i, i < P.rows.length → (rwAt P.rows i).sn = .ge → 0 ≤ y.getD i 0 := by
  have e : ∀ i, i < P.rows.length → ((other P).ks.getD i false = true ↔ (rwAt P.rows i).sn = .ge) := fun i hi => by
    show ((P.rows.map fun r => decide (r.sn = .ge)).getD i false = true ↔ _)
    unfold rwAt List.getD
    rw [List.getElem?_map, List.getElem?_eq_getElem hi]
    simp
  have el : (other P).ks.length = P.rows.length := by simp [other]
  constructor
  · intro h i hi q
    exact h.get i ((e i hi).mpr q)
  · intro h
    exact posK_of (by rw [el, hy]) fun i hi q => h i (by omega) ((e i (by omega)).mp q)
/-- rows of the other side, with right sides told by c -/
theorem side_rows {y : List Rat} (hy : y.length = P.rows.length) (c : Nat → Rat) :
    (∀ j, j < P.ks.length → (if P.ks.getD j false = true then - c j ≤ dotR (sideR P j).cs y else dotR (sideR P j).cs y = - c j)) ↔ ∀ j, j < P.ks.length → if P.ks.getD j false = true then colS P (fun i => y.getD i 0) j ≤ c j else colS P (fun i => y.getD i 0) j = c j := by
  have e : ∀ j, dotR (sideR P j).cs y = - colS P (fun i => y.getD i 0) j := fun j => col_dot hy j
  constructor
  · intro h j hj
    have := h j hj
    rw [e] at this
    by_cases q : P.ks.getD j false = true
    · rw [if_pos q] at this ⊢; grind
    · rw [if_neg q] at this ⊢; grind
  · intro h j hj
    have := h j hj
    rw [e]
    by_cases q : P.ks.getD j false = true
    · rw [if_pos q] at this ⊢; grind
    · rw [if_neg q] at this ⊢; grind
theorem other_plan (W : Wl P) (y : List Rat) : Plan (other P) y ↔ y.length = P.rows.length ∧ Dual P fun i => y.getD i 0 := by
  have key : ∀ hy : y.length = P.rows.length, (∀ r, r ∈ (other P).rows → r.holds y) ↔ ∀ j, j < P.ks.length → (if P.ks.getD j false = true then - (P.cs.getD j 0 : Rat) ≤ dotR (sideR P j).cs y else dotR (sideR P j).cs y = - (P.cs.getD j 0 : Rat)) := fun hy => by
    have e : ∀ j, (sideR P j).holds y ↔ (if P.ks.getD j false = true then - (P.cs.getD j 0 : Rat) ≤ dotR (sideR P j).cs y else dotR (sideR P j).cs y = - (P.cs.getD j 0 : Rat)) := fun j => by
      unfold Rw.holds
      by_cases q : P.ks.getD j false = true
      · have : (sideR P j).sn = .ge := by show (if _ then _ else _) = _; rw [if_pos q]
        rw [this, if_pos q]
        show ((-(P.cs.getD j 0) : Int) : Rat) ≤ _ ↔ _
        rw [Rat.intCast_neg]
      · have : (sideR P j).sn = .eq := by show (if _ then _ else _) = _; rw [if_neg q]
        rw [this, if_neg q]
        show _ = ((-(P.cs.getD j 0) : Int) : Rat) ↔ _
        rw [Rat.intCast_neg]
    constructor
    · intro h j hj
      exact (e j).mp (h _ (List.mem_map.mpr ⟨j, List.mem_range.mpr hj, rfl⟩))
    · intro h r hr
      obtain ⟨j, hj, rfl⟩ := List.mem_map.mp hr
      exact (e j).mpr (h j (List.mem_range.mp hj))
  constructor
  · intro h
    have hy : y.length = P.rows.length := by rw [h.pos.len]; simp [other]
    exact ⟨hy, (dual_col W).mpr ⟨(posK_rows hy).mp h.pos, (side_rows hy _).mp ((key hy).mp h.rows)⟩⟩
  · rintro ⟨hy, D⟩
    obtain ⟨h1, h2⟩ := (dual_col W).mp D
    exact ⟨(posK_rows hy).mpr h1, (key hy).mpr ((side_rows hy _).mpr h2)⟩
theorem other_cost {y : List Rat} (hy : y.length = P.rows.length) : dotR (other P).cs y = - promise P fun i => y.getD i 0 := by
  show dotR (P.rows.map fun r => -r.rt) y = _
  rw [dot_sum (n := P.rows.length) (by simp) hy]
  have : (- promise P fun i => y.getD i 0) = sumQ P.rows.length fun i => (-1 : Rat) * (y.getD i 0 * ((rwAt P.rows i).rt : Rat)) := by
    rw [sumQ_mul]; unfold promise; grind
  rw [this]
  refine sumQ_congr fun i _ => ?_
  rw [map_getD (d := ⟨[], .eq, 0⟩) (by rfl)]
  show ((-(rwAt P.rows i).rt : Int) : Rat) * _ = _
  rw [Rat.intCast_neg]; grind
theorem dual_congr {y z : Nat → Rat} (D : Dual P y) (h : ∀ i, i < P.rows.length → y i = z i) : Dual P z :=
  ⟨fun i hi q => by rw [← h i hi]; exact D.pos i hi q, fun x hx => by
    have e : (sumQ P.rows.length fun i => y i * dotR (rwAt P.rows i).cs x) = sumQ P.rows.length fun i => z i * dotR (rwAt P.rows i).cs x := sumQ_congr fun i hi => by rw [h i hi]
    rw [← e]; exact D.low x hx⟩
theorem promise_congr {y z : Nat → Rat} (h : ∀ i, i < P.rows.length → y i = z i) : promise P y = promise P z := sumQ_congr fun i hi => by rw [h i hi]
/-- a best plan, with its size and weights -/
theorem best_box (W : Wl P) (Pp : Pn P) {E : Nat} (hE : 1 ≤ E) (S : Rsz P E) {v : Rat} (h : BestV P v) : ∃ x y, Plan P x ∧ dotR P.cs x = v ∧ Box (detB P.rows.length fun _ => E) x ∧ Dual P y ∧ promise P y = v := by
  obtain ⟨⟨x, px, rfl⟩, hb⟩ := h
  rcases task_cases W Pp hE S with h | ⟨x', y, px', bx, dy, e⟩ | ⟨x', w, px', hw, hc⟩
  · exact absurd ⟨x, px⟩ h
  · have : dotR P.cs x' = dotR P.cs x := Rat.le_antisymm (by rw [← e]; exact weak Pp dy px) (hb x' px')
    exact ⟨x', y, px', this, bx, dy, by rw [e, this]⟩
  · obtain ⟨z, pz, lt⟩ := way_below Pp px' hw hc (dotR P.cs x)
    have := hb z pz
    grind
theorem best_other (W : Wl P) (Pp : Pn P) {E : Nat} (hE : 1 ≤ E) (S : Rsz P E) {v : Rat} (h : BestV P v) : BestV (other P) (-v) := by
  obtain ⟨x, y, px, ex, _, dy, ey⟩ := best_box W Pp hE S h
  refine ⟨⟨listOf P.rows.length y, ?_, ?_⟩, fun z hz => ?_⟩
  · rw [other_plan W]
    exact ⟨listOf_len _ _, dual_congr dy fun i hi => (listOf_get hi).symm⟩
  · rw [other_cost (listOf_len _ _), promise_congr (z := y) fun i hi => listOf_get hi, ey]
  · obtain ⟨hz1, hz2⟩ := (other_plan W z).mp hz
    rw [other_cost hz1, ← ex]
    have := weak Pp hz2 px
    grind
end
end Cp
end
/-! ## MLine -/
section
set_option autoImplicit false
set_option linter.all false
set_option maxHeartbeats 4000000
/-! the tasks that the program solves along a line -/
namespace Cp
theorem den_pos' (t : Rat) : (0 : Rat) < (t.den : Rat) := by
  have := t.den_pos
  have h2 := cast_pos (show (0 : Int) < (t.den : Int) by omega)
  rw [Rat.intCast_natCast] at h2
  exact h2
theorem num_eq (t : Rat) : (t.num : Rat) = t * (t.den : Rat) := by
  have := rat_self' t
  have h2 := den_pos' t
  grind
def moved (D : Tsk) (st : List Int) (t : Rat) : Tsk := ⟨D.ks, D.cs, List.zipWith (fun (r : Rw) (s : Int) => ⟨r.cs, r.sn, r.rt * (t.den : Int) + s * t.num⟩) D.rows st⟩
def kept (D : Tsk) (v : Rat) : Tsk := ⟨D.ks, D.cs, D.rows ++ [⟨D.cs.map fun one => one * (v.den : Int), .eq, v.num⟩]⟩
def priced (D : Tsk) (c : List Int) : Tsk := ⟨D.ks, c, D.rows⟩
def unitI (n at_ : Nat) (sign : Int) : List Int := (List.range n).map fun one => if one = at_ then sign else 0
def joint (D : Tsk) (st : List Int) : Tsk := ⟨D.ks ++ [false], unitI (D.ks.length + 1) D.ks.length 1, List.zipWith (fun (r : Rw) (s : Int) => ⟨r.cs ++ [-s], r.sn, r.rt⟩) D.rows st⟩
section
variable {P : Tsk} {s : List Int}
theorem zip_range {α β γ : Type} {f : α → β → γ} {g : Nat → α} {n : Nat} {st : List β} (d : β) (h : st.length = n) : List.zipWith f ((List.range n).map g) st = (List.range n).map fun j => f (g j) (st.getD j d) := by
  refine List.ext_getElem? fun i => ?_
  rw [List.getElem?_zipWith, List.getElem?_map, List.getElem?_map]
  rcases Nat.lt_or_ge i n with q | q
  · rw [List.getElem?_range q, List.getElem?_eq_getElem (show i < st.length by omega)]
    show some _ = some (f (g i) (st.getD i d))
    unfold List.getD
    rw [List.getElem?_eq_getElem (show i < st.length by omega)]; rfl
  · rw [List.getElem?_eq_none (by simpa using q)]; rfl
theorem mix_get {q p : Int} {c s : List Int} (h : c.length = s.length) (j : Nat) : (mixC q p c s).getD j 0 = c.getD j 0 * q + s.getD j 0 * p := by
  unfold mixC List.getD
  rw [List.getElem?_zipWith]
  rcases Nat.lt_or_ge j c.length with q' | q'
  · rw [List.getElem?_eq_getElem q', List.getElem?_eq_getElem (show j < s.length by omega)]; rfl
  · rw [List.getElem?_eq_none q', List.getElem?_eq_none (show s.length ≤ j by omega)]
    show (0 : Int) = 0 * q + 0 * p
    simp
theorem negs_get (s : List Int) (j : Nat) : (negs s).getD j 0 = -(s.getD j 0) := by
  unfold negs; exact getD_map (f := fun one => -one) (by rfl) j
theorem moved_other (W : Wl P) (hs : P.cs.length = s.length) (t : Rat) : moved (other P) (negs s) t = other (Tmv P s t) := by
  unfold moved
  show Tsk.mk _ _ (List.zipWith _ ((List.range P.ks.length).map (sideR P)) (negs s)) = _
  rw [zip_range 0 (by simp [negs, ← hs, W.cs])]
  show Tsk.mk _ _ _ = Tsk.mk _ _ ((List.range P.ks.length).map (sideR (Tmv P s t)))
  congr 1
  refine List.map_congr_left fun j _ => ?_
  show Rw.mk _ _ _ = Rw.mk _ _ _
  congr 1
  show -(P.cs.getD j 0) * (t.den : Int) + (negs s).getD j 0 * t.num = -((mixC t.den t.num P.cs s).getD j 0)
  rw [mix_get hs, negs_get]; grind
theorem mv_wl (W : Wl P) (hs : P.cs.length = s.length) (t : Rat) : Wl (Tmv P s t) := ⟨by
  show (mixC _ _ _ _).length = _
  unfold mixC; rw [List.length_zipWith, ← hs, W.cs, Nat.min_self]; rfl, W.row⟩
theorem mv_plan {t : Rat} {x : List Rat} : Plan (Tmv P s t) x ↔ Plan P x := ⟨fun h => ⟨h.pos, h.rows⟩, fun h => ⟨h.pos, h.rows⟩⟩
/-- the least cost at a time -/
theorem best_mv (hs : P.cs.length = s.length) {t : Rat} {v : Ln} (m : Mn (XT P s) t v) : BestV (Tmv P s t) ((t.den : Rat) * at_ v t) := by
  obtain ⟨⟨x, px, rfl⟩, h⟩ := m
  refine ⟨⟨x, mv_plan.mpr px, dot_mv hs t x⟩, fun y py => ?_⟩
  rw [dot_mv hs]
  exact Rat.mul_le_mul_of_nonneg_left (h _ ⟨y, mv_plan.mp py, rfl⟩) (Rat.le_of_lt (den_pos' t))
theorem mn_best (hs : P.cs.length = s.length) {t : Rat} {v : Rat} (h : BestV (Tmv P s t) v) : ∃ w, Mn (XT P s) t w ∧ v = (t.den : Rat) * at_ w t := by
  obtain ⟨⟨x, px, e⟩, h⟩ := h
  rw [dot_mv hs] at e
  refine ⟨lnOf P s x, ⟨⟨x, mv_plan.mp px, rfl⟩, fun w hw => ?_⟩, e.symm⟩
  obtain ⟨y, py, rfl⟩ := hw
  have := h y (mv_plan.mpr py)
  rw [← e, dot_mv hs] at this
  exact mul_cancel_le (den_pos' t) this
theorem kept_plan {D : Tsk} {v : Rat} {x : List Rat} : Plan (kept D v) x ↔ Plan D x ∧ dotR D.cs x = v := by
  have e : dotR (D.cs.map fun one => one * (v.den : Int)) x = (v.den : Rat) * dotR D.cs x := by
    generalize D.cs = cs
    induction cs generalizing x with
    | nil => cases x <;> simp only [List.map_nil, dotR] <;> grind
    | cons c cs ih =>
      cases x with
      | nil => simp only [List.map_cons, dotR]; grind
      | cons x xs =>
        show ((c * (v.den : Int) : Int) : Rat) * x + dotR (cs.map fun one => one * (v.den : Int)) xs = (v.den : Rat) * ((c : Rat) * x + dotR cs xs)
        rw [ih, Rat.intCast_mul, Rat.intCast_natCast]; grind
  have k : Rw.holds ⟨D.cs.map fun one => one * (v.den : Int), .eq, v.num⟩ x ↔ dotR D.cs x = v := by
    show dotR (D.cs.map fun one => one * (v.den : Int)) x = (v.num : Rat) ↔ _
    rw [e, num_eq]
    have := den_pos' v
    constructor
    · intro h
      have h2 : (v.den : Rat) * (dotR D.cs x - v) = 0 := by grind
      rcases Rat.mul_eq_zero.mp h2 with z | z <;> grind
    · intro h; rw [h]; grind
  constructor
  · intro h
    exact ⟨⟨h.pos, fun r hr => h.rows r (List.mem_append.mpr (.inl hr))⟩, k.mp (h.rows _ (List.mem_append.mpr (.inr (List.mem_singleton.mpr rfl))))⟩
  · rintro ⟨h, e⟩
    refine ⟨h.pos, fun r hr => ?_⟩
    rcases List.mem_append.mp hr with z | z
    · exact h.rows r z
    · rw [List.mem_singleton] at z
      subst z
      exact k.mpr e
/-- the plans of the face at a time -/
theorem face_plan (hs : P.cs.length = s.length) {t : Rat} {v : Ln} {x : List Rat} : Plan (kept (Tmv P s t) ((t.den : Rat) * at_ v t)) x ↔ Plan P x ∧ at_ (lnOf P s x) t = at_ v t := by
  rw [kept_plan, mv_plan, dot_mv hs]
  have := den_pos' t
  constructor
  · rintro ⟨h, e⟩
    refine ⟨h, ?_⟩
    have h2 : (t.den : Rat) * (at_ (lnOf P s x) t - at_ v t) = 0 := by grind
    rcases Rat.mul_eq_zero.mp h2 with z | z <;> grind
  · rintro ⟨h, e⟩
    exact ⟨h, by rw [e]⟩
theorem dot_scale {k : Int} : ∀ {c : List Int} {x : List Rat}, dotR (c.map fun one => k * one) x = (k : Rat) * dotR c x
  | [], x => by cases x <;> simp only [List.map_nil, dotR] <;> grind
  | c :: cs, [] => by simp only [List.map_cons, dotR]; grind
  | c :: cs, x :: xs => by
    have := dot_scale (k := k) (c := cs) (x := xs)
    show ((k * c : Int) : Rat) * x + dotR (cs.map fun one => k * one) xs = (k : Rat) * ((c : Rat) * x + dotR cs xs)
    rw [this, Rat.intCast_mul]; grind
/-- the slope ahead -/
theorem right_best (hs : P.cs.length = s.length) {t : Rat} {r : Ln} (h : RightL (XT P s) t r) {c : List Int} (hc : ∀ x, Plan P x → dotR c x = dotR s x) : BestV (priced (kept (Tmv P s t) ((t.den : Rat) * at_ r t)) c) r.2 := by
  obtain ⟨x, px, e⟩ := h.1.1
  refine ⟨⟨x, ?_, ?_⟩, fun y py => ?_⟩
  · have := (face_plan hs (t := t) (v := r) (x := x)).mpr ⟨px, by rw [e]⟩
    exact ⟨this.pos, this.rows⟩
  · show dotR c x = _
    rw [hc x px, ← e]; rfl
  · obtain ⟨p, q⟩ := (face_plan hs (t := t) (v := r) (x := y)).mp ⟨py.pos, py.rows⟩
    show _ ≤ dotR c y
    rw [hc y p]
    exact right_least h (w := lnOf P s y) ⟨y, p, rfl⟩ q
theorem left_best (hs : P.cs.length = s.length) {t : Rat} {r : Ln} (h : LeftL (XT P s) t r) {c : List Int} (hc : ∀ x, Plan P x → dotR c x = - dotR s x) : BestV (priced (kept (Tmv P s t) ((t.den : Rat) * at_ r t)) c) (-r.2) := by
  obtain ⟨x, px, e⟩ := h.1.1
  refine ⟨⟨x, ?_, ?_⟩, fun y py => ?_⟩
  · have := (face_plan hs (t := t) (v := r) (x := x)).mpr ⟨px, by rw [e]⟩
    exact ⟨this.pos, this.rows⟩
  · show dotR c x = _
    rw [hc x px, ← e]; rfl
  · obtain ⟨p, q⟩ := (face_plan hs (t := t) (v := r) (x := y)).mp ⟨py.pos, py.rows⟩
    show _ ≤ dotR c y
    rw [hc y p]
    have : (lnOf P s y).2 ≤ r.2 := left_most h (w := lnOf P s y) ⟨y, p, rfl⟩ q
    have e2 : (lnOf P s y).2 = dotR s y := rfl
    grind
/-- the lines of great, and of small times -/
theorem up_best {v : Ln} (h : UpL (XT P s) v) {c : List Int} (hc : ∀ x, Plan P x → dotR c x = dotR s x) : BestV (priced P c) v.2 ∧ BestV (priced (kept (priced P c) v.2) P.cs) v.1 := by
  have h' := h
  obtain ⟨r, hr⟩ := h
  obtain ⟨x, px, e⟩ := (hr r Rat.le_refl).1
  have e1 : dotR P.cs x = v.1 := by rw [← e]; rfl
  have e2 : dotR s x = v.2 := by rw [← e]; rfl
  refine ⟨⟨⟨x, ⟨px.pos, px.rows⟩, by show dotR c x = _; rw [hc x px, e2]⟩, fun y py => ?_⟩, ⟨⟨x, ?_, e1⟩, fun y py => ?_⟩⟩
  · have py : Plan P y := ⟨py.pos, py.rows⟩
    show _ ≤ dotR c y
    rw [hc y py]
    exact (up_least h' (w := lnOf P s y) ⟨y, py, rfl⟩).1
  · have := (kept_plan (D := priced P c) (v := v.2) (x := x)).mpr ⟨⟨px.pos, px.rows⟩, by show dotR c x = _; rw [hc x px, e2]⟩
    exact ⟨this.pos, this.rows⟩
  · obtain ⟨p, q⟩ := (kept_plan (D := priced P c) (v := v.2) (x := y)).mp ⟨py.pos, py.rows⟩
    have p : Plan P y := ⟨p.pos, p.rows⟩
    have q : dotR c y = v.2 := q
    exact (up_least h' (w := lnOf P s y) ⟨y, p, rfl⟩).2 (by show dotR s y = _; rw [← hc y p, q])
theorem down_best {v : Ln} (h : DownL (XT P s) v) {c : List Int} (hc : ∀ x, Plan P x → dotR c x = - dotR s x) : BestV (priced P c) (-v.2) ∧ BestV (priced (kept (priced P c) (-v.2)) P.cs) v.1 := by
  have h' := h
  obtain ⟨r, hr⟩ := h
  obtain ⟨x, px, e⟩ := (hr r Rat.le_refl).1
  have e1 : dotR P.cs x = v.1 := by rw [← e]; rfl
  have e2 : dotR s x = v.2 := by rw [← e]; rfl
  refine ⟨⟨⟨x, ⟨px.pos, px.rows⟩, by show dotR c x = _; rw [hc x px, e2]⟩, fun y py => ?_⟩, ⟨⟨x, ?_, e1⟩, fun y py => ?_⟩⟩
  · have py : Plan P y := ⟨py.pos, py.rows⟩
    show _ ≤ dotR c y
    rw [hc y py]
    have : (lnOf P s y).2 ≤ v.2 := (down_most h' (w := lnOf P s y) ⟨y, py, rfl⟩).1
    have e3 : (lnOf P s y).2 = dotR s y := rfl
    grind
  · have := (kept_plan (D := priced P c) (v := -v.2) (x := x)).mpr ⟨⟨px.pos, px.rows⟩, by show dotR c x = _; rw [hc x px, e2]⟩
    exact ⟨this.pos, this.rows⟩
  · obtain ⟨p, q⟩ := (kept_plan (D := priced P c) (v := -v.2) (x := y)).mp ⟨py.pos, py.rows⟩
    have p : Plan P y := ⟨p.pos, p.rows⟩
    have q : dotR c y = -v.2 := q
    exact (down_most h' (w := lnOf P s y) ⟨y, p, rfl⟩).2 (by show dotR s y = _; have := hc y p; grind)
/-! the joint task -/
theorem dot_app : ∀ {a : List Int} {x : List Rat} {k : Int} {t : Rat}, a.length = x.length → dotR (a ++ [k]) (x ++ [t]) = dotR a x + (k : Rat) * t
  | [], [], k, t, _ => by simp only [List.nil_append, dotR]; grind
  | a :: as, x :: xs, k, t, h => by
    have := dot_app (a := as) (x := xs) (k := k) (t := t) (by simpa using h)
    show (a : Rat) * x + dotR (as ++ [k]) (xs ++ [t]) = (a : Rat) * x + dotR as xs + (k : Rat) * t
    rw [this]; grind
  | [], _ :: _, _, _, h => by simp at h
  | _ :: _, [], _, _, h => by simp at h
theorem posK_app : ∀ {ks : List Bool} {x : List Rat} {t : Rat}, x.length = ks.length → (PosK (ks ++ [false]) (x ++ [t]) ↔ PosK ks x)
  | [], [], t, _ => ⟨fun _ => trivial, fun _ => ⟨fun h => (by cases h), trivial⟩⟩
  | k :: ks, x :: xs, t, h => by
    have := posK_app (ks := ks) (x := xs) (t := t) (by simpa using h)
    show ((_ ∧ PosK (ks ++ [false]) (xs ++ [t])) ↔ _ ∧ PosK ks xs)
    rw [this]
  | [], _ :: _, _, h => by simp at h
  | _ :: _, [], _, h => by simp at h
theorem joint_plan (W : Wl P) (hs : P.cs.length = s.length) {y : List Rat} (hy : y.length = P.rows.length) {t : Rat} : Plan (joint (other P) (negs s)) (y ++ [t]) ↔ ColD P (fun j => (P.cs.getD j 0 : Rat) + t * (s.getD j 0 : Rat)) fun i => y.getD i 0 := by
  have rw0 : (joint (other P) (negs s)).rows = (List.range P.ks.length).map fun j => ⟨(sideR P j).cs ++ [-((negs s).getD j 0)], (sideR P j).sn, (sideR P j).rt⟩ := by
    show List.zipWith _ ((List.range P.ks.length).map (sideR P)) (negs s) = _
    rw [zip_range 0 (by simp [negs, ← hs, W.cs])]
  have e : ∀ j, Rw.holds ⟨(sideR P j).cs ++ [-((negs s).getD j 0)], (sideR P j).sn, (sideR P j).rt⟩ (y ++ [t]) ↔ (if P.ks.getD j false = true then - ((P.cs.getD j 0 : Rat) + t * (s.getD j 0 : Rat)) ≤ dotR (sideR P j).cs y else dotR (sideR P j).cs y = - ((P.cs.getD j 0 : Rat) + t * (s.getD j 0 : Rat))) := fun j => by
    have d : dotR ((sideR P j).cs ++ [-((negs s).getD j 0)]) (y ++ [t]) = dotR (sideR P j).cs y + t * (s.getD j 0 : Rat) := by
      rw [dot_app (by simp [sideR, hy]), negs_get, Int.neg_neg]; grind
    unfold Rw.holds
    by_cases q : P.ks.getD j false = true
    · have : (sideR P j).sn = .ge := by show (if _ then _ else _) = _; rw [if_pos q]
      simp only [this]
      rw [if_pos q, d]
      show ((-(P.cs.getD j 0) : Int) : Rat) ≤ _ ↔ _
      rw [Rat.intCast_neg]
      constructor <;> intro <;> grind
    · have : (sideR P j).sn = .eq := by show (if _ then _ else _) = _; rw [if_neg q]
      simp only [this]
      rw [if_neg q, d]
      show _ = ((-(P.cs.getD j 0) : Int) : Rat) ↔ _
      rw [Rat.intCast_neg]
      constructor <;> intro <;> grind
  have el : y.length = (other P).ks.length := by simp [other, hy]
  constructor
  · intro h
    refine ⟨(posK_rows hy).mp ((posK_app el).mp h.pos), (side_rows hy _).mp fun j hj => (e j).mp (h.rows _ ?_)⟩
    rw [rw0]
    exact List.mem_map.mpr ⟨j, List.mem_range.mpr hj, rfl⟩
  · rintro ⟨h1, h2⟩
    refine ⟨(posK_app el).mpr ((posK_rows hy).mpr h1), fun r hr => ?_⟩
    rw [rw0] at hr
    obtain ⟨j, hj, rfl⟩ := List.mem_map.mp hr
    exact (e j).mpr ((side_rows hy _).mpr h2 j (List.mem_range.mp hj))
/-- weights at a time, times the low number -/
theorem col_scale (W : Wl P) (hs : P.cs.length = s.length) {t : Rat} {y : Nat → Rat} : ColD P (fun j => (P.cs.getD j 0 : Rat) + t * (s.getD j 0 : Rat)) y ↔ Dual (Tmv P s t) fun i => (t.den : Rat) * y i := by
  rw [dual_col (mv_wl W hs t)]
  have dp := den_pos' t
  have e1 : ∀ j, ((Tmv P s t).cs.getD j 0 : Rat) = (t.den : Rat) * ((P.cs.getD j 0 : Rat) + t * (s.getD j 0 : Rat)) := fun j => by
    show ((mixC t.den t.num P.cs s).getD j 0 : Rat) = _
    rw [mix_get hs, Rat.intCast_add, Rat.intCast_mul, Rat.intCast_mul, num_eq, Rat.intCast_natCast]; grind
  have e2 : ∀ j, colS (Tmv P s t) (fun i => (t.den : Rat) * y i) j = (t.den : Rat) * colS P y j := fun j => by
    unfold colS
    rw [← sumQ_mul]
    exact sumQ_congr fun i _ => by show (t.den : Rat) * y i * ((rwAt P.rows i).cs.getD j 0 : Rat) = _; grind
  constructor
  · rintro ⟨h1, h2⟩
    refine ⟨fun i hi q => Rat.mul_nonneg (Rat.le_of_lt dp) (h1 i hi q), fun j hj => ?_⟩
    have h := h2 j hj
    show if P.ks.getD j false = true then colS (Tmv P s t) (fun i => (t.den : Rat) * y i) j ≤ ((Tmv P s t).cs.getD j 0 : Rat) else colS (Tmv P s t) (fun i => (t.den : Rat) * y i) j = ((Tmv P s t).cs.getD j 0 : Rat)
    rw [e1, e2]
    show if P.ks.getD j false = true then _ else _
    by_cases q : P.ks.getD j false = true
    · rw [if_pos q] at h ⊢; exact Rat.mul_le_mul_of_nonneg_left h (Rat.le_of_lt dp)
    · rw [if_neg q] at h ⊢; rw [h]
  · rintro ⟨h1, h2⟩
    refine ⟨fun i hi q => mul_cancel_le dp (by have := h1 i hi q; grind), fun j hj => ?_⟩
    have h : if P.ks.getD j false = true then colS (Tmv P s t) (fun i => (t.den : Rat) * y i) j ≤ ((Tmv P s t).cs.getD j 0 : Rat) else colS (Tmv P s t) (fun i => (t.den : Rat) * y i) j = ((Tmv P s t).cs.getD j 0 : Rat) := h2 j hj
    rw [e1, e2] at h
    have h : if P.ks.getD j false = true then (t.den : Rat) * colS P y j ≤ (t.den : Rat) * ((P.cs.getD j 0 : Rat) + t * (s.getD j 0 : Rat)) else (t.den : Rat) * colS P y j = (t.den : Rat) * ((P.cs.getD j 0 : Rat) + t * (s.getD j 0 : Rat)) := h
    by_cases q : P.ks.getD j false = true
    · rw [if_pos q] at h ⊢; exact mul_cancel_le dp h
    · rw [if_neg q] at h ⊢
      exact Rat.le_antisymm (mul_cancel_le dp (ratle_of_eq h)) (mul_cancel_le dp (ratle_of_eq h.symm))
/-- times with weights are times with a least cost -/
theorem joint_dom (W : Wl P) (Pp : Pn P) (hs : P.cs.length = s.length) (hp : ∃ x, Plan P x) {E : Nat} (hE : 1 ≤ E) (S : Rsz P E) {t : Rat} : (∃ y, y.length = P.rows.length ∧ Plan (joint (other P) (negs s)) (y ++ [t])) ↔ Dom (XT P s) t := by
  constructor
  · rintro ⟨y, hy, pl⟩
    have D := (col_scale W hs).mp ((joint_plan W hs hy).mp pl)
    rcases task_cases (T := Tmv P s t) (mv_wl W hs t) Pp hE S with h | ⟨x, y', px, bx, dy, e⟩ | ⟨x, w, px, hw, hc⟩
    · obtain ⟨x, hx⟩ := hp
      exact absurd ⟨x, mv_plan.mpr hx⟩ h
    · obtain ⟨w, m, _⟩ := mn_best hs (t := t) (v := dotR (Tmv P s t).cs x) ⟨⟨x, px, rfl⟩, fun z hz => by rw [← e]; exact weak (T := Tmv P s t) Pp dy hz⟩
      exact ⟨w, m⟩
    · obtain ⟨z, pz, lt⟩ := way_below (T := Tmv P s t) Pp px hw hc (promise (Tmv P s t) fun i => (t.den : Rat) * y.getD i 0)
      have := weak (T := Tmv P s t) Pp D pz
      grind
  · rintro ⟨v, m⟩
    obtain ⟨x, y, px, ex, _, dy, _⟩ := best_box (P := Tmv P s t) (mv_wl W hs t) Pp hE S (best_mv hs m)
    have dp := den_pos' t
    refine ⟨listOf P.rows.length fun i => y i / (t.den : Rat), listOf_len _ _, (joint_plan W hs (listOf_len _ _)).mpr ((col_scale W hs).mpr ?_)⟩
    refine dual_congr dy fun i hi => ?_
    have hi : i < P.rows.length := hi
    rw [listOf_get (x := fun i => y i / (t.den : Rat)) hi]
    have : (t.den : Rat) ≠ 0 := by grind
    grind
end
end Cp
end
/-! ## Head -/
section
set_option Elab.async false
set_option linter.all false
set_option maxRecDepth 100000
set_option maxHeartbeats 0
namespace Cp
open PySem PySem.Spec PyProof.Rows L2
def top (i : Nat) : Stmt := PySem.Challenge.pw_costpapers_k08_whole_cost_pieces.main.body.getD i (.Pass ⟨0, 0, 0, 0⟩)
abbrev s_is_int : Stmt := top 5
abbrev s_divisor : Stmt := top 6
abbrev s_ratio : Stmt := top 7
abbrev s_plus_of : Stmt := top 8
abbrev s_minus_of : Stmt := top 9
abbrev s_times_of : Stmt := top 10
abbrev s_over_of : Stmt := top 11
abbrev s_dot : Stmt := top 12
abbrev sg_init : Stmt := inClass (top 14) 0
abbrev sg_price : Stmt := inClass (top 14) 1
abbrev sg_turn : Stmt := inClass (top 14) 2
abbrev sg_swept : Stmt := inClass (top 14) 3
abbrev sg_goes_out : Stmt := inClass (top 14) 4
abbrev sg_is_less : Stmt := inClass (top 14) 5
abbrev sg_settle : Stmt := inClass (top 14) 6
abbrev sg_amounts : Stmt := inClass (top 14) 7
abbrev sg_weights : Stmt := inClass (top 14) 8
abbrev sg_drive_out : Stmt := inClass (top 14) 9
abbrev sg_way : Stmt := inClass (top 14) 10
abbrev s_is_small : Stmt := top 20
abbrev s_is_row : Stmt := top 21
abbrev s_need_task : Stmt := top 22
abbrev s_turned_row : Stmt := top 23
abbrev s_plain_of : Stmt := top 24
abbrev s_need_column : Stmt := top 25
abbrev s_spread : Stmt := top 27
abbrev s_gathered : Stmt := top 28
abbrev s_solved : Stmt := top 29
abbrev s_signed : Stmt := top 30
abbrev s_best_cost_of : Stmt := top 31
abbrev s_best_cost : Stmt := top 32
abbrev s_other_of : Stmt := top 34
abbrev s_kept : Stmt := top 35
abbrev s_priced : Stmt := top 36
abbrev s_unit : Stmt := top 37
abbrev s_need_steps : Stmt := top 39
abbrev s_moved_rights : Stmt := top 40
abbrev s_cost_at : Stmt := top 41
abbrev s_times_of_plans : Stmt := top 42
abbrev s_line_at : Stmt := top 43
abbrev s_end_line : Stmt := top 44
abbrev s_breaks : Stmt := top 45
abbrev s_pieces_of : Stmt := top 46
abbrev s_cost_pieces : Stmt := top 47
abbrev s_starts_to : Stmt := top 48
abbrev s_ends_from : Stmt := top 49
abbrev s_same_until : Stmt := top 50
abbrev s_law_taken : Stmt := top 52
abbrev s_law_alike : Stmt := top 53
abbrev s_law_ratio : Stmt := top 54
abbrev s_law_plus : Stmt := top 55
abbrev s_law_times : Stmt := top 56
abbrev s_law_gap : Stmt := top 57
abbrev s_law_task : Stmt := top 58
abbrev s_law_at : Stmt := top 59
abbrev s_law_then : Stmt := top 60
abbrev s_law : Stmt := top 61
def d_is_int : He.DefD := ⟨("is_int", none), "is_int", "is_int", defArgs s_is_int, defBody s_is_int, defScope s_is_int, [], []⟩
def d_divisor : He.DefD := ⟨("divisor", none), "divisor", "divisor", defArgs s_divisor, defBody s_divisor, defScope s_divisor, [], []⟩
def d_ratio : He.DefD := ⟨("ratio", none), "ratio", "ratio", defArgs s_ratio, defBody s_ratio, defScope s_ratio, [], []⟩
def d_plus_of : He.DefD := ⟨("plus_of", none), "plus_of", "plus_of", defArgs s_plus_of, defBody s_plus_of, defScope s_plus_of, [], []⟩
def d_minus_of : He.DefD := ⟨("minus_of", none), "minus_of", "minus_of", defArgs s_minus_of, defBody s_minus_of, defScope s_minus_of, [], []⟩
def d_times_of : He.DefD := ⟨("times_of", none), "times_of", "times_of", defArgs s_times_of, defBody s_times_of, defScope s_times_of, [], []⟩
def d_over_of : He.DefD := ⟨("over_of", none), "over_of", "over_of", defArgs s_over_of, defBody s_over_of, defScope s_over_of, [], []⟩
def d_dot : He.DefD := ⟨("dot", none), "dot", "dot", defArgs s_dot, defBody s_dot, defScope s_dot, [], []⟩
def dg_init : He.DefD := ⟨("Grid", some "__init__"), "__init__", "Grid.__init__", defArgs sg_init, defBody sg_init, defScope sg_init, [], []⟩
def dg_price : He.DefD := ⟨("Grid", some "price"), "price", "Grid.price", defArgs sg_price, defBody sg_price, defScope sg_price, [], []⟩
def dg_turn : He.DefD := ⟨("Grid", some "turn"), "turn", "Grid.turn", defArgs sg_turn, defBody sg_turn, defScope sg_turn, [], []⟩
def dg_swept : He.DefD := ⟨("Grid", some "swept"), "swept", "Grid.swept", defArgs sg_swept, defBody sg_swept, defScope sg_swept, [], []⟩
def dg_goes_out : He.DefD := ⟨("Grid", some "goes_out"), "goes_out", "Grid.goes_out", defArgs sg_goes_out, defBody sg_goes_out, defScope sg_goes_out, [], []⟩
def dg_is_less : He.DefD := ⟨("Grid", some "is_less"), "is_less", "Grid.is_less", defArgs sg_is_less, defBody sg_is_less, defScope sg_is_less, [], []⟩
def dg_settle : He.DefD := ⟨("Grid", some "settle"), "settle", "Grid.settle", defArgs sg_settle, defBody sg_settle, defScope sg_settle, [], []⟩
def dg_amounts : He.DefD := ⟨("Grid", some "amounts"), "amounts", "Grid.amounts", defArgs sg_amounts, defBody sg_amounts, defScope sg_amounts, [], []⟩
def dg_weights : He.DefD := ⟨("Grid", some "weights"), "weights", "Grid.weights", defArgs sg_weights, defBody sg_weights, defScope sg_weights, [], []⟩
def dg_drive_out : He.DefD := ⟨("Grid", some "drive_out"), "drive_out", "Grid.drive_out", defArgs sg_drive_out, defBody sg_drive_out, defScope sg_drive_out, [], []⟩
def dg_way : He.DefD := ⟨("Grid", some "way"), "way", "Grid.way", defArgs sg_way, defBody sg_way, defScope sg_way, [], []⟩
def d_is_small : He.DefD := ⟨("is_small", none), "is_small", "is_small", defArgs s_is_small, defBody s_is_small, defScope s_is_small, [], []⟩
def d_is_row : He.DefD := ⟨("is_row", none), "is_row", "is_row", defArgs s_is_row, defBody s_is_row, defScope s_is_row, [], []⟩
def d_need_task : He.DefD := ⟨("need_task", none), "need_task", "need_task", defArgs s_need_task, defBody s_need_task, defScope s_need_task, [], []⟩
def d_turned_row : He.DefD := ⟨("turned_row", none), "turned_row", "turned_row", defArgs s_turned_row, defBody s_turned_row, defScope s_turned_row, [], []⟩
def d_plain_of : He.DefD := ⟨("plain_of", none), "plain_of", "plain_of", defArgs s_plain_of, defBody s_plain_of, defScope s_plain_of, [], []⟩
def d_need_column : He.DefD := ⟨("need_column", none), "need_column", "need_column", defArgs s_need_column, defBody s_need_column, defScope s_need_column, [], []⟩
def d_spread : He.DefD := ⟨("spread", none), "spread", "spread", defArgs s_spread, defBody s_spread, defScope s_spread, [], []⟩
def d_gathered : He.DefD := ⟨("gathered", none), "gathered", "gathered", defArgs s_gathered, defBody s_gathered, defScope s_gathered, [], []⟩
def d_solved : He.DefD := ⟨("solved", none), "solved", "solved", defArgs s_solved, defBody s_solved, defScope s_solved, [], []⟩
def d_signed : He.DefD := ⟨("signed", none), "signed", "signed", defArgs s_signed, defBody s_signed, defScope s_signed, [], []⟩
def d_best_cost_of : He.DefD := ⟨("best_cost_of", none), "best_cost_of", "best_cost_of", defArgs s_best_cost_of, defBody s_best_cost_of, defScope s_best_cost_of, [], []⟩
def d_best_cost : He.DefD := ⟨("best_cost", none), "best_cost", "best_cost", defArgs s_best_cost, defBody s_best_cost, defScope s_best_cost, [], []⟩
def d_other_of : He.DefD := ⟨("other_of", none), "other_of", "other_of", defArgs s_other_of, defBody s_other_of, defScope s_other_of, [], []⟩
def d_kept : He.DefD := ⟨("kept", none), "kept", "kept", defArgs s_kept, defBody s_kept, defScope s_kept, [], []⟩
def d_priced : He.DefD := ⟨("priced", none), "priced", "priced", defArgs s_priced, defBody s_priced, defScope s_priced, [], []⟩
def d_unit : He.DefD := ⟨("unit", none), "unit", "unit", defArgs s_unit, defBody s_unit, defScope s_unit, [], []⟩
def d_need_steps : He.DefD := ⟨("need_steps", none), "need_steps", "need_steps", defArgs s_need_steps, defBody s_need_steps, defScope s_need_steps, [], []⟩
def d_moved_rights : He.DefD := ⟨("moved_rights", none), "moved_rights", "moved_rights", defArgs s_moved_rights, defBody s_moved_rights, defScope s_moved_rights, [], []⟩
def d_cost_at : He.DefD := ⟨("cost_at", none), "cost_at", "cost_at", defArgs s_cost_at, defBody s_cost_at, defScope s_cost_at, [], []⟩
def d_times_of_plans : He.DefD := ⟨("times_of_plans", none), "times_of_plans", "times_of_plans", defArgs s_times_of_plans, defBody s_times_of_plans, defScope s_times_of_plans, [], []⟩
def d_line_at : He.DefD := ⟨("line_at", none), "line_at", "line_at", defArgs s_line_at, defBody s_line_at, defScope s_line_at, [], []⟩
def d_end_line : He.DefD := ⟨("end_line", none), "end_line", "end_line", defArgs s_end_line, defBody s_end_line, defScope s_end_line, [], []⟩
def d_breaks : He.DefD := ⟨("breaks", none), "breaks", "breaks", defArgs s_breaks, defBody s_breaks, defScope s_breaks, [], []⟩
def d_pieces_of : He.DefD := ⟨("pieces_of", none), "pieces_of", "pieces_of", defArgs s_pieces_of, defBody s_pieces_of, defScope s_pieces_of, [], []⟩
def d_cost_pieces : He.DefD := ⟨("cost_pieces", none), "cost_pieces", "cost_pieces", defArgs s_cost_pieces, defBody s_cost_pieces, defScope s_cost_pieces, [], []⟩
def d_starts_to : He.DefD := ⟨("starts_to", none), "starts_to", "starts_to", defArgs s_starts_to, defBody s_starts_to, defScope s_starts_to, [], []⟩
def d_ends_from : He.DefD := ⟨("ends_from", none), "ends_from", "ends_from", defArgs s_ends_from, defBody s_ends_from, defScope s_ends_from, [], []⟩
def d_same_until : He.DefD := ⟨("same_until", none), "same_until", "same_until", defArgs s_same_until, defBody s_same_until, defScope s_same_until, [], []⟩
def d_law_taken : He.DefD := ⟨("_law_taken", none), "_law_taken", "_law_taken", defArgs s_law_taken, defBody s_law_taken, defScope s_law_taken, [], []⟩
def d_law_alike : He.DefD := ⟨("_law_alike", none), "_law_alike", "_law_alike", defArgs s_law_alike, defBody s_law_alike, defScope s_law_alike, [], []⟩
def d_law_ratio : He.DefD := ⟨("_law_ratio", none), "_law_ratio", "_law_ratio", defArgs s_law_ratio, defBody s_law_ratio, defScope s_law_ratio, [], []⟩
def d_law_plus : He.DefD := ⟨("_law_plus", none), "_law_plus", "_law_plus", defArgs s_law_plus, defBody s_law_plus, defScope s_law_plus, [], []⟩
def d_law_times : He.DefD := ⟨("_law_times", none), "_law_times", "_law_times", defArgs s_law_times, defBody s_law_times, defScope s_law_times, [], []⟩
def d_law_gap : He.DefD := ⟨("_law_gap", none), "_law_gap", "_law_gap", defArgs s_law_gap, defBody s_law_gap, defScope s_law_gap, [], []⟩
def d_law_task : He.DefD := ⟨("_law_task", none), "_law_task", "_law_task", defArgs s_law_task, defBody s_law_task, defScope s_law_task, [], []⟩
def d_law_at : He.DefD := ⟨("_law_at", none), "_law_at", "_law_at", defArgs s_law_at, defBody s_law_at, defScope s_law_at, [], []⟩
def d_law_then : He.DefD := ⟨("_law_then", none), "_law_then", "_law_then", defArgs s_law_then, defBody s_law_then, defScope s_law_then, [], []⟩
def d_law : He.DefD := ⟨("law", none), "law", "law", defArgs s_law, defBody s_law, defScope s_law, [], []⟩
def fn : List He.DefD := ([d_is_int, d_divisor, d_ratio, d_plus_of, d_minus_of, d_times_of, d_over_of, d_dot, dg_init, dg_price, dg_turn, dg_swept, dg_goes_out, dg_is_less, dg_settle, dg_amounts, dg_weights, dg_drive_out, dg_way, d_is_small, d_is_row, d_need_task, d_turned_row, d_plain_of, d_need_column, d_spread, d_gathered, d_solved, d_signed, d_best_cost_of] : List He.DefD) ++ ([d_best_cost, d_other_of, d_kept, d_priced, d_unit, d_need_steps, d_moved_rights, d_cost_at, d_times_of_plans, d_line_at, d_end_line, d_breaks, d_pieces_of, d_cost_pieces, d_starts_to, d_ends_from, d_same_until, d_law_taken, d_law_alike, d_law_ratio, d_law_plus, d_law_times, d_law_gap, d_law_task, d_law_at, d_law_then, d_law] : List He.DefD)
def fa : List He.Fa := ([.glo "is_int", .glo "divisor", .glo "ratio", .glo "plus_of", .glo "minus_of", .glo "times_of", .glo "over_of", .glo "dot", .glo "Grid", .glo "is_small", .glo "is_row", .glo "need_task", .glo "turned_row", .glo "plain_of", .glo "need_column", .glo "spread", .glo "gathered", .glo "solved", .glo "signed", .glo "best_cost_of", .glo "best_cost", .glo "other_of", .glo "kept", .glo "priced", .glo "unit", .glo "need_steps", .glo "moved_rights", .glo "cost_at", .glo "times_of_plans", .glo "line_at"] : List He.Fa) ++ ([.glo "end_line", .glo "breaks", .glo "pieces_of", .glo "cost_pieces", .glo "starts_to", .glo "ends_from", .glo "same_until", .glo "_law_taken", .glo "_law_alike", .glo "_law_ratio", .glo "_law_plus", .glo "_law_times", .glo "_law_gap", .glo "_law_task", .glo "_law_at", .glo "_law_then", .glo "law", .glo "SIGNS", .free "len", .free "range", .free "zip", .free "enumerate", .free "isinstance", .free "abs", .free "tuple", .free "list", .free "sum", .free "all", .free "any", .free "int"] : List He.Fa) ++ ([.free "max", .free "min", .free "bool", .free "str", .int "MOST_COLUMNS" 6, .int "MOST_ROWS" 8, .int "MOST_VALUE" 1000, .cls "Grid", .mkr "Grid", .noat "Grid" "signs", .noat "Grid" "many", .noat "Grid" "rows", .noat "Grid" "inside", .noat "Grid" "low", .noat "Grid" "top", .meth "Grid" "price", .meth "Grid" "turn", .meth "Grid" "swept", .meth "Grid" "goes_out", .meth "Grid" "is_less", .meth "Grid" "settle", .meth "Grid" "amounts", .meth "Grid" "weights", .meth "Grid" "drive_out", .meth "Grid" "way"] : List He.Fa)
def loose : List PySem.Str := (["PlanError", "BadTask", "BadNumber", "is_int", "divisor", "ratio", "plus_of", "minus_of", "times_of", "over_of", "dot", "Grid", "MOST_COLUMNS", "MOST_ROWS", "MOST_VALUE", "SIGNS", "is_small", "is_row", "need_task", "turned_row", "plain_of", "need_column", "spread", "gathered", "solved", "signed", "best_cost_of", "best_cost", "other_of", "kept"] : List PySem.Str) ++ (["priced", "unit", "need_steps", "moved_rights", "cost_at", "times_of_plans", "line_at", "end_line", "breaks", "pieces_of", "cost_pieces", "starts_to", "ends_from", "same_until", "_law_taken", "_law_alike", "_law_ratio", "_law_plus", "_law_times", "_law_gap", "_law_task", "_law_at", "_law_then"] : List PySem.Str)
def signsD : List He.Dv := [.str ">=", .str "<=", .str "="]
def ex (K : PySem.W.Frag) : Bool := He.tupB K "SIGNS" signsD
abbrev R : PySem.W.OpenRow := PySem.W.OpenLaw.row PySem.Challenge.rw_costpapers_k08_whole_cost_pieces
abbrev hk : PySem.W.Hook := He.hookX 5 fa fn [] [] ex
def ob (s : PySem.W.SharedT) : He.AlX := He.obsX 5 fa fn [] [] ex (HandSHeadRun.getT s)
theorem ob_eq (s : PySem.W.SharedT) : ob s = hk.obs s.abs := He.obsX_eq (HandSHeadRun.getT_eq s)
theorem run (w : World) : HandSHeadRun.RunEq R (PySem.W.view R.prog [61]) hk ob 6000 loose w := by
  intro os
  kernel_rfl
end Cp
end
/-! ## CIt -/
section
set_option Elab.async false
set_option linter.all false
set_option maxRecDepth 100000
set_option maxHeartbeats 4000000
/-! walks over lists, tuples, texts in any mix: enumerate, zip of two, of three -/
namespace Cp
open PySem PySem.Spec PyProof.Rows L2

inductive Sq where
  | lst (a : Addr)
  | tup (a : Addr)
  | str (x : Str)
def Sq.v : Sq → V
  | .lst a => .ref a
  | .tup a => .ref a
  | .str x => .str x
def chV (x : Str) : List V := x.cps.toList.map fun c => V.str ⟨#[c]⟩
def Sq.has (H : Hp) : Sq → List V → Prop
  | .lst a, xs => H a = some (.lst xs)
  | .tup a, xs => H a = some (.tup xs)
  | .str x, xs => xs = chV x
def Sq.st : Sq → Addr → Nat → Heap → Prop
  | .lst a, it, i, h => h.IsListIter it a i
  | .tup a, it, i, h => h.IsTupleIter it a i
  | .str x, it, i, h => ∃ t, h.IsStrIter it (strIterType x) x t i
theorem Sq.has_inj {H : Hp} {q : Sq} {xs ys : List V} (h : q.has H xs) (h' : q.has H ys) : xs = ys := by
  cases q with
  | lst a =>
    have h1 : H a = some (.lst xs) := h
    have h2 : H a = some (.lst ys) := h'
    rw [h1] at h2; cases h2; rfl
  | tup a =>
    have h1 : H a = some (.tup xs) := h
    have h2 : H a = some (.tup ys) := h'
    rw [h1] at h2; cases h2; rfl
  | str x =>
    have h1 : xs = chV x := h
    have h2 : ys = chV x := h'
    rw [h1, h2]
theorem Sq.st_obj {q : Sq} {it : Addr} {i : Nat} {h : Heap} (s : q.st it i h) : ∃ o, h.get? it = some o ∧ ∀ v, o.data ≠ .cell v := by
  cases q with
  | lst a =>
    obtain ⟨o, e, _, d⟩ := s
    exact ⟨o, e, fun v q => by rw [d] at q; cases q⟩
  | tup a =>
    obtain ⟨o, e, _, d⟩ := s
    exact ⟨o, e, fun v q => by rw [d] at q; cases q⟩
  | str x =>
    obtain ⟨t, o, e, _, d⟩ := s
    exact ⟨o, e, fun v q => by rw [d] at q; cases q⟩
theorem Sq.st_at {q : Sq} {it : Addr} {i : Nat} {h h' : Heap} (s : q.st it i h) (k : ∀ o, h.get? it = some o → h'.get? it = some o) : q.st it i h' := by
  cases q with
  | lst a => exact Heap.IsListIter.at s k
  | tup a => exact Heap.IsTupleIter.at s k
  | str x =>
    obtain ⟨t, o, e, r⟩ := s
    exact ⟨t, o, k o e, r⟩
section
variable {X : Cx} {pins : List (Addr × Obj)} {σ : L2.St} {H : Hp} {s : Shared}
/-- one source as the library's Draws, at a state -/
theorem Sq.draws {A : Around} {q : Sq} {it : Addr} {i : Nat} {xs : List V} (I : Inv X pins σ H s) (hh : A.handled = none) (hq : q.has H xs) (st : q.st it i s.heap) (hit : H it = none) :
    ∃ (fp : List Addr) (P : Nat → Value → Prop) (S : Nat → Heap → Prop), Draws X.prog X.w A it fp xs.length P S ∧ it ∈ fp ∧ (∀ b ∈ fp, b = it ∨ H b ≠ none) ∧ S i s.heap ∧
      (∀ j v, P j v → ∃ x, xs[j]? = some x ∧ RelV x v) ∧ (∀ j h, S j h → q.st it j h) := by
  cases q with
  | lst a =>
    have e : H a = some (.lst xs) := hq
    obtain ⟨its, rv, p, hz⟩ := I.list (SqL.of (K := X.K) e)
    have hne : a ≠ it := fun z => by rw [z, hit] at e; cases e
    have hl : its.toArray.size = xs.length := by simp [rv.length]
    refine ⟨[it, a], _, _, hl ▸ Draws.list hh it a hne its.toArray, by simp, fun b hb => ?_, ⟨st, p.isList⟩, fun j v hv => ?_, fun j h hS => hS.1⟩
    · rcases List.mem_cons.mp hb with z | z
      · exact .inl z
      · rw [List.mem_singleton.mp z]
        exact .inr (by rw [e]; simp)
    · have hv' : its[j]? = some v := by simpa using hv
      cases q : xs[j]? with
      | none =>
        rw [rv.none_of q] at hv'; cases hv'
      | some x =>
        obtain ⟨u, h1, h2⟩ := rv.get q
        rw [h1] at hv'; cases hv'
        exact ⟨x, rfl, h2⟩
  | tup a =>
    have e : H a = some (.tup xs) := hq
    obtain ⟨its, rv, p, hz⟩ := I.tuple (SqT.of (K := X.K) e)
    have hne : a ≠ it := fun z => by rw [z, hit] at e; cases e
    have hl : its.toArray.size = xs.length := by simp [rv.length]
    refine ⟨[it, a], _, _, hl ▸ Draws.tuple hh it a hne its.toArray, by simp, fun b hb => ?_, ⟨st, p⟩, fun j v hv => ?_, fun j h hS => hS.1⟩
    · rcases List.mem_cons.mp hb with z | z
      · exact .inl z
      · rw [List.mem_singleton.mp z]
        exact .inr (by rw [e]; simp)
    · have hv' : its[j]? = some v := by simpa using hv
      cases q : xs[j]? with
      | none =>
        rw [rv.none_of q] at hv'; cases hv'
      | some x =>
        obtain ⟨u, h1, h2⟩ := rv.get q
        rw [h1] at hv'; cases hv'
        exact ⟨x, rfl, h2⟩
  | str x =>
    have e : xs = chV x := hq
    subst e
    obtain ⟨t, st⟩ := st
    have hl : x.cps.size = (chV x).length := by simp [chV]
    refine ⟨[it], _, _, hl ▸ Draws.text hh it x t, by simp, fun b hb => .inl (List.mem_singleton.mp hb), st, fun j v hv => ?_, fun j h hS => ⟨t, hS⟩⟩
    obtain ⟨c, u, h1, rfl⟩ := hv
    refine ⟨.str ⟨#[c]⟩, ?_, u, rfl⟩
    unfold chV
    rw [List.getElem?_map]
    have h2 : x.cps.toList[j]? = some c := by simpa using h1
    rw [h2]
    rfl
/-- a source's iterator begins -/
theorem Sq.begins {q : Sq} {xs : List V} {u : Value} (I : Inv X pins σ H s) (hq : q.has H xs) (r : RelV q.v u) :
    ∃ (o : Obj) (S : Heap → Prop), Begins u o S ∧ S s.heap ∧ ∀ (it : Addr) (h : Heap), h.get? it = some o → q.st it 0 h := by
  cases q with
  | lst a =>
    have e : H a = some (.lst xs) := hq
    obtain ⟨its, rv, p, hz⟩ := I.list (SqL.of (K := X.K) e)
    cases (show u = Value.ref a from r)
    exact ⟨_, _, begins_list a its.toArray, p.isList, fun it h e => ⟨_, e, rfl, rfl⟩⟩
  | tup a =>
    have e : H a = some (.tup xs) := hq
    obtain ⟨its, rv, p, hz⟩ := I.tuple (SqT.of (K := X.K) e)
    cases (show u = Value.ref a from r)
    exact ⟨_, _, begins_tuple a its.toArray, p, fun it h e => ⟨_, e, rfl, rfl⟩⟩
  | str x =>
    obtain ⟨t, rfl⟩ := (show ∃ t, u = Value.str x t from r)
    exact ⟨_, _, begins_text x t, trivial, fun it h e => ⟨t, _, e, rfl, rfl⟩⟩
end

/-! ### zip of two -/
def Iz2 (q1 q2 : Sq) : It :=
  ⟨fun i H => ∃ xs ys, q1.has H xs ∧ q2.has H ys ∧ i < xs.length ∧ i < ys.length,
   fun i H v H' => ∃ T x y, v = .ref T ∧ H T = none ∧ H' = upd H T (.tup [x, y]) ∧ (∀ xs, q1.has H xs → xs[i]? = some x) ∧ (∀ ys, q2.has H ys → ys[i]? = some y),
   fun i H => ∃ xs ys, q1.has H xs ∧ q2.has H ys ∧ i = min xs.length ys.length⟩
structure Ap2 (z TI TO i1 i2 : Addr) : Prop where
  a1 : TI ≠ z
  a2 : TO ≠ z
  a3 : TI ≠ TO
  a4 : TI ≠ i1
  a5 : TI ≠ i2
  a6 : z ≠ i1
  a7 : z ≠ i2
  a8 : TO ≠ i1
  a9 : TO ≠ i2
  a10 : i1 ≠ i2
theorem ne_add {n a b : Nat} (h : a ≠ b) : (show Addr from n + a) ≠ (show Addr from n + b) := fun e => h (Nat.add_left_cancel (show (n + a : Nat) = n + b from e))
theorem ap2 (n : Nat) : Ap2 (n + 4) (n + 2) (n + 3) n (n + 1) := ⟨ne_add (by decide), ne_add (by decide), ne_add (by decide), ne_add (b := 0) (by decide), ne_add (by decide), ne_add (b := 0) (by decide), ne_add (by decide), ne_add (b := 0) (by decide), ne_add (by decide), ne_add (a := 0) (by decide)⟩
theorem turn_z2 {P : Program} {w : World} {K : PySem.W.Frag} {elts : List Expr} {kk : Nat} {tpos : Pos} {q1 q2 : Sq} {z TI TO i1 i2 : Addr} (D : Ap2 z TI TO i1 i2) :
    Turn P w K (.Tuple elts kk tpos) (Iz2 q1 q2) [z, TI, TO, i1, i2] z (fun i h => IsZip h z TI TO .none ∧ IsTupOf2 h TI (.ref i1) (.ref i2) ∧ (∃ a1 a2, IsTupOf2 h TO a1 a2) ∧ q1.st i1 i h ∧ q2.st i2 i h) where
  mem := by simp
  obj := fun i h st c hc => by
    obtain ⟨hz, hTI, ⟨x, y, hTO⟩, s1, s2⟩ := st
    have e' : c = z ∨ c = TI ∨ c = TO ∨ c = i1 ∨ c = i2 := by simpa using hc
    rcases e' with q | q | q | q | q
    · rw [q]; exact ⟨_, hz, fun v q => nomatch q⟩
    · rw [q]; exact ⟨_, hTI, fun v q => nomatch q⟩
    · rw [q]; exact ⟨_, hTO, fun v q => nomatch q⟩
    · rw [q]; exact (Sq.st_obj s1)
    · rw [q]; exact (Sq.st_obj s2)
  keep := fun i h h' st k => by
    obtain ⟨hz, hTI, ⟨x, y, hTO⟩, s1, s2⟩ := st
    exact ⟨k z (by simp) _ hz, k TI (by simp) _ hTI, ⟨x, y, k TO (by simp) _ hTO⟩, Sq.st_at s1 fun o q => k i1 (by simp) o q, Sq.st_at s2 fun o q => k i2 (by simp) o q⟩
  item := by
    intro X hP hw hK hc i pins s σ H E I hf st hg
    subst hP hw hK
    obtain ⟨hz, hTI, hTO, s1, s2⟩ := st
    obtain ⟨xs, ys, hx, hy, lx, ly⟩ := hg
    have hh : X.A.in1.handled = none := I.ok.hd hc
    obtain ⟨fp1, P1, S1, D1, m1, f1, t1, v1, b1⟩ := Sq.draws I hh hx s1 (hf i1 (by simp)).1
    obtain ⟨fp2, P2, S2, D2, m2, f2, t2, v2, b2⟩ := Sq.draws I hh hy s2 (hf i2 (by simp)).1
    have nf : ∀ {b it : Addr} {fp : List Addr}, (∀ b ∈ fp, b = it ∨ H b ≠ none) → H b = none → b ≠ it → b ∉ fp := fun f hb hne hm => (f _ hm).elim hne fun z => z hb
    have hZ := (hf z (by simp)).1
    have hO := (hf TO (by simp)).1
    have h1 := (hf i1 (by simp)).1
    have h2 := (hf i2 (by simp)).1
    have S : ZipSep2 z TI TO i1 i2 fp1 fp2 := ⟨D.a1, D.a2, D.a3, D.a4, m1, nf f1 hZ D.a6, nf f1 hO D.a8, D.a5, m2, nf f2 hZ D.a7, nf f2 hO D.a9, nf f2 h1 D.a10, nf f1 h2 (Ne.symm D.a10)⟩
    have G := GoesN.zip2 (elts := elts) (x1 := kk) (pos := tpos) S D1 D2
    refine G.goes i s _ E (by omega) ⟨hz, hTI, hTO, t1, t2⟩ fun v h' tk hY st' hk htk => ?_
    obtain ⟨T, u1, u2, rfl, hT, p1, p2, hTup⟩ := hY
    obtain ⟨x, ex, rx⟩ := v1 _ _ p1
    obtain ⟨y, ey, ry⟩ := v2 _ _ p2
    have hTn : H T = none := I.hok.fresh hT
    have new : ObjOk X.prog X.w (upd H T (.tup [x, y])) h' T (.tup [x, y]) := ⟨by show 2 ≤ sizeLine; decide, [u1, u2], .cons rx (.cons ry .nil), hTup⟩
    have hf' : ∀ b ∈ [z, TO, i1, i2], FpOk X pins H b := fun b hb => hf b (by
      have e' : b = z ∨ b = TO ∨ b = i1 ∨ b = i2 := by simpa using hb
      rcases e' with q | q | q | q <;> simp [q])
    have I1 : Inv X pins σ (upd H T (.tup [x, y])) { s with heap := h', toks := tk } := I.turnedNew (t' := tk) hk hf' hT new
    obtain ⟨g1, g2, g3, g4, g5⟩ := st'
    refine ⟨.ref T, _, I1, rfl, ⟨T, x, y, rfl, hTn, rfl, fun l hl => by rw [Sq.has_inj hl hx]; exact ex, fun l hl => by rw [Sq.has_inj hl hy]; exact ey⟩, ⟨g1, g2, g3, b1 _ _ g4, b2 _ _ g5⟩, fun b hb => ?_⟩
    have hbl : b < s.heap.objs.size := by
      have e' : b = z ∨ b = TI ∨ b = TO ∨ b = i1 ∨ b = i2 := by simpa using hb
      rcases e' with q | q | q | q | q
      · rw [q]; exact Heap.lt_size hz
      · rw [q]; exact Heap.lt_size hTI
      · obtain ⟨_, _, e⟩ := hTO; rw [q]; exact Heap.lt_size e
      · obtain ⟨_, e, _⟩ := (Sq.st_obj s1); rw [q]; exact Heap.lt_size e
      · obtain ⟨_, e, _⟩ := (Sq.st_obj s2); rw [q]; exact Heap.lt_size e
    rw [upd_ne (Nat.ne_of_lt (Nat.lt_of_lt_of_le hbl hT))]
    exact (hf b hb).1
  done := by
    intro X hP hw hK hc i pins s σ H E I hf st hg
    subst hP hw hK
    obtain ⟨hz, hTI, hTO, s1, s2⟩ := st
    obtain ⟨xs, ys, hx, hy, rfl⟩ := hg
    have hh : X.A.in1.handled = none := I.ok.hd hc
    obtain ⟨fp1, P1, S1, D1, m1, f1, t1, v1, b1⟩ := Sq.draws I hh hx s1 (hf i1 (by simp)).1
    obtain ⟨fp2, P2, S2, D2, m2, f2, t2, v2, b2⟩ := Sq.draws I hh hy s2 (hf i2 (by simp)).1
    have nf : ∀ {b it : Addr} {fp : List Addr}, (∀ b ∈ fp, b = it ∨ H b ≠ none) → H b = none → b ≠ it → b ∉ fp := fun f hb hne hm => (f _ hm).elim hne fun z => z hb
    have hZ := (hf z (by simp)).1
    have hO := (hf TO (by simp)).1
    have h1 := (hf i1 (by simp)).1
    have h2 := (hf i2 (by simp)).1
    have S : ZipSep2 z TI TO i1 i2 fp1 fp2 := ⟨D.a1, D.a2, D.a3, D.a4, m1, nf f1 hZ D.a6, nf f1 hO D.a8, D.a5, m2, nf f2 hZ D.a7, nf f2 hO D.a9, nf f2 h1 D.a10, nf f1 h2 (Ne.symm D.a10)⟩
    have G := GoesN.zip2 (elts := elts) (x1 := kk) (pos := tpos) S D1 D2
    refine G.stops s _ E ⟨hz, hTI, hTO, t1, t2⟩ fun h' tk hk htk => ?_
    exact I.turnedL (t' := tk) hk fun b hb => hf b (by
      have e' : b = z ∨ b = TO ∨ b = i1 ∨ b = i2 := by simpa using hb
      rcases e' with q | q | q | q <;> simp [q])
  self := fun A i s Q E st h => wpAny_pyIter_zip st.1 h

/-! ### zip of three -/
def Iz3 (q1 q2 q3 : Sq) : It :=
  ⟨fun i H => ∃ xs ys zs, q1.has H xs ∧ q2.has H ys ∧ q3.has H zs ∧ i < xs.length ∧ i < ys.length ∧ i < zs.length,
   fun i H v H' => ∃ T x y u, v = .ref T ∧ H T = none ∧ H' = upd H T (.tup [x, y, u]) ∧ (∀ xs, q1.has H xs → xs[i]? = some x) ∧ (∀ ys, q2.has H ys → ys[i]? = some y) ∧ (∀ zs, q3.has H zs → zs[i]? = some u),
   fun i H => ∃ xs ys zs, q1.has H xs ∧ q2.has H ys ∧ q3.has H zs ∧ i = min (min xs.length ys.length) zs.length⟩
theorem turn_z3 {P : Program} {w : World} {K : PySem.W.Frag} {elts : List Expr} {kk : Nat} {tpos : Pos} {q1 q2 q3 : Sq} {z TI TO i1 i2 i3 : Addr} (nd : [z, TI, TO, i1, i2, i3].Nodup) :
    Turn P w K (.Tuple elts kk tpos) (Iz3 q1 q2 q3) [z, TI, TO, i1, i2, i3] z (fun i h => IsZip h z TI TO .none ∧ IsTupOf3 h TI (.ref i1) (.ref i2) (.ref i3) ∧ (∃ a1 a2 a3, IsTupOf3 h TO a1 a2 a3) ∧ q1.st i1 i h ∧ q2.st i2 i h ∧ q3.st i3 i h) where
  mem := by simp
  obj := fun i h st c hc => by
    obtain ⟨hz, hTI, ⟨x, y, y', hTO⟩, s1, s2, s3⟩ := st
    have e' : c = z ∨ c = TI ∨ c = TO ∨ c = i1 ∨ c = i2 ∨ c = i3 := by simpa using hc
    rcases e' with q | q | q | q | q | q
    · rw [q]; exact ⟨_, hz, fun v q => nomatch q⟩
    · rw [q]; exact ⟨_, hTI, fun v q => nomatch q⟩
    · rw [q]; exact ⟨_, hTO, fun v q => nomatch q⟩
    · rw [q]; exact (Sq.st_obj s1)
    · rw [q]; exact (Sq.st_obj s2)
    · rw [q]; exact (Sq.st_obj s3)
  keep := fun i h h' st k => by
    obtain ⟨hz, hTI, ⟨x, y, y', hTO⟩, s1, s2, s3⟩ := st
    exact ⟨k z (by simp) _ hz, k TI (by simp) _ hTI, ⟨x, y, y', k TO (by simp) _ hTO⟩, Sq.st_at s1 fun o q => k i1 (by simp) o q, Sq.st_at s2 fun o q => k i2 (by simp) o q, Sq.st_at s3 fun o q => k i3 (by simp) o q⟩
  item := by
    intro X hP hw hK hc i pins s σ H E I hf st hg
    subst hP hw hK
    obtain ⟨hz, hTI, hTO, s1, s2, s3⟩ := st
    obtain ⟨xs, ys, zs, hx, hy, hu, lx, ly, lu⟩ := hg
    have hh : X.A.in1.handled = none := I.ok.hd hc
    obtain ⟨fp1, P1, S1, D1, m1, f1, t1, v1, b1⟩ := Sq.draws I hh hx s1 (hf i1 (by simp)).1
    obtain ⟨fp2, P2, S2, D2, m2, f2, t2, v2, b2⟩ := Sq.draws I hh hy s2 (hf i2 (by simp)).1
    obtain ⟨fp3, P3, S3, D3, m3, f3, t3, v3, b3⟩ := Sq.draws I hh hu s3 (hf i3 (by simp)).1
    have nf : ∀ {b it : Addr} {fp : List Addr}, (∀ b ∈ fp, b = it ∨ H b ≠ none) → H b = none → b ≠ it → b ∉ fp := fun f hb hne hm => (f _ hm).elim hne fun z => z hb
    have hZ := (hf z (by simp)).1
    have hO := (hf TO (by simp)).1
    have h1 := (hf i1 (by simp)).1
    have h2 := (hf i2 (by simp)).1
    have h3 := (hf i3 (by simp)).1
    simp only [List.nodup_cons, List.mem_cons, List.not_mem_nil, or_false, not_or, not_false_eq_true, List.nodup_nil, and_true] at nd
    obtain ⟨⟨n1, n2, n3, n4, n5⟩, ⟨n6, n7, n8, n9⟩, ⟨n10, n11, n12⟩, ⟨n13, n14⟩, n15⟩ := nd
    have S : ZipSep3 z TI TO i1 i2 i3 fp1 fp2 fp3 := by
      constructor <;> first | assumption | exact Ne.symm n1 | exact Ne.symm n2 | exact nf f1 hZ n3 | exact nf f1 hO n10 | exact nf f2 hZ n4 | exact nf f2 hO n11 | exact nf f3 hZ n5 | exact nf f3 hO n12 | exact nf f2 h1 n13 | exact nf f3 h1 n14 | exact nf f1 h2 (Ne.symm n13) | exact nf f3 h2 n15 | exact nf f1 h3 (Ne.symm n14) | exact nf f2 h3 (Ne.symm n15)
    have G := GoesN.zip3 (elts := elts) (x1 := kk) (pos := tpos) S D1 D2 D3
    refine G.goes i s _ E (by omega) ⟨hz, hTI, hTO, t1, t2, t3⟩ fun v h' tk hY st' hk htk => ?_
    obtain ⟨T, u1, u2, u3, rfl, hT, p1, p2, p3, hTup⟩ := hY
    obtain ⟨x, ex, rx⟩ := v1 _ _ p1
    obtain ⟨y, ey, ry⟩ := v2 _ _ p2
    obtain ⟨y', ey', ry'⟩ := v3 _ _ p3
    have hTn : H T = none := I.hok.fresh hT
    have new : ObjOk X.prog X.w (upd H T (.tup [x, y, y'])) h' T (.tup [x, y, y']) := ⟨by show 3 ≤ sizeLine; decide, [u1, u2, u3], .cons rx (.cons ry (.cons ry' .nil)), hTup⟩
    have hf' : ∀ b ∈ [z, TO, i1, i2, i3], FpOk X pins H b := fun b hb => hf b (by
      have e' : b = z ∨ b = TO ∨ b = i1 ∨ b = i2 ∨ b = i3 := by simpa using hb
      rcases e' with q | q | q | q | q <;> simp [q])
    have I1 : Inv X pins σ (upd H T (.tup [x, y, y'])) { s with heap := h', toks := tk } := I.turnedNew (t' := tk) hk hf' hT new
    obtain ⟨g1, g2, g3, g4, g5, g6⟩ := st'
    refine ⟨.ref T, _, I1, rfl, ⟨T, x, y, y', rfl, hTn, rfl, fun l hl => by rw [Sq.has_inj hl hx]; exact ex, fun l hl => by rw [Sq.has_inj hl hy]; exact ey, fun l hl => by rw [Sq.has_inj hl hu]; exact ey'⟩, ⟨g1, g2, g3, b1 _ _ g4, b2 _ _ g5, b3 _ _ g6⟩, fun b hb => ?_⟩
    have hbl : b < s.heap.objs.size := by
      have e' : b = z ∨ b = TI ∨ b = TO ∨ b = i1 ∨ b = i2 ∨ b = i3 := by simpa using hb
      rcases e' with q | q | q | q | q | q
      · rw [q]; exact Heap.lt_size hz
      · rw [q]; exact Heap.lt_size hTI
      · obtain ⟨_, _, _, e⟩ := hTO; rw [q]; exact Heap.lt_size e
      · obtain ⟨_, e, _⟩ := (Sq.st_obj s1); rw [q]; exact Heap.lt_size e
      · obtain ⟨_, e, _⟩ := (Sq.st_obj s2); rw [q]; exact Heap.lt_size e
      · obtain ⟨_, e, _⟩ := (Sq.st_obj s3); rw [q]; exact Heap.lt_size e
    rw [upd_ne (Nat.ne_of_lt (Nat.lt_of_lt_of_le hbl hT))]
    exact (hf b hb).1
  done := by
    intro X hP hw hK hc i pins s σ H E I hf st hg
    subst hP hw hK
    obtain ⟨hz, hTI, hTO, s1, s2, s3⟩ := st
    obtain ⟨xs, ys, zs, hx, hy, hu, rfl⟩ := hg
    have hh : X.A.in1.handled = none := I.ok.hd hc
    obtain ⟨fp1, P1, S1, D1, m1, f1, t1, v1, b1⟩ := Sq.draws I hh hx s1 (hf i1 (by simp)).1
    obtain ⟨fp2, P2, S2, D2, m2, f2, t2, v2, b2⟩ := Sq.draws I hh hy s2 (hf i2 (by simp)).1
    obtain ⟨fp3, P3, S3, D3, m3, f3, t3, v3, b3⟩ := Sq.draws I hh hu s3 (hf i3 (by simp)).1
    have nf : ∀ {b it : Addr} {fp : List Addr}, (∀ b ∈ fp, b = it ∨ H b ≠ none) → H b = none → b ≠ it → b ∉ fp := fun f hb hne hm => (f _ hm).elim hne fun z => z hb
    have hZ := (hf z (by simp)).1
    have hO := (hf TO (by simp)).1
    have h1 := (hf i1 (by simp)).1
    have h2 := (hf i2 (by simp)).1
    have h3 := (hf i3 (by simp)).1
    simp only [List.nodup_cons, List.mem_cons, List.not_mem_nil, or_false, not_or, not_false_eq_true, List.nodup_nil, and_true] at nd
    obtain ⟨⟨n1, n2, n3, n4, n5⟩, ⟨n6, n7, n8, n9⟩, ⟨n10, n11, n12⟩, ⟨n13, n14⟩, n15⟩ := nd
    have S : ZipSep3 z TI TO i1 i2 i3 fp1 fp2 fp3 := by
      constructor <;> first | assumption | exact Ne.symm n1 | exact Ne.symm n2 | exact nf f1 hZ n3 | exact nf f1 hO n10 | exact nf f2 hZ n4 | exact nf f2 hO n11 | exact nf f3 hZ n5 | exact nf f3 hO n12 | exact nf f2 h1 n13 | exact nf f3 h1 n14 | exact nf f1 h2 (Ne.symm n13) | exact nf f3 h2 n15 | exact nf f1 h3 (Ne.symm n14) | exact nf f2 h3 (Ne.symm n15)
    have G := GoesN.zip3 (elts := elts) (x1 := kk) (pos := tpos) S D1 D2 D3
    refine G.stops s _ E ⟨hz, hTI, hTO, t1, t2, t3⟩ fun h' tk hk htk => ?_
    exact I.turnedL (t' := tk) hk fun b hb => hf b (by
      have e' : b = z ∨ b = TO ∨ b = i1 ∨ b = i2 ∨ b = i3 := by simpa using hb
      rcases e' with q | q | q | q | q <;> simp [q])
  self := fun A i s Q E st h => wpAny_pyIter_zip st.1 h

/-! ### enumerate -/
def Ien (q : Sq) : It :=
  ⟨fun i H => ∃ xs, q.has H xs ∧ i < xs.length,
   fun i H v H' => ∃ T x, v = .ref T ∧ H T = none ∧ H' = upd H T (.tup [.int (i : Nat), x]) ∧ (∀ xs, q.has H xs → xs[i]? = some x),
   fun i H => ∃ xs, q.has H xs ∧ i = xs.length⟩
theorem turn_en {P : Program} {w : World} {K : PySem.W.Frag} {elts : List Expr} {kk : Nat} {tpos : Pos} {q : Sq} {e it : Addr} (hne : e ≠ it) :
    Turn P w K (.Tuple elts kk tpos) (Ien q) [e, it] e (fun i h => (∃ old, IsEnum h e it (0 + (i : Int)) old) ∧ q.st it i h) where
  mem := by simp
  obj := fun i h st c hc => by
    obtain ⟨⟨old, he⟩, s1⟩ := st
    have e' : c = e ∨ c = it := by simpa using hc
    rcases e' with q | q
    · rw [q]; exact ⟨_, he, fun v q => nomatch q⟩
    · rw [q]; exact (Sq.st_obj s1)
  keep := fun i h h' st k => by
    obtain ⟨⟨old, he⟩, s1⟩ := st
    exact ⟨⟨old, k e (by simp) _ he⟩, Sq.st_at s1 fun o q => k it (by simp) o q⟩
  item := by
    intro X hP hw hK hc i pins s σ H E I hf st hg
    subst hP hw hK
    obtain ⟨he, s1⟩ := st
    obtain ⟨xs, hx, lx⟩ := hg
    have hh : X.A.in1.handled = none := I.ok.hd hc
    obtain ⟨fp1, P1, S1, D1, m1, f1, t1, v1, b1⟩ := Sq.draws I hh hx s1 (hf it (by simp)).1
    have hE := (hf e (by simp)).1
    have hef : e ∉ fp1 := fun hm => (f1 _ hm).elim hne fun z => z hE
    have G := GoesN.enumFrom (elts := elts) (x1 := kk) (pos := tpos) 0 D1 e hne hef m1
    refine G.goes i s _ E lx ⟨he, t1⟩ fun v h' tk hY st' hk htk => ?_
    obtain ⟨T, t, u1, rfl, hT, p1, hTup⟩ := hY
    obtain ⟨x, ex, rx⟩ := v1 _ _ p1
    have hTn : H T = none := I.hok.fresh hT
    have new : ObjOk X.prog X.w (upd H T (.tup [.int (i : Nat), x])) h' T (.tup [.int (i : Nat), x]) := ⟨by show 2 ≤ sizeLine; decide, [.int (0 + (i : Int)) t, u1], .cons ⟨t, by rw [Int.zero_add]⟩ (.cons rx .nil), hTup⟩
    have hf' : ∀ b ∈ [e, it], FpOk X pins H b := fun b hb => hf b hb
    have I1 : Inv X pins σ (upd H T (.tup [.int (i : Nat), x])) { s with heap := h', toks := tk } := I.turnedNew (t' := tk) hk hf' hT new
    obtain ⟨g1, g4⟩ := st'
    refine ⟨.ref T, _, I1, rfl, ⟨T, x, rfl, hTn, rfl, fun l hl => by rw [Sq.has_inj hl hx]; exact ex⟩, ⟨g1, b1 _ _ g4⟩, fun b hb => ?_⟩
    have hbl : b < s.heap.objs.size := by
      have e' : b = e ∨ b = it := by simpa using hb
      rcases e' with q | q
      · obtain ⟨_, e⟩ := he; rw [q]; exact Heap.lt_size e
      · obtain ⟨_, e, _⟩ := (Sq.st_obj s1); rw [q]; exact Heap.lt_size e
    rw [upd_ne (Nat.ne_of_lt (Nat.lt_of_lt_of_le hbl hT))]
    exact (hf b hb).1
  done := by
    intro X hP hw hK hc i pins s σ H E I hf st hg
    subst hP hw hK
    obtain ⟨he, s1⟩ := st
    obtain ⟨xs, hx, rfl⟩ := hg
    have hh : X.A.in1.handled = none := I.ok.hd hc
    obtain ⟨fp1, P1, S1, D1, m1, f1, t1, v1, b1⟩ := Sq.draws I hh hx s1 (hf it (by simp)).1
    have hE := (hf e (by simp)).1
    have hef : e ∉ fp1 := fun hm => (f1 _ hm).elim hne fun z => z hE
    have G := GoesN.enumFrom (elts := elts) (x1 := kk) (pos := tpos) 0 D1 e hne hef m1
    exact G.stops s _ E ⟨he, t1⟩ fun h' tk hk htk => I.turnedL (t' := tk) hk fun b hb => hf b hb
  self := fun A i s Q E st h => let ⟨⟨_, he⟩, _⟩ := st; wpAny_pyIter_enum he h
/-! the making of enumerate(v) over any beginning -/
theorem meets_enum1 {v : Value} {o : Obj} {H : Heap → Prop} (B : Begins v o H) :
    Meets (Builtin.«enumerate.__new__» ⟨[.type "enumerate", v], []⟩) (fun _ R s => H s.heap ∧
      R (.ok (.ret (.ref (s.heap.push o).objs.size))) { s with heap := (s.heap.push o).push { cls := .type "enumerate", data := .fields #[.none, .bool false, .ref s.heap.objs.size, rawInt 0, .none, .none] } }) :=
  .of_wp fun prog w A R s h => by
    obtain ⟨hp, g, d, tk, os⟩ := s; obtain ⟨h1, h⟩ := h
    have hsub := sub_enumerate
    have q1 : ∀ {A' : Around} {E : Value → Shared → Prop} {Q : Value → Shared → Prop}, Q (.ref hp.objs.size) ⟨hp.push o, g, d, tk, os⟩ → wpAny (model prog w) A' (pyIter v) Q E ⟨hp, g, d, tk, os⟩ :=
      fun q => B.iter prog w _ _ ⟨hp, g, d, tk, os⟩ _ h1 q
    wp_walk using q1
    refine wpAny_stack_any fun st => wpAny_pure ?_
    split
    · rename_i c _ _ _ _ _
      cases (c == Value.type "enumerate")
      · wp_walk using q1
        exact ⟨_, rfl, h⟩
      · wp_walk using q1
        exact ⟨_, rfl, h⟩
    · wp_walk using q1
      exact ⟨_, rfl, h⟩
theorem enum1 {prog : Program} {w : World} {A : Around} {E : Value → Shared → Prop} {s : Shared} {v : Value} {o : Obj} {H : Heap → Prop} {Q : Value → Shared → Prop} (B : Begins v o H) (h1 : H s.heap)
    (h : ∀ h', IsEnum h' (s.heap.objs.size + 1) s.heap.objs.size 0 .none → h'.get? s.heap.objs.size = some o → h'.objs.size = s.heap.objs.size + 2 →
      (∀ b o, s.heap.get? b = some o → h'.get? b = some o) → Q (.ref (s.heap.objs.size + 1)) { s with heap := h' }) :
    wpAny (model prog w) A (call (.type "enumerate") [v]) Q E s := by
  refine callType_new F.called_enumerate (by decide) (F.typeCall_enumerate_1 _) (F.newCall_enumerate_1 _) (fun obj => F.args_object_init_2 obj _) F.entry_enumerate_new
    (meets_enum1 B) ⟨h1, ?_⟩
  have hz : (s.heap.push o).objs.size = s.heap.objs.size + 1 := Heap.size_push ..
  show _ ∧ _
  rw [hz]
  have he : IsEnum ((s.heap.push o).push { cls := .type "enumerate", data := .fields #[.none, .bool false, .ref s.heap.objs.size, rawInt 0, .none, .none] }) (s.heap.objs.size + 1) s.heap.objs.size 0 .none := by
    have := Heap.get?_push_size (s.heap.push o) (o := { cls := .type "enumerate", data := .fields #[.none, .bool false, .ref s.heap.objs.size, rawInt 0, .none, .none] }) rfl
    rw [hz] at this; exact this
  refine ⟨⟨_, he, rfl⟩, h _ he (Heap.get?_push_of_some _ (Heap.get?_push_size _ B.free)) (by rw [Heap.size_push, hz]) fun b o x => Heap.get?_push_of_some _ (Heap.get?_push_of_some _ x)⟩

/-! ### the rules -/
def iEnQ (ta : TA) : TI := fun σ H R => ta σ H fun vs H1 => ∃ (q : Sq) (xs : List V), vs = [q.v] ∧ q.has H1 xs ∧ R (Ien q) H1
def iZ2Q (ta : TA) : TI := fun σ H R => ta σ H fun vs H1 => ∃ (q1 q2 : Sq) (xs ys : List V), vs = [q1.v, q2.v] ∧ q1.has H1 xs ∧ q2.has H1 ys ∧ R (Iz2 q1 q2) H1
def iZ3Q (ta : TA) : TI := fun σ H R => ta σ H fun vs H1 => ∃ (q1 q2 q3 : Sq) (xs ys zs : List V), vs = [q1.v, q2.v, q3.v] ∧ q1.has H1 xs ∧ q2.has H1 ys ∧ q3.has H1 zs ∧ R (Iz3 q1 q2 q3) H1
section
variable {X : Cx} {e e2 e3 : Expr} {ta : TA} {p pos tpos : Pos} {elts : List Expr} {kk : Nat}
theorem pi_enQ (hg : Gl X "enumerate") (hm : X.mg "enumerate" = none) (ha : PA X [e] ta) (hs : starEach [e] X.env = [(false, eval e X.env)] := by rfl) :
    PI X (.Tuple elts kk tpos) (.Call (.Name "enumerate" p) [e] [] pos) (iEnQ ta) := by
  refine ⟨fun pins s σ H R I h => ?_⟩
  refine Call_ (ld_blt I hg hm boot_enumerate (PyProof.Rows.callWith_type1 (thn (ha.run pos pins s σ H _ I h) fun us s1 ⟨vs, H1, I1, r1, q1⟩ => ?_) hs rfl))
  obtain ⟨q, xs, rfl, hq, qR⟩ := q1
  cases r1 with
  | cons r rr =>
    cases rr
    obtain ⟨o, S, B, hS, hst⟩ := Sq.begins I1 hq r
    refine enum1 B hS fun h' he hit hsz hk => wpAny_pyIter_enum he ?_
    have I2 : Inv X pins σ H1 { s1 with heap := h' } := I1.kept (t' := s1.toks) hk
    refine ⟨s1.heap.objs.size + 1, [s1.heap.objs.size + 1, s1.heap.objs.size], _, _, H1, rfl, I2, turn_en (Nat.succ_ne_self _), ⟨⟨.none, he⟩, hst _ _ hit⟩, fun b hb => ?_, qR⟩
    have e' : b = s1.heap.objs.size + 1 ∨ b = s1.heap.objs.size := by simpa using hb
    have hle : s1.heap.objs.size ≤ b := by
      rcases e' with z | z
      · rw [z]; exact Nat.le_add_right _ _
      · rw [z]; exact Nat.le_refl _
    exact I1.fpOk hle (I1.hok.fresh hle)
theorem pi_z2Q (hg : Gl X "zip") (hm : X.mg "zip" = none) (ha : PA X [e, e2] ta)
    (hs : starEach [e, e2] X.env = (false, eval e X.env) :: starEach [e2] X.env := by rfl) (hpl : (backTo pos (starEach [e2] X.env)).any (·.1) = false := by rfl) :
    PI X (.Tuple elts kk tpos) (.Call (.Name "zip" p) [e, e2] [] pos) (iZ2Q ta) := by
  refine ⟨fun pins s σ H R I h => ?_⟩
  refine Call_ (ld_blt I hg hm PyProof.Rows.boot_zip (PyProof.Rows.callWith_type1 (thn (ha.run pos pins s σ H _ I h) fun us s1 ⟨vs, H1, I1, r1, q1⟩ => ?_) hs hpl))
  obtain ⟨q1, q2, xs, ys, rfl, hx, hy, qR⟩ := q1
  cases r1 with
  | cons r rr =>
    cases rr with
    | cons r' rr =>
      cases rr
      obtain ⟨o1, S1, B1, hS1, hst1⟩ := Sq.begins I1 hx r
      obtain ⟨o2, S2, B2, hS2, hst2⟩ := Sq.begins I1 hy r'
      refine zip_begins2 B1 B2 hS1 hS2 fun h' hz hTI hTO g1 g2 hsz hk => wpAny_pyIter_zip hz ?_
      have I2 : Inv X pins σ H1 { s1 with heap := h' } := I1.kept (t' := s1.toks) hk
      have ap : ∀ n : Nat, Ap2 (n + 4) (n + 2) (n + 3) n (n + 1) := ap2
      refine ⟨s1.heap.objs.size + 4, [s1.heap.objs.size + 4, s1.heap.objs.size + 2, s1.heap.objs.size + 3, s1.heap.objs.size, s1.heap.objs.size + 1], _, _, H1, rfl, I2, turn_z2 (ap _), ⟨hz, hTI, ⟨_, _, hTO⟩, hst1 _ _ g1, hst2 _ _ g2⟩, fun c hcm => ?_, qR⟩
      have e' : c = s1.heap.objs.size + 4 ∨ c = s1.heap.objs.size + 2 ∨ c = s1.heap.objs.size + 3 ∨ c = s1.heap.objs.size ∨ c = s1.heap.objs.size + 1 := by simpa using hcm
      have hle : s1.heap.objs.size ≤ c := by
        rcases e' with z | z | z | z | z
        · rw [z]; exact Nat.le_add_right _ _
        · rw [z]; exact Nat.le_add_right _ _
        · rw [z]; exact Nat.le_add_right _ _
        · rw [z]; exact Nat.le_refl _
        · rw [z]; exact Nat.le_add_right _ _
      exact I1.fpOk hle (I1.hok.fresh hle)
theorem pi_z3Q (hg : Gl X "zip") (hm : X.mg "zip" = none) (ha : PA X [e, e2, e3] ta)
    (hs : starEach [e, e2, e3] X.env = (false, eval e X.env) :: starEach [e2, e3] X.env := by rfl) (hpl : (backTo pos (starEach [e2, e3] X.env)).any (·.1) = false := by rfl) :
    PI X (.Tuple elts kk tpos) (.Call (.Name "zip" p) [e, e2, e3] [] pos) (iZ3Q ta) := by
  refine ⟨fun pins s σ H R I h => ?_⟩
  refine Call_ (ld_blt I hg hm PyProof.Rows.boot_zip (PyProof.Rows.callWith_type1 (thn (ha.run pos pins s σ H _ I h) fun us s1 ⟨vs, H1, I1, r1, q1⟩ => ?_) hs hpl))
  obtain ⟨q1, q2, q3, xs, ys, zs, rfl, hx, hy, hu, qR⟩ := q1
  cases r1 with
  | cons r rr =>
    cases rr with
    | cons r' rr =>
      cases rr with
      | cons r'' rr =>
        cases rr
        obtain ⟨o1, S1, B1, hS1, hst1⟩ := Sq.begins I1 hx r
        obtain ⟨o2, S2, B2, hS2, hst2⟩ := Sq.begins I1 hy r'
        obtain ⟨o3, S3, B3, hS3, hst3⟩ := Sq.begins I1 hu r''
        refine zip_begins3 B1 B2 B3 hS1 hS2 hS3 fun h' hz hTI hTO g1 g2 g3 hsz hk => wpAny_pyIter_zip hz ?_
        have I2 : Inv X pins σ H1 { s1 with heap := h' } := I1.kept (t' := s1.toks) hk
        have ap : ∀ n : Nat, [n + 5, n + 3, n + 4, n, n + 1, n + 2].Nodup := fun n => by simp
        refine ⟨s1.heap.objs.size + 5, [s1.heap.objs.size + 5, s1.heap.objs.size + 3, s1.heap.objs.size + 4, s1.heap.objs.size, s1.heap.objs.size + 1, s1.heap.objs.size + 2], _, _, H1, rfl, I2, turn_z3 (ap _), ⟨hz, hTI, ⟨_, _, _, hTO⟩, hst1 _ _ g1, hst2 _ _ g2, hst3 _ _ g3⟩, fun c hcm => ?_, qR⟩
        have e' : c = s1.heap.objs.size + 5 ∨ c = s1.heap.objs.size + 3 ∨ c = s1.heap.objs.size + 4 ∨ c = s1.heap.objs.size ∨ c = s1.heap.objs.size + 1 ∨ c = s1.heap.objs.size + 2 := by simpa using hcm
        have hle : s1.heap.objs.size ≤ c := by
          rcases e' with z | z | z | z | z | z
          · rw [z]; exact Nat.le_add_right _ _
          · rw [z]; exact Nat.le_add_right _ _
          · rw [z]; exact Nat.le_add_right _ _
          · rw [z]; exact Nat.le_refl _
          · rw [z]; exact Nat.le_add_right _ _
          · rw [z]; exact Nat.le_add_right _ _
        exact I1.fpOk hle (I1.hok.fresh hle)
end
end Cp
end
/-! ## CDl -/
section
set_option Elab.async false
set_option linter.all false
set_option maxRecDepth 100000
set_option maxHeartbeats 4000000
/-! data over the hand layer: frozen lists and tuples as PyData, owned lists, the grid's state; rules for readings -/
set_option autoImplicit false
namespace Cp
open PySem PySem.Spec PyProof.Rows L2

/-- the objects of the module, for the script's list -/
class KFix where
  K : PySem.W.Frag
variable [KFix]
/-- whole numbers as an opaque datum -/
def decI (kvs : List (PyData × PyData)) : List Int := kvs.map fun p => match p.1 with | .int i => i | _ => 0
mutual
inductive Rp (F : Hp) : V → PyData → Prop
  | non : Rp F .non .none
  | bl (b : Bool) : Rp F (.bl b) (.bool b)
  | int (i : Int) : Rp F (.int i) (.int i)
  | str (x : Str) : Rp F (.str x) (.str x)
  | lst {a : Addr} {xs : List V} {ds : List PyData} : F a = some (.lst xs) → RpL F xs ds → Rp F (.ref a) (.list ds)
  | tup {a : Addr} {xs : List V} {ds : List PyData} : F a = some (.tup xs) → RpL F xs ds → Rp F (.ref a) (.tuple ds)
  | scr {a : Addr} {kvs : List (PyData × PyData)} : SqL KFix.K F a ((decI kvs).map V.int) → Rp F (.ref a) (.dict kvs)
inductive RpL (F : Hp) : List V → List PyData → Prop
  | nil : RpL F [] []
  | cons {v : V} {vs : List V} {d : PyData} {ds : List PyData} : Rp F v d → RpL F vs ds → RpL F (v :: vs) (d :: ds)
end
theorem sqlSame {K : PySem.W.Frag} {F F' : Hp} {a : Addr} {xs : List V} (h : Same F F') (q : SqL K F a xs) : SqL K F' a xs := by
  rcases q with q | q
  · rcases q with q | ⟨o, q⟩
    · exact .inl (.inl (h _ _ q))
    · exact .inl (.inr ⟨o, h _ _ q⟩)
  · exact .inr q
mutual
theorem Rp.mono {F F' : Hp} (h : Same F F') : ∀ {d : PyData} {v : V}, Rp F v d → Rp F' v d
  | .none, _, r => by cases r; exact .non
  | .bool b, _, r => by cases r; exact .bl b
  | .int i, _, r => by cases r; exact .int i
  | .str x, _, r => by cases r; exact .str x
  | .list ds, _, r => by
    cases r with
    | lst e l => exact .lst (h _ _ e) (RpL.mono h l)
  | .tuple ds, _, r => by
    cases r with
    | tup e l => exact .tup (h _ _ e) (RpL.mono h l)
  | .dict _, _, r => by
    cases r with
    | scr q => exact .scr (sqlSame h q)
theorem RpL.mono {F F' : Hp} (h : Same F F') : ∀ {ds : List PyData} {vs : List V}, RpL F vs ds → RpL F' vs ds
  | [], _, r => by cases r; exact .nil
  | d :: ds, _, r => by
    cases r with
    | cons r1 r2 => exact .cons (Rp.mono h r1) (RpL.mono h r2)
end
mutual
theorem Rp.dp {K : PySem.W.Frag} {F H : Hp} (h : Same F H) : ∀ {d : PyData} {v : V}, d.canLay0 = true → Rp F v d → Dp K H v d
  | .none, _, _, r => by cases r; exact .non
  | .bool b, _, _, r => by cases r; exact .bl b
  | .int i, _, _, r => by cases r; exact .int i
  | .str x, _, _, r => by cases r; exact .str x
  | .list ds, _, hc, r => by
    cases r with
    | lst e l => exact .lst (SqL.of (h _ _ e)) (RpL.dp h hc l)
  | .tuple ds, _, hc, r => by
    cases r with
    | tup e l => exact .tup (SqT.of (h _ _ e)) (RpL.dp h hc l)
  | .dict _, _, hc, r => by cases hc
theorem RpL.dp {K : PySem.W.Frag} {F H : Hp} (h : Same F H) : ∀ {ds : List PyData} {vs : List V}, PyData.canLayAll0 ds = true → RpL F vs ds → DpAll K H vs ds
  | [], _, _, r => by cases r; exact .nil
  | d :: ds, _, hc, r => by
    cases r with
    | cons r1 r2 =>
      have hc' : (PyData.canLay0 d && PyData.canLayAll0 ds) = true := hc
      rw [Bool.and_eq_true] at hc'
      exact .cons (Rp.dp h hc'.1 r1) (RpL.dp h hc'.2 r2)
end
theorem RpL.len {F : Hp} : ∀ {vs : List V} {ds : List PyData}, RpL F vs ds → vs.length = ds.length
  | [], _, r => by cases r; rfl
  | _ :: _, _, r => by
    cases r with
    | cons r1 r2 => simp [RpL.len r2]
theorem RpL.get {F : Hp} : ∀ {vs : List V} {ds : List PyData} {i : Nat} {d : PyData}, RpL F vs ds → ds[i]? = some d → ∃ v, vs[i]? = some v ∧ Rp F v d
  | _, [], i, d, r, e => by simp at e
  | _, x :: ds, 0, d, r, e => by
    cases r with
    | cons r1 r2 =>
      have e' : x = d := by simpa using e
      subst e'
      exact ⟨_, rfl, r1⟩
  | _, x :: ds, i + 1, d, r, e => by
    cases r with
    | cons r1 r2 => exact RpL.get (i := i) r2 (by simpa using e)
theorem RpL.getV {F : Hp} : ∀ {vs : List V} {ds : List PyData} {i : Nat} {v : V}, RpL F vs ds → vs[i]? = some v → ∃ d, ds[i]? = some d ∧ Rp F v d
  | [], _, i, d, r, e => by simp at e
  | x :: vs, _, 0, d, r, e => by
    cases r with
    | cons r1 r2 =>
      have e' : x = d := by simpa using e
      subst e'
      exact ⟨_, rfl, r1⟩
  | x :: vs, _, i + 1, d, r, e => by
    cases r with
    | cons r1 r2 => exact RpL.getV (i := i) r2 (by simpa using e)
theorem RpL.append {F : Hp} : ∀ {vs ws : List V} {ds es : List PyData}, RpL F vs ds → RpL F ws es → RpL F (vs ++ ws) (ds ++ es)
  | [], _, _, _, r, r' => by cases r; exact r'
  | _ :: _, _, _, _, r, r' => by
    cases r with
    | cons r1 r2 => exact .cons r1 (RpL.append r2 r')
theorem RpL.set {F : Hp} {x : V} {d : PyData} (rx : Rp F x d) : ∀ {vs : List V} {ds : List PyData} (i : Nat), RpL F vs ds → RpL F (vs.set i x) (ds.set i d)
  | [], _, _, r => by cases r; exact .nil
  | _ :: _, _, 0, r => by
    cases r with
    | cons r1 r2 => exact .cons rx r2
  | _ :: _, _, i + 1, r => by
    cases r with
    | cons r1 r2 => exact .cons r1 (RpL.set rx i r2)
theorem RpL.take {F : Hp} : ∀ {vs : List V} {ds : List PyData} (i : Nat), RpL F vs ds → RpL F (vs.take i) (ds.take i)
  | [], _, i, r => by cases r; simp; exact .nil
  | _ :: _, _, 0, r => .nil
  | _ :: _, _, i + 1, r => by
    cases r with
    | cons r1 r2 => exact .cons r1 (RpL.take i r2)
theorem RpL.drop {F : Hp} : ∀ {vs : List V} {ds : List PyData} (i : Nat), RpL F vs ds → RpL F (vs.drop i) (ds.drop i)
  | [], _, i, r => by cases r; simp; exact .nil
  | _ :: _, _, 0, r => r
  | _ :: _, _, i + 1, r => by
    cases r with
    | cons r1 r2 => exact RpL.drop i r2
theorem RpL.ints {F : Hp} : ∀ (ns : List Int), RpL F (ns.map V.int) (ns.map PyData.int)
  | [] => .nil
  | n :: ns => .cons (.int n) (RpL.ints ns)
theorem RpL.ints_inv {F : Hp} : ∀ {ns : List Int} {vs : List V}, RpL F vs (ns.map PyData.int) → vs = ns.map V.int
  | [], _, r => by cases r; rfl
  | n :: ns, _, r => by
    cases r with
    | cons r1 r2 => cases r1; simp [RpL.ints_inv r2]
theorem RpL.strs_inv {F : Hp} : ∀ {ns : List Str} {vs : List V}, RpL F vs (ns.map PyData.str) → vs = ns.map V.str
  | [], _, r => by cases r; rfl
  | n :: ns, _, r => by
    cases r with
    | cons r1 r2 => cases r1; simp [RpL.strs_inv r2]
theorem RpL.bls_inv {F : Hp} : ∀ {ns : List Bool} {vs : List V}, RpL F vs (ns.map PyData.bool) → vs = ns.map V.bl
  | [], _, r => by cases r; rfl
  | n :: ns, _, r => by
    cases r with
    | cons r1 r2 => cases r1; simp [RpL.bls_inv r2]
theorem RpL.rep {F : Hp} {v : V} {d : PyData} (r : Rp F v d) : ∀ n : Nat, RpL F (List.replicate n v) (List.replicate n d)
  | 0 => .nil
  | n + 1 => .cons r (RpL.rep r n)

/-! ### a pure step of (frozen heap, heap) -/
structure Ex (F H F' H' : Hp) : Prop where
  f : Same F F'
  h : Same H H'
  s : Same F' H'
  n : ∀ b o, F' b = some o → F b = some o ∨ H b = none
theorem Ex.refl {F H : Hp} (s : Same F H) : Ex F H F H := ⟨Same.refl _, Same.refl _, s, fun _ _ e => .inl e⟩
theorem Ex.trans {F H F1 H1 F2 H2 : Hp} (a : Ex F H F1 H1) (b : Ex F1 H1 F2 H2) : Ex F H F2 H2 :=
  ⟨a.f.trans b.f, a.h.trans b.h, b.s, fun c o e => by
    rcases b.n c o e with q | q
    · exact a.n c o q
    · exact .inr (a.h.free q)⟩
/-- a new frozen object -/
theorem Ex.new {F H : Hp} {p : Addr} {o : HO} (s : Same F H) (n : H p = none) : Ex F H (upd F p o) (upd H p o) := by
  have nF : F p = none := s.free n
  refine ⟨fun b u e => ?_, fun b u e => ?_, fun b u e => ?_, fun b u e => ?_⟩
  · rw [upd_ne (ne_of_none e nF)]; exact e
  · rw [upd_ne (ne_of_none e n)]; exact e
  · by_cases hb : b = p
    · subst hb; rw [upd_same] at e ⊢; exact e
    · rw [upd_ne hb] at e ⊢; exact s _ _ e
  · by_cases hb : b = p
    · subst hb; exact .inr n
    · rw [upd_ne hb] at e; exact .inl e

/-! ### an object's fields: data, or owned lists -/
inductive Fd where
  | d (x : PyData)
  | own (a : Addr) (ds : List PyData)
def Fd.as : Fd → List Addr
  | .d _ => []
  | .own a _ => [a]
def FvO (F H : Hp) (v : V) : Fd → Prop
  | .d x => Rp F v x
  | .own a ds => v = .ref a ∧ ∃ vs, H a = some (.lst vs) ∧ RpL F vs ds
inductive FsO (F H : Hp) : List (Str × V) → List (Str × Fd) → Prop
  | nil : FsO F H [] []
  | cons {k : Str} {v : V} {x : Fd} {raw : List (Str × V)} {fs : List (Str × Fd)} : FvO F H v x → FsO F H raw fs → FsO F H ((k, v) :: raw) ((k, x) :: fs)
def dInts (ns : List Int) : PyData := .list (ns.map PyData.int)
def fAs : List (Str × Fd) → List Addr
  | [] => []
  | f :: fs => f.2.as ++ fAs fs
theorem fAs_mem {a : Addr} : ∀ {fs : List (Str × Fd)}, a ∈ fAs fs ↔ ∃ f ∈ fs, a ∈ f.2.as
  | [] => by simp [fAs]
  | f :: fs => by simp [fAs, fAs_mem (fs := fs)]
theorem FvO.mono {F H F' H' : Hp} {v : V} {x : Fd} (h : FvO F H v x) (f : Same F F') (k : ∀ a ∈ x.as, ∀ o, H a = some o → H' a = some o) : FvO F' H' v x := by
  cases x with
  | d y => exact Rp.mono f h
  | own a ds =>
    obtain ⟨e, vs, h1, h2⟩ := h
    exact ⟨e, vs, k a (by simp [Fd.as]) _ h1, h2.mono f⟩
theorem FsO.mono {F H F' H' : Hp} (f : Same F F') : ∀ {raw : List (Str × V)} {fs : List (Str × Fd)}, FsO F H raw fs → (∀ a ∈ fAs fs, ∀ o, H a = some o → H' a = some o) → FsO F' H' raw fs
  | _, _, .nil, _ => .nil
  | _, _, .cons h r, k => .cons (h.mono f fun a ha => k a (by simp [fAs, ha])) (r.mono f fun a ha => k a (by simp [fAs, ha]))
theorem FsO.at_ {F H : Hp} : ∀ {raw : List (Str × V)} {fs : List (Str × Fd)}, FsO F H raw fs → ∀ a ∈ fAs fs, H a ≠ none
  | _, _, .nil, a, ha => by simp [fAs] at ha
  | _, _, .cons (x := x) h r, a, ha => by
    rcases List.mem_append.mp ha with q | q
    · cases x with
      | d y => cases q
      | own b ds =>
        obtain ⟨_, vs, h1, _⟩ := h
        rw [List.mem_singleton.mp q, h1]; simp
    · exact r.at_ a q
theorem FsO.lookup {F H : Hp} {f : Str} {x : Fd} : ∀ {raw : List (Str × V)} {fs : List (Str × Fd)}, FsO F H raw fs → fs.lookup f = some x → ∃ v, raw.lookup f = some v ∧ FvO F H v x
  | _, _, .nil, e => by simp at e
  | _, _, .cons (k := k) h r, e => by
    rw [List.lookup_cons] at e ⊢
    cases q : (f == k) with
    | true =>
      rw [q] at e
      have := Option.some.inj e
      subst this
      exact ⟨_, rfl, h⟩
    | false =>
      rw [q] at e
      exact r.lookup e
theorem FsO.lookup_none {F H : Hp} {f : Str} : ∀ {raw : List (Str × V)} {fs : List (Str × Fd)}, FsO F H raw fs → fs.lookup f = none → raw.lookup f = none
  | _, _, .nil, e => rfl
  | _, _, .cons (k := k) h r, e => by
    rw [List.lookup_cons] at e ⊢
    cases q : (f == k) with
    | true => rw [q] at e; cases e
    | false =>
      rw [q] at e
      exact r.lookup_none e
theorem FsO.len {F H : Hp} : ∀ {raw : List (Str × V)} {fs : List (Str × Fd)}, FsO F H raw fs → raw.length = fs.length
  | _, _, .nil => rfl
  | _, _, .cons h r => by simp [r.len]
/-- a field stored -/
def putD (f : Str) (x : Fd) : List (Str × Fd) → List (Str × Fd)
  | [] => [(f, x)]
  | p :: r => if p.1 = f then (f, x) :: r else p :: putD f x r
theorem FsO.put {F H : Hp} {f : Str} {v : V} {x : Fd} (hx : FvO F H v x) : ∀ {raw : List (Str × V)} {fs : List (Str × Fd)}, FsO F H raw fs → FsO F H (putF f v raw) (putD f x fs)
  | _, _, .nil => .cons hx .nil
  | _, _, .cons (k := k) (raw := raw) (fs := fs) h r => by
    by_cases e : k = f
    · subst e
      have e1 : ∀ y, putF k v ((k, y) :: raw) = (k, v) :: raw := fun y => if_pos rfl
      have e2 : ∀ y, putD k x ((k, y) :: fs) = (k, x) :: fs := fun y => if_pos rfl
      rw [e1, e2]
      exact .cons hx r
    · have e1 : ∀ y, putF f v ((k, y) :: raw) = (k, y) :: putF f v raw := fun y => if_neg e
      have e2 : ∀ y, putD f x ((k, y) :: fs) = (k, y) :: putD f x fs := fun y => if_neg e
      rw [e1, e2]
      exact .cons h (r.put hx)

/-! ### what a slot holds -/
inductive Sl where
  | no
  | d (x : PyData)
  | own (a : Addr) (ds : List PyData)
  | obj (p dx : Addr) (fs : List (Str × Fd))
def Sl.as : Sl → List Addr
  | .no => []
  | .d _ => []
  | .own a _ => [a]
  | .obj p dx fs => p :: dx :: fAs fs
def SlO (C : Addr) (F H : Hp) : Sl → Prop
  | .no => True
  | .d _ => True
  | .own a ds => ∃ vs, H a = some (.lst vs) ∧ RpL F vs ds
  | .obj p dx fs => (∃ raw, H p = some (.ins C dx raw) ∧ FsO F H raw fs) ∧ H dx = some (.own p) ∧ (p :: dx :: fAs fs).Nodup
def SlV (F : Hp) (o : Option (Option V)) : Sl → Prop
  | .no => True
  | .d x => ∃ v, o = some (some v) ∧ Rp F v x
  | .own a _ => o = some (some (.ref a))
  | .obj p _ _ => o = some (some (.ref p))
/-- what is fixed through a body -/
structure Bc where
  K : PySem.W.Frag
  C : Addr
  F0 : Hp
  H0 : Hp
structure Stt (c : Bc) (L : List Sl) (σ : L2.St) (F H : Hp) : Prop where
  ex : Ex c.F0 c.H0 F H
  len : σ.length ≤ L.length
  val : ∀ (i : Nat) s, L[i]? = some s → i < σ.length → SlV F (σ[i]?) s
  hold : ∀ (i : Nat) s, L[i]? = some s → SlO c.C F H s
  free : ∀ (i : Nat) s a, L[i]? = some s → a ∈ s.as → F a = none ∧ c.H0 a = none
  apart : ∀ (i j : Nat) s t a, L[i]? = some s → L[j]? = some t → a ∈ s.as → a ∈ t.as → i = j
theorem SlO.at_ {C : Addr} {F H : Hp} {s : Sl} (h : SlO C F H s) : ∀ a ∈ s.as, H a ≠ none := by
  intro a ha
  cases s with
  | no => cases ha
  | d x => cases ha
  | own b ds =>
    obtain ⟨vs, e, _⟩ := h
    rw [List.mem_singleton.mp ha, e]; simp
  | obj p dx fs =>
    obtain ⟨⟨raw, e1, r⟩, e3, _⟩ := h
    rcases List.mem_cons.mp ha with z | z
    · rw [z, e1]; simp
    rcases List.mem_cons.mp z with z | z
    · rw [z, e3]; simp
    · exact r.at_ a z
theorem SlO.mono {C : Addr} {F H F' H' : Hp} {s : Sl} (h : SlO C F H s) (f : Same F F') (k : ∀ a ∈ s.as, ∀ o, H a = some o → H' a = some o) : SlO C F' H' s := by
  cases s with
  | no => trivial
  | d x => trivial
  | own b ds =>
    obtain ⟨vs, e, r⟩ := h
    exact ⟨vs, k b (by simp [Sl.as]) _ e, r.mono f⟩
  | obj p dx fs =>
    obtain ⟨⟨raw, e1, r⟩, e3, nd⟩ := h
    exact ⟨⟨raw, k p (by simp [Sl.as]) _ e1, r.mono f fun a ha => k a (by simp [Sl.as, ha])⟩, k dx (by simp [Sl.as]) _ e3, nd⟩
theorem SlV.mono {F F' : Hp} {o : Option (Option V)} {s : Sl} (h : SlV F o s) (f : Same F F') : SlV F' o s := by
  cases s with
  | no => trivial
  | d x =>
    obtain ⟨v, e, r⟩ := h
    exact ⟨v, e, r.mono f⟩
  | own b ds => exact h
  | obj p dx fs => exact h
section
variable {c : Bc} {L : List Sl} {σ : L2.St} {F H F' H' : Hp}
theorem Stt.sub (s : Stt c L σ F H) : Same F H := s.ex.s
theorem Stt.exd (s : Stt c L σ F H) (e : Ex F H F' H') : Stt c L σ F' H' := by
  refine ⟨s.ex.trans e, s.len, fun i t hi hl => (s.val i t hi hl).mono e.f, fun i t hi => (s.hold i t hi).mono e.f fun a _ o q => e.h a o q, fun i t a hi ha => ⟨?_, (s.free i t a hi ha).2⟩, s.apart⟩
  cases q : F' a with
  | none => rfl
  | some o =>
    rcases e.n a o q with z | z
    · rw [(s.free i t a hi ha).1] at z; cases z
    · exact absurd z ((s.hold i t hi).at_ a ha)
/-- an owned part is written: the place i only -/
theorem Stt.write {i : Nat} {s t : Sl} (S : Stt c L σ F H) (hi : L[i]? = some s) (ha : ∀ a ∈ t.as, a ∈ s.as) (hk : ∀ b, b ∉ s.as → H' b = H b) (hh : SlO c.C F H' t) (hv : i < σ.length → SlV F (σ[i]?) t) : Stt c (L.set i t) σ F H' := by
  have hil : i < L.length := (List.getElem?_eq_some_iff.mp hi).1
  have key : ∀ (j : Nat) u, (L.set i t)[j]? = some u → (j = i ∧ u = t) ∨ (j ≠ i ∧ L[j]? = some u) := fun j u e => by
    by_cases hj : j = i
    · subst hj
      rw [List.getElem?_set_self hil] at e
      exact .inl ⟨rfl, (Option.some.inj e).symm⟩
    · rw [List.getElem?_set_ne (Ne.symm hj)] at e
      exact .inr ⟨hj, e⟩
  refine ⟨⟨S.ex.f, fun b o e => ?_, fun b o e => ?_, S.ex.n⟩, by simpa using S.len, fun j u e hl => ?_, fun j u e => ?_, fun j u a e q => ?_, fun j k u w a e1 e2 q1 q2 => ?_⟩
  · have nb : b ∉ s.as := fun q => by rw [(S.free i s b hi q).2] at e; cases e
    rw [hk b nb]; exact S.ex.h b o e
  · have nb : b ∉ s.as := fun q => by rw [(S.free i s b hi q).1] at e; cases e
    rw [hk b nb]; exact S.ex.s b o e
  · rcases key j u e with ⟨rfl, rfl⟩ | ⟨_, e'⟩
    · exact hv hl
    · exact S.val j u e' hl
  · rcases key j u e with ⟨rfl, rfl⟩ | ⟨hj, e'⟩
    · exact hh
    · exact (S.hold j u e').mono (Same.refl _) fun a q o r => by
        rw [hk a fun z => hj (S.apart j i u s a e' hi q z)]; exact r
  · rcases key j u e with ⟨rfl, rfl⟩ | ⟨_, e'⟩
    · exact S.free j s a hi (ha _ q)
    · exact S.free j u a e' q
  · rcases key j u e1 with ⟨rfl, rfl⟩ | ⟨hj, e1'⟩
    · rcases key k w e2 with ⟨rfl, rfl⟩ | ⟨hk', e2'⟩
      · rfl
      · exact S.apart j k s w a hi e2' (ha _ q1) q2
    · rcases key k w e2 with ⟨rfl, rfl⟩ | ⟨hk', e2'⟩
      · exact S.apart j k u s a e1' hi q1 (ha _ q2)
      · exact S.apart j k u w a e1' e2' q1 q2
/-- a slot is stored: data -/
theorem Stt.store {i : Nat} {v : V} {t : Sl} (S : Stt c L σ F H) (hi : i < σ.length) (hv : SlV F (some (some v)) t) (ht : t.as = []) (hh : SlO c.C F H t) : Stt c (L.set i t) (σ.set i (some v)) F H := by
  have hil : i < L.length := Nat.lt_of_lt_of_le hi S.len
  have key : ∀ (j : Nat) u, (L.set i t)[j]? = some u → (j = i ∧ u = t) ∨ (j ≠ i ∧ L[j]? = some u) := fun j u e => by
    by_cases hj : j = i
    · subst hj
      rw [List.getElem?_set_self hil] at e
      exact .inl ⟨rfl, (Option.some.inj e).symm⟩
    · rw [List.getElem?_set_ne (Ne.symm hj)] at e
      exact .inr ⟨hj, e⟩
  refine ⟨S.ex, by simpa using S.len, fun j u e hl => ?_, fun j u e => ?_, fun j u a e q => ?_, fun j k u w a e1 e2 q1 q2 => ?_⟩
  · rcases key j u e with ⟨rfl, rfl⟩ | ⟨hj, e'⟩
    · rw [List.getElem?_set_self hi]; exact hv
    · rw [List.getElem?_set_ne (Ne.symm hj)]; exact S.val j u e' (by simpa using hl)
  · rcases key j u e with ⟨rfl, rfl⟩ | ⟨hj, e'⟩
    · exact hh
    · exact S.hold j u e'
  · rcases key j u e with ⟨rfl, rfl⟩ | ⟨_, e'⟩
    · rw [ht] at q; cases q
    · exact S.free j u a e' q
  · rcases key j u e1 with ⟨rfl, rfl⟩ | ⟨hj, e1'⟩
    · rw [ht] at q1; cases q1
    · rcases key k w e2 with ⟨rfl, rfl⟩ | ⟨hk', e2'⟩
      · rw [ht] at q2; cases q2
      · exact S.apart j k u w a e1' e2' q1 q2
/-- what a place holds is forgotten -/
theorem Stt.forget {i : Nat} (S : Stt c L σ F H) : Stt c (L.set i .no) σ F H := by
  have key : ∀ (j : Nat) u, (L.set i .no)[j]? = some u → u = .no ∨ L[j]? = some u := fun j u e => by
    by_cases hj : j = i
    · subst hj
      by_cases hil : j < L.length
      · rw [List.getElem?_set_self hil] at e
        exact .inl (Option.some.inj e).symm
      · rw [List.getElem?_eq_none (by simpa using hil)] at e; cases e
    · rw [List.getElem?_set_ne (Ne.symm hj)] at e
      exact .inr e
  refine ⟨S.ex, by simpa using S.len, fun j u e hl => ?_, fun j u e => ?_, fun j u a e q => ?_, fun j k u w a e1 e2 q1 q2 => ?_⟩
  · rcases key j u e with rfl | e'
    · trivial
    · exact S.val j u e' hl
  · rcases key j u e with rfl | e'
    · trivial
    · exact S.hold j u e'
  · rcases key j u e with rfl | e'
    · cases q
    · exact S.free j u a e' q
  · rcases key j u e1 with rfl | e1'
    · cases q1
    · rcases key k w e2 with rfl | e2'
      · cases q2
      · exact S.apart j k u w a e1' e2' q1 q2
/-- a new owned list goes to a slot -/
theorem Stt.storeNew {i : Nat} {p : Addr} {vs : List V} {ds : List PyData} (S : Stt c L σ F H) (hi : i < σ.length) (hn : H p = none) (r : RpL F vs ds) : Stt c (L.set i (.own p ds)) (σ.set i (some (.ref p))) F (upd H p (.lst vs)) := by
  have hil : i < L.length := Nat.lt_of_lt_of_le hi S.len
  have key : ∀ (j : Nat) u, (L.set i (Sl.own p ds))[j]? = some u → (j = i ∧ u = .own p ds) ∨ (j ≠ i ∧ L[j]? = some u) := fun j u e => by
    by_cases hj : j = i
    · subst hj
      rw [List.getElem?_set_self hil] at e
      exact .inl ⟨rfl, (Option.some.inj e).symm⟩
    · rw [List.getElem?_set_ne (Ne.symm hj)] at e
      exact .inr ⟨hj, e⟩
  have np : ∀ (j : Nat) u, L[j]? = some u → p ∉ u.as := fun j u e q => (S.hold j u e).at_ p q hn
  refine ⟨⟨S.ex.f, fun b o e => ?_, fun b o e => ?_, S.ex.n⟩, by simpa using S.len, fun j u e hl => ?_, fun j u e => ?_, fun j u a e q => ?_, fun j k u w a e1 e2 q1 q2 => ?_⟩
  · have := S.ex.h b o e
    rw [upd_ne (ne_of_none this hn)]; exact this
  · have := S.ex.s b o e
    rw [upd_ne (ne_of_none this hn)]; exact this
  · rcases key j u e with ⟨rfl, rfl⟩ | ⟨hj, e'⟩
    · rw [List.getElem?_set_self hi]; rfl
    · rw [List.getElem?_set_ne (Ne.symm hj)]; exact S.val j u e' (by simpa using hl)
  · rcases key j u e with ⟨rfl, rfl⟩ | ⟨hj, e'⟩
    · exact ⟨vs, upd_same, r⟩
    · exact (S.hold j u e').mono (Same.refl _) fun a q o r' => by rw [upd_ne (ne_of_none r' hn)]; exact r'
  · rcases key j u e with ⟨rfl, rfl⟩ | ⟨_, e'⟩
    · rw [List.mem_singleton.mp q]
      exact ⟨S.ex.s.free hn, S.ex.h.free hn⟩
    · exact S.free j u a e' q
  · rcases key j u e1 with ⟨rfl, rfl⟩ | ⟨hj, e1'⟩
    · rcases key k w e2 with ⟨rfl, rfl⟩ | ⟨hk', e2'⟩
      · rfl
      · rw [List.mem_singleton.mp q1] at q2; exact absurd q2 (np k w e2')
    · rcases key k w e2 with ⟨rfl, rfl⟩ | ⟨hk', e2'⟩
      · rw [List.mem_singleton.mp q2] at q1; exact absurd q1 (np j u e1')
      · exact S.apart j k u w a e1' e2' q1 q2
/-- a new owned list as a ghost behind all places -/
theorem Stt.ghost {p : Addr} {vs : List V} {ds : List PyData} (S : Stt c L σ F H) (hn : H p = none) (r : RpL F vs ds) : Stt c (L ++ [.own p ds]) σ F (upd H p (.lst vs)) := by
  have key : ∀ (j : Nat) u, (L ++ [Sl.own p ds])[j]? = some u → (j = L.length ∧ u = .own p ds) ∨ L[j]? = some u := fun j u e => by
    rcases Nat.lt_or_ge j L.length with hj | hj
    · rw [List.getElem?_append_left hj] at e
      exact .inr e
    · rw [List.getElem?_append_right hj] at e
      rcases Nat.eq_or_lt_of_le hj with q | q
      · rw [← q, Nat.sub_self] at e
        exact .inl ⟨q.symm, (Option.some.inj e).symm⟩
      · rw [List.getElem?_eq_none (by simp; omega)] at e; cases e
  have np : ∀ (j : Nat) u, L[j]? = some u → p ∉ u.as := fun j u e q => (S.hold j u e).at_ p q hn
  refine ⟨⟨S.ex.f, fun b o e => ?_, fun b o e => ?_, S.ex.n⟩, by have := S.len; simp; omega, fun j u e hl => ?_, fun j u e => ?_, fun j u a e q => ?_, fun j k u w a e1 e2 q1 q2 => ?_⟩
  · have := S.ex.h b o e
    rw [upd_ne (ne_of_none this hn)]; exact this
  · have := S.ex.s b o e
    rw [upd_ne (ne_of_none this hn)]; exact this
  · rcases key j u e with ⟨rfl, rfl⟩ | e'
    · have := S.len; omega
    · exact S.val j u e' hl
  · rcases key j u e with ⟨rfl, rfl⟩ | e'
    · exact ⟨vs, upd_same, r⟩
    · exact (S.hold j u e').mono (Same.refl _) fun a q o r' => by rw [upd_ne (ne_of_none r' hn)]; exact r'
  · rcases key j u e with ⟨rfl, rfl⟩ | e'
    · rw [List.mem_singleton.mp q]
      exact ⟨S.ex.s.free hn, S.ex.h.free hn⟩
    · exact S.free j u a e' q
  · rcases key j u e1 with ⟨rfl, rfl⟩ | e1'
    · rcases key k w e2 with ⟨rfl, rfl⟩ | e2'
      · rfl
      · rw [List.mem_singleton.mp q1] at q2; exact absurd q2 (np k w e2')
    · rcases key k w e2 with ⟨rfl, rfl⟩ | e2'
      · rw [List.mem_singleton.mp q2] at q1; exact absurd q1 (np j u e1')
      · exact S.apart j k u w a e1' e2' q1 q2
theorem Stt.drop {T : List Sl} (S : Stt c (L ++ T) σ F H) (hl : σ.length ≤ L.length) : Stt c L σ F H := by
  have up : ∀ (j : Nat) u, L[j]? = some u → (L ++ T)[j]? = some u := fun j u e => by
    rw [List.getElem?_append_left (List.getElem?_eq_some_iff.mp e).1]; exact e
  exact ⟨S.ex, hl, fun j u e => S.val j u (up j u e), fun j u e => S.hold j u (up j u e), fun j u a e => S.free j u a (up j u e), fun j k u w a e1 e2 => S.apart j k u w a (up j u e1) (up k w e2)⟩
/-- an owned list is frozen -/
theorem Stt.freeze {i : Nat} {a : Addr} {ds : List PyData} {vs : List V} (S : Stt c L σ F H) (hi : L[i]? = some (.own a ds)) (hH : H a = some (.lst vs)) (r : RpL F vs ds) :
    Stt c (L.set i (.d (.list ds))) σ (upd F a (.lst vs)) H ∧ Same F (upd F a (.lst vs)) := by
  have hil : i < L.length := (List.getElem?_eq_some_iff.mp hi).1
  obtain ⟨f1, f2⟩ := S.free i _ a hi (by simp [Sl.as])
  have sm : Same F (upd F a (.lst vs)) := fun b o e => by rw [upd_ne (ne_of_none e f1)]; exact e
  have key : ∀ (j : Nat) u, (L.set i (Sl.d (.list ds)))[j]? = some u → (j = i ∧ u = .d (.list ds)) ∨ (j ≠ i ∧ L[j]? = some u) := fun j u e => by
    by_cases hj : j = i
    · subst hj
      rw [List.getElem?_set_self hil] at e
      exact .inl ⟨rfl, (Option.some.inj e).symm⟩
    · rw [List.getElem?_set_ne (Ne.symm hj)] at e
      exact .inr ⟨hj, e⟩
  refine ⟨⟨⟨S.ex.f.trans sm, S.ex.h, fun b o e => ?_, fun b o e => ?_⟩, by simpa using S.len, fun j u e hl => ?_, fun j u e => ?_, fun j u b e q => ?_, fun j k u w b e1 e2 q1 q2 => ?_⟩, sm⟩
  · by_cases hb : b = a
    · subst hb; rw [upd_same] at e; rw [← e]; exact hH
    · rw [upd_ne hb] at e; exact S.ex.s b o e
  · by_cases hb : b = a
    · subst hb; exact .inr f2
    · rw [upd_ne hb] at e; exact S.ex.n b o e
  · rcases key j u e with ⟨rfl, rfl⟩ | ⟨hj, e'⟩
    · have := S.val j _ hi hl
      exact ⟨.ref a, this, .lst upd_same (r.mono sm)⟩
    · exact (S.val j u e' hl).mono sm
  · rcases key j u e with ⟨rfl, rfl⟩ | ⟨hj, e'⟩
    · trivial
    · exact (S.hold j u e').mono sm fun a _ o q => q
  · rcases key j u e with ⟨rfl, rfl⟩ | ⟨hj, e'⟩
    · cases q
    · refine ⟨?_, (S.free j u b e' q).2⟩
      rw [upd_ne (fun z => hj (S.apart j i u _ b e' hi q (by simp [Sl.as, z])))]
      exact (S.free j u b e' q).1
  · rcases key j u e1 with ⟨rfl, rfl⟩ | ⟨hj, e1'⟩
    · cases q1
    · rcases key k w e2 with ⟨rfl, rfl⟩ | ⟨hk', e2'⟩
      · cases q2
      · exact S.apart j k u w b e1' e2' q1 q2
end
end Cp
end
/-! ## CDr -/
section
set_option Elab.async false
set_option linter.all false
set_option autoImplicit false
set_option maxRecDepth 100000
set_option maxHeartbeats 4000000
/-! rules for readings over data -/
namespace Cp
variable [KFix]
open PySem PySem.Spec PyProof.Rows L2

structure TEg (c : Bc) (te : TE) (P : List Sl) (d : PyData) (P' : List Sl) : Prop where
  len : P'.length = P.length
  run : ∀ (T : List Sl) (σ : L2.St) (F H : Hp) (Q : VK), Stt c (P ++ T) σ F H → σ.length = P.length →
    (∀ v F' H', Stt c (P' ++ T) σ F' H' → Same F F' → Rp F' v d → Q v H') → te σ H Q
structure TAg (c : Bc) (ta : TA) (P : List Sl) (ds : List PyData) (P' : List Sl) : Prop where
  len : P'.length = P.length
  run : ∀ (T : List Sl) (σ : L2.St) (F H : Hp) (Q : List V → Hp → Prop), Stt c (P ++ T) σ F H → σ.length = P.length →
    (∀ vs F' H', Stt c (P' ++ T) σ F' H' → Same F F' → RpL F' vs ds → Q vs H') → ta σ H Q
structure TTg (c : Bc) (tt : TT) (P : List Sl) (b : Bool) (P' : List Sl) : Prop where
  len : P'.length = P.length
  run : ∀ (T : List Sl) (σ : L2.St) (F H : Hp) (Q : Bool → Hp → Prop), Stt c (P ++ T) σ F H → σ.length = P.length →
    (∀ F' H', Stt c (P' ++ T) σ F' H' → Same F F' → Q b H') → tt σ H Q
/-- the target takes data d -/
structure TGd (g : TG) (c : Bc) (ts : List Nat) (d : PyData) (P P' : List Sl) : Prop where
  len : P'.length = P.length
  run : ∀ (T : List Sl) (v : V) (σ : L2.St) (F H : Hp) (Q : L2.St → Hp → Prop), Stt c (P ++ T) σ F H → σ.length = P.length → Rp F v d →
    (∀ σ' F' H', Stt c (P' ++ T) σ' F' H' → σ'.length = P'.length → (∀ (j : Nat), j ∉ ts → σ'[j]? = σ[j]?) → Same F F' → Q σ' H') → g v σ H Q
/-- a statement: N of the places where it goes on, R of the value and the places where it returns -/
def Sd (c : Bc) (ts : TS) (P : List Sl) (N : List Sl → Prop) (R : PyData → List Sl → Prop) : Prop :=
  ∀ (T : List Sl) (σ : L2.St) (F H : Hp) (D : Ends), Stt c (P ++ T) σ F H → σ.length = P.length →
    (∀ P' σ' F' H', N P' → Stt c (P' ++ T) σ' F' H' → σ'.length = P'.length → Same F F' → D.nx σ' H') →
    (∀ d P' v σ' F' H', R d P' → Stt c (P' ++ T) σ' F' H' → Same F F' → Rp F' v d → D.rt v H') → ts D σ H

theorem get_app {P T : List Sl} {i : Nat} {s : Sl} (h : P[i]? = some s) : (P ++ T)[i]? = some s := by
  rw [List.getElem?_append_left (List.getElem?_eq_some_iff.mp h).1]; exact h
theorem lt_of_get {P : List Sl} {i : Nat} {s : Sl} (h : P[i]? = some s) : i < P.length := (List.getElem?_eq_some_iff.mp h).1
theorem set_app {P T : List Sl} {i : Nat} {s : Sl} (h : i < P.length) : (P ++ T).set i s = P.set i s ++ T := by
  rw [List.set_append_left _ _ h]

section
variable {c : Bc} {P P1 P2 P3 : List Sl}
/-! ### names, constants -/
theorem g_var {i : Nat} {d : PyData} (h : P[i]? = some (.d d)) : TEg c (tVar i) P d P := by
  refine ⟨rfl, fun T σ F H Q S hl q => ?_⟩
  obtain ⟨v, e, r⟩ := S.val i _ (get_app h) (by rw [hl]; exact lt_of_get h)
  exact ⟨v, e, q v F H S (Same.refl _) r⟩
/-- an owned list is read as a value: it is frozen -/
theorem g_own {i : Nat} {a : Addr} {ds : List PyData} (h : P[i]? = some (.own a ds)) : TEg c (tVar i) P (.list ds) (P.set i (.d (.list ds))) := by
  refine ⟨by simp, fun T σ F H Q S hl q => ?_⟩
  have e := S.val i _ (get_app h) (by rw [hl]; exact lt_of_get h)
  obtain ⟨vs, hH, r⟩ := S.hold i _ (get_app h)
  obtain ⟨S', sm⟩ := S.freeze (get_app h) hH r
  rw [set_app (lt_of_get h)] at S'
  exact ⟨.ref a, e, q _ _ _ S' sm (.lst upd_same (r.mono sm))⟩
theorem g_int {i : Int} : TEg c (tC (.int i)) P (.int i) P := ⟨rfl, fun T σ F H Q S _ q => q _ F H S (Same.refl _) (.int i)⟩
theorem g_str {x : Str} : TEg c (tC (.str x)) P (.str x) P := ⟨rfl, fun T σ F H Q S _ q => q _ F H S (Same.refl _) (.str x)⟩
theorem g_bl {b : Bool} : TEg c (tC (.bl b)) P (.bool b) P := ⟨rfl, fun T σ F H Q S _ q => q _ F H S (Same.refl _) (.bl b)⟩
theorem g_non : TEg c (tC .non) P .none P := ⟨rfl, fun T σ F H Q S _ q => q _ F H S (Same.refl _) .non⟩

/-! ### operators by values -/
/-- the pure operator r gives d on da, db -/
def O2 (r : R2) (da db d : PyData) : Prop := ∀ (F H : Hp) (x y : V) (Q : VK), Same F H → Rp F x da → Rp F y db → (∀ v F' H', Ex F H F' H' → Rp F' v d → Q v H') → r x y H Q
def O1 (r : V → Hp → VK → Prop) (da d : PyData) : Prop := ∀ (F H : Hp) (x : V) (Q : VK), Same F H → Rp F x da → (∀ v F' H', Ex F H F' H' → Rp F' v d → Q v H') → r x H Q
def ON (r : List V → Hp → VK → Prop) (ds : List PyData) (d : PyData) : Prop := ∀ (F H : Hp) (xs : List V) (Q : VK), Same F H → RpL F xs ds → (∀ v F' H', Ex F H F' H' → Rp F' v d → Q v H') → r xs H Q
theorem g_op {r : R2} {ta tb : TE} {da db d : PyData} (ha : TEg c ta P da P1) (hb : TEg c tb P1 db P2) (hr : O2 r da db d) : TEg c (tOp r ta tb) P d P2 := by
  refine ⟨hb.len.trans ha.len, fun T σ F H Q S hl q => ?_⟩
  refine ha.run T σ F H _ S hl fun x F1 H1 S1 m1 r1 => ?_
  refine hb.run T σ F1 H1 _ S1 (hl.trans ha.len.symm) fun y F2 H2 S2 m2 r2 => ?_
  exact hr F2 H2 x y Q S2.sub (r1.mono m2) r2 fun v F' H' e rv => q v F' H' (S2.exd e) ((m1.trans m2).trans e.f) rv
theorem g_un {r : V → Hp → VK → Prop} {ta : TE} {da d : PyData} (ha : TEg c ta P da P1) (hr : O1 r da d) : TEg c (tUn r ta) P d P1 := by
  refine ⟨ha.len, fun T σ F H Q S hl q => ?_⟩
  refine ha.run T σ F H _ S hl fun x F1 H1 S1 m1 r1 => ?_
  exact hr F1 H1 x Q S1.sub r1 fun v F' H' e rv => q v F' H' (S1.exd e) (m1.trans e.f) rv
theorem a_nil : TAg c tNil P [] P := ⟨rfl, fun T σ F H Q S _ q => q [] F H S (Same.refl _) .nil⟩
theorem a_cons {ta : TE} {tr : TA} {d : PyData} {ds : List PyData} (ha : TEg c ta P d P1) (hr : TAg c tr P1 ds P2) : TAg c (tCons ta tr) P (d :: ds) P2 := by
  refine ⟨hr.len.trans ha.len, fun T σ F H Q S hl q => ?_⟩
  refine ha.run T σ F H _ S hl fun x F1 H1 S1 m1 r1 => ?_
  refine hr.run T σ F1 H1 _ S1 (hl.trans ha.len.symm) fun xs F2 H2 S2 m2 r2 => ?_
  exact q _ F2 H2 S2 (m1.trans m2) (.cons (r1.mono m2) r2)
/-- *e within a display -/
theorem a_star {K : PySem.W.Frag} {ta : TE} {tr : TA} {es ds : List PyData} (ha : TEg c ta P (.tuple es) P1 ∨ TEg c ta P (.list es) P1) (hr : TAg c tr P1 ds P2) : TAg c (StX.tStar K ta tr) P (es ++ ds) P2 := by
  have hlen : P1.length = P.length := ha.elim (·.len) (·.len)
  refine ⟨hr.len.trans hlen, fun T σ F H Q S hl q => ?_⟩
  have go : ∀ x F1 H1, Stt c (P1 ++ T) σ F1 H1 → Same F F1 → (Rp F1 x (.tuple es) ∨ Rp F1 x (.list es)) → ∃ p xs, x = V.ref p ∧ (SqT K H1 p xs ∨ SqL K H1 p xs) ∧ tr σ H1 fun ys H2 => Q (xs ++ ys) H2 := fun x F1 H1 S1 m1 r1 => by
    rcases r1 with r1 | r1
    · cases r1 with
      | tup e l => exact ⟨_, _, rfl, .inl (SqT.of (S1.sub _ _ e)), hr.run T σ F1 H1 _ S1 (hl.trans hlen.symm) fun ys F2 H2 S2 m2 r2 => q _ F2 H2 S2 (m1.trans m2) ((l.mono m2).append r2)⟩
    · cases r1 with
      | lst e l => exact ⟨_, _, rfl, .inr (SqL.of (S1.sub _ _ e)), hr.run T σ F1 H1 _ S1 (hl.trans hlen.symm) fun ys F2 H2 S2 m2 r2 => q _ F2 H2 S2 (m1.trans m2) ((l.mono m2).append r2)⟩
  rcases ha with ha | ha
  · exact ha.run T σ F H _ S hl fun x F1 H1 S1 m1 r1 => go x F1 H1 S1 m1 (.inl r1)
  · exact ha.run T σ F H _ S hl fun x F1 H1 S1 m1 r1 => go x F1 H1 S1 m1 (.inr r1)
theorem line_eq : sizeLine = 16777216 := sizeLine_eq
theorem g_tup {ta : TA} {ds : List PyData} (ha : TAg c ta P ds P1) (hz : ds.length ≤ 10000) : TEg c (tTup ta) P (.tuple ds) P1 := by
  refine ⟨ha.len, fun T σ F H Q S hl q => ?_⟩
  refine ha.run T σ F H _ S hl fun xs F1 H1 S1 m1 r1 => ⟨by rw [r1.len]; exact Nat.le_trans hz (by decide), fun p np => ?_⟩
  have e := Ex.new (o := .tup xs) S1.sub np
  exact q _ _ _ (S1.exd e) (m1.trans e.f) (.tup upd_same (r1.mono e.f))
theorem g_lst {ta : TA} {ds : List PyData} (ha : TAg c ta P ds P1) (hz : ds.length ≤ 10000) : TEg c (tLst ta) P (.list ds) P1 := by
  refine ⟨ha.len, fun T σ F H Q S hl q => ?_⟩
  refine ha.run T σ F H _ S hl fun xs F1 H1 S1 m1 r1 => ⟨by rw [r1.len]; exact Nat.le_trans hz (by decide), fun p np => ?_⟩
  have e := Ex.new (o := .lst xs) S1.sub np
  exact q _ _ _ (S1.exd e) (m1.trans e.f) (.lst upd_same (r1.mono e.f))
/-- a built-in by value -/
theorem g_cb {r : List V → Hp → VK → Prop} {ta : TA} {ds : List PyData} {d : PyData} (ha : TAg c ta P ds P1) (hr : ON r ds d) : TEg c (tCB r ta) P d P1 := by
  refine ⟨ha.len, fun T σ F H Q S hl q => ?_⟩
  refine ha.run T σ F H _ S hl fun xs F1 H1 S1 m1 r1 => ?_
  exact hr F1 H1 xs Q S1.sub r1 fun v F' H' e rv => q v F' H' (S1.exd e) (m1.trans e.f) rv
/-! ### the promise of a pure def -/
def spD (pre : List PyData → PyData → Prop) : Sp := fun vs H Q _ => ∃ (F : Hp) (ds : List PyData) (d : PyData), Same F H ∧ RpL F vs ds ∧ pre ds d ∧ ∀ v F' H', Ex F H F' H' → Rp F' v d → Q v H'
theorem g_call {pre : List PyData → PyData → Prop} {E : XK} {ta : TA} {ds : List PyData} {d : PyData} (ha : TAg c ta P ds P1) (hp : pre ds d) : TEg c (tCall (spD pre) [] E ta) P d P1 := by
  refine ⟨ha.len, fun T σ F H Q S hl q => ?_⟩
  refine ha.run T σ F H _ S hl fun xs F1 H1 S1 m1 r1 => ?_
  exact ⟨F1, ds, d, S1.sub, by rw [List.append_nil]; exact r1, hp, fun v F' H' e rv => q v F' H' (S1.exd e) (m1.trans e.f) rv⟩
theorem spD_len {pre : List PyData → PyData → Prop} {n : Nat} (h : ∀ ds d, pre ds d → ds.length = n) : ∀ vs H Q E, spD pre vs H Q E → vs.length = n := fun vs H Q E ⟨F, ds, d, _, r, p, _⟩ => by
  rw [r.len]; exact h ds d p
/-! ### tests -/
theorem t_val {ta : TE} {b : Bool} (h : TEg c ta P (.bool b) P1) : TTg c (tB ta) P b P1 := by
  refine ⟨h.len, fun T σ F H Q S hl q => ?_⟩
  refine h.run T σ F H _ S hl fun x F1 H1 S1 m1 r1 => ?_
  cases r1
  exact ⟨b, rfl, q F1 H1 S1 m1⟩
theorem t_cmp {ta : TE} {b : Bool} (h : TEg c ta P (.bool b) P1) : TTg c (tTest ta) P b P1 := by
  refine ⟨h.len, fun T σ F H Q S hl q => ?_⟩
  refine h.run T σ F H _ S hl fun x F1 H1 S1 m1 r1 => ?_
  cases r1
  exact ⟨b, rfl, q F1 H1 S1 m1⟩
theorem t_not {ta : TT} {b : Bool} (h : TTg c ta P b P1) : TTg c (tNot ta) P (!b) P1 :=
  ⟨h.len, fun T σ F H Q S hl q => h.run T σ F H _ S hl fun F1 H1 S1 m1 => q F1 H1 S1 m1⟩
theorem t_andT {ta tb : TT} {b : Bool} (h : TTg c ta P true P1) (h2 : TTg c tb P1 b P2) : TTg c (tAnd ta tb) P b P2 := by
  refine ⟨h2.len.trans h.len, fun T σ F H Q S hl q => ?_⟩
  refine h.run T σ F H _ S hl fun F1 H1 S1 m1 => ?_
  rw [if_pos rfl]
  exact h2.run T σ F1 H1 _ S1 (hl.trans h.len.symm) fun F2 H2 S2 m2 => q F2 H2 S2 (m1.trans m2)
theorem t_andF {ta tb : TT} (h : TTg c ta P false P1) : TTg c (tAnd ta tb) P false P1 := by
  refine ⟨h.len, fun T σ F H Q S hl q => ?_⟩
  refine h.run T σ F H _ S hl fun F1 H1 S1 m1 => ?_
  rw [if_neg Bool.false_ne_true]
  exact q F1 H1 S1 m1
theorem t_and {ta tb : TT} {a b : Bool} (h : TTg c ta P a P) (h2 : a = true → TTg c tb P b P) : TTg c (tAnd ta tb) P (a && b) P := by
  cases a with
  | true => exact t_andT h (h2 rfl)
  | false => exact t_andF h
theorem t_orT {ta tb : TT} (h : TTg c ta P true P1) : TTg c (tOr ta tb) P true P1 := by
  refine ⟨h.len, fun T σ F H Q S hl q => ?_⟩
  refine h.run T σ F H _ S hl fun F1 H1 S1 m1 => ?_
  rw [if_pos rfl]
  exact q F1 H1 S1 m1
theorem t_orF {ta tb : TT} {b : Bool} (h : TTg c ta P false P1) (h2 : TTg c tb P1 b P2) : TTg c (tOr ta tb) P b P2 := by
  refine ⟨h2.len.trans h.len, fun T σ F H Q S hl q => ?_⟩
  refine h.run T σ F H _ S hl fun F1 H1 S1 m1 => ?_
  rw [if_neg Bool.false_ne_true]
  exact h2.run T σ F1 H1 _ S1 (hl.trans h.len.symm) fun F2 H2 S2 m2 => q F2 H2 S2 (m1.trans m2)
theorem t_or {ta tb : TT} {a b : Bool} (h : TTg c ta P a P) (h2 : a = false → TTg c tb P b P) : TTg c (tOr ta tb) P (a || b) P := by
  cases a with
  | true => exact t_orT h
  | false => exact t_orF h (h2 rfl)
theorem g_if {tt : TT} {ta tb : TE} {b : Bool} {d : PyData} (h : TTg c tt P b P1) (h1 : b = true → TEg c ta P1 d P2) (h2 : b = false → TEg c tb P1 d P2) : TEg c (tIf tt ta tb) P d P2 := by
  refine ⟨?_, fun T σ F H Q S hl q => ?_⟩
  · cases b with
    | true => exact (h1 rfl).len.trans h.len
    | false => exact (h2 rfl).len.trans h.len
  refine h.run T σ F H _ S hl fun F1 H1 S1 m1 => ?_
  cases b with
  | true =>
    rw [if_pos rfl]
    exact (h1 rfl).run T σ F1 H1 _ S1 (hl.trans h.len.symm) fun v F2 H2 S2 m2 r => q v F2 H2 S2 (m1.trans m2) r
  | false =>
    rw [if_neg Bool.false_ne_true]
    exact (h2 rfl).run T σ F1 H1 _ S1 (hl.trans h.len.symm) fun v F2 H2 S2 m2 r => q v F2 H2 S2 (m1.trans m2) r
theorem TTg.eq {tt : TT} {b b' : Bool} (h : TTg c tt P b P1) (e : b = b') : TTg c tt P b' P1 := e ▸ h
theorem TEg.eq {te : TE} {d d' : PyData} (h : TEg c te P d P1) (e : d = d') : TEg c te P d' P1 := e ▸ h
theorem TEg.eqP {te : TE} {d : PyData} {Pb : List Sl} (h : TEg c te P d P1) (e : P1 = Pb) : TEg c te P d Pb := e ▸ h

/-! ### statements -/
variable {N N' : List Sl → Prop} {R : PyData → List Sl → Prop}
theorem Sd.mono {ts : TS} {R' : PyData → List Sl → Prop} (h : Sd c ts P N R) (hn : ∀ P', N P' → N' P') (hr : ∀ d P', R d P' → R' d P') : Sd c ts P N' R' := fun T σ F H D S hl n r =>
  h T σ F H D S hl (fun P' σ' F' H' q => n P' σ' F' H' (hn P' q)) (fun d P' v σ' F' H' q => r d P' v σ' F' H' (hr d P' q))
theorem s_seq {t u : TS} {M : List Sl → Prop} (h1 : Sd c t P M R) (h2 : ∀ P', M P' → Sd c u P' N R) : Sd c (tSeq t u) P N R := by
  intro T σ F H D S hl n r
  refine h1 T σ F H { D with nx := u D } S hl (fun P' σ' F' H' m S' hl' sm => ?_) fun d P' v σ' F' H' q S' sm rp => r d P' v σ' F' H' q S' sm rp
  exact h2 P' m T σ' F' H' D S' hl' (fun P2 σ2 F2 H2 q S2 hl2 sm2 => n P2 σ2 F2 H2 q S2 hl2 (sm.trans sm2)) fun d P2 v σ2 F2 H2 q S2 sm2 rp => r d P2 v σ2 F2 H2 q S2 (sm.trans sm2) rp
/-- the first part goes on with one list of places -/
theorem s_seq1 {t u : TS} {P' : List Sl} (h1 : Sd c t P (· = P') R) (h2 : Sd c u P' N R) : Sd c (tSeq t u) P N R := s_seq h1 fun _ e => e ▸ h2
theorem s_next (h : N P) : Sd c tNext P N R := fun T σ F H D S hl n _ => n P σ F H h S hl (Same.refl _)
theorem s_ret {te : TE} {d : PyData} (h : TEg c te P d P1) (hr : R d P1) : Sd c (tRet te) P N R := fun T σ F H D S hl n r =>
  h.run T σ F H D.rt S hl fun v F' H' S' sm rp => r d P1 v σ F' H' hr S' sm rp
theorem s_retN (hr : R .none P) : Sd c tRetN P N R := fun T σ F H D S hl n r => r .none P .non σ F H hr S (Same.refl _) .non
theorem s_if {tt : TT} {t u : TS} {b : Bool} (h : TTg c tt P b P1) (h1 : b = true → Sd c t P1 N R) (h2 : b = false → Sd c u P1 N R) : Sd c (tIfS tt t u) P N R := by
  intro T σ F H D S hl n r
  refine h.run T σ F H _ S hl fun F1 H1 S1 m1 => ?_
  cases b with
  | true =>
    rw [if_pos rfl]
    exact h1 rfl T σ F1 H1 D S1 (hl.trans h.len.symm) (fun P2 σ2 F2 H2 q S2 hl2 sm2 => n P2 σ2 F2 H2 q S2 hl2 (m1.trans sm2)) fun d P2 v σ2 F2 H2 q S2 sm2 rp => r d P2 v σ2 F2 H2 q S2 (m1.trans sm2) rp
  | false =>
    rw [if_neg Bool.false_ne_true]
    exact h2 rfl T σ F1 H1 D S1 (hl.trans h.len.symm) (fun P2 σ2 F2 H2 q S2 hl2 sm2 => n P2 σ2 F2 H2 q S2 hl2 (m1.trans sm2)) fun d P2 v σ2 F2 H2 q S2 sm2 rp => r d P2 v σ2 F2 H2 q S2 (m1.trans sm2) rp
theorem s_drop {te : TE} {d : PyData} (h : TEg c te P d P1) (hn : N P1) : Sd c (tDrop te) P N R := fun T σ F H D S hl n r =>
  h.run T σ F H _ S hl fun v F' H' S' sm rp => n P1 σ F' H' hn S' (hl.trans h.len.symm) sm
theorem s_asg {te : TE} {g : TG} {ts : List Nat} {d : PyData} (h : TEg c te P d P1) (hg : TGd g c ts d P1 P2) (hn : N P2) : Sd c (tAsg te g) P N R := fun T σ F H D S hl n r =>
  h.run T σ F H _ S hl fun v F1 H1 S1 m1 r1 => hg.run T v σ F1 H1 _ S1 (hl.trans h.len.symm) r1 fun σ' F' H' S' hl' _ sm => n P2 σ' F' H' hn S' hl' (m1.trans sm)
theorem d_name {i : Nat} {d : PyData} (hi : i < P.length) : TGd (gName i) c [i] d P (P.set i (.d d)) := by
  refine ⟨by simp, fun T v σ F H Q S hl rv q => ?_⟩
  have S' := S.store (i := i) (v := v) (t := .d d) (by rw [hl]; exact hi) ⟨v, rfl, rv⟩ rfl trivial
  rw [set_app hi] at S'
  exact q _ F H S' (by simp [hl]) (fun j hj => List.getElem?_set_ne fun z => hj (by simp [z])) (Same.refl _)
/-- name = e -/
theorem s_set {te : TE} {i : Nat} {d : PyData} (h : TEg c te P d P1) (hi : i < P1.length) (hn : N (P1.set i (.d d))) : Sd c (tAsg te (gName i)) P N R := s_asg h (d_name hi) hn
/-! several targets -/
structure TGsd (g : TGs) (c : Bc) (ts : List Nat) (ds : List PyData) (P P' : List Sl) : Prop where
  len : P'.length = P.length
  run : ∀ (T : List Sl) (vs : List V) (σ : L2.St) (F H : Hp) (Q : L2.St → Hp → Prop), Stt c (P ++ T) σ F H → σ.length = P.length → RpL F vs ds →
    (∀ σ' F' H', Stt c (P' ++ T) σ' F' H' → σ'.length = P'.length → (∀ (j : Nat), j ∉ ts → σ'[j]? = σ[j]?) → Same F F' → Q σ' H') → g vs σ H Q
theorem ds_nil : TGsd gNil c [] [] P P := ⟨rfl, fun T vs σ F H Q S hl rv q => by cases rv; exact ⟨rfl, q σ F H S hl (fun _ _ => rfl) (Same.refl _)⟩⟩
theorem ds_cons {g : TG} {u : TGs} {ts us : List Nat} {d : PyData} {ds : List PyData} (h : TGd g c ts d P P1) (hu : TGsd u c us ds P1 P2) : TGsd (gCons g u) c (ts ++ us) (d :: ds) P P2 := by
  refine ⟨hu.len.trans h.len, fun T vs σ F H Q S hl rv q => ?_⟩
  cases rv with
  | cons r rr =>
    refine ⟨_, _, rfl, h.run T _ σ F H _ S hl r fun σ1 F1 H1 S1 hl1 k1 m1 => ?_⟩
    exact hu.run T _ σ1 F1 H1 Q S1 hl1 (rr.mono m1) fun σ2 F2 H2 S2 hl2 k2 m2 => q σ2 F2 H2 S2 hl2 (fun j hj => (k2 j fun z => hj (List.mem_append_right _ z)).trans (k1 j fun z => hj (List.mem_append_left _ z))) (m1.trans m2)
theorem d_tup {K : PySem.W.Frag} {n : Nat} {g : TGs} {ts : List Nat} {ds : List PyData} (h : TGsd g c ts ds P P1) (hn : ds.length = n) : TGd (gTup K n g) c ts (.tuple ds) P P1 := by
  refine ⟨h.len, fun T v σ F H Q S hl rv q => ?_⟩
  cases rv with
  | tup e l => exact ⟨_, _, rfl, SqT.of (S.sub _ _ e), by rw [l.len, hn], h.run T _ σ F H Q S hl l q⟩
/-- a, b = x, y -/
theorem s_par {i j : Nat} {ta : TA} {d1 d2 : PyData} (h : TAg c ta P [d1, d2] P1) (hi : i < P1.length) (hj : j < P1.length) (hn : N ((P1.set i (.d d1)).set j (.d d2))) : Sd c (tPar i j ta) P N R := by
  intro T σ F H D S hl n r
  refine h.run T σ F H _ S hl fun vs F1 H1 S1 m1 r1 => ?_
  cases r1 with
  | cons q1 r1 =>
    cases r1 with
    | cons q2 r1 =>
      cases r1
      have hl1 : σ.length = P1.length := hl.trans h.len.symm
      have S2 := S1.store (i := i) (t := .d d1) (by rw [hl1]; exact hi) ⟨_, rfl, q1⟩ rfl trivial
      rw [set_app hi] at S2
      have S3 := S2.store (i := j) (t := .d d2) (by simp [hl1]; exact hj) ⟨_, rfl, q2⟩ rfl trivial
      rw [set_app (by simpa using hj)] at S3
      exact ⟨_, _, rfl, n _ _ F1 H1 hn S3 (by simp [hl1]) m1⟩
/-- name = [] : a new owned list -/
theorem s_nilOwn {i : Nat} {ta : TA} {ds : List PyData} (h : TAg c ta P ds P1) (hz : ds.length ≤ 10000) (hi : i < P1.length) (hn : ∀ a, N (P1.set i (.own a ds))) : Sd c (tAsg (tLst ta) (gName i)) P N R := by
  intro T σ F H D S hl n r
  refine h.run T σ F H _ S hl fun vs F1 H1 S1 m1 r1 => ⟨by rw [r1.len]; exact Nat.le_trans hz (by decide), fun p np => ?_⟩
  have hl1 : σ.length = P1.length := hl.trans h.len.symm
  have S2 := S1.storeNew (i := i) (p := p) (by rw [hl1]; exact hi) np r1
  rw [set_app hi] at S2
  exact n _ _ F1 _ (hn p) S2 (by simp [hl1]) m1
/-- a, b = [], [] and the like: owned lists or data -/
theorem s_aug {i : Nat} {te : TE} {ti : TIp} {d1 d2 d : PyData} (hi : P[i]? = some (.d d1)) (h : TEg c te P d2 P) (ho : O2 ti d1 d2 d) (hn : N (P.set i (.d d))) : Sd c (tAug i te ti) P N R := by
  intro T σ F H D S hl n r
  obtain ⟨v, e, rv⟩ := S.val i _ (get_app hi) (by rw [hl]; exact lt_of_get hi)
  refine ⟨v, e, h.run T σ F H _ S hl fun y F1 H1 S1 m1 r1 => ?_⟩
  refine ho F1 H1 v y _ S1.sub (rv.mono m1) r1 fun z F2 H2 ex rz => ?_
  have S2 := (S1.exd ex).store (i := i) (v := z) (t := .d d) (by rw [hl]; exact lt_of_get hi) ⟨z, rfl, rz⟩ rfl trivial
  rw [set_app (lt_of_get hi)] at S2
  exact n _ _ F2 H2 hn S2 (by simp [hl]) (m1.trans ex.f)
/-- l.append(e), l an owned slot -/
theorem s_append {K : PySem.W.Frag} {i : Nat} {a : Addr} {ds : List PyData} {te : TE} {d : PyData} (hi : P[i]? = some (.own a ds)) (h : TEg c te P d P1) (hi1 : P1[i]? = some (.own a ds)) (hz : ds.length ≤ 10000) (hn : N (P1.set i (.own a (ds ++ [d])))) :
    Sd c (tDrop (tBM K "list" rAppend (tVar i) (tCons te tNil))) P N R := by
  intro T σ F H D S hl n r
  have e := S.val i _ (get_app hi) (by rw [hl]; exact lt_of_get hi)
  obtain ⟨vs0, hH0, _⟩ := S.hold i _ (get_app hi)
  refine ⟨.ref a, e, .inl ⟨rfl, _, SqL.of hH0⟩, h.run T σ F H _ S hl fun y F1 H1 S1 m1 r1 => ?_⟩
  obtain ⟨vs, hH, rv⟩ := S1.hold i _ (get_app hi1)
  refine ⟨a, vs, y, rfl, rfl, hH, by rw [rv.len]; exact Nat.lt_of_le_of_lt hz (by decide), ?_⟩
  have S2 := S1.write (H' := upd H1 a (.lst (vs ++ [y]))) (t := .own a (ds ++ [d])) (get_app hi1) (fun _ z => z) (fun b hb => upd_ne fun z => hb (by simp [Sl.as, z])) ⟨_, upd_same, rv.append (.cons r1 .nil)⟩ fun hl' => (show SlV F1 _ (.own a ds) from S1.val i _ (get_app hi1) hl')
  rw [set_app (lt_of_get hi1)] at S2
  exact n _ _ F1 _ hn S2 (by simp [hl, h.len]) m1
theorem s_extend {K : PySem.W.Frag} {i : Nat} {a : Addr} {ds es : List PyData} {te : TE} (hi : P[i]? = some (.own a ds)) (h : TEg c te P (.list es) P1) (hi1 : P1[i]? = some (.own a ds)) (hz : ds.length + es.length ≤ 10000) (hn : N (P1.set i (.own a (ds ++ es)))) :
    Sd c (tDrop (tBM K "list" rExtend (tVar i) (tCons te tNil))) P N R := by
  intro T σ F H D S hl n r
  have e := S.val i _ (get_app hi) (by rw [hl]; exact lt_of_get hi)
  obtain ⟨vs0, hH0, _⟩ := S.hold i _ (get_app hi)
  refine ⟨.ref a, e, .inl ⟨rfl, _, SqL.of hH0⟩, h.run T σ F H _ S hl fun y F1 H1 S1 m1 r1 => ?_⟩
  obtain ⟨vs, hH, rv⟩ := S1.hold i _ (get_app hi1)
  cases r1 with
  | @lst b zs _ eb rz =>
    refine ⟨a, b, vs, zs, rfl, rfl, hH, S1.sub _ _ eb, by rw [rv.len, rz.len]; exact Nat.le_trans hz (by decide), ?_⟩
    have S2 := S1.write (H' := upd H1 a (.lst (vs ++ zs))) (t := .own a (ds ++ es)) (get_app hi1) (fun _ z => z) (fun b hb => upd_ne fun z => hb (by simp [Sl.as, z])) ⟨_, upd_same, rv.append rz⟩ fun hl' => (show SlV F1 _ (.own a ds) from S1.val i _ (get_app hi1) hl')
    rw [set_app (lt_of_get hi1)] at S2
    exact n _ _ F1 _ hn S2 (by simp [hl, h.len]) m1
/-- l[k] = e, l an owned slot -/
theorem s_setOwn {i : Nat} {a : Addr} {ds : List PyData} {te ti : TE} {d : PyData} {k : Int} {j : Nat} (h : TEg c te P d P1) (hi : P1[i]? = some (.own a ds)) (hk : TEg c ti P1 (.int k) P1) (hj : ixN ds.length k = some j) (hn : N (P1.set i (.own a (ds.set j d)))) :
    Sd c (tAsg te (gSub (tVar i) ti rSetL)) P N R := by
  intro T σ F H D S hl n r
  refine h.run T σ F H _ S hl fun y F1 H1 S1 m1 r1 => ?_
  have hl1 : σ.length = P1.length := hl.trans h.len.symm
  have e := S1.val i _ (get_app hi) (by rw [hl1]; exact lt_of_get hi)
  refine ⟨.ref a, e, hk.run T σ F1 H1 _ S1 hl1 fun z F2 H2 S2 m2 r2 => ?_⟩
  cases r2
  obtain ⟨vs, hH, rv⟩ := S2.hold i _ (get_app hi)
  refine ⟨a, vs, k, j, rfl, rfl, hH, by rw [rv.len]; exact hj, ?_⟩
  have S3 := S2.write (H' := upd H2 a (.lst (vs.set j y))) (t := .own a (ds.set j d)) (get_app hi) (fun _ z => z) (fun b hb => upd_ne fun z => hb (by simp [Sl.as, z])) ⟨_, upd_same, RpL.set (r1.mono m2) j rv⟩ fun hl' => (show SlV F2 _ (.own a ds) from S2.val i _ (get_app hi) hl')
  rw [set_app (lt_of_get hi)] at S3
  exact n _ _ F2 _ hn S3 (by simp [hl1]) (m1.trans m2)

/-! ### walks -/
/-- while F0 is kept, J gives y i at turn i below n -/
def Wk (c : Bc) (J : It) (F0 : Hp) (ds : List PyData) : Prop := ∀ F H, Same F0 F → Same F H → J.stop ds.length H ∧ ∀ i, i < ds.length → J.go i H ∧ ∀ v H2, J.yld i H v H2 → ∃ F2 d, ds[i]? = some d ∧ Ex F H F2 H2 ∧ Rp F2 v d
structure TId (c : Bc) (wi : TI) (P : List Sl) (ds : List PyData) (P' : List Sl) : Prop where
  len : P'.length = P.length
  run : ∀ (T : List Sl) (σ : L2.St) (F H : Hp) (R : It → Hp → Prop), Stt c (P ++ T) σ F H → σ.length = P.length →
    (∀ J F' H', Stt c (P' ++ T) σ F' H' → Same F F' → Wk c J F' ds → R J H') → wi σ H R
/-- what a turn owes -/
def Sg (c : Bc) (g : TG) (tb : TS) (d : PyData) (P : List Sl) (N : List Sl → Prop) (R : PyData → List Sl → Prop) : Prop := ∃ ts P', TGd g c ts d P P' ∧ Sd c tb P' N R
/-- a for over any walk whose items are known while the places say so -/
theorem s_forG {wi : TI} {g : TG} {tb : TS} {n : Nat} (I : Nat → List Sl → Prop) (y : Nat → PyData)
    (hlen : P1.length = P.length)
    (hw : ∀ (T : List Sl) (σ : L2.St) (F H : Hp) (Rr : It → Hp → Prop), Stt c (P ++ T) σ F H → σ.length = P.length →
      (∀ J F' H', Stt c (P1 ++ T) σ F' H' → Same F F' →
        (∀ i P2 σ2 F2 H2, I i P2 → Stt c (P2 ++ T) σ2 F2 H2 → Same F' F2 → i ≤ n → (i = n → J.stop i H2) ∧ (i < n → J.go i H2 ∧ ∀ v H3, J.yld i H2 v H3 → ∃ F3, Ex F2 H2 F3 H3 ∧ Rp F3 v (y i))) → Rr J H') → wi σ H Rr)
    (h0 : I 0 P1) (hs : ∀ i P2, i < n → I i P2 → Sg c g tb (y i) P2 (I (i + 1)) R) (hd : ∀ P2, I n P2 → N P2) : Sd c (tFor wi g tb) P N R := by
  intro T σ F H D S hl nn rr
  refine hw T σ F H _ S hl fun J F1 H1 S1 m1 wk => ?_
  refine ⟨fun i m σ2 H2 => m = n - i ∧ i ≤ n ∧ ∃ P2 F2, I i P2 ∧ Stt c (P2 ++ T) σ2 F2 H2 ∧ σ2.length = P2.length ∧ Same F1 F2, ⟨n, by simp, Nat.zero_le _, P1, F1, h0, S1, hl.trans hlen.symm, Same.refl _⟩, ?_⟩
  rintro i m σ2 H2 ⟨rfl, hi, P2, F2, q2, S2, hl2, m2⟩
  obtain ⟨w1, w2⟩ := wk i P2 σ2 F2 H2 q2 S2 m2 hi
  by_cases hlt : i < n
  · obtain ⟨go, yl⟩ := w2 hlt
    refine .inr ⟨go, fun σ3 H3 => i + 1 ≤ n ∧ ∃ P3 F3, I (i + 1) P3 ∧ Stt c (P3 ++ T) σ3 F3 H3 ∧ σ3.length = P3.length ∧ Same F1 F3, fun σ3 H3 ⟨h3, q3⟩ => ⟨n - (i + 1), by omega, rfl, h3, q3⟩, fun v H3 yv => ?_⟩
    obtain ⟨F3, ex, rv⟩ := yl v H3 yv
    obtain ⟨_, P4, hg, hb⟩ := hs i P2 hlt q2
    refine hg.run T v σ2 F3 H3 _ (S2.exd ex) hl2 rv fun σ4 F4 H4 S4 hl4 _ m4 => ?_
    refine hb T σ4 F4 H4 _ S4 hl4 (fun P5 σ5 F5 H5 q5 S5 hl5 m5 => ?_) fun d P5 v5 σ5 F5 H5 q5 S5 m5 r5 => ?_
    · exact ⟨hlt, P5, F5, q5, S5, hl5, ((m2.trans ex.f).trans m4).trans m5⟩
    · exact rr d P5 v5 σ5 F5 H5 q5 S5 (((m1.trans (m2.trans ex.f)).trans m4).trans m5) r5
  · have e : i = n := by omega
    exact .inl ⟨w1 e, nn P2 σ2 F2 H2 (hd P2 (e ▸ q2)) S2 hl2 (m1.trans m2)⟩
theorem s_for {wi : TI} {g : TG} {tb : TS} {ds : List PyData} (hw : TId c wi P ds P1) (I : Nat → List Sl → Prop) (h0 : I 0 P1)
    (hs : ∀ i d P2, ds[i]? = some d → I i P2 → Sg c g tb d P2 (I (i + 1)) R) (hd : ∀ P2, I ds.length P2 → N P2) : Sd c (tFor wi g tb) P N R := by
  refine s_forG (P1 := P1) (n := ds.length) I (fun i => ds.getD i .none) hw.len (fun T σ F H Rr S hl q => ?_) h0 (fun i P2 hi q2 => hs i _ P2 (by simp [List.getD, hi]) q2) hd
  refine hw.run T σ F H Rr S hl fun J F1 H1 S1 m1 wk => q J F1 H1 S1 m1 fun i P2 σ2 F2 H2 _ S2 m2 hi => ?_
  obtain ⟨w1, w2⟩ := wk F2 H2 m2 S2.sub
  refine ⟨fun e => e ▸ w1, fun hlt => ⟨(w2 i hlt).1, fun v H3 yv => ?_⟩⟩
  obtain ⟨F3, d, e, ex, rv⟩ := (w2 i hlt).2 v H3 yv
  exact ⟨F3, ex, by simp only [List.getD, e]; exact rv⟩
/-- while True and the like: n turns at most are left -/
theorem s_while {tt : TT} {tb : TS} (I : Nat → List Sl → Prop) {n0 : Nat} (h0 : I n0 P)
    (hs : ∀ n P2, I n P2 → ∃ b P3, TTg c tt P2 b P3 ∧ (b = true → Sd c tb P3 (fun P4 => ∃ m, m < n ∧ I m P4) R) ∧ (b = false → N P3)) : Sd c (tWhile tt tb) P N R := by
  intro T σ F H D S hl nn rr
  refine ⟨fun m σ2 H2 => ∃ P2 F2, I m P2 ∧ Stt c (P2 ++ T) σ2 F2 H2 ∧ σ2.length = P2.length ∧ Same F F2, ⟨n0, P, F, h0, S, hl, Same.refl _⟩, ?_⟩
  rintro m σ2 H2 ⟨P2, F2, q2, S2, hl2, m2⟩
  obtain ⟨b, P3, ht, hb, hf⟩ := hs m P2 q2
  refine ht.run T σ2 F2 H2 _ S2 hl2 fun F3 H3 S3 m3 => ?_
  have hl3 : σ2.length = P3.length := hl2.trans ht.len.symm
  cases b with
  | true =>
    rw [if_pos rfl]
    refine ⟨fun σ' H' => ∃ m', m' < m ∧ ∃ P2 F2, I m' P2 ∧ Stt c (P2 ++ T) σ' F2 H' ∧ σ'.length = P2.length ∧ Same F F2, fun σ' H' q => q, ?_⟩
    refine hb rfl T σ2 F3 H3 _ S3 hl3 (fun P5 σ5 F5 H5 q5 S5 hl5 m5 => ?_) fun d P5 v5 σ5 F5 H5 q5 S5 m5 r5 => rr d P5 v5 σ5 F5 H5 q5 S5 ((m2.trans m3).trans m5) r5
    obtain ⟨m', lt, q⟩ := q5
    exact ⟨m', lt, P5, F5, q, S5, hl5, (m2.trans m3).trans m5⟩
  | false =>
    rw [if_neg Bool.false_ne_true]
    exact nn P3 σ2 F3 H3 (hf rfl) S3 hl3 (m2.trans m3)
end
end Cp
end
/-! ## CDo -/
section
set_option Elab.async false
set_option linter.all false
set_option autoImplicit false
set_option maxRecDepth 100000
set_option maxHeartbeats 4000000
/-! operators, built-ins, walks, comprehensions over data -/
namespace Cp
variable [KFix]
open PySem PySem.Spec PyProof.Rows L2

theorem o_rI0 {f : Int → Int → Int} {i j : Int} : O2 (rI0 fun i j => .int (f i j)) (.int i) (.int j) (.int (f i j)) := fun F H x y Q s r1 r2 q => by
  cases r1; cases r2
  exact ⟨i, j, rfl, rfl, q _ F H (Ex.refl s) (.int _)⟩
theorem o_add {i j : Int} : O2 (rI0 fun i j => .int (i + j)) (.int i) (.int j) (.int (i + j)) := o_rI0 (f := fun i j => i + j)
theorem o_sub {i j : Int} : O2 (rI0 fun i j => .int (i - j)) (.int i) (.int j) (.int (i - j)) := o_rI0 (f := fun i j => i - j)
theorem o_rI {f : Int → Int → Int} {C : Int → Int → Prop} {i j : Int} (h : C i j) : O2 (rI C fun i j => .int (f i j)) (.int i) (.int j) (.int (f i j)) := fun F H x y Q s r1 r2 q => by
  cases r1; cases r2
  exact ⟨i, j, rfl, rfl, h, q _ F H (Ex.refl s) (.int _)⟩
theorem o_mul {i j : Int} (h : CMulW i j) : O2 (rI CMulW fun i j => .int (i * j)) (.int i) (.int j) (.int (i * j)) := o_rI (f := fun i j => i * j) h
theorem o_div {i j : Int} (h : CDivW i j) : O2 (rI CDivW fun i j => .int (i / j)) (.int i) (.int j) (.int (i / j)) := o_rI (f := fun i j => i / j) h
theorem o_mod {i j : Int} (h : 0 < j) : O2 (rI (fun _ j => 0 < j) fun i j => .int (i % j)) (.int i) (.int j) (.int (i % j)) := o_rI (f := fun i j => i % j) (C := fun _ j => 0 < j) h
theorem o_pow {i j : Int} (h : CPow i j) : O2 (rI CPow fun i j => .int (i ^ j.toNat)) (.int i) (.int j) (.int (i ^ j.toNat)) := o_rI (f := fun i j => i ^ j.toNat) h
theorem o_rB {f : Int → Int → Bool} {i j : Int} : O2 (rI0 fun i j => .bl (f i j)) (.int i) (.int j) (.bool (f i j)) := fun F H x y Q s r1 r2 q => by
  cases r1; cases r2
  exact ⟨i, j, rfl, rfl, q _ F H (Ex.refl s) (.bl _)⟩
theorem o_lt {i j : Int} : O2 (rI0 fun i j => .bl (decide (i < j))) (.int i) (.int j) (.bool (decide (i < j))) := o_rB (f := fun i j => decide (i < j))
theorem o_le {i j : Int} : O2 (rI0 fun i j => .bl (decide (i ≤ j))) (.int i) (.int j) (.bool (decide (i ≤ j))) := o_rB (f := fun i j => decide (i ≤ j))
theorem o_gt {i j : Int} : O2 (rI0 fun i j => .bl (decide (j < i))) (.int i) (.int j) (.bool (decide (j < i))) := o_rB (f := fun i j => decide (j < i))
theorem o_ge {i j : Int} : O2 (rI0 fun i j => .bl (decide (j ≤ i))) (.int i) (.int j) (.bool (decide (j ≤ i))) := o_rB (f := fun i j => decide (j ≤ i))
theorem o_neg {i : Int} : O1 (rU fun i => .int (-i)) (.int i) (.int (-i)) := fun F H x Q s r q => by
  cases r
  exact ⟨i, rfl, q _ F H (Ex.refl s) (.int _)⟩
theorem o_ipadd {i j : Int} : O2 (ipI fun i j => i + j) (.int i) (.int j) (.int (i + j)) := fun F H x y Q s r1 r2 q => by
  cases r1; cases r2
  exact ⟨i, j, rfl, rfl, q _ F H (Ex.refl s) (.int _)⟩
theorem o_eq {K : PySem.W.Frag} {d e : PyData} (hd : SeqAt.shaped d = true) (he : SeqAt.shaped e = true) : O2 (rEqD K) d e (.bool (PyData.eqv d e)) := fun F H x y Q s r1 r2 q =>
  ⟨d, e, Rp.dp s (SeqAt.canLay_of_shaped hd) r1, Rp.dp s (SeqAt.canLay_of_shaped he) r2, hd, he, q _ F H (Ex.refl s) (.bl _)⟩
theorem o_ne {K : PySem.W.Frag} {d e : PyData} (hd : SeqAt.shaped d = true) (he : SeqAt.shaped e = true) : O2 (rNeD K) d e (.bool (!PyData.eqv d e)) := fun F H x y Q s r1 r2 q =>
  ⟨d, e, Rp.dp s (SeqAt.canLay_of_shaped hd) r1, Rp.dp s (SeqAt.canLay_of_shaped he) r2, hd, he, q _ F H (Ex.refl s) (.bl _)⟩
def isNone : PyData → Bool
  | .none => true
  | _ => false
theorem o_isN {d : PyData} : O2 (fun x y H Q => y = .non ∧ Q (.bl (decide (x = .non))) H) d .none (.bool (isNone d)) := fun F H x y Q s r1 r2 q => by
  cases r2
  refine ⟨rfl, q _ F H (Ex.refl s) ?_⟩
  cases r1 <;> exact .bl _
theorem o_notN {d : PyData} : O2 (fun x y H Q => y = .non ∧ Q (.bl (!decide (x = .non))) H) d .none (.bool (!isNone d)) := fun F H x y Q s r1 r2 q => by
  cases r2
  refine ⟨rfl, q _ F H (Ex.refl s) ?_⟩
  cases r1 <;> exact .bl _
theorem atI_rp {F : Hp} {vs : List V} {ds : List PyData} {i : Int} {d : PyData} (l : RpL F vs ds) (h : atI ds i = some d) : ∃ v, atI vs i = some v ∧ Rp F v d := by
  unfold atI at h ⊢
  rw [l.len]
  cases e : ixN ds.length i with
  | none => rw [e] at h; cases h
  | some j =>
    rw [e] at h
    exact l.get h
theorem o_ixL {K : PySem.W.Frag} {ds : List PyData} {i : Int} {d : PyData} (h : atI ds i = some d) : O2 (rIxL K) (.list ds) (.int i) d := fun F H x y Q s r1 r2 q => by
  cases r1 with
  | lst e l =>
    cases r2
    obtain ⟨v, hv, r⟩ := atI_rp l h
    exact ⟨_, _, i, v, rfl, rfl, SqL.of (s _ _ e), hv, q v F H (Ex.refl s) r⟩
theorem o_ixT {K : PySem.W.Frag} {ds : List PyData} {i : Int} {d : PyData} (h : atI ds i = some d) : O2 (rIxT K) (.tuple ds) (.int i) d := fun F H x y Q s r1 r2 q => by
  cases r1 with
  | tup e l =>
    cases r2
    obtain ⟨v, hv, r⟩ := atI_rp l h
    exact ⟨_, _, i, v, rfl, rfl, SqT.of (s _ _ e), hv, q v F H (Ex.refl s) r⟩
/-- x[i], whatever x is: list or tuple -/
theorem o_ixqT {K : PySem.W.Frag} {ds : List PyData} {i : Int} {d : PyData} (h : atI ds i = some d) : O2 (rIx K) (.tuple ds) (.int i) d := fun F H x y Q s r1 r2 q => .inr (.inl (o_ixT h F H x y Q s r1 r2 q))
theorem o_ixqL {K : PySem.W.Frag} {ds : List PyData} {i : Int} {d : PyData} (h : atI ds i = some d) : O2 (rIx K) (.list ds) (.int i) d := fun F H x y Q s r1 r2 q => .inl (o_ixL h F H x y Q s r1 r2 q)
theorem o_cat {ds es : List PyData} (h : ds.length + es.length ≤ 10000) : O2 rCat (.list ds) (.list es) (.list (ds ++ es)) := fun F H x y Q s r1 r2 q => by
  cases r1 with
  | lst e l =>
    cases r2 with
    | lst e' l' =>
      refine ⟨_, _, _, _, rfl, rfl, s _ _ e, s _ _ e', by rw [l.len, l'.len]; exact Nat.le_trans h (by decide), fun p np => ?_⟩
      exact q _ _ _ (Ex.new s np) (.lst upd_same ((l.append l').mono (Ex.new s np).f))
theorem rep_one {α : Type} (x : α) : ∀ n : Nat, (List.replicate n [x]).flatten = List.replicate n x
  | 0 => rfl
  | n + 1 => by rw [List.replicate_succ, List.flatten_cons, rep_one x n]; rfl
theorem o_rep1 {d : PyData} {k : Int} (h0 : k ≤ 10000) (h1 : -10000 ≤ k) : O2 rRep (.list [d]) (.int k) (.list (List.replicate k.toNat d)) := fun F H x y Q s r1 r2 q => by
  cases r1 with
  | lst e l =>
    cases r2
    cases l with
    | cons rv l =>
      cases l
      refine ⟨_, k, _, rfl, rfl, s _ _ e, by omega, by omega, Nat.le_trans (show 1 * k.toNat ≤ 10000 by omega) (by decide), fun p np => ?_⟩
      rw [rep_one]
      exact q _ _ _ (Ex.new s np) (.lst upd_same ((RpL.rep rv _).mono (Ex.new s np).f))
/-! built-ins -/
theorem b_lenL {K : PySem.W.Frag} {ds : List PyData} : ON (fun xs H Q => ∃ x n, xs = [x] ∧ LenV K x H n ∧ Q (.int n) H) [.list ds] (.int ds.length) := fun F H xs Q s r q => by
  cases r with
  | cons r1 r =>
    cases r
    cases r1 with
    | lst e l => exact ⟨_, _, rfl, .inl ⟨_, SqL.of (s _ _ e), l.len.symm⟩, q _ F H (Ex.refl s) (.int _)⟩
theorem b_lenT {K : PySem.W.Frag} {ds : List PyData} : ON (fun xs H Q => ∃ x n, xs = [x] ∧ LenV K x H n ∧ Q (.int n) H) [.tuple ds] (.int ds.length) := fun F H xs Q s r q => by
  cases r with
  | cons r1 r =>
    cases r
    cases r1 with
    | tup e l => exact ⟨_, _, rfl, .inr ⟨_, SqT.of (s _ _ e), l.len.symm⟩, q _ F H (Ex.refl s) (.int _)⟩
theorem b_lenS {K : PySem.W.Frag} {x : Str} (h : x.length ≤ 10000) : ON (fun xs H Q => ∃ x n, xs = [x] ∧ LenV K x H n ∧ Q (.int n) H) [.str x] (.int x.length) := fun F H xs Q s r q => by
  cases r with
  | cons r1 r =>
    cases r
    cases r1
    exact ⟨_, _, rfl, ⟨Nat.le_trans h (by decide), rfl⟩, q _ F H (Ex.refl s) (.int _)⟩
theorem b_sum {K : PySem.W.Frag} {ns : List Int} : ON (rSum K) [dInts ns] (.int ns.sum) := fun F H xs Q s r q => by
  cases r with
  | cons r1 r =>
    cases r
    cases r1 with
    | lst e l =>
      have := l.ints_inv
      subst this
      exact ⟨_, ns, rfl, SqL.of (s _ _ e), q _ F H (Ex.refl s) (.int _)⟩
theorem b_all {K : PySem.W.Frag} {bs : List Bool} : ON (rAll K) [.list (bs.map .bool)] (.bool (bs.all id)) := fun F H xs Q s r q => by
  cases r with
  | cons r1 r =>
    cases r
    cases r1 with
    | lst e l =>
      have := l.bls_inv
      subst this
      exact ⟨_, bs, rfl, SqL.of (s _ _ e), q _ F H (Ex.refl s) (.bl _)⟩
theorem b_any {K : PySem.W.Frag} {bs : List Bool} : ON (rAny K) [.list (bs.map .bool)] (.bool (bs.any id)) := fun F H xs Q s r q => by
  cases r with
  | cons r1 r =>
    cases r
    cases r1 with
    | lst e l =>
      have := l.bls_inv
      subst this
      exact ⟨_, bs, rfl, SqL.of (s _ _ e), q _ F H (Ex.refl s) (.bl _)⟩
theorem b_tuple {K : PySem.W.Frag} {ds : List PyData} : ON (fun xs H Q => ∃ p ys, xs = [.ref p] ∧ ((SqL K H p ys ∧ ∀ l, H l = none → Q (.ref l) (upd H l (.tup ys))) ∨ (SqT K H p ys ∧ Q (.ref p) H))) [.list ds] (.tuple ds) := fun F H xs Q s r q => by
  cases r with
  | cons r1 r =>
    cases r
    cases r1 with
    | lst e l =>
      refine ⟨_, _, rfl, .inl ⟨SqL.of (s _ _ e), fun p np => ?_⟩⟩
      exact q _ _ _ (Ex.new s np) (.tup upd_same (l.mono (Ex.new s np).f))
theorem b_tupleT {K : PySem.W.Frag} {ds : List PyData} : ON (fun xs H Q => ∃ p ys, xs = [.ref p] ∧ ((SqL K H p ys ∧ ∀ l, H l = none → Q (.ref l) (upd H l (.tup ys))) ∨ (SqT K H p ys ∧ Q (.ref p) H))) [.tuple ds] (.tuple ds) := fun F H xs Q s r q => by
  cases r with
  | cons r1 r =>
    cases r
    cases r1 with
    | tup e l => exact ⟨_, _, rfl, .inr ⟨SqT.of (s _ _ e), q _ F H (Ex.refl s) (.tup e l)⟩⟩
theorem b_abs {i : Int} : ON (fun xs H Q => ∃ i, xs = [.int i] ∧ Q (.int (if i < 0 then -i else i)) H) [.int i] (.int (if i < 0 then -i else i)) := fun F H xs Q s r q => by
  cases r with
  | cons r1 r =>
    cases r
    cases r1
    exact ⟨i, rfl, q _ F H (Ex.refl s) (.int _)⟩
theorem b_max {i j : Int} : ON (fun xs H Q => ∃ i j, xs = [.int i, .int j] ∧ Q (.int (if j > i then j else i)) H) [.int i, .int j] (.int (if j > i then j else i)) := fun F H xs Q s r q => by
  cases r with
  | cons r1 r =>
    cases r with
    | cons r2 r =>
      cases r
      cases r1
      cases r2
      exact ⟨i, j, rfl, q _ F H (Ex.refl s) (.int _)⟩
theorem b_int {i : Int} : ON (fun xs H Q => (∃ i, xs = [.int i] ∧ Q (.int i) H) ∨ ∃ k, xs = [.bl k] ∧ Q (.int (if k then 1 else 0)) H) [.int i] (.int i) := fun F H xs Q s r q => by
  cases r with
  | cons r1 r =>
    cases r
    cases r1
    exact .inl ⟨i, rfl, q _ F H (Ex.refl s) (.int _)⟩
/-! isinstance -/
def tyOf : PyData → String
  | .none => "NoneType"
  | .bool _ => "bool"
  | .int _ => "int"
  | .str _ => "str"
  | .list _ => "list"
  | .tuple _ => "tuple"
  | .dict _ => "dict"
def isDict : PyData → Bool
  | .dict _ => true
  | _ => false
theorem Rp.ty {K : PySem.W.Frag} {F H : Hp} {v : V} {d : PyData} (s : Same F H) (hd : isDict d = false) (r : Rp F v d) : TyX K H v (.type (tyOf d)) := by
  cases r with
  | non => exact .base .non
  | bl b => exact .base (.bl b)
  | int i => exact .base (.int i)
  | str x => exact .base (.str x)
  | lst e l => exact .base (.lst (s _ _ e))
  | tup e l => exact .base (.tup (s _ _ e))
  | scr q => cases hd
section
variable {c : Bc} {P P1 P2 P3 : List Sl}
theorem g_isi {K : PySem.W.Frag} {ta : TE} {d : PyData} {T : String} {b : Bool} (h : TEg c ta P d P1) (k : kitB (tyOf d) T = some b) (hd : isDict d = false := by rfl) : TEg c (tCB (rIsi K) (tCons ta (tCons (tC (.ty T)) tNil))) P (.bool b) P1 := by
  refine ⟨h.len, fun Tl σ F H Q S hl q => ?_⟩
  refine h.run Tl σ F H _ S hl fun x F1 H1 S1 m1 r1 => ?_
  exact ⟨x, .ty T, .type (tyOf d), .type T, b, rfl, .ty T, Rp.ty S1.sub hd r1, kit_ty k, q _ F1 H1 S1 m1 (.bl b)⟩
theorem g_isi2 {K : PySem.W.Frag} {ta : TE} {d : PyData} {T U : String} {b1 b2 : Bool} (h : TEg c ta P d P1) (k1 : kitB (tyOf d) T = some b1) (k2 : kitB (tyOf d) U = some b2) (hd : isDict d = false := by rfl) : TEg c (tCB (rIsiT K) (tCons ta (tCons (tTup (tCons (tC (.ty T)) (tCons (tC (.ty U)) tNil))) tNil))) P (.bool (b1 || b2)) P1 := by
  refine ⟨h.len, fun Tl σ F H Q S hl q => ?_⟩
  refine h.run Tl σ F H _ S hl fun x F1 H1 S1 m1 r1 => ⟨by show 2 ≤ sizeLine; decide, fun p np => ?_⟩
  have ex := Ex.new (o := .tup [V.ty T, V.ty U]) S1.sub np
  refine ⟨x, p, [.ty T, .ty U], .type (tyOf d), [.type T, .type U], b1 || b2, rfl, upd_same, .cons (.ty T) (.cons (.ty U) .nil), Rp.ty ex.s hd (r1.mono ex.f), ?_, q _ _ _ (S1.exd ex) (m1.trans ex.f) (.bl _)⟩
  refine kitAny_cons (kit_ty k1) (r := b1 || b2) (fun e => ?_) fun e => by rw [e]; rfl
  refine kitAny_cons (kit_ty k2) (r := b1 || b2) (fun e2 => ?_) fun e2 => by rw [e2]; simp
  rw [e, e2]
  rfl
/-! chains of comparisons -/
theorem g_chainT {r r' : R2} {ta tb tc : TE} {da db dc d : PyData} (ha : TEg c ta P da P1) (hb : TEg c tb P1 db P2) (hr : O2 r da db (.bool true)) (hc : TEg c tc P2 dc P3) (hr' : O2 r' db dc d) : TEg c (tChain r r' ta tb tc) P d P3 := by
  refine ⟨(hc.len.trans hb.len).trans ha.len, fun T σ F H Q S hl q => ?_⟩
  refine ha.run T σ F H _ S hl fun x F1 H1 S1 m1 r1 => ?_
  refine hb.run T σ F1 H1 _ S1 (hl.trans ha.len.symm) fun y F2 H2 S2 m2 r2 => ?_
  refine hr F2 H2 x y _ S2.sub (r1.mono m2) r2 fun v F3 H3 e rv => ?_
  cases rv
  refine ⟨true, rfl, ?_⟩
  rw [if_pos rfl]
  refine hc.run T σ F3 H3 _ (S2.exd e) ((hl.trans ha.len.symm).trans hb.len.symm) fun w F4 H4 S4 m4 r4 => ?_
  exact hr' F4 H4 y w Q S4.sub ((r2.mono e.f).mono m4) r4 fun v F5 H5 e5 rv => q v F5 H5 (S4.exd e5) ((((m1.trans m2).trans e.f).trans m4).trans e5.f) rv
theorem g_chainF {r r' : R2} {ta tb tc : TE} {da db : PyData} (ha : TEg c ta P da P1) (hb : TEg c tb P1 db P2) (hr : O2 r da db (.bool false)) : TEg c (tChain r r' ta tb tc) P (.bool false) P2 := by
  refine ⟨hb.len.trans ha.len, fun T σ F H Q S hl q => ?_⟩
  refine ha.run T σ F H _ S hl fun x F1 H1 S1 m1 r1 => ?_
  refine hb.run T σ F1 H1 _ S1 (hl.trans ha.len.symm) fun y F2 H2 S2 m2 r2 => ?_
  refine hr F2 H2 x y _ S2.sub (r1.mono m2) r2 fun v F3 H3 e rv => ?_
  cases rv
  refine ⟨false, rfl, ?_⟩
  rw [if_neg Bool.false_ne_true]
  exact q _ F3 H3 (S2.exd e) ((m1.trans m2).trans e.f) (.bl _)
/-! slices of lists -/
theorem cutV_rp {F : Hp} {vs : List V} {ds : List PyData} (l : RpL F vs ds) (k : Nat) : RpL F (cutV vs (some (k : Int)) none) (ds.drop k) := by
  have hle : min k vs.length ≤ vs.length := Nat.min_le_right _ _
  have e : cutV vs (some (k : Int)) none = vs.drop k := by
    unfold cutV
    rw [HT.sIx_nat, HT.sIx_none]
    rw [List.take_of_length_le (by simp)]
    rcases Nat.le_total k vs.length with h | h
    · rw [Nat.min_eq_left h]
    · rw [Nat.min_eq_right h, List.drop_length, List.drop_of_length_le h]
  rw [e]
  exact l.drop k
theorem g_slice {K : PySem.W.Frag} {te tk : TE} {ds : List PyData} {k : Nat} (h : TEg c te P (.list ds) P1) (hk : TEg c tk P1 (.int (k : Int)) P2) : TEg c (tSl (rSlL K) te (tPart tk) tNoPart) P (.list (ds.drop k)) P2 := by
  refine ⟨hk.len.trans h.len, fun T σ F H Q S hl q => ?_⟩
  refine h.run T σ F H _ S hl fun x F1 H1 S1 m1 r1 => ?_
  refine hk.run T σ F1 H1 _ S1 (hl.trans h.len.symm) fun y F2 H2 S2 m2 r2 => ?_
  cases r2
  refine ⟨(k : Int), rfl, ?_⟩
  cases r1 with
  | lst e l =>
    refine ⟨_, _, rfl, SqL.of (S2.sub _ _ (m2 _ _ e)), fun p np => ?_⟩
    exact q _ _ _ (S2.exd (Ex.new S2.sub np)) ((m1.trans m2).trans (Ex.new S2.sub np).f) (.lst upd_same (cutV_rp ((l.mono m2).mono (Ex.new S2.sub np).f) k))

/-! ### walks -/
theorem Wk.of {J : It} {F0 : Hp} {ds : List PyData} (h : ∀ F H, Same F0 F → Same F H → J.stop ds.length H ∧ ∀ i, i < ds.length → J.go i H ∧ ∀ v H2, J.yld i H v H2 → ∃ F2 d, ds[i]? = some d ∧ Ex F H F2 H2 ∧ Rp F2 v d) : Wk c J F0 ds := h
theorem i_list {te : TE} {ds : List PyData} (h : TEg c te P (.list ds) P1) : TId c (iList c.K te) P ds P1 := by
  refine ⟨h.len, fun T σ F H R S hl q => ?_⟩
  refine h.run T σ F H _ S hl fun x F1 H1 S1 m1 r1 => ?_
  cases r1 with
  | @lst a xs _ e l =>
    refine ⟨a, rfl, ⟨xs, SqL.of (S1.sub _ _ e)⟩, q _ F1 H1 S1 m1 fun F2 H2 m2 s2 => ?_⟩
    have e2 : H2 a = some (.lst xs) := s2 _ _ (m2 _ _ e)
    refine ⟨⟨xs, SqL.of e2, by rw [l.len]; exact Nat.le_refl _⟩, fun i hi => ⟨⟨xs, xs[i]'(by rw [l.len]; exact hi), SqL.of e2, by simp [l.len, hi]⟩, fun v H3 yv => ?_⟩⟩
    obtain ⟨rfl, yv⟩ := yv
    obtain ⟨d, hd, rd⟩ := l.getV (yv xs (SqL.of e2))
    exact ⟨F2, d, hd, Ex.refl s2, rd.mono m2⟩
theorem i_tup {te : TE} {ds : List PyData} (h : TEg c te P (.tuple ds) P1) : TId c (iTup c.K te) P ds P1 := by
  refine ⟨h.len, fun T σ F H R S hl q => ?_⟩
  refine h.run T σ F H _ S hl fun x F1 H1 S1 m1 r1 => ?_
  cases r1 with
  | @tup a xs _ e l =>
    refine ⟨a, rfl, ⟨xs, SqT.of (S1.sub _ _ e)⟩, q _ F1 H1 S1 m1 fun F2 H2 m2 s2 => ?_⟩
    have e2 : H2 a = some (.tup xs) := s2 _ _ (m2 _ _ e)
    refine ⟨⟨xs, SqT.of e2, by rw [l.len]; exact Nat.le_refl _⟩, fun i hi => ⟨⟨xs, xs[i]'(by rw [l.len]; exact hi), SqT.of e2, by simp [l.len, hi]⟩, fun v H3 yv => ?_⟩⟩
    obtain ⟨rfl, yv⟩ := yv
    obtain ⟨d, hd, rd⟩ := l.getV (yv xs (SqT.of e2))
    exact ⟨F2, d, hd, Ex.refl s2, rd.mono m2⟩
def chD (x : Str) : List PyData := x.cps.toList.map fun c => PyData.str ⟨#[c]⟩
theorem chD_rp {F : Hp} (x : Str) : RpL F (chV x) (chD x) := by
  unfold chV chD
  induction x.cps.toList with
  | nil => exact .nil
  | cons a l ih => exact .cons (.str _) ih
theorem chD_len (x : Str) : (chD x).length = x.cps.size := by simp [chD]
theorem i_str {te : TE} {x : Str} (h : TEg c te P (.str x) P1) : TId c (iStr te) P (chD x) P1 := by
  refine ⟨h.len, fun T σ F H R S hl q => ?_⟩
  refine h.run T σ F H _ S hl fun v F1 H1 S1 m1 r1 => ?_
  cases r1
  refine ⟨x, rfl, q _ F1 H1 S1 m1 fun F2 H2 m2 s2 => ⟨by rw [chD_len]; exact Nat.le_refl _, fun i hi => ⟨by rw [chD_len] at hi; exact hi, fun v H3 yv => ?_⟩⟩⟩
  obtain ⟨rfl, ch, e, rfl⟩ := yv
  refine ⟨F2, .str ⟨#[ch]⟩, ?_, Ex.refl s2, .str _⟩
  unfold chD
  rw [List.getElem?_map]
  have : x.cps.toList[i]? = some ch := by simpa using e
  rw [this]
  rfl
def rngD (n : Nat) : List PyData := (List.range n).map fun (i : Nat) => PyData.int (i : Int)
theorem rngD_get {n i : Nat} (h : i < n) : (rngD n)[i]? = some (.int (i : Int)) := by
  unfold rngD
  rw [List.getElem?_map, List.getElem?_range h]
  rfl
theorem rngD_len (n : Nat) : (rngD n).length = n := by simp [rngD]
theorem i_rng {ta : TA} {n : Nat} (h : TAg c ta P [.int (n : Int)] P1) (hn : n < 2 ^ 62) : TId c (iRng1 ta) P (rngD n) P1 := by
  refine ⟨h.len, fun T σ F H R S hl q => ?_⟩
  refine h.run T σ F H _ S hl fun vs F1 H1 S1 m1 r1 => ?_
  cases r1 with
  | cons r1 r =>
    cases r
    cases r1
    refine ⟨(n : Int), rfl, by omega, by omega, q _ F1 H1 S1 m1 fun F2 H2 m2 s2 => ⟨by rw [rngD_len]; show (n : Int).toNat ≤ n; omega, fun i hi => ?_⟩⟩
    rw [rngD_len] at hi
    refine ⟨show i < (n : Int).toNat by omega, fun v H3 yv => ?_⟩
    obtain ⟨rfl, rfl⟩ := yv
    exact ⟨F2, .int (i : Int), rngD_get hi, Ex.refl s2, by rw [Int.zero_add]; exact .int _⟩
/-- a source over data -/
theorem src_of {F H : Hp} {v : V} {d : PyData} {ds : List PyData} (s : Same F H) (r : Rp F v d) (h : d = .list ds ∨ d = .tuple ds ∨ ∃ x, d = .str x ∧ ds = chD x) :
    ∃ (q : Sq) (xs : List V), v = q.v ∧ RpL F xs ds ∧ ∀ F2 H2, Same F F2 → Same F2 H2 → q.has H2 xs := by
  rcases h with rfl | rfl | ⟨x, rfl, rfl⟩
  · cases r with
    | @lst a xs _ e l => exact ⟨.lst a, xs, rfl, l, fun F2 H2 m s2 => s2 _ _ (m _ _ e)⟩
  · cases r with
    | @tup a xs _ e l => exact ⟨.tup a, xs, rfl, l, fun F2 H2 m s2 => s2 _ _ (m _ _ e)⟩
  · cases r
    exact ⟨.str x, chV x, rfl, chD_rp x, fun F2 H2 m s2 => rfl⟩
/-- a thing that is walked: its items -/
def Its_ (d : PyData) (ds : List PyData) : Prop := d = .list ds ∨ d = .tuple ds ∨ ∃ x, d = .str x ∧ ds = chD x
theorem its_l {ds : List PyData} : Its_ (.list ds) ds := .inl rfl
theorem its_t {ds : List PyData} : Its_ (.tuple ds) ds := .inr (.inl rfl)
theorem its_s {x : Str} : Its_ (.str x) (chD x) := .inr (.inr ⟨x, rfl, rfl⟩)
def enD (ds : List PyData) : List PyData := ds.mapIdx fun (i : Nat) d => PyData.tuple [.int (i : Int), d]
theorem enD_len (ds : List PyData) : (enD ds).length = ds.length := by simp [enD]
theorem enD_get {ds : List PyData} {i : Nat} {d : PyData} (h : ds[i]? = some d) : (enD ds)[i]? = some (.tuple [.int (i : Int), d]) := by
  unfold enD
  rw [List.getElem?_mapIdx, h]
  rfl
theorem i_en {ta : TA} {d : PyData} {ds : List PyData} (h : TAg c ta P [d] P1) (hd : Its_ d ds) : TId c (iEnQ ta) P (enD ds) P1 := by
  refine ⟨h.len, fun T σ F H R S hl q => ?_⟩
  refine h.run T σ F H _ S hl fun vs F1 H1 S1 m1 r1 => ?_
  cases r1 with
  | cons r1 r =>
    cases r
    obtain ⟨sq, xs, rfl, l, hq⟩ := src_of S1.sub r1 hd
    refine ⟨sq, xs, rfl, hq F1 H1 (Same.refl _) S1.sub, q _ F1 H1 S1 m1 fun F2 H2 m2 s2 => ⟨⟨xs, hq F2 H2 m2 s2, by rw [enD_len, l.len]⟩, fun i hi => ⟨⟨xs, hq F2 H2 m2 s2, by rw [l.len]; rwa [enD_len] at hi⟩, fun v H3 yv => ?_⟩⟩⟩
    obtain ⟨T', x, rfl, hT, rfl, hx⟩ := yv
    obtain ⟨d', hd', rd⟩ := l.getV (hx xs (hq F2 H2 m2 s2))
    have ex := Ex.new (o := .tup [.int (i : Int), x]) s2 hT
    exact ⟨_, _, enD_get hd', ex, .tup upd_same (.cons (.int _) (.cons ((rd.mono m2).mono ex.f) .nil))⟩
def z2D (ds es : List PyData) : List PyData := List.zipWith (fun a b => PyData.tuple [a, b]) ds es
theorem z2D_len (ds es : List PyData) : (z2D ds es).length = min ds.length es.length := by simp [z2D]
theorem z2D_get {ds es : List PyData} {i : Nat} {d e : PyData} (h : ds[i]? = some d) (h' : es[i]? = some e) : (z2D ds es)[i]? = some (.tuple [d, e]) := by
  unfold z2D
  rw [List.getElem?_zipWith, h, h']
theorem i_z2 {ta : TA} {d e : PyData} {ds es : List PyData} (h : TAg c ta P [d, e] P1) (hd : Its_ d ds) (he : Its_ e es) : TId c (iZ2Q ta) P (z2D ds es) P1 := by
  refine ⟨h.len, fun T σ F H R S hl q => ?_⟩
  refine h.run T σ F H _ S hl fun vs F1 H1 S1 m1 r1 => ?_
  cases r1 with
  | cons r1 r =>
    cases r with
    | cons r2 r =>
      cases r
      obtain ⟨sq, xs, rfl, l, hq⟩ := src_of S1.sub r1 hd
      obtain ⟨sq', xs', rfl, l', hq'⟩ := src_of S1.sub r2 he
      refine ⟨sq, sq', xs, xs', rfl, hq F1 H1 (Same.refl _) S1.sub, hq' F1 H1 (Same.refl _) S1.sub, q _ F1 H1 S1 m1 fun F2 H2 m2 s2 => ⟨⟨xs, xs', hq F2 H2 m2 s2, hq' F2 H2 m2 s2, by rw [z2D_len, l.len, l'.len]⟩, fun i hi => ?_⟩⟩
      rw [z2D_len] at hi
      refine ⟨⟨xs, xs', hq F2 H2 m2 s2, hq' F2 H2 m2 s2, by rw [l.len]; omega, by rw [l'.len]; omega⟩, fun v H3 yv => ?_⟩
      obtain ⟨T', x, y, rfl, hT, rfl, hx, hy⟩ := yv
      obtain ⟨d', hd', rd⟩ := l.getV (hx xs (hq F2 H2 m2 s2))
      obtain ⟨e', he', re⟩ := l'.getV (hy xs' (hq' F2 H2 m2 s2))
      have ex := Ex.new (o := .tup [x, y]) s2 hT
      exact ⟨_, _, z2D_get hd' he', ex, .tup upd_same (.cons ((rd.mono m2).mono ex.f) (.cons ((re.mono m2).mono ex.f) .nil))⟩
def z3D (ds es fs : List PyData) : List PyData := List.zipWith (fun a b => match b with | .tuple l => PyData.tuple (a :: l) | _ => .none) ds (z2D es fs)
theorem z3D_len (ds es fs : List PyData) : (z3D ds es fs).length = min (min ds.length es.length) fs.length := by simp [z3D, z2D, Nat.min_assoc]
theorem z3D_get {ds es fs : List PyData} {i : Nat} {d e f : PyData} (h : ds[i]? = some d) (h' : es[i]? = some e) (h'' : fs[i]? = some f) : (z3D ds es fs)[i]? = some (.tuple [d, e, f]) := by
  unfold z3D
  rw [List.getElem?_zipWith, h, z2D_get h' h'']
theorem i_z3 {ta : TA} {d e f : PyData} {ds es fs : List PyData} (h : TAg c ta P [d, e, f] P1) (hd : Its_ d ds) (he : Its_ e es) (hf : Its_ f fs) : TId c (iZ3Q ta) P (z3D ds es fs) P1 := by
  refine ⟨h.len, fun T σ F H R S hl q => ?_⟩
  refine h.run T σ F H _ S hl fun vs F1 H1 S1 m1 r1 => ?_
  cases r1 with
  | cons r1 r =>
    cases r with
    | cons r2 r =>
      cases r with
      | cons r3 r =>
        cases r
        obtain ⟨sq, xs, rfl, l, hq⟩ := src_of S1.sub r1 hd
        obtain ⟨sq', xs', rfl, l', hq'⟩ := src_of S1.sub r2 he
        obtain ⟨sq'', xs'', rfl, l'', hq''⟩ := src_of S1.sub r3 hf
        refine ⟨sq, sq', sq'', xs, xs', xs'', rfl, hq F1 H1 (Same.refl _) S1.sub, hq' F1 H1 (Same.refl _) S1.sub, hq'' F1 H1 (Same.refl _) S1.sub, q _ F1 H1 S1 m1 fun F2 H2 m2 s2 => ⟨⟨xs, xs', xs'', hq F2 H2 m2 s2, hq' F2 H2 m2 s2, hq'' F2 H2 m2 s2, by rw [z3D_len, l.len, l'.len, l''.len]⟩, fun i hi => ?_⟩⟩
        rw [z3D_len] at hi
        refine ⟨⟨xs, xs', xs'', hq F2 H2 m2 s2, hq' F2 H2 m2 s2, hq'' F2 H2 m2 s2, by rw [l.len]; omega, by rw [l'.len]; omega, by rw [l''.len]; omega⟩, fun v H3 yv => ?_⟩
        obtain ⟨T', x, y, u, rfl, hT, rfl, hx, hy, hu⟩ := yv
        obtain ⟨d', hd', rd⟩ := l.getV (hx xs (hq F2 H2 m2 s2))
        obtain ⟨e', he', re⟩ := l'.getV (hy xs' (hq' F2 H2 m2 s2))
        obtain ⟨f', hf', rf⟩ := l''.getV (hu xs'' (hq'' F2 H2 m2 s2))
        have ex := Ex.new (o := .tup [x, y, u]) s2 hT
        exact ⟨_, _, z3D_get hd' he' hf', ex, .tup upd_same (.cons ((rd.mono m2).mono ex.f) (.cons ((re.mono m2).mono ex.f) (.cons ((rf.mono m2).mono ex.f) .nil)))⟩

/-! ### comprehensions -/
def noAt (vs : List Nat) (P : List Sl) : List Sl := vs.foldr (fun v L => L.set v .no) P
theorem noAt_len (P : List Sl) : ∀ vs : List Nat, (noAt vs P).length = P.length
  | [] => rfl
  | v :: vs => by show ((noAt vs P).set v .no).length = _; rw [List.length_set, noAt_len P vs]
theorem noAt_get {P : List Sl} {i : Nat} : ∀ {vs : List Nat}, (noAt vs P)[i]? = if i ∈ vs then (if i < P.length then some .no else none) else P[i]?
  | [] => by simp [noAt]
  | v :: vs => by
    show ((noAt vs P).set v .no)[i]? = _
    rw [List.getElem?_set]
    by_cases h : v = i
    · subst h
      simp [noAt_len]
    · rw [if_neg h, noAt_get]
      have : (i ∈ v :: vs) ↔ i ∈ vs := by simp [Ne.symm h]
      simp only [this]
theorem wipe_get {σ : L2.St} {i : Nat} : ∀ {vs : List Nat}, (wipe σ vs)[i]? = if i ∈ vs then (if i < σ.length then some none else none) else σ[i]?
  | [] => by simp [wipe]
  | v :: vs => by
    unfold wipe
    rw [List.getElem?_set]
    by_cases h : v = i
    · subst h
      simp [wipe_length]
    · rw [if_neg h, wipe_get]
      have : (i ∈ v :: vs) ↔ i ∈ vs := by simp [Ne.symm h]
      simp only [this]
theorem Stt.noAt {T : List Sl} {σ : L2.St} {F H : Hp} : ∀ {vs : List Nat}, (∀ v ∈ vs, v < P.length) → Stt c (P ++ T) σ F H → Stt c (Cp.noAt vs P ++ T) σ F H
  | [], _, S => S
  | v :: vs, hv, S => by
    have S' := (Stt.noAt (vs := vs) (fun w hw => hv w (List.mem_cons_of_mem _ hw)) S).forget (i := v)
    rw [set_app (by rw [noAt_len]; exact hv v (List.mem_cons_self ..))] at S'
    exact S'
/-- the places with nothing at vs do not see the slots vs -/
theorem Stt.slots {L : List Sl} {σ σ' : L2.St} {F H : Hp} (S : Stt c L σ F H) (hl : σ'.length = σ.length) (h : ∀ (i : Nat) (s : Sl), L[i]? = some s → s ≠ Sl.no → σ'[i]? = σ[i]?) : Stt c L σ' F H := by
  refine ⟨S.ex, by rw [hl]; exact S.len, fun i s e hi => ?_, S.hold, S.free, S.apart⟩
  have v := S.val i s e (by rw [← hl]; exact hi)
  cases s with
  | no => trivial
  | d x => rw [h i _ e (fun z => nomatch z)]; exact v
  | own a ds => rw [h i _ e (fun z => nomatch z)]; exact v
  | obj p dx fs => rw [h i _ e (fun z => nomatch z)]; exact v
theorem eq_of_wipe {σ σ2 : L2.St} {vs : List Nat} (h : wipe σ2 vs = wipe σ vs) {i : Nat} (hi : i ∉ vs) : σ2[i]? = σ[i]? := by
  have := congrArg (fun l : L2.St => l[i]?) h
  simp only [wipe_get, if_neg hi] at this
  exact this
theorem wipe_wipe {σ σ2 : L2.St} {ts vs : List Nat} (h : ∀ (j : Nat), j ∉ ts → σ2[j]? = (wipe σ vs)[j]?) (hl : σ2.length = σ.length) (hs : ∀ j ∈ ts, j ∈ vs) : wipe σ2 vs = wipe σ vs := by
  refine List.ext_getElem? fun i => ?_
  rw [wipe_get, wipe_get]
  by_cases hi : i ∈ vs
  · rw [if_pos hi, if_pos hi, hl]
  · rw [if_neg hi, if_neg hi, h i fun z => hi (hs i z), wipe_get, if_neg hi]
/-- an expression that makes a new list, owned by whoever takes it -/
structure TEo (c : Bc) (te : TE) (P : List Sl) (ds : List PyData) (P' : List Sl) : Prop where
  len : P'.length = P.length
  run : ∀ (T : List Sl) (σ : L2.St) (F H : Hp) (Q : VK), Stt c (P ++ T) σ F H → σ.length = P.length →
    (∀ a F' H', Stt c (P' ++ (T ++ [.own a ds])) σ F' H' → Same F F' → Q (.ref a) H') → te σ H Q
theorem get_last {L T : List Sl} {s : Sl} : (L ++ (T ++ [s]))[L.length + T.length]? = some s := by
  rw [← List.append_assoc, List.getElem?_append_right (by simp)]
  simp
theorem TEo.g {te : TE} {ds : List PyData} (h : TEo c te P ds P1) : TEg c te P (.list ds) P1 := by
  refine ⟨h.len, fun T σ F H Q S hl q => h.run T σ F H Q S hl fun a F1 H1 S1 m1 => ?_⟩
  obtain ⟨acc, hD2, ra⟩ := S1.hold _ _ get_last
  obtain ⟨S3, sm⟩ := S1.freeze get_last hD2 ra
  have e3 : (P1 ++ (T ++ [Sl.own a ds])).set (P1.length + T.length) (.d (.list ds)) = (P1 ++ T) ++ [.d (.list ds)] := by
    rw [← List.append_assoc, List.set_append_right _ _ (by simp)]
    simp
  rw [e3] at S3
  exact q _ _ _ (S3.drop (by rw [hl, ← h.len]; simp)) (m1.trans sm) (.lst upd_same (ra.mono sm))
theorem o_lst {ta : TA} {ds : List PyData} (ha : TAg c ta P ds P1) (hz : ds.length ≤ 10000) : TEo c (tLst ta) P ds P1 := by
  refine ⟨ha.len, fun T σ F H Q S hl q => ?_⟩
  refine ha.run T σ F H _ S hl fun xs F1 H1 S1 m1 r1 => ⟨by rw [r1.len]; exact Nat.le_trans hz (by decide), fun p np => ?_⟩
  have S2 := S1.ghost np r1
  rw [List.append_assoc] at S2
  exact q p _ _ S2 m1
theorem o_repO {te tk : TE} {d : PyData} {k : Int} (h : TEg c te P (.list [d]) P1) (hk : TEg c tk P1 (.int k) P2) (h0 : k ≤ 10000) (h1 : -10000 ≤ k) : TEo c (tOp rRep te tk) P (List.replicate k.toNat d) P2 := by
  refine ⟨hk.len.trans h.len, fun T σ F H Q S hl q => ?_⟩
  refine h.run T σ F H _ S hl fun x F1 H1 S1 m1 r1 => ?_
  refine hk.run T σ F1 H1 _ S1 (hl.trans h.len.symm) fun y F2 H2 S2 m2 r2 => ?_
  cases r2
  cases r1 with
  | lst e l =>
    cases l with
    | cons rv l =>
      cases l
      refine ⟨_, k, _, rfl, rfl, S2.sub _ _ (m2 _ _ e), by omega, by omega, Nat.le_trans (show 1 * k.toNat ≤ 10000 by omega) (by decide), fun p np => ?_⟩
      rw [rep_one]
      have S3 := S2.ghost np (RpL.rep (rv.mono m2) k.toNat)
      rw [List.append_assoc] at S3
      exact q p _ _ S3 (m1.trans m2)
/-- the ghost behind all goes to a slot -/
theorem Stt.take {L : List Sl} {σ : L2.St} {F H : Hp} {i : Nat} {a : Addr} {ds : List PyData} (S : Stt c (L ++ [.own a ds]) σ F H) (hi : i < σ.length) (hl : σ.length ≤ L.length) : Stt c (L.set i (.own a ds)) (σ.set i (some (.ref a))) F H := by
  have hil : i < L.length := Nat.lt_of_lt_of_le hi hl
  have gl : (L ++ [Sl.own a ds])[L.length]? = some (.own a ds) := by simp
  have up : ∀ (j : Nat) u, L[j]? = some u → (L ++ [Sl.own a ds])[j]? = some u := fun j u e => by
    rw [List.getElem?_append_left (List.getElem?_eq_some_iff.mp e).1]; exact e
  have key : ∀ (j : Nat) u, (L.set i (Sl.own a ds))[j]? = some u → (j = i ∧ u = .own a ds) ∨ (j ≠ i ∧ L[j]? = some u) := fun j u e => by
    by_cases hj : j = i
    · subst hj
      rw [List.getElem?_set_self hil] at e
      exact .inl ⟨rfl, (Option.some.inj e).symm⟩
    · rw [List.getElem?_set_ne (Ne.symm hj)] at e
      exact .inr ⟨hj, e⟩
  have ne : ∀ {j : Nat}, j < L.length → j ≠ L.length := fun h e => by omega
  refine ⟨S.ex, by simpa using hl, fun j u e hj => ?_, fun j u e => ?_, fun j u b e q => ?_, fun j k u w b e1 e2 q1 q2 => ?_⟩
  · rcases key j u e with ⟨rfl, rfl⟩ | ⟨hj', e'⟩
    · rw [List.getElem?_set_self hi]; rfl
    · rw [List.getElem?_set_ne (Ne.symm hj')]; exact S.val j u (up j u e') (by simpa using hj)
  · rcases key j u e with ⟨rfl, rfl⟩ | ⟨hj', e'⟩
    · exact S.hold _ _ gl
    · exact S.hold j u (up j u e')
  · rcases key j u e with ⟨rfl, rfl⟩ | ⟨_, e'⟩
    · exact S.free _ _ b gl q
    · exact S.free j u b (up j u e') q
  · rcases key j u e1 with ⟨rfl, rfl⟩ | ⟨hj', e1'⟩
    · rcases key k w e2 with ⟨rfl, rfl⟩ | ⟨hk', e2'⟩
      · rfl
      · exact absurd (S.apart _ k _ w b gl (up k w e2') q1 q2).symm (ne (lt_of_get e2'))
    · rcases key k w e2 with ⟨rfl, rfl⟩ | ⟨hk', e2'⟩
      · exact absurd (S.apart j _ u _ b (up j u e1') gl q1 q2) (ne (lt_of_get e1'))
      · exact S.apart j k u w b (up j u e1') (up k w e2') q1 q2
/-- name = a new list that stays owned -/
theorem s_setO {te : TE} {i : Nat} {ds : List PyData} {N : List Sl → Prop} {R : PyData → List Sl → Prop} (h : TEo c te P ds P1) (hi : i < P1.length) (hn : ∀ a, N (P1.set i (.own a ds))) : Sd c (tAsg te (gName i)) P N R := fun T σ F H D S hl n r =>
  h.run T σ F H _ S hl fun a F' H' S' sm => by
    rw [← List.append_assoc] at S'
    have hl1 : σ.length = P1.length := hl.trans h.len.symm
    have S2 := S'.take (i := i) (by rw [hl1]; exact hi) (by rw [hl1]; simp)
    rw [set_app hi] at S2
    exact n _ _ F' H' (hn a) S2 (by simp [hl1]) sm
/-- [elt for target in iter if ..]: I tells the places ahead of turn i, A the list so far -/
theorem o_lc {wi : TI} {g : TG} {tt : TT} {te : TE} {vs : List Nat} {ds : List PyData} (hw : TId c wi P ds P1) (hvs : ∀ v ∈ vs, v < P.length) (I : Nat → List Sl) (A : Nat → List PyData)
    (h0 : I 0 = noAt vs P1) (a0 : A 0 = []) (hz : ds.length ≤ 10000)
    (hs : ∀ i d, ds[i]? = some d → ∃ ts Pa b Pb, (∀ j ∈ ts, j ∈ vs) ∧ TGd g c ts d (I i) Pa ∧ TTg c tt Pa b Pb ∧ (b = true → ∃ y Pc, TEg c te Pb y Pc ∧ A (i + 1) = A i ++ [y] ∧ I (i + 1) = noAt vs Pc) ∧ (b = false → A (i + 1) = A i ∧ I (i + 1) = noAt vs Pb)) :
    TEo c (tLc wi g tt te vs) P (A ds.length) (I ds.length) := by
  have len : ∀ i, i ≤ ds.length → (I i).length = P.length ∧ noAt vs (I i) = I i ∧ (A i).length ≤ i := by
    intro i
    induction i with
    | zero =>
      intro _
      have e : ∀ L : List Sl, noAt vs (noAt vs L) = noAt vs L := fun L => by
        refine List.ext_getElem? fun j => ?_
        rw [noAt_get, noAt_get, noAt_len]
        by_cases hj : j ∈ vs
        · simp [hj]
        · simp [hj]
      rw [h0, a0]
      exact ⟨by rw [noAt_len, hw.len], e _, Nat.le_refl _⟩
    | succ i ih =>
      intro hi
      obtain ⟨l1, l2, l3⟩ := ih (by omega)
      have e : ∀ L : List Sl, noAt vs (noAt vs L) = noAt vs L := fun L => by
        refine List.ext_getElem? fun j => ?_
        rw [noAt_get, noAt_get, noAt_len]
        by_cases hj : j ∈ vs
        · simp [hj]
        · simp [hj]
      have hd : ds[i]? = some (ds[i]'(by omega)) := by simp
      obtain ⟨ts, Pa, b, Pb, _, hg, ht, h1, h2⟩ := hs i _ hd
      cases b with
      | true =>
        obtain ⟨y, Pc, he, ea, ei⟩ := h1 rfl
        rw [ei, ea]
        exact ⟨by rw [noAt_len, he.len, ht.len, hg.len, l1], e _, by simp; omega⟩
      | false =>
        obtain ⟨ea, ei⟩ := h2 rfl
        rw [ei, ea]
        exact ⟨by rw [noAt_len, ht.len, hg.len, l1], e _, by omega⟩
  refine ⟨(len _ (Nat.le_refl _)).1, fun T σ F H Q S hl q => ?_⟩
  refine hw.run T σ F H _ S hl fun J F1 H1 S1 m1 wk D hD => ?_
  refine ⟨fun i m H2 => m = ds.length - i ∧ i ≤ ds.length ∧ ∃ F2, Stt c (I i ++ (T ++ [.own D (A i)])) σ F2 H2 ∧ Same F1 F2, ⟨ds.length, by simp, Nat.zero_le _, F1, ?_, Same.refl _⟩, ?_⟩
  · have S2 := (Stt.noAt (vs := vs) (fun v hv => by rw [hw.len]; exact hvs v hv) S1).ghost hD .nil
    rw [h0, a0, ← List.append_assoc]
    exact S2
  rintro i m H2 ⟨rfl, hi, F2, S2, m2⟩
  obtain ⟨w1, w2⟩ := wk F2 H2 m2 S2.sub
  obtain ⟨l1, l2, l3⟩ := len i hi
  have gi : ∀ (j : Nat) Tl, (I i ++ (T ++ [Sl.own D Tl]))[(I i).length + T.length]? = some (Sl.own D Tl) := fun j Tl => by
    rw [← List.append_assoc, List.getElem?_append_right (by simp)]
    simp
  by_cases hlt : i < ds.length
  · have hd : ds[i]? = some (ds[i]) := by simp [hlt]
    obtain ⟨go, yl⟩ := w2 i hlt
    obtain ⟨ts, Pa, b, Pb, hts, hg, ht, h1, h2⟩ := hs i _ hd
    refine .inr ⟨go, fun H' => i + 1 ≤ ds.length ∧ ∃ F3, Stt c (I (i + 1) ++ (T ++ [.own D (A (i + 1))])) σ F3 H' ∧ Same F1 F3, fun H' ⟨h3, q3⟩ => ⟨ds.length - (i + 1), by omega, rfl, h3, q3⟩, fun v H3 yv => ?_⟩
    obtain ⟨F3, d, hd', ex, rv⟩ := yl v H3 yv
    rw [hd] at hd'
    cases hd'
    have S3 := S2.exd ex
    -- the block's slots
    have S3w : Stt c (I i ++ (T ++ [.own D (A i)])) (wipe σ vs) F3 H3 := by
      refine S3.slots (wipe_length σ vs) fun j s e ne => ?_
      rw [wipe_get]
      by_cases hj : j ∈ vs
      · exfalso
        have hjl : j < (I i).length := by rw [l1]; exact hvs j hj
        rw [List.getElem?_append_left hjl, ← l2, noAt_get, if_pos hj, if_pos hjl] at e
        exact ne (Option.some.inj e).symm
      · rw [if_neg hj]
    refine hg.run _ v (wipe σ vs) F3 H3 _ S3w (by rw [wipe_length, hl, l1]) rv fun σ4 F4 H4 S4 hl4 k4 m4 => ?_
    have hl4' : σ4.length = σ.length := by rw [hl4, hg.len, l1, hl]
    have hw4 : wipe σ4 vs = wipe σ vs := wipe_wipe k4 hl4' hts
    refine ⟨hw4, ht.run _ σ4 F4 H4 _ S4 hl4 fun F5 H5 S5 m5 => ?_⟩
    have back : ∀ {Pz : List Sl} {Az : List PyData} {F6 H6 : Hp}, Pz.length = P.length → Stt c (Pz ++ (T ++ [.own D Az])) σ4 F6 H6 → Stt c (noAt vs Pz ++ (T ++ [.own D Az])) σ F6 H6 := fun {Pz Az F6 H6} hz' S6 => by
      have S7 := Stt.noAt (vs := vs) (fun v hv => by rw [hz']; exact hvs v hv) S6
      refine S7.slots hl4'.symm fun j s e ne => ?_
      by_cases hj : j ∈ vs
      · exfalso
        have hjl : j < Pz.length := by rw [hz']; exact hvs j hj
        rw [List.getElem?_append_left (by rw [noAt_len]; exact hjl), noAt_get, if_pos hj, if_pos hjl] at e
        exact ne (Option.some.inj e).symm
      · exact (eq_of_wipe hw4 hj).symm
    cases b with
    | false =>
      rw [if_neg Bool.false_ne_true]
      obtain ⟨ea, ei⟩ := h2 rfl
      refine ⟨hlt, F5, ?_, ((m2.trans ex.f).trans m4).trans m5⟩
      rw [ei, ea]
      exact back (by rw [ht.len, hg.len, l1]) S5
    | true =>
      rw [if_pos rfl]
      obtain ⟨y, Pc, he, ea, ei⟩ := h1 rfl
      refine he.run _ σ4 F5 H5 _ S5 (by rw [hl4, ht.len]) fun x F6 H6 S6 m6 r6 => ?_
      have g6 : (Pc ++ (T ++ [Sl.own D (A i)]))[Pc.length + T.length]? = some (Sl.own D (A i)) := by
        rw [← List.append_assoc, List.getElem?_append_right (by simp)]
        simp
      obtain ⟨acc, hD6, ra⟩ := S6.hold _ _ g6
      refine ⟨acc, hD6, by rw [ra.len]; exact Nat.lt_of_le_of_lt (Nat.le_trans l3 (Nat.le_trans hi hz)) (by decide), hlt, F6, ?_, (((m2.trans ex.f).trans m4).trans m5).trans m6⟩
      have S7 := S6.write (H' := upd H6 D (.lst (acc ++ [x]))) (t := .own D (A i ++ [y])) g6 (fun _ z => z) (fun b hb => upd_ne fun z => hb (by simp [Sl.as, z])) ⟨_, upd_same, ra.append (.cons r6 .nil)⟩ fun hl' => by
        exfalso
        rw [hl4', hl, he.len, ht.len, hg.len, l1] at hl'
        omega
      have e7 : (Pc ++ (T ++ [Sl.own D (A i)])).set (Pc.length + T.length) (.own D (A i ++ [y])) = Pc ++ (T ++ [Sl.own D (A i ++ [y])]) := by
        rw [← List.append_assoc, ← List.append_assoc, List.set_append_right _ _ (by simp)]
        simp
      rw [e7] at S7
      rw [ei, ea]
      exact back (by rw [he.len, ht.len, hg.len, l1]) S7
  · have e : i = ds.length := by omega
    subst e
    exact .inl ⟨w1, q D F2 H2 S2 (m1.trans m2)⟩
/-- a pure element of each item, no test -/
theorem o_map {wi : TI} {g : TG} {te : TE} {vs : List Nat} {ds : List PyData} (f : PyData → PyData) (hw : TId c wi P ds P) (hvs : ∀ v ∈ vs, v < P.length) (hz : ds.length ≤ 10000)
    (hs : ∀ d, d ∈ ds → ∃ ts Pa, (∀ j ∈ ts, j ∈ vs) ∧ TGd g c ts d (noAt vs P) Pa ∧ noAt vs Pa = noAt vs P ∧ TEg c te Pa (f d) Pa) :
    TEo c (tLc wi g tYes te vs) P (ds.map f) (noAt vs P) := by
  have h := o_lc (te := te) (tt := tYes) (g := g) hw hvs (fun _ => noAt vs P) (fun i => (ds.take i).map f) rfl (by simp) hz (fun i d hd => by
    obtain ⟨ts, Pa, h1, h2, h3, h4⟩ := hs d (List.mem_of_getElem? hd)
    refine ⟨ts, Pa, true, Pa, h1, h2, ⟨rfl, fun T σ F H Q S hl q => q F H S (Same.refl _)⟩, fun _ => ⟨f d, Pa, h4, ?_, h3.symm⟩, fun z => nomatch z⟩
    rw [List.take_add_one, hd]
    simp)
  simpa using h
/-- those items that pass a pure test, an element of each -/
theorem o_filter {wi : TI} {g : TG} {tt : TT} {te : TE} {vs : List Nat} {ds : List PyData} (p : PyData → Bool) (f : PyData → PyData) (hw : TId c wi P ds P) (hvs : ∀ v ∈ vs, v < P.length) (hz : ds.length ≤ 10000)
    (hs : ∀ d, d ∈ ds → ∃ ts Pa, (∀ j ∈ ts, j ∈ vs) ∧ TGd g c ts d (noAt vs P) Pa ∧ noAt vs Pa = noAt vs P ∧ TTg c tt Pa (p d) Pa ∧ (p d = true → TEg c te Pa (f d) Pa)) :
    TEo c (tLc wi g tt te vs) P ((ds.filter p).map f) (noAt vs P) := by
  have h := o_lc (te := te) (tt := tt) (g := g) hw hvs (fun _ => noAt vs P) (fun i => ((ds.take i).filter p).map f) rfl (by simp) hz (fun i d hd => by
    obtain ⟨ts, Pa, h1, h2, h3, h4, h5⟩ := hs d (List.mem_of_getElem? hd)
    refine ⟨ts, Pa, p d, Pa, h1, h2, h4, fun hp => ⟨f d, Pa, h5 hp, ?_, h3.symm⟩, fun hp => ⟨?_, h3.symm⟩⟩
    · rw [List.take_add_one, hd]
      simp [hp]
    · rw [List.take_add_one, hd]
      simp [hp])
  simpa using h
end
end Cp
end
/-! ## CTxt -/
section
set_option Elab.async false
set_option linter.all false
set_option autoImplicit false
set_option maxRecDepth 100000
set_option maxHeartbeats 4000000
namespace Cp
open PySem PySem.Spec PyProof.Rows L2
/-- the top's facts, by places -/
structure Txt (K : PySem.W.Frag) (mg : Str → Option Value) where
  fd : Nat → FuncData
  F : ∀ (i : Nat) (d : He.DefD), fn[i]? = some d → FunD K d.name d.qual d.params d.body d.scope (d.dvs K) (d.kws K) (He.fAd K d.at_) (fd i)
  ok : ∀ (i : Nat) (f : He.Fa), fa[i]? = some f → f.ok K = true
  g : ∀ (i : Nat) (x : Str), fa[i]? = some (.glo x) → mg x = some (.ref (He.ga K x))
  n : ∀ (i : Nat) (x : Str), fa[i]? = some (.free x) → mg x = none
  z : ∀ (i : Nat) (x : Str) (v : Int), fa[i]? = some (.int x v) → ∃ t, mg x = some (.int v t)
  signs : ex K = true
theorem txt_mk {w : World} {K : PySem.W.Frag} {h : Heap} {mg : Str → Option Value} (X : K.In h) (G : h.Ns mainGlobals mg) (c : He.SaysX fa fn [] [] ex w h K) : Nonempty (Txt K mg) := by
  have hf : ∀ i : Nat, ∃ fd, ∀ d : He.DefD, fn[i]? = some d → FunD K d.name d.qual d.params d.body d.scope (d.dvs K) (d.kws K) (He.fAd K d.at_) fd := fun i => by
    cases e : fn[i]? with
    | none => exact ⟨default, fun d z => nomatch z⟩
    | some d =>
      obtain ⟨fd, F⟩ := c.t.d.def_ i e
      exact ⟨fd, fun d' z => by cases z; exact F⟩
  exact ⟨⟨fun i => Classical.choose (hf i), fun i d e => Classical.choose_spec (hf i) d e, fun i f e => c.t.d.fact i e, fun i x e => He.glo_ok X G (c.t.d.fact i e), fun i x e => He.free_ok X G (c.t.d.fact i e), fun i x v e => He.int_ok X G (c.t.d.fact i e), c.more⟩⟩
section
variable {K : PySem.W.Frag} {mg : Str → Option Value}
abbrev gC (K : PySem.W.Frag) : Addr := He.ga K "Grid"
theorem Txt.g_is_int (T : Txt K mg) : mg "is_int" = some (.ref (He.ga K "is_int")) := T.g 0 _ rfl
theorem Txt.g_divisor (T : Txt K mg) : mg "divisor" = some (.ref (He.ga K "divisor")) := T.g 1 _ rfl
theorem Txt.g_ratio (T : Txt K mg) : mg "ratio" = some (.ref (He.ga K "ratio")) := T.g 2 _ rfl
theorem Txt.g_plus_of (T : Txt K mg) : mg "plus_of" = some (.ref (He.ga K "plus_of")) := T.g 3 _ rfl
theorem Txt.g_minus_of (T : Txt K mg) : mg "minus_of" = some (.ref (He.ga K "minus_of")) := T.g 4 _ rfl
theorem Txt.g_times_of (T : Txt K mg) : mg "times_of" = some (.ref (He.ga K "times_of")) := T.g 5 _ rfl
theorem Txt.g_over_of (T : Txt K mg) : mg "over_of" = some (.ref (He.ga K "over_of")) := T.g 6 _ rfl
theorem Txt.g_dot (T : Txt K mg) : mg "dot" = some (.ref (He.ga K "dot")) := T.g 7 _ rfl
theorem Txt.g_Grid (T : Txt K mg) : mg "Grid" = some (.ref (He.ga K "Grid")) := T.g 8 _ rfl
theorem Txt.g_is_small (T : Txt K mg) : mg "is_small" = some (.ref (He.ga K "is_small")) := T.g 9 _ rfl
theorem Txt.g_is_row (T : Txt K mg) : mg "is_row" = some (.ref (He.ga K "is_row")) := T.g 10 _ rfl
theorem Txt.g_need_task (T : Txt K mg) : mg "need_task" = some (.ref (He.ga K "need_task")) := T.g 11 _ rfl
theorem Txt.g_turned_row (T : Txt K mg) : mg "turned_row" = some (.ref (He.ga K "turned_row")) := T.g 12 _ rfl
theorem Txt.g_plain_of (T : Txt K mg) : mg "plain_of" = some (.ref (He.ga K "plain_of")) := T.g 13 _ rfl
theorem Txt.g_need_column (T : Txt K mg) : mg "need_column" = some (.ref (He.ga K "need_column")) := T.g 14 _ rfl
theorem Txt.g_spread (T : Txt K mg) : mg "spread" = some (.ref (He.ga K "spread")) := T.g 15 _ rfl
theorem Txt.g_gathered (T : Txt K mg) : mg "gathered" = some (.ref (He.ga K "gathered")) := T.g 16 _ rfl
theorem Txt.g_solved (T : Txt K mg) : mg "solved" = some (.ref (He.ga K "solved")) := T.g 17 _ rfl
theorem Txt.g_signed (T : Txt K mg) : mg "signed" = some (.ref (He.ga K "signed")) := T.g 18 _ rfl
theorem Txt.g_best_cost_of (T : Txt K mg) : mg "best_cost_of" = some (.ref (He.ga K "best_cost_of")) := T.g 19 _ rfl
theorem Txt.g_best_cost (T : Txt K mg) : mg "best_cost" = some (.ref (He.ga K "best_cost")) := T.g 20 _ rfl
theorem Txt.g_other_of (T : Txt K mg) : mg "other_of" = some (.ref (He.ga K "other_of")) := T.g 21 _ rfl
theorem Txt.g_kept (T : Txt K mg) : mg "kept" = some (.ref (He.ga K "kept")) := T.g 22 _ rfl
theorem Txt.g_priced (T : Txt K mg) : mg "priced" = some (.ref (He.ga K "priced")) := T.g 23 _ rfl
theorem Txt.g_unit (T : Txt K mg) : mg "unit" = some (.ref (He.ga K "unit")) := T.g 24 _ rfl
theorem Txt.g_need_steps (T : Txt K mg) : mg "need_steps" = some (.ref (He.ga K "need_steps")) := T.g 25 _ rfl
theorem Txt.g_moved_rights (T : Txt K mg) : mg "moved_rights" = some (.ref (He.ga K "moved_rights")) := T.g 26 _ rfl
theorem Txt.g_cost_at (T : Txt K mg) : mg "cost_at" = some (.ref (He.ga K "cost_at")) := T.g 27 _ rfl
theorem Txt.g_times_of_plans (T : Txt K mg) : mg "times_of_plans" = some (.ref (He.ga K "times_of_plans")) := T.g 28 _ rfl
theorem Txt.g_line_at (T : Txt K mg) : mg "line_at" = some (.ref (He.ga K "line_at")) := T.g 29 _ rfl
theorem Txt.g_end_line (T : Txt K mg) : mg "end_line" = some (.ref (He.ga K "end_line")) := T.g 30 _ rfl
theorem Txt.g_breaks (T : Txt K mg) : mg "breaks" = some (.ref (He.ga K "breaks")) := T.g 31 _ rfl
theorem Txt.g_pieces_of (T : Txt K mg) : mg "pieces_of" = some (.ref (He.ga K "pieces_of")) := T.g 32 _ rfl
theorem Txt.g_cost_pieces (T : Txt K mg) : mg "cost_pieces" = some (.ref (He.ga K "cost_pieces")) := T.g 33 _ rfl
theorem Txt.g_starts_to (T : Txt K mg) : mg "starts_to" = some (.ref (He.ga K "starts_to")) := T.g 34 _ rfl
theorem Txt.g_ends_from (T : Txt K mg) : mg "ends_from" = some (.ref (He.ga K "ends_from")) := T.g 35 _ rfl
theorem Txt.g_same_until (T : Txt K mg) : mg "same_until" = some (.ref (He.ga K "same_until")) := T.g 36 _ rfl
theorem Txt.g__law_taken (T : Txt K mg) : mg "_law_taken" = some (.ref (He.ga K "_law_taken")) := T.g 37 _ rfl
theorem Txt.g__law_alike (T : Txt K mg) : mg "_law_alike" = some (.ref (He.ga K "_law_alike")) := T.g 38 _ rfl
theorem Txt.g__law_ratio (T : Txt K mg) : mg "_law_ratio" = some (.ref (He.ga K "_law_ratio")) := T.g 39 _ rfl
theorem Txt.g__law_plus (T : Txt K mg) : mg "_law_plus" = some (.ref (He.ga K "_law_plus")) := T.g 40 _ rfl
theorem Txt.g__law_times (T : Txt K mg) : mg "_law_times" = some (.ref (He.ga K "_law_times")) := T.g 41 _ rfl
theorem Txt.g__law_gap (T : Txt K mg) : mg "_law_gap" = some (.ref (He.ga K "_law_gap")) := T.g 42 _ rfl
theorem Txt.g__law_task (T : Txt K mg) : mg "_law_task" = some (.ref (He.ga K "_law_task")) := T.g 43 _ rfl
theorem Txt.g__law_at (T : Txt K mg) : mg "_law_at" = some (.ref (He.ga K "_law_at")) := T.g 44 _ rfl
theorem Txt.g__law_then (T : Txt K mg) : mg "_law_then" = some (.ref (He.ga K "_law_then")) := T.g 45 _ rfl
theorem Txt.g_law (T : Txt K mg) : mg "law" = some (.ref (He.ga K "law")) := T.g 46 _ rfl
theorem Txt.g_SIGNS (T : Txt K mg) : mg "SIGNS" = some (.ref (He.ga K "SIGNS")) := T.g 47 _ rfl
theorem Txt.n_len (T : Txt K mg) : mg "len" = none := T.n 48 _ rfl
theorem Txt.n_range (T : Txt K mg) : mg "range" = none := T.n 49 _ rfl
theorem Txt.n_zip (T : Txt K mg) : mg "zip" = none := T.n 50 _ rfl
theorem Txt.n_enumerate (T : Txt K mg) : mg "enumerate" = none := T.n 51 _ rfl
theorem Txt.n_isinstance (T : Txt K mg) : mg "isinstance" = none := T.n 52 _ rfl
theorem Txt.n_abs (T : Txt K mg) : mg "abs" = none := T.n 53 _ rfl
theorem Txt.n_tuple (T : Txt K mg) : mg "tuple" = none := T.n 54 _ rfl
theorem Txt.n_list (T : Txt K mg) : mg "list" = none := T.n 55 _ rfl
theorem Txt.n_sum (T : Txt K mg) : mg "sum" = none := T.n 56 _ rfl
theorem Txt.n_all (T : Txt K mg) : mg "all" = none := T.n 57 _ rfl
theorem Txt.n_any (T : Txt K mg) : mg "any" = none := T.n 58 _ rfl
theorem Txt.n_int (T : Txt K mg) : mg "int" = none := T.n 59 _ rfl
theorem Txt.n_max (T : Txt K mg) : mg "max" = none := T.n 60 _ rfl
theorem Txt.n_min (T : Txt K mg) : mg "min" = none := T.n 61 _ rfl
theorem Txt.n_bool (T : Txt K mg) : mg "bool" = none := T.n 62 _ rfl
theorem Txt.n_str (T : Txt K mg) : mg "str" = none := T.n 63 _ rfl
theorem Txt.z_MOST_COLUMNSe (T : Txt K mg) : ∃ t, mg "MOST_COLUMNS" = some (.int 6 t) := T.z 64 _ _ rfl
theorem Txt.z_MOST_ROWSe (T : Txt K mg) : ∃ t, mg "MOST_ROWS" = some (.int 8 t) := T.z 65 _ _ rfl
theorem Txt.z_MOST_VALUEe (T : Txt K mg) : ∃ t, mg "MOST_VALUE" = some (.int 1000 t) := T.z 66 _ _ rfl
theorem Txt.cls (T : Txt K mg) : Cls K (gC K) := He.cls_ok (T.ok 67 _ rfl)
theorem Txt.mkr (T : Txt K mg) : Mk K (gC K) (He.ma K (gC K) "__init__") := He.mkr_ok (T.ok 68 _ rfl)
theorem Txt.no_signs (T : Txt K mg) : NoAttr K (gC K) "signs" := He.noat_ok (T.ok 69 _ rfl)
theorem Txt.no_many (T : Txt K mg) : NoAttr K (gC K) "many" := He.noat_ok (T.ok 70 _ rfl)
theorem Txt.no_rows (T : Txt K mg) : NoAttr K (gC K) "rows" := He.noat_ok (T.ok 71 _ rfl)
theorem Txt.no_inside (T : Txt K mg) : NoAttr K (gC K) "inside" := He.noat_ok (T.ok 72 _ rfl)
theorem Txt.no_low (T : Txt K mg) : NoAttr K (gC K) "low" := He.noat_ok (T.ok 73 _ rfl)
theorem Txt.no_top (T : Txt K mg) : NoAttr K (gC K) "top" := He.noat_ok (T.ok 74 _ rfl)
theorem Txt.m_price (T : Txt K mg) : Meth K (gC K) "price" (He.ma K (gC K) "price") := He.meth_ok (T.ok 75 _ rfl)
theorem Txt.m_turn (T : Txt K mg) : Meth K (gC K) "turn" (He.ma K (gC K) "turn") := He.meth_ok (T.ok 76 _ rfl)
theorem Txt.m_swept (T : Txt K mg) : Meth K (gC K) "swept" (He.ma K (gC K) "swept") := He.meth_ok (T.ok 77 _ rfl)
theorem Txt.m_goes_out (T : Txt K mg) : Meth K (gC K) "goes_out" (He.ma K (gC K) "goes_out") := He.meth_ok (T.ok 78 _ rfl)
theorem Txt.m_is_less (T : Txt K mg) : Meth K (gC K) "is_less" (He.ma K (gC K) "is_less") := He.meth_ok (T.ok 79 _ rfl)
theorem Txt.m_settle (T : Txt K mg) : Meth K (gC K) "settle" (He.ma K (gC K) "settle") := He.meth_ok (T.ok 80 _ rfl)
theorem Txt.m_amounts (T : Txt K mg) : Meth K (gC K) "amounts" (He.ma K (gC K) "amounts") := He.meth_ok (T.ok 81 _ rfl)
theorem Txt.m_weights (T : Txt K mg) : Meth K (gC K) "weights" (He.ma K (gC K) "weights") := He.meth_ok (T.ok 82 _ rfl)
theorem Txt.m_drive_out (T : Txt K mg) : Meth K (gC K) "drive_out" (He.ma K (gC K) "drive_out") := He.meth_ok (T.ok 83 _ rfl)
theorem Txt.m_way (T : Txt K mg) : Meth K (gC K) "way" (He.ma K (gC K) "way") := He.meth_ok (T.ok 84 _ rfl)
theorem Txt.sg (T : Txt K mg) (H : Hp) : SqT K H (He.ga K "SIGNS") [.str ">=", .str "<=", .str "="] := He.tupB_ok (vs := signsD) T.signs H
theorem sc_is_int : FnScope ["value"] ["value"] (defScope s_is_int) := ⟨rfl, rfl, rfl, by decide +kernel, rfl, by decide +kernel, by decide +kernel⟩
theorem b_is_int (T : Txt K mg) : Binds K (T.fd 0) ["value"] [] := FunD.bindsN (T.F 0 d_is_int rfl) fun _ _ _ _ _ _ us hl => match us, hl with | [_], _ => rfl
theorem sc_divisor : FnScope ["one", "other", "a", "b"] ["one", "other"] (defScope s_divisor) := ⟨rfl, rfl, rfl, by decide +kernel, rfl, by decide +kernel, by decide +kernel⟩
theorem b_divisor (T : Txt K mg) : Binds K (T.fd 1) ["one", "other"] [] := FunD.bindsN (T.F 1 d_divisor rfl) fun _ _ _ _ _ _ us hl => match us, hl with | [_, _], _ => rfl
theorem sc_ratio : FnScope ["top", "low", "both"] ["top", "low"] (defScope s_ratio) := ⟨rfl, rfl, rfl, by decide +kernel, rfl, by decide +kernel, by decide +kernel⟩
theorem b_ratio (T : Txt K mg) : Binds K (T.fd 2) ["top", "low"] [] := FunD.bindsN (T.F 2 d_ratio rfl) fun _ _ _ _ _ _ us hl => match us, hl with | [_, _], _ => rfl
theorem sc_plus_of : FnScope ["one", "other"] ["one", "other"] (defScope s_plus_of) := ⟨rfl, rfl, rfl, by decide +kernel, rfl, by decide +kernel, by decide +kernel⟩
theorem b_plus_of (T : Txt K mg) : Binds K (T.fd 3) ["one", "other"] [] := FunD.bindsN (T.F 3 d_plus_of rfl) fun _ _ _ _ _ _ us hl => match us, hl with | [_, _], _ => rfl
theorem sc_minus_of : FnScope ["one", "other"] ["one", "other"] (defScope s_minus_of) := ⟨rfl, rfl, rfl, by decide +kernel, rfl, by decide +kernel, by decide +kernel⟩
theorem b_minus_of (T : Txt K mg) : Binds K (T.fd 4) ["one", "other"] [] := FunD.bindsN (T.F 4 d_minus_of rfl) fun _ _ _ _ _ _ us hl => match us, hl with | [_, _], _ => rfl
theorem sc_times_of : FnScope ["one", "other"] ["one", "other"] (defScope s_times_of) := ⟨rfl, rfl, rfl, by decide +kernel, rfl, by decide +kernel, by decide +kernel⟩
theorem b_times_of (T : Txt K mg) : Binds K (T.fd 5) ["one", "other"] [] := FunD.bindsN (T.F 5 d_times_of rfl) fun _ _ _ _ _ _ us hl => match us, hl with | [_, _], _ => rfl
theorem sc_over_of : FnScope ["one", "other"] ["one", "other"] (defScope s_over_of) := ⟨rfl, rfl, rfl, by decide +kernel, rfl, by decide +kernel, by decide +kernel⟩
theorem b_over_of (T : Txt K mg) : Binds K (T.fd 6) ["one", "other"] [] := FunD.bindsN (T.F 6 d_over_of rfl) fun _ _ _ _ _ _ us hl => match us, hl with | [_, _], _ => rfl
theorem sc_dot : FnScope ["numbers", "plan", "low", "one", "number"] ["numbers", "plan"] (defScope s_dot) := ⟨rfl, rfl, rfl, by decide +kernel, rfl, by decide +kernel, by decide +kernel⟩
theorem b_dot (T : Txt K mg) : Binds K (T.fd 7) ["numbers", "plan"] [] := FunD.bindsN (T.F 7 d_dot rfl) fun _ _ _ _ _ _ us hl => match us, hl with | [_, _], _ => rfl
theorem sc_g_init : FnScope ["self", "rows", "rights", "many", "index", "row", "sign", "help_part", "right", "at", "one"] ["self", "rows", "rights", "many"] (defScope sg_init) := ⟨rfl, rfl, rfl, by decide +kernel, rfl, by decide +kernel, by decide +kernel⟩
theorem b_g_init (T : Txt K mg) : Binds K (T.fd 8) ["self", "rows", "rights", "many"] [] := FunD.bindsN (T.F 8 dg_init rfl) fun _ _ _ _ _ _ us hl => match us, hl with | [_, _, _, _], _ => rfl
theorem sc_g_price : FnScope ["self", "costs", "index", "row", "weight", "one", "other"] ["self", "costs"] (defScope sg_price) := ⟨rfl, rfl, rfl, by decide +kernel, rfl, by decide +kernel, by decide +kernel⟩
theorem b_g_price (T : Txt K mg) : Binds K (T.fd 9) ["self", "costs"] [] := FunD.bindsN (T.F 9 dg_price rfl) fun _ _ _ _ _ _ us hl => match us, hl with | [_, _], _ => rfl
theorem sc_g_turn : FnScope ["self", "index", "column", "row", "pivot", "at", "told", "one"] ["self", "index", "column"] (defScope sg_turn) := ⟨rfl, rfl, rfl, by decide +kernel, rfl, by decide +kernel, by decide +kernel⟩
theorem b_g_turn (T : Txt K mg) : Binds K (T.fd 10) ["self", "index", "column"] [] := FunD.bindsN (T.F 10 dg_turn rfl) fun _ _ _ _ _ _ us hl => match us, hl with | [_, _, _], _ => rfl
theorem sc_g_swept : FnScope ["self", "told", "row", "pivot", "weight", "one", "other"] ["self", "told", "row", "pivot", "weight"] (defScope sg_swept) := ⟨rfl, rfl, rfl, by decide +kernel, rfl, by decide +kernel, by decide +kernel⟩
theorem b_g_swept (T : Txt K mg) : Binds K (T.fd 11) ["self", "told", "row", "pivot", "weight"] [] := FunD.bindsN (T.F 11 dg_swept rfl) fun _ _ _ _ _ _ us hl => match us, hl with | [_, _, _, _, _], _ => rfl
theorem sc_g_goes_out : FnScope ["self", "column", "best", "index", "row", "key"] ["self", "column"] (defScope sg_goes_out) := ⟨rfl, rfl, rfl, by decide +kernel, rfl, by decide +kernel, by decide +kernel⟩
theorem b_g_goes_out (T : Txt K mg) : Binds K (T.fd 12) ["self", "column"] [] := FunD.bindsN (T.F 12 dg_goes_out rfl) fun _ _ _ _ _ _ us hl => match us, hl with | [_, _], _ => rfl
theorem sc_g_is_less : FnScope ["self", "one", "other", "gap"] ["self", "one", "other"] (defScope sg_is_less) := ⟨rfl, rfl, rfl, by decide +kernel, rfl, by decide +kernel, by decide +kernel⟩
theorem b_g_is_less (T : Txt K mg) : Binds K (T.fd 13) ["self", "one", "other"] [] := FunD.bindsN (T.F 13 dg_is_less rfl) fun _ _ _ _ _ _ us hl => match us, hl with | [_, _, _], _ => rfl
theorem sc_g_settle : FnScope ["self", "allowed", "some", "index", "at"] ["self", "allowed"] (defScope sg_settle) := ⟨rfl, rfl, rfl, by decide +kernel, rfl, by decide +kernel, by decide +kernel⟩
theorem b_g_settle (T : Txt K mg) : Binds K (T.fd 14) ["self", "allowed"] [] := FunD.bindsN (T.F 14 dg_settle rfl) fun _ _ _ _ _ _ us hl => match us, hl with | [_, _], _ => rfl
theorem sc_g_amounts : FnScope ["self", "found", "index", "column"] ["self"] (defScope sg_amounts) := ⟨rfl, rfl, rfl, by decide +kernel, rfl, by decide +kernel, by decide +kernel⟩
theorem b_g_amounts (T : Txt K mg) : Binds K (T.fd 15) ["self"] [] := FunD.bindsN (T.F 15 dg_amounts rfl) fun _ _ _ _ _ _ us hl => match us, hl with | [_], _ => rfl
theorem sc_g_weights : FnScope ["self", "own", "found", "index", "sign", "left"] ["self", "own"] (defScope sg_weights) := ⟨rfl, rfl, rfl, by decide +kernel, rfl, by decide +kernel, by decide +kernel⟩
theorem b_g_weights (T : Txt K mg) : Binds K (T.fd 16) ["self", "own"] [] := FunD.bindsN (T.F 16 dg_weights rfl) fun _ _ _ _ _ _ us hl => match us, hl with | [_, _], _ => rfl
theorem sc_g_drive_out : FnScope ["self", "index", "some", "at"] ["self"] (defScope sg_drive_out) := ⟨rfl, rfl, rfl, by decide +kernel, rfl, by decide +kernel, by decide +kernel⟩
theorem b_g_drive_out (T : Txt K mg) : Binds K (T.fd 17) ["self"] [] := FunD.bindsN (T.F 17 dg_drive_out rfl) fun _ _ _ _ _ _ us hl => match us, hl with | [_], _ => rfl
theorem sc_g_way : FnScope ["self", "column", "found", "index", "at"] ["self", "column"] (defScope sg_way) := ⟨rfl, rfl, rfl, by decide +kernel, rfl, by decide +kernel, by decide +kernel⟩
theorem b_g_way (T : Txt K mg) : Binds K (T.fd 18) ["self", "column"] [] := FunD.bindsN (T.F 18 dg_way rfl) fun _ _ _ _ _ _ us hl => match us, hl with | [_, _], _ => rfl
theorem sc_is_small : FnScope ["value"] ["value"] (defScope s_is_small) := ⟨rfl, rfl, rfl, by decide +kernel, rfl, by decide +kernel, by decide +kernel⟩
theorem b_is_small (T : Txt K mg) : Binds K (T.fd 19) ["value"] [] := FunD.bindsN (T.F 19 d_is_small rfl) fun _ _ _ _ _ _ us hl => match us, hl with | [_], _ => rfl
theorem sc_is_row : FnScope ["value", "many", "one"] ["value", "many"] (defScope s_is_row) := ⟨rfl, rfl, rfl, by decide +kernel, rfl, by decide +kernel, by decide +kernel⟩
theorem b_is_row (T : Txt K mg) : Binds K (T.fd 20) ["value", "many"] [] := FunD.bindsN (T.F 20 d_is_row rfl) fun _ _ _ _ _ _ us hl => match us, hl with | [_, _], _ => rfl
theorem sc_need_task : FnScope ["value", "kinds", "costs", "rows", "index", "row", "one"] ["value"] (defScope s_need_task) := ⟨rfl, rfl, rfl, by decide +kernel, rfl, by decide +kernel, by decide +kernel⟩
theorem b_need_task (T : Txt K mg) : Binds K (T.fd 21) ["value"] [] := FunD.bindsN (T.F 21 d_need_task rfl) fun _ _ _ _ _ _ us hl => match us, hl with | [_], _ => rfl
theorem sc_turned_row : FnScope ["row", "one"] ["row"] (defScope s_turned_row) := ⟨rfl, rfl, rfl, by decide +kernel, rfl, by decide +kernel, by decide +kernel⟩
theorem b_turned_row (T : Txt K mg) : Binds K (T.fd 22) ["row"] [] := FunD.bindsN (T.F 22 d_turned_row rfl) fun _ _ _ _ _ _ us hl => match us, hl with | [_], _ => rfl
theorem sc_plain_of : FnScope ["task", "row"] ["task"] (defScope s_plain_of) := ⟨rfl, rfl, rfl, by decide +kernel, rfl, by decide +kernel, by decide +kernel⟩
theorem b_plain_of (T : Txt K mg) : Binds K (T.fd 23) ["task"] [] := FunD.bindsN (T.F 23 d_plain_of rfl) fun _ _ _ _ _ _ us hl => match us, hl with | [_], _ => rfl
theorem sc_need_column : FnScope ["task", "value"] ["task", "value"] (defScope s_need_column) := ⟨rfl, rfl, rfl, by decide +kernel, rfl, by decide +kernel, by decide +kernel⟩
theorem b_need_column (T : Txt K mg) : Binds K (T.fd 24) ["task", "value"] [] := FunD.bindsN (T.F 24 d_need_column rfl) fun _ _ _ _ _ _ us hl => match us, hl with | [_, _], _ => rfl
theorem sc_spread : FnScope ["task", "kinds", "costs", "rows", "slack", "found", "prices", "kind", "one", "index", "row", "line", "at"] ["task"] (defScope s_spread) := ⟨rfl, rfl, rfl, by decide +kernel, rfl, by decide +kernel, by decide +kernel⟩
theorem b_spread (T : Txt K mg) : Binds K (T.fd 25) ["task"] [] := FunD.bindsN (T.F 25 d_spread rfl) fun _ _ _ _ _ _ us hl => match us, hl with | [_], _ => rfl
theorem sc_gathered : FnScope ["kinds", "values", "found", "at", "kind", "one", "other"] ["kinds", "values"] (defScope s_gathered) := ⟨rfl, rfl, rfl, by decide +kernel, rfl, by decide +kernel, by decide +kernel⟩
theorem b_gathered (T : Txt K mg) : Binds K (T.fd 26) ["kinds", "values"] [] := FunD.bindsN (T.F 26 d_gathered rfl) fun _ _ _ _ _ _ us hl => match us, hl with | [_, _], _ => rfl
theorem sc_solved : FnScope ["task", "told", "lines", "prices", "many", "high", "grid", "column", "plan", "row"] ["task"] (defScope s_solved) := ⟨rfl, rfl, rfl, by decide +kernel, rfl, by decide +kernel, by decide +kernel⟩
theorem b_solved (T : Txt K mg) : Binds K (T.fd 27) ["task"] [] := FunD.bindsN (T.F 27 d_solved rfl) fun _ _ _ _ _ _ us hl => match us, hl with | [_], _ => rfl
theorem sc_signed : FnScope ["task", "weights", "row", "one"] ["task", "weights"] (defScope s_signed) := ⟨rfl, rfl, rfl, by decide +kernel, rfl, by decide +kernel, by decide +kernel⟩
theorem b_signed (T : Txt K mg) : Binds K (T.fd 28) ["task", "weights"] [] := FunD.bindsN (T.F 28 d_signed rfl) fun _ _ _ _ _ _ us hl => match us, hl with | [_, _], _ => rfl
theorem sc_best_cost_of : FnScope ["task", "told"] ["task"] (defScope s_best_cost_of) := ⟨rfl, rfl, rfl, by decide +kernel, rfl, by decide +kernel, by decide +kernel⟩
theorem b_best_cost_of (T : Txt K mg) : Binds K (T.fd 29) ["task"] [] := FunD.bindsN (T.F 29 d_best_cost_of rfl) fun _ _ _ _ _ _ us hl => match us, hl with | [_], _ => rfl
theorem sc_best_cost : FnScope ["task"] ["task"] (defScope s_best_cost) := ⟨rfl, rfl, rfl, by decide +kernel, rfl, by decide +kernel, by decide +kernel⟩
theorem b_best_cost (T : Txt K mg) : Binds K (T.fd 30) ["task"] [] := FunD.bindsN (T.F 30 d_best_cost rfl) fun _ _ _ _ _ _ us hl => match us, hl with | [_], _ => rfl
theorem sc_other_of : FnScope ["task", "kinds", "costs", "rows", "found", "at", "kind", "coefs", "signs", "row"] ["task"] (defScope s_other_of) := ⟨rfl, rfl, rfl, by decide +kernel, rfl, by decide +kernel, by decide +kernel⟩
theorem b_other_of (T : Txt K mg) : Binds K (T.fd 31) ["task"] [] := FunD.bindsN (T.F 31 d_other_of rfl) fun _ _ _ _ _ _ us hl => match us, hl with | [_], _ => rfl
theorem sc_kept : FnScope ["task", "value", "row", "one"] ["task", "value"] (defScope s_kept) := ⟨rfl, rfl, rfl, by decide +kernel, rfl, by decide +kernel, by decide +kernel⟩
theorem b_kept (T : Txt K mg) : Binds K (T.fd 32) ["task", "value"] [] := FunD.bindsN (T.F 32 d_kept rfl) fun _ _ _ _ _ _ us hl => match us, hl with | [_, _], _ => rfl
theorem sc_priced : FnScope ["task", "costs"] ["task", "costs"] (defScope s_priced) := ⟨rfl, rfl, rfl, by decide +kernel, rfl, by decide +kernel, by decide +kernel⟩
theorem b_priced (T : Txt K mg) : Binds K (T.fd 33) ["task", "costs"] [] := FunD.bindsN (T.F 33 d_priced rfl) fun _ _ _ _ _ _ us hl => match us, hl with | [_, _], _ => rfl
theorem sc_unit : FnScope ["many", "at", "sign", "one"] ["many", "at", "sign"] (defScope s_unit) := ⟨rfl, rfl, rfl, by decide +kernel, rfl, by decide +kernel, by decide +kernel⟩
theorem b_unit (T : Txt K mg) : Binds K (T.fd 34) ["many", "at", "sign"] [] := FunD.bindsN (T.F 34 d_unit rfl) fun _ _ _ _ _ _ us hl => match us, hl with | [_, _, _], _ => rfl
theorem sc_need_steps : FnScope ["value", "many", "one"] ["value", "many"] (defScope s_need_steps) := ⟨rfl, rfl, rfl, by decide +kernel, rfl, by decide +kernel, by decide +kernel⟩
theorem b_need_steps (T : Txt K mg) : Binds K (T.fd 35) ["value", "many"] [] := FunD.bindsN (T.F 35 d_need_steps rfl) fun _ _ _ _ _ _ us hl => match us, hl with | [_, _], _ => rfl
theorem sc_moved_rights : FnScope ["task", "steps", "time", "rows", "row", "step"] ["task", "steps", "time"] (defScope s_moved_rights) := ⟨rfl, rfl, rfl, by decide +kernel, rfl, by decide +kernel, by decide +kernel⟩
theorem b_moved_rights (T : Txt K mg) : Binds K (T.fd 36) ["task", "steps", "time"] [] := FunD.bindsN (T.F 36 d_moved_rights rfl) fun _ _ _ _ _ _ us hl => match us, hl with | [_, _, _], _ => rfl
theorem sc_cost_at : FnScope ["task", "steps", "time", "value"] ["task", "steps", "time"] (defScope s_cost_at) := ⟨rfl, rfl, rfl, by decide +kernel, rfl, by decide +kernel, by decide +kernel⟩
theorem b_cost_at (T : Txt K mg) : Binds K (T.fd 37) ["task", "steps", "time"] [] := FunD.bindsN (T.F 37 d_cost_at rfl) fun _ _ _ _ _ _ us hl => match us, hl with | [_, _, _], _ => rfl
theorem sc_times_of_plans : FnScope ["task", "steps", "rows", "row", "step", "many", "joint", "told", "low", "back"] ["task", "steps"] (defScope s_times_of_plans) := ⟨rfl, rfl, rfl, by decide +kernel, rfl, by decide +kernel, by decide +kernel⟩
theorem b_times_of_plans (T : Txt K mg) : Binds K (T.fd 38) ["task", "steps"] [] := FunD.bindsN (T.F 38 d_times_of_plans rfl) fun _ _ _ _ _ _ us hl => match us, hl with | [_, _], _ => rfl
theorem sc_line_at : FnScope ["task", "steps", "time", "sign", "papers", "face", "signed", "value", "slope", "row", "step"] ["task", "steps", "time", "sign"] (defScope s_line_at) := ⟨rfl, rfl, rfl, by decide +kernel, rfl, by decide +kernel, by decide +kernel⟩
theorem b_line_at (T : Txt K mg) : Binds K (T.fd 39) ["task", "steps", "time", "sign"] [] := FunD.bindsN (T.F 39 d_line_at rfl) fun _ _ _ _ _ _ us hl => match us, hl with | [_, _, _, _], _ => rfl
theorem sc_end_line : FnScope ["task", "steps", "sign", "papers", "signed", "value", "face", "base", "row", "step"] ["task", "steps", "sign"] (defScope s_end_line) := ⟨rfl, rfl, rfl, by decide +kernel, rfl, by decide +kernel, by decide +kernel⟩
theorem b_end_line (T : Txt K mg) : Binds K (T.fd 40) ["task", "steps", "sign"] [] := FunD.bindsN (T.F 40 d_end_line rfl) fun _ _ _ _ _ _ us hl => match us, hl with | [_, _, _], _ => rfl
theorem sc_breaks : FnScope ["task", "steps", "one", "other", "time", "height", "first", "second"] ["task", "steps", "one", "other"] (defScope s_breaks) := ⟨rfl, rfl, rfl, by decide +kernel, rfl, by decide +kernel, by decide +kernel⟩
theorem b_breaks (T : Txt K mg) : Binds K (T.fd 41) ["task", "steps", "one", "other"] [] := FunD.bindsN (T.F 41 d_breaks rfl) fun _ _ _ _ _ _ us hl => match us, hl with | [_, _, _, _], _ => rfl
theorem sc_pieces_of : FnScope ["task", "steps", "span", "low", "high", "one", "other", "lines", "times", "starts", "ends", "a", "b", "start", "end", "line"] ["task", "steps"] (defScope s_pieces_of) := ⟨rfl, rfl, rfl, by decide +kernel, rfl, by decide +kernel, by decide +kernel⟩
theorem b_pieces_of (T : Txt K mg) : Binds K (T.fd 42) ["task", "steps"] [] := FunD.bindsN (T.F 42 d_pieces_of rfl) fun _ _ _ _ _ _ us hl => match us, hl with | [_, _], _ => rfl
theorem sc_cost_pieces : FnScope ["task", "steps", "told", "found", "low", "high", "base", "slope", "step"] ["task", "steps"] (defScope s_cost_pieces) := ⟨rfl, rfl, rfl, by decide +kernel, rfl, by decide +kernel, by decide +kernel⟩
theorem b_cost_pieces (T : Txt K mg) : Binds K (T.fd 43) ["task", "steps"] [] := FunD.bindsN (T.F 43 d_cost_pieces rfl) fun _ _ _ _ _ _ us hl => match us, hl with | [_, _], _ => rfl
theorem sc_starts_to : FnScope ["piece"] ["piece"] (defScope s_starts_to) := ⟨rfl, rfl, rfl, by decide +kernel, rfl, by decide +kernel, by decide +kernel⟩
theorem b_starts_to (T : Txt K mg) : Binds K (T.fd 44) ["piece"] [] := FunD.bindsN (T.F 44 d_starts_to rfl) fun _ _ _ _ _ _ us hl => match us, hl with | [_], _ => rfl
theorem sc_ends_from : FnScope ["piece"] ["piece"] (defScope s_ends_from) := ⟨rfl, rfl, rfl, by decide +kernel, rfl, by decide +kernel, by decide +kernel⟩
theorem b_ends_from (T : Txt K mg) : Binds K (T.fd 45) ["piece"] [] := FunD.bindsN (T.F 45 d_ends_from rfl) fun _ _ _ _ _ _ us hl => match us, hl with | [_], _ => rfl
theorem sc_same_until : FnScope ["task", "column", "told", "some", "one", "piece"] ["task", "column"] (defScope s_same_until) := ⟨rfl, rfl, rfl, by decide +kernel, rfl, by decide +kernel, by decide +kernel⟩
theorem b_same_until (T : Txt K mg) : Binds K (T.fd 46) ["task", "column"] [] := FunD.bindsN (T.F 46 d_same_until rfl) fun _ _ _ _ _ _ us hl => match us, hl with | [_, _], _ => rfl
theorem sc_l_taken : FnScope ["_law_row", "_law_many", "_law_found", "_law_cell"] ["_law_row", "_law_many"] (defScope s_law_taken) := ⟨rfl, rfl, rfl, by decide +kernel, rfl, by decide +kernel, by decide +kernel⟩
theorem b_l_taken (T : Txt K mg) : Binds K (T.fd 47) ["_law_row", "_law_many"] [] := FunD.bindsN (T.F 47 d_law_taken rfl) fun _ _ _ _ _ _ us hl => match us, hl with | [_, _], _ => rfl
theorem sc_l_alike : FnScope ["_law_found", "_law_due", "_law_k"] ["_law_found", "_law_due"] (defScope s_law_alike) := ⟨rfl, rfl, rfl, by decide +kernel, rfl, by decide +kernel, by decide +kernel⟩
theorem b_l_alike (T : Txt K mg) : Binds K (T.fd 48) ["_law_found", "_law_due"] [] := FunD.bindsN (T.F 48 d_law_alike rfl) fun _ _ _ _ _ _ us hl => match us, hl with | [_, _], _ => rfl
theorem sc_l_ratio : FnScope ["_law_top", "_law_low", "_law_one", "_law_other"] ["_law_top", "_law_low"] (defScope s_law_ratio) := ⟨rfl, rfl, rfl, by decide +kernel, rfl, by decide +kernel, by decide +kernel⟩
theorem b_l_ratio (T : Txt K mg) : Binds K (T.fd 49) ["_law_top", "_law_low"] [] := FunD.bindsN (T.F 49 d_law_ratio rfl) fun _ _ _ _ _ _ us hl => match us, hl with | [_, _], _ => rfl
theorem sc_l_plus : FnScope ["_law_one", "_law_other"] ["_law_one", "_law_other"] (defScope s_law_plus) := ⟨rfl, rfl, rfl, by decide +kernel, rfl, by decide +kernel, by decide +kernel⟩
theorem b_l_plus (T : Txt K mg) : Binds K (T.fd 50) ["_law_one", "_law_other"] [] := FunD.bindsN (T.F 50 d_law_plus rfl) fun _ _ _ _ _ _ us hl => match us, hl with | [_, _], _ => rfl
theorem sc_l_times : FnScope ["_law_one", "_law_other"] ["_law_one", "_law_other"] (defScope s_law_times) := ⟨rfl, rfl, rfl, by decide +kernel, rfl, by decide +kernel, by decide +kernel⟩
theorem b_l_times (T : Txt K mg) : Binds K (T.fd 51) ["_law_one", "_law_other"] [] := FunD.bindsN (T.F 51 d_law_times rfl) fun _ _ _ _ _ _ us hl => match us, hl with | [_, _], _ => rfl
theorem sc_l_gap : FnScope ["_law_one", "_law_other"] ["_law_one", "_law_other"] (defScope s_law_gap) := ⟨rfl, rfl, rfl, by decide +kernel, rfl, by decide +kernel, by decide +kernel⟩
theorem b_l_gap (T : Txt K mg) : Binds K (T.fd 52) ["_law_one", "_law_other"] [] := FunD.bindsN (T.F 52 d_law_gap rfl) fun _ _ _ _ _ _ us hl => match us, hl with | [_, _], _ => rfl
theorem sc_l_task : FnScope ["_law_row", "_law_columns", "_law_rows", "_law_value", "_law_many", "_law_kinds", "_law_costs", "_law_start", "_law_found", "_law_turn", "_law_numbers", "_law_near", "_law_way", "_law_right", "_law_at_here"] ["_law_row", "_law_columns", "_law_rows", "_law_value"] (defScope s_law_task) := ⟨rfl, rfl, rfl, by decide +kernel, rfl, by decide +kernel, by decide +kernel⟩
theorem b_l_task (T : Txt K mg) : Binds K (T.fd 53) ["_law_row", "_law_columns", "_law_rows", "_law_value"] [] := FunD.bindsN (T.F 53 d_law_task rfl) fun _ _ _ _ _ _ us hl => match us, hl with | [_, _, _, _], _ => rfl
theorem sc_l_at : FnScope ["_law_pieces", "_law_time", "_law_found", "_law_low", "_law_high", "_law_base", "_law_slope"] ["_law_pieces", "_law_time"] (defScope s_law_at) := ⟨rfl, rfl, rfl, by decide +kernel, rfl, by decide +kernel, by decide +kernel⟩
theorem b_l_at (T : Txt K mg) : Binds K (T.fd 54) ["_law_pieces", "_law_time"] [] := FunD.bindsN (T.F 54 d_law_at rfl) fun _ _ _ _ _ _ us hl => match us, hl with | [_, _], _ => rfl
theorem sc_l_then : FnScope ["_law_task_here", "_law_steps", "_law_time", "_law_costs", "_law_value", "_law_at_here", "_law_one"] ["_law_task_here", "_law_steps", "_law_time"] (defScope s_law_then) := ⟨rfl, rfl, rfl, by decide +kernel, rfl, by decide +kernel, by decide +kernel⟩
theorem b_l_then (T : Txt K mg) : Binds K (T.fd 55) ["_law_task_here", "_law_steps", "_law_time"] [] := FunD.bindsN (T.F 55 d_law_then rfl) fun _ _ _ _ _ _ us hl => match us, hl with | [_, _, _], _ => rfl
theorem sc_law : FnScope ["_law_script", "_law_row", "_law_task_here", "_law_kinds", "_law_costs", "_law_rows", "_law_steps", "_law_told", "_law_times_here", "_law_turn", "_law_low", "_law_high", "_law_base", "_law_slope", "_law_end", "_law_time", "_law_due", "_law_at_here", "_law_step", "_law_now", "_law_one"] ["_law_script"] (defScope s_law) := ⟨rfl, rfl, rfl, by decide +kernel, rfl, by decide +kernel, by decide +kernel⟩
theorem b_law (T : Txt K mg) : Binds K (T.fd 56) ["_law_script"] [] := FunD.bindsN (T.F 56 d_law rfl) fun _ _ _ _ _ _ us hl => match us, hl with | [_], _ => rfl
end
end Cp
end
/-! ## CFa -/
section
set_option Elab.async false
set_option linter.all false
set_option autoImplicit false
set_option maxRecDepth 100000
set_option maxHeartbeats 4000000
namespace Cp
variable [KFix]
open PySem PySem.Spec PyProof.Rows L2
theorem pe_gint {X : Cx} {x : Str} {v : Int} {pos : Pos} (hg : Gl X x) (hm : ∃ t, X.mg x = some (.int v t)) (hd : (x == ("__debug__" : Str)) = false := by decide) : PE X (.Name x pos) (tC (.int v)) := by
  obtain ⟨t, e⟩ := hm
  exact pe_glob hg e ⟨t, rfl⟩ hd
theorem ix_seqK {X : Cx} {K : PySem.W.Frag} (e : X.K = K := by rfl) : IxR X (rIx K) := e ▸ ix_seq
theorem op_eqDK {X : Cx} {K : PySem.W.Frag} (hu : X.A.units + 64 < cLine) (e : X.K = K := by rfl) : OpR X (compareOp .Eq) (rEqD K) := e ▸ op_eqD hu
theorem op_neDK {X : Cx} {K : PySem.W.Frag} (hu : X.A.units + 64 < cLine) (e : X.K = K := by rfl) : OpR X (compareOp .NotEq) (rNeD K) := e ▸ op_neD hu
theorem op_in_seqK {X : Cx} {K : PySem.W.Frag} (e : X.K = K := by rfl) : OpR X (compareOp .In) (rIn K false) := e ▸ op_in_seq
theorem pe_fldK {X : Cx} {K : PySem.W.Frag} {e : Expr} {ta : TE} {f : Str} {pos : Pos} (he : PE X e ta) (hb : attributeBase e f X.env (eval e X.env) = eval e X.env) (eK : X.K = K := by rfl) : PE X (.Attribute e f pos) (tFld K ta f) := eK ▸ pe_fld he hb
theorem pg_tupK {X : Cx} {K : PySem.W.Frag} {pos : Pos} {es : List Expr} {k : Nat} {t : TGs} {n : Nat} (hc : X.calm = true) (h : PGs X es t)
    (hn : (assignEach es X.env).length = n := by rfl) (hst : (assignEach es X.env).findIdx? (·.1) = none := by rfl) (e : X.K = K := by rfl) : PG X (.Tuple es k pos) (gTup K n t) := e ▸ pg_tup hc h hn hst
theorem sh_ck (k : Bool) (f : Bool → Str) (h : (SeqAt.shaped (.str (f true)) && SeqAt.shaped (.str (f false))) = true) : SeqAt.shaped (.str (f k)) = true := by
  rw [Bool.and_eq_true] at h
  cases k
  · exact h.2
  · exact h.1
section
variable {c : Bc} {P P1 P2 P3 : List Sl}
theorem g_notV {ta : TE} {b : Bool} (h : TEg c ta P (.bool b) P1) : TEg c (tNotV ta) P (.bool (!b)) P1 := by
  refine ⟨h.len, fun T σ F H Q S hl q => ?_⟩
  refine h.run T σ F H _ S hl fun x F1 H1 S1 m1 r1 => ?_
  cases r1
  exact ⟨b, rfl, q _ F1 H1 S1 m1 (.bl _)⟩
theorem g_andV {ta tb : TE} {a b : Bool} (h : TEg c ta P (.bool a) P) (h2 : a = true → TEg c tb P (.bool b) P) : TEg c (tAndV ta tb) P (.bool (a && b)) P := by
  refine ⟨rfl, fun T σ F H Q S hl q => ?_⟩
  refine h.run T σ F H _ S hl fun x F1 H1 S1 m1 r1 => ?_
  cases r1
  refine ⟨a, rfl, ?_⟩
  cases a with
  | true =>
    rw [if_pos rfl]
    exact (h2 rfl).run T σ F1 H1 _ S1 hl fun v F2 H2 S2 m2 r => q v F2 H2 S2 (m1.trans m2) r
  | false =>
    rw [if_neg Bool.false_ne_true]
    exact q _ F1 H1 S1 m1 (.bl _)
theorem g_orV {ta tb : TE} {a b : Bool} (h : TEg c ta P (.bool a) P) (h2 : a = false → TEg c tb P (.bool b) P) : TEg c (tOrV ta tb) P (.bool (a || b)) P := by
  refine ⟨rfl, fun T σ F H Q S hl q => ?_⟩
  refine h.run T σ F H _ S hl fun x F1 H1 S1 m1 r1 => ?_
  cases r1
  refine ⟨a, rfl, ?_⟩
  cases a with
  | false =>
    rw [if_neg Bool.false_ne_true]
    exact (h2 rfl).run T σ F1 H1 _ S1 hl fun v F2 H2 S2 m2 r => q v F2 H2 S2 (m1.trans m2) r
  | true =>
    rw [if_pos rfl]
    exact q _ F1 H1 S1 m1 (.bl _)
end
/-- the body of a pure def -/
def st0 (ds : List PyData) (n : Nat) : List Sl := ds.map Sl.d ++ List.replicate (n - ds.length) .no
theorem body_pure {K : PySem.W.Frag} {C : Addr} {N : List Str} {t : TS} {pre : List PyData → PyData → Prop} {vs : List V} {H : Hp} {Q : VK} {E : XK} (h : spD pre vs H Q E)
    (hn : ∀ ds d, pre ds d → ds.length ≤ N.length)
    (hb : ∀ ds d, pre ds d → ∀ F0 H0, Sd ⟨K, C, F0, H0⟩ t (st0 ds N.length) (fun _ => d = .none) (fun d' _ => d' = d)) : t { nx := fun _ H' => Q .non H', rt := Q } (L2.start N vs) H := by
  obtain ⟨F, ds, d, s, r, p, q⟩ := h
  have hl := r.len
  have hN := hn ds d p
  have key : ∀ (i : Nat) s, (st0 ds N.length)[i]? = some s → (∃ x, s = .d x ∧ ds[i]? = some x) ∨ s = .no := fun i s e => by
    unfold st0 at e
    rcases Nat.lt_or_ge i ds.length with h1 | h1
    · rw [List.getElem?_append_left (by simpa using h1), List.getElem?_map] at e
      cases q : ds[i]? with
      | none => rw [q] at e; cases e
      | some x => rw [q] at e; exact .inl ⟨x, (Option.some.inj e).symm, rfl⟩
    · rw [List.getElem?_append_right (by simpa using h1)] at e
      have := List.mem_of_getElem? e
      exact .inr (List.eq_of_mem_replicate this)
  have S : Stt ⟨K, C, F, H⟩ (st0 ds N.length ++ []) (L2.start N vs) F H := by
    rw [List.append_nil]
    refine ⟨Ex.refl s, ?_, fun i s e hi => ?_, fun i s e => ?_, fun i s a e ha => ?_, fun i j s u a e1 e2 q1 q2 => ?_⟩
    · unfold L2.start st0
      simp [hl]
    · rcases key i s e with ⟨x, rfl, hx⟩ | rfl
      · obtain ⟨v, hv, rv⟩ := r.get hx
        refine ⟨v, ?_, rv⟩
        unfold L2.start
        rw [List.getElem?_append_left (by simpa using (List.getElem?_eq_some_iff.mp hv).1), List.getElem?_map, hv]
        rfl
      · trivial
    · rcases key i s e with ⟨x, rfl, hx⟩ | rfl <;> trivial
    · rcases key i s e with ⟨x, rfl, hx⟩ | rfl <;> cases ha
    · rcases key i s e1 with ⟨x, rfl, hx⟩ | rfl <;> cases q1
  refine hb ds d p F H [] (L2.start N vs) F H _ S (by unfold L2.start st0; simp [hl]) (fun P' σ' F' H' e S' _ m => ?_) fun d' P' v σ' F' H' e S' m rv => ?_
  · subst e
    exact q .non F' H' S'.ex .non
  · subst e
    exact q v F' H' S'.ex rv
end Cp
end
/-! ## CRat -/
section
set_option Elab.async false
set_option linter.all false
set_option autoImplicit false
set_option maxRecDepth 100000
set_option maxHeartbeats 4000000
/-! ratios as rational numbers -/
namespace Cp
open PySem
def qD (x : Rat) : PyData := .tuple [.int x.num, .int x.den]
def qb (n : Nat) (x : Rat) : Prop := x.num.natAbs < 2 ^ n ∧ x.den < 2 ^ n
theorem rat_self (x : Rat) : (x.num : Rat) / (x.den : Rat) = x := by
  rw [← Rat.mkRat_eq_div, Rat.mkRat_self]
theorem den_pos (x : Rat) : (0 : Int) < x.den := by have := x.den_pos; omega
theorem den_ne (x : Rat) : ((x.den : Nat) : Rat) ≠ 0 := by
  have := x.den_pos
  intro h
  have h2 : ((x.den : Nat) : Rat) = ((0 : Nat) : Rat) := by simpa using h
  have := Rat.natCast_inj.mp h2
  omega
/-- top over low, low above 0, as it is written without a common divisor -/
theorem num_of {t l : Int} (h : 0 < l) : ((t : Rat) / (l : Rat)).num = t / (Int.gcd t l : Int) := by
  rw [← Rat.divInt_eq_div, Rat.num_divInt, Int.sign_eq_one_of_pos h, Int.one_mul, Int.gcd_comm]
theorem den_of {t l : Int} (h : 0 < l) : ((((t : Rat) / (l : Rat)).den : Nat) : Int) = l / (Int.gcd t l : Int) := by
  rw [← Rat.divInt_eq_div, Rat.den_divInt, if_neg (by omega), Int.gcd_comm]
  have e : ((l.natAbs : Nat) : Int) = l := by omega
  rw [Int.natCast_ediv, e]
theorem gcd_pos {t l : Int} (h : 0 < l) : (0 : Int) < (Int.gcd t l : Int) := by
  have := Int.gcd_pos_of_ne_zero_right t (show l ≠ 0 by omega)
  omega
theorem gcd_le {t l : Int} (h : 0 < l) : (Int.gcd t l) ≤ l.natAbs := Nat.le_of_dvd (by omega) (Int.natAbs_dvd_natAbs.mpr (Int.gcd_dvd_right t l) |> fun h => by simpa using h)
theorem add_as (x y : Rat) : x + y = ((x.num * y.den + y.num * x.den : Int) : Rat) / ((x.den * y.den : Int) : Rat) := by
  have hx := rat_self x
  have hy := rat_self y
  have h1 := den_ne x
  have h2 := den_ne y
  have e : ((x.num * y.den + y.num * x.den : Int) : Rat) / ((x.den * y.den : Int) : Rat) = (x.num : Rat) / (x.den : Rat) + (y.num : Rat) / (y.den : Rat) := by
    rw [Rat.intCast_add, Rat.intCast_mul, Rat.intCast_mul, Rat.intCast_mul]
    simp only [Rat.intCast_natCast]
    grind
  rw [e, hx, hy]
theorem sub_as (x y : Rat) : x - y = ((x.num * y.den - y.num * x.den : Int) : Rat) / ((x.den * y.den : Int) : Rat) := by
  have hx := rat_self x
  have hy := rat_self y
  have h1 := den_ne x
  have h2 := den_ne y
  have e : ((x.num * y.den - y.num * x.den : Int) : Rat) / ((x.den * y.den : Int) : Rat) = (x.num : Rat) / (x.den : Rat) - (y.num : Rat) / (y.den : Rat) := by
    rw [Rat.intCast_sub, Rat.intCast_mul, Rat.intCast_mul, Rat.intCast_mul]
    simp only [Rat.intCast_natCast]
    grind
  rw [e, hx, hy]
theorem mul_as (x y : Rat) : x * y = ((x.num * y.num : Int) : Rat) / ((x.den * y.den : Int) : Rat) := by
  have hx := rat_self x
  have hy := rat_self y
  have h1 := den_ne x
  have h2 := den_ne y
  have e : ((x.num * y.num : Int) : Rat) / ((x.den * y.den : Int) : Rat) = ((x.num : Rat) / (x.den : Rat)) * ((y.num : Rat) / (y.den : Rat)) := by
    rw [Rat.intCast_mul, Rat.intCast_mul]
    simp only [Rat.intCast_natCast]
    grind
  rw [e, hx, hy]
theorem num_ne {y : Rat} (h : 0 < y.num) : (y.num : Rat) ≠ 0 := by
  intro z
  have : (y.num : Rat) = ((0 : Int) : Rat) := by simpa using z
  have := Rat.intCast_inj.mp this
  omega
theorem div_as (x y : Rat) (h : 0 < y.num) : x / y = ((x.num * y.den : Int) : Rat) / ((x.den * y.num : Int) : Rat) := by
  have hx := rat_self x
  have hy := rat_self y
  have h1 := den_ne x
  have h2 := den_ne y
  have h3 := num_ne h
  have e : ((x.num * y.den : Int) : Rat) / ((x.den * y.num : Int) : Rat) = ((x.num : Rat) / (x.den : Rat)) / ((y.num : Rat) / (y.den : Rat)) := by
    rw [Rat.intCast_mul, Rat.intCast_mul]
    simp only [Rat.intCast_natCast]
    grind
  rw [e, hx, hy]

end Cp
end
/-! ## CF1 -/
section
set_option Elab.async false
set_option linter.all false
set_option autoImplicit false
set_option maxRecDepth 100000
set_option maxHeartbeats 4000000
namespace Cp
variable [KFix]
open PySem PySem.Spec PyProof.Rows L2
/-! sizes -/
theorem lt2_mono {a n m : Nat} (h : a < 2 ^ n) (hm : n ≤ m) : a < 2 ^ m := Nat.lt_of_lt_of_le h (Nat.pow_le_pow_right (by decide) hm)
theorem qb.mono {n m : Nat} {x : Rat} (h : qb n x) (hm : n ≤ m) : qb m x := ⟨lt2_mono h.1 hm, lt2_mono h.2 hm⟩
theorem mul_bits {a b : Int} {n m : Nat} (ha : a.natAbs < 2 ^ n) (hb : b.natAbs < 2 ^ m) : (a * b).natAbs < 2 ^ (n + m) := wide_lt ha hb
theorem add_bits {a b : Int} {n : Nat} (ha : a.natAbs < 2 ^ n) (hb : b.natAbs < 2 ^ n) : (a + b).natAbs < 2 ^ (n + 1) := by
  have := Int.natAbs_add_le a b
  rw [Nat.pow_succ]; omega
theorem sub_bits {a b : Int} {n : Nat} (ha : a.natAbs < 2 ^ n) (hb : b.natAbs < 2 ^ n) : (a - b).natAbs < 2 ^ (n + 1) := by
  have := Int.natAbs_sub_le a b
  rw [Nat.pow_succ]; omega
theorem cmul {a b : Int} {n m : Nat} (ha : a.natAbs < 2 ^ n) (hb : b.natAbs < 2 ^ m) (h : n + m + 2 ≤ 1000000 := by decide) : CMulW a b :=
  wide_mul (lt2_mono ha (Nat.le_succ n)) (lt2_mono hb (Nat.le_succ m)) (Nat.succ_pos _) (Nat.succ_pos _) (by omega)
theorem cdiv {a b : Int} {n : Nat} (h0 : 0 < b) (hb : b.natAbs < 2 ^ n) (h : n + 1 ≤ 9000 := by decide) : CDivW a b := wide_div h0 (lt2_mono hb (Nat.le_succ n)) (Nat.succ_pos _) h
section
variable {Pg : Program} {w : World} {K : PySem.W.Frag} {mg : Str → Option Value} {base : Heap}
def pre_is_int (ds : List PyData) (d : PyData) : Prop := ∃ i, ds = [.int i] ∧ d = .bool true
theorem len_is_int : ∀ ds d, pre_is_int ds d → ds.length = 1 := by rintro _ _ ⟨i, rfl, rfl⟩; rfl
theorem ok_is_int (T : Txt K mg) : FnOk Pg w K mg base CX0 1 (He.ga K "is_int") (T.fd 0) ["value"] (spD pre_is_int) := by
  refine (T.F 0 d_is_int rfl).ok sc_is_int (spD_len (n := 1) ?len) (fun cdv A outer s H vs Q E hr h => ?_)
  case len => exact len_is_int
  refine ⟨_, PSs.nox (pss_one (ps_ret (pe_and (pe_callB call_isi (by rfl) T.n_isinstance (by decide +kernel) (pa_cons (pv 0) (pa_cons (pe_bltn (v := .ty "int") (by rfl) T.n_int (by decide +kernel) rfl) pa_nil))) (pe_one (pe_not (pe_callB call_isi (by rfl) T.n_isinstance (by decide +kernel) (pa_cons (pv 0) (pa_cons (pe_bltn (v := .ty "bool") (by rfl) T.n_bool (by decide +kernel) rfl) pa_nil)))))))), ?_⟩
  refine body_pure (K := K) (C := gC K) h (fun ds d hp => by rw [len_is_int ds d hp]; decide) (fun ds d hp F0 H0 => ?_)
  obtain ⟨i, rfl, rfl⟩ := hp
  show Sd _ _ [.d (.int i)] _ _
  exact s_ret (g_andV (a := true) (b := true) (g_isi (g_var rfl) (show kitB "int" "int" = some true by decide +kernel)) fun _ => g_notV (b := false) (g_isi (g_var rfl) (show kitB "int" "bool" = some false by decide +kernel))) rfl
def pre_divisor (ds : List PyData) (d : PyData) : Prop := ∃ i j : Int, ds = [.int i, .int j] ∧ d = .int (Int.gcd i j)
theorem len_divisor : ∀ ds d, pre_divisor ds d → ds.length = 2 := by rintro _ _ ⟨i, j, rfl, rfl⟩; rfl
theorem gcd_step {a b : Int} (ha : 0 ≤ a) (hb : 0 < b) : Int.gcd b (a % b) = Int.gcd a b := by
  obtain ⟨n, rfl⟩ := Int.eq_ofNat_of_zero_le ha
  obtain ⟨m, rfl⟩ := Int.eq_ofNat_of_zero_le (show 0 ≤ b by omega)
  rw [← Int.natCast_emod]
  simp only [Int.gcd_natCast_natCast]
  rw [Nat.gcd_comm n m, Nat.gcd_rec m n, Nat.gcd_comm]
theorem ok_divisor (T : Txt K mg) : FnOk Pg w K mg base CX0 1 (He.ga K "divisor") (T.fd 1) ["one", "other"] (spD pre_divisor) := by
  refine (T.F 1 d_divisor rfl).ok sc_divisor (spD_len (n := 2) ?len) (fun cdv A outer s H vs Q E hr h => ?_)
  case len => exact len_divisor
  refine ⟨_, PSs.nox (pss_cons (ps_par (i := 2) (j := 3) (by rfl) sc_divisor.nd rfl rfl (by decide) rfl rfl (pa_cons (pe_callB call_abs (by rfl) T.n_abs (by decide +kernel) (pa_cons (pv 0) pa_nil)) (pa_cons (pe_callB call_abs (by rfl) T.n_abs (by decide +kernel) (pa_cons (pv 1) pa_nil)) pa_nil)) (by rfl))
      (pss_cons (ps_while PassesOwn.never (pt_cmpR (op_neDK (K := K) hr.units) (pv 3) pe_int (nomark _)) (pss_one (ps_par (i := 2) (j := 3) (by rfl) sc_divisor.nd rfl rfl (by decide) rfl rfl (pa_cons (pv 3) (pa_cons (pe_op op_mod (pv 2) (pv 3)) pa_nil)) (by rfl))))
      (pss_one (ps_ret (pv 2))))), ?_⟩
  refine body_pure (K := K) (C := gC K) h (fun ds d hp => by rw [len_divisor ds d hp]; decide) (fun ds d hp F0 H0 => ?_)
  obtain ⟨i, j, rfl, rfl⟩ := hp
  show Sd _ _ [.d (.int i), .d (.int j), .no, .no] _ _
  refine s_seq1 (P' := [.d (.int i), .d (.int j), .d (.int (if i < 0 then -i else i)), .d (.int (if j < 0 then -j else j))]) (s_par (a_cons (g_cb (a_cons (g_var rfl) a_nil) b_abs) (a_cons (g_cb (a_cons (g_var rfl) a_nil) b_abs) a_nil)) (by simp) (by simp) rfl) ?_
  refine s_seq (M := fun P' => ∃ a : Int, P' = [.d (.int i), .d (.int j), .d (.int a), .d (.int 0)] ∧ a = Int.gcd i j) ?_ ?_
  · refine s_while (n0 := (if j < 0 then -j else j).toNat) (fun n P' => ∃ a b : Int, P' = [.d (.int i), .d (.int j), .d (.int a), .d (.int b)] ∧ 0 ≤ a ∧ 0 ≤ b ∧ b.toNat = n ∧ Int.gcd a b = Int.gcd i j) ⟨_, _, rfl, by split <;> omega, by split <;> omega, rfl, ?_⟩ ?_
    · split <;> split <;> simp
    · rintro n _ ⟨a, b, rfl, ha, hb, rfl, hg⟩
      refine ⟨decide (b ≠ 0), _, (t_cmp (g_op (g_var rfl) g_int (o_ne rfl rfl))).eq ?_, fun hb0 => ?_, fun hb0 => ?_⟩
      · by_cases h : b = 0
        · subst h; rfl
        · simp [PyData.eqv, h]
      · have hb0 : b ≠ 0 := by simpa using hb0
        refine s_par (a_cons (g_var rfl) (a_cons (g_op (g_var rfl) (g_var rfl) (o_mod (by omega))) a_nil)) (by simp) (by simp) ⟨(a % b).toNat, ?_, b, a % b, rfl, hb, Int.emod_nonneg _ hb0, rfl, ?_⟩
        · have := Int.emod_lt_of_pos a (show 0 < b by omega)
          have := Int.emod_nonneg a hb0
          omega
        · rw [gcd_step ha (by omega)]; exact hg
      · have hb0 : b = 0 := by simpa using hb0
        subst hb0
        refine ⟨a, rfl, ?_⟩
        rw [← hg, Int.gcd_zero_right]
        omega
  · rintro _ ⟨a, rfl, rfl⟩
    exact s_ret (g_var rfl) rfl
/-- ratio(t, l) -/
def pre_ratio (ds : List PyData) (d : PyData) : Prop := ∃ t l : Int, ds = [.int t, .int l] ∧ 0 < l ∧ l.natAbs < 2 ^ 8999 ∧ d = qD ((t : Rat) / (l : Rat))
theorem len_ratio : ∀ ds d, pre_ratio ds d → ds.length = 2 := by rintro _ _ ⟨i, j, rfl, _⟩; rfl
theorem ok_ratio (T : Txt K mg) : FnOk Pg w K mg base CX0 2 (He.ga K "ratio") (T.fd 2) ["top", "low"] (spD pre_ratio) := by
  refine (T.F 2 d_ratio rfl).ok sc_ratio (spD_len (n := 2) ?len) (fun cdv A outer s H vs Q E hr h => ?_)
  case len => exact len_ratio
  refine ⟨_, PSs.nox (pss_cons (ps_set (i := 2) sc_ratio.nd rfl (by first | exact Or.inl rfl | exact Or.inr rfl) (pe_call (ok_divisor T) (hr.mono (show 1 ≤ _ by decide)) (by rfl) T.g_divisor (T.F 1 d_divisor rfl).kp (b_divisor T) .nil pass0 (pa_cons (pv 0) (pa_cons (pv 1) pa_nil))))
      (pss_cons (ps_if (pt_cmpR op_lt (pv 1) pe_int (nomark _)) (pss_one (ps_set (i := 2) sc_ratio.nd rfl (by first | exact Or.inl rfl | exact Or.inr rfl) (pe_un un_neg (pv 2)))) pss_nil)
      (pss_one (ps_ret (pe_tup (pa_cons (pe_op op_fdivW (pv 0) (pv 2)) (pa_cons (pe_op op_fdivW (pv 1) (pv 2)) pa_nil))))))), ?_⟩
  refine body_pure (K := K) (C := gC K) h (fun ds d hp => by rw [len_ratio ds d hp]; decide) (fun ds d hp F0 H0 => ?_)
  obtain ⟨t, l, rfl, h0, hl, rfl⟩ := hp
  show Sd _ _ [.d (.int t), .d (.int l), .no] _ _
  have hg := gcd_pos (t := t) h0
  have hg2 : ((Int.gcd t l : Nat) : Int).natAbs < 2 ^ 8999 := Nat.lt_of_le_of_lt (by have := gcd_le (t := t) h0; omega) hl
  refine s_seq1 (P' := [.d (.int t), .d (.int l), .d (.int (Int.gcd t l))]) (s_set (g_call (a_cons (g_var rfl) (a_cons (g_var rfl) a_nil)) ⟨t, l, rfl, rfl⟩) (by simp) rfl) ?_
  refine s_seq1 (P' := [.d (.int t), .d (.int l), .d (.int (Int.gcd t l))]) (s_if (b := false) ((t_cmp (g_op (g_var rfl) g_int o_lt)).eq (by simp; omega)) (fun z => nomatch z) fun _ => s_next rfl) ?_
  refine s_ret (g_tup (a_cons (g_op (g_var rfl) (g_var rfl) (o_div (cdiv hg hg2))) (a_cons (g_op (g_var rfl) (g_var rfl) (o_div (cdiv hg hg2))) a_nil)) (by simp)) ?_
  unfold qD
  rw [num_of h0, den_of h0]
theorem at0 {d e : PyData} : atI [d, e] 0 = some d := rfl
theorem at1 {d e : PyData} : atI [d, e] 1 = some e := rfl
theorem g_q0 {c : Bc} {P P1 P2 : List Sl} {K : PySem.W.Frag} {te ti : TE} {x : Rat} (h : TEg c te P (qD x) P1) (hi : TEg c ti P1 (.int 0) P2) : TEg c (tOp (rIx K) te ti) P (.int x.num) P2 := g_op h hi (o_ixqT at0)
theorem g_q1 {c : Bc} {P P1 P2 : List Sl} {K : PySem.W.Frag} {te ti : TE} {x : Rat} (h : TEg c te P (qD x) P1) (hi : TEg c ti P1 (.int 1) P2) : TEg c (tOp (rIx K) te ti) P (.int x.den) P2 := g_op h hi (o_ixqT at1)
theorem den_bits {n : Nat} {x : Rat} (h : qb n x) : ((x.den : Nat) : Int).natAbs < 2 ^ n := by simpa using h.2
def pre_plus_of (ds : List PyData) (d : PyData) : Prop := ∃ x y : Rat, ds = [qD x, qD y] ∧ qb 4000 x ∧ qb 4000 y ∧ d = qD (x + y)
theorem len_plus_of : ∀ ds d, pre_plus_of ds d → ds.length = 2 := by rintro _ _ ⟨i, j, rfl, _⟩; rfl
theorem ok_plus_of (T : Txt K mg) : FnOk Pg w K mg base CX0 3 (He.ga K "plus_of") (T.fd 3) ["one", "other"] (spD pre_plus_of) := by
  refine (T.F 3 d_plus_of rfl).ok sc_plus_of (spD_len (n := 2) ?len) (fun cdv A outer s H vs Q E hr h => ?_)
  case len => exact len_plus_of
  refine ⟨_, PSs.nox (pss_one (ps_ret (pe_call (ok_ratio T) (hr.mono (show 2 ≤ _ by decide)) (by rfl) T.g_ratio (T.F 2 d_ratio rfl).kp (b_ratio T) .nil pass0 (pa_cons (pe_op op_add (pe_op op_mulW (pe_ix (ix_seqK (K := K)) (pv 0) pe_int (fun _ _ => rfl)) (pe_ix (ix_seqK (K := K)) (pv 1) pe_int (fun _ _ => rfl))) (pe_op op_mulW (pe_ix (ix_seqK (K := K)) (pv 1) pe_int (fun _ _ => rfl)) (pe_ix (ix_seqK (K := K)) (pv 0) pe_int (fun _ _ => rfl)))) (pa_cons (pe_op op_mulW (pe_ix (ix_seqK (K := K)) (pv 0) pe_int (fun _ _ => rfl)) (pe_ix (ix_seqK (K := K)) (pv 1) pe_int (fun _ _ => rfl))) pa_nil))))), ?_⟩
  refine body_pure (K := K) (C := gC K) h (fun ds d hp => by rw [len_plus_of ds d hp]; decide) (fun ds d hp F0 H0 => ?_)
  obtain ⟨x, y, rfl, hx, hy, rfl⟩ := hp
  show Sd _ _ [.d (qD x), .d (qD y)] _ _
  refine s_ret (g_call (a_cons (g_op (g_op (g_q0 (g_var rfl) g_int) (g_q1 (g_var rfl) g_int) (o_mul (cmul hx.1 (den_bits hy)))) (g_op (g_q0 (g_var rfl) g_int) (g_q1 (g_var rfl) g_int) (o_mul (cmul hy.1 (den_bits hx)))) o_add) (a_cons (g_op (g_q1 (g_var rfl) g_int) (g_q1 (g_var rfl) g_int) (o_mul (cmul (den_bits hx) (den_bits hy)))) a_nil)) ⟨_, _, rfl, Int.mul_pos (den_pos x) (den_pos y), lt2_mono (mul_bits (den_bits hx) (den_bits hy)) (by decide), ?_⟩) rfl
  rw [add_as x y]
def pre_minus_of (ds : List PyData) (d : PyData) : Prop := ∃ x y : Rat, ds = [qD x, qD y] ∧ qb 4000 x ∧ qb 4000 y ∧ d = qD (x - y)
theorem len_minus_of : ∀ ds d, pre_minus_of ds d → ds.length = 2 := by rintro _ _ ⟨i, j, rfl, _⟩; rfl
theorem ok_minus_of (T : Txt K mg) : FnOk Pg w K mg base CX0 3 (He.ga K "minus_of") (T.fd 4) ["one", "other"] (spD pre_minus_of) := by
  refine (T.F 4 d_minus_of rfl).ok sc_minus_of (spD_len (n := 2) ?len) (fun cdv A outer s H vs Q E hr h => ?_)
  case len => exact len_minus_of
  refine ⟨_, PSs.nox (pss_one (ps_ret (pe_call (ok_ratio T) (hr.mono (show 2 ≤ _ by decide)) (by rfl) T.g_ratio (T.F 2 d_ratio rfl).kp (b_ratio T) .nil pass0 (pa_cons (pe_op op_sub (pe_op op_mulW (pe_ix (ix_seqK (K := K)) (pv 0) pe_int (fun _ _ => rfl)) (pe_ix (ix_seqK (K := K)) (pv 1) pe_int (fun _ _ => rfl))) (pe_op op_mulW (pe_ix (ix_seqK (K := K)) (pv 1) pe_int (fun _ _ => rfl)) (pe_ix (ix_seqK (K := K)) (pv 0) pe_int (fun _ _ => rfl)))) (pa_cons (pe_op op_mulW (pe_ix (ix_seqK (K := K)) (pv 0) pe_int (fun _ _ => rfl)) (pe_ix (ix_seqK (K := K)) (pv 1) pe_int (fun _ _ => rfl))) pa_nil))))), ?_⟩
  refine body_pure (K := K) (C := gC K) h (fun ds d hp => by rw [len_minus_of ds d hp]; decide) (fun ds d hp F0 H0 => ?_)
  obtain ⟨x, y, rfl, hx, hy, rfl⟩ := hp
  show Sd _ _ [.d (qD x), .d (qD y)] _ _
  refine s_ret (g_call (a_cons (g_op (g_op (g_q0 (g_var rfl) g_int) (g_q1 (g_var rfl) g_int) (o_mul (cmul hx.1 (den_bits hy)))) (g_op (g_q0 (g_var rfl) g_int) (g_q1 (g_var rfl) g_int) (o_mul (cmul hy.1 (den_bits hx)))) o_sub) (a_cons (g_op (g_q1 (g_var rfl) g_int) (g_q1 (g_var rfl) g_int) (o_mul (cmul (den_bits hx) (den_bits hy)))) a_nil)) ⟨_, _, rfl, Int.mul_pos (den_pos x) (den_pos y), lt2_mono (mul_bits (den_bits hx) (den_bits hy)) (by decide), ?_⟩) rfl
  rw [sub_as x y]
def pre_times_of (ds : List PyData) (d : PyData) : Prop := ∃ x y : Rat, ds = [qD x, qD y] ∧ qb 4000 x ∧ qb 4000 y ∧ d = qD (x * y)
theorem len_times_of : ∀ ds d, pre_times_of ds d → ds.length = 2 := by rintro _ _ ⟨i, j, rfl, _⟩; rfl
theorem ok_times_of (T : Txt K mg) : FnOk Pg w K mg base CX0 3 (He.ga K "times_of") (T.fd 5) ["one", "other"] (spD pre_times_of) := by
  refine (T.F 5 d_times_of rfl).ok sc_times_of (spD_len (n := 2) ?len) (fun cdv A outer s H vs Q E hr h => ?_)
  case len => exact len_times_of
  refine ⟨_, PSs.nox (pss_one (ps_ret (pe_call (ok_ratio T) (hr.mono (show 2 ≤ _ by decide)) (by rfl) T.g_ratio (T.F 2 d_ratio rfl).kp (b_ratio T) .nil pass0 (pa_cons (pe_op op_mulW (pe_ix (ix_seqK (K := K)) (pv 0) pe_int (fun _ _ => rfl)) (pe_ix (ix_seqK (K := K)) (pv 1) pe_int (fun _ _ => rfl))) (pa_cons (pe_op op_mulW (pe_ix (ix_seqK (K := K)) (pv 0) pe_int (fun _ _ => rfl)) (pe_ix (ix_seqK (K := K)) (pv 1) pe_int (fun _ _ => rfl))) pa_nil))))), ?_⟩
  refine body_pure (K := K) (C := gC K) h (fun ds d hp => by rw [len_times_of ds d hp]; decide) (fun ds d hp F0 H0 => ?_)
  obtain ⟨x, y, rfl, hx, hy, rfl⟩ := hp
  show Sd _ _ [.d (qD x), .d (qD y)] _ _
  refine s_ret (g_call (a_cons (g_op (g_q0 (g_var rfl) g_int) (g_q0 (g_var rfl) g_int) (o_mul (cmul hx.1 hy.1))) (a_cons (g_op (g_q1 (g_var rfl) g_int) (g_q1 (g_var rfl) g_int) (o_mul (cmul (den_bits hx) (den_bits hy)))) a_nil)) ⟨_, _, rfl, Int.mul_pos (den_pos x) (den_pos y), lt2_mono (mul_bits (den_bits hx) (den_bits hy)) (by decide), ?_⟩) rfl
  rw [mul_as x y]
def pre_over_of (ds : List PyData) (d : PyData) : Prop := ∃ x y : Rat, ds = [qD x, qD y] ∧ qb 4000 x ∧ qb 4000 y ∧ 0 < y.num ∧ d = qD (x / y)
theorem len_over_of : ∀ ds d, pre_over_of ds d → ds.length = 2 := by rintro _ _ ⟨i, j, rfl, _⟩; rfl
theorem ok_over_of (T : Txt K mg) : FnOk Pg w K mg base CX0 3 (He.ga K "over_of") (T.fd 6) ["one", "other"] (spD pre_over_of) := by
  refine (T.F 6 d_over_of rfl).ok sc_over_of (spD_len (n := 2) ?len) (fun cdv A outer s H vs Q E hr h => ?_)
  case len => exact len_over_of
  refine ⟨_, PSs.nox (pss_one (ps_ret (pe_call (ok_ratio T) (hr.mono (show 2 ≤ _ by decide)) (by rfl) T.g_ratio (T.F 2 d_ratio rfl).kp (b_ratio T) .nil pass0 (pa_cons (pe_op op_mulW (pe_ix (ix_seqK (K := K)) (pv 0) pe_int (fun _ _ => rfl)) (pe_ix (ix_seqK (K := K)) (pv 1) pe_int (fun _ _ => rfl))) (pa_cons (pe_op op_mulW (pe_ix (ix_seqK (K := K)) (pv 0) pe_int (fun _ _ => rfl)) (pe_ix (ix_seqK (K := K)) (pv 1) pe_int (fun _ _ => rfl))) pa_nil))))), ?_⟩
  refine body_pure (K := K) (C := gC K) h (fun ds d hp => by rw [len_over_of ds d hp]; decide) (fun ds d hp F0 H0 => ?_)
  obtain ⟨x, y, rfl, hx, hy, h0, rfl⟩ := hp
  show Sd _ _ [.d (qD x), .d (qD y)] _ _
  refine s_ret (g_call (a_cons (g_op (g_q0 (g_var rfl) g_int) (g_q1 (g_var rfl) g_int) (o_mul (cmul hx.1 (den_bits hy)))) (a_cons (g_op (g_q1 (g_var rfl) g_int) (g_q0 (g_var rfl) g_int) (o_mul (cmul (den_bits hx) hy.1))) a_nil)) ⟨_, _, rfl, Int.mul_pos (den_pos x) h0, lt2_mono (mul_bits (den_bits hx) hy.1) (by decide), ?_⟩) rfl
  rw [div_as x y h0]
end
end Cp
end
/-! ## CDm -/
section
set_option Elab.async false
set_option linter.all false
set_option autoImplicit false
set_option maxRecDepth 100000
set_option maxHeartbeats 4000000
/-! comprehensions over lists of things that stand for data -/
namespace Cp
variable [KFix]
open PySem PySem.Spec PyProof.Rows L2
section
variable {c : Bc} {P P1 P2 : List Sl} {α β γ : Type}
theorem o_mapL {wi : TI} {g : TG} {te : TE} {vs : List Nat} {xs : List α} {r f : α → PyData} {ds : List PyData} (hd : ds = xs.map r) (hw : TId c wi P ds P) (hvs : ∀ v ∈ vs, v < P.length) (hz : xs.length ≤ 10000)
    (hs : ∀ x, x ∈ xs → ∃ ts Pa, (∀ j ∈ ts, j ∈ vs) ∧ TGd g c ts (r x) (noAt vs P) Pa ∧ noAt vs Pa = noAt vs P ∧ TEg c te Pa (f x) Pa) :
    TEo c (tLc wi g tYes te vs) P (xs.map f) (noAt vs P) := by
  subst hd
  have h := o_lc (te := te) (tt := tYes) (g := g) hw hvs (fun _ => noAt vs P) (fun i => (xs.take i).map f) rfl (by simp) (by simpa using hz) (fun i d hd => by
    rw [List.getElem?_map] at hd
    cases e : xs[i]? with
    | none => rw [e] at hd; cases hd
    | some x =>
      rw [e] at hd
      cases hd
      obtain ⟨ts, Pa, h1, h2, h3, h4⟩ := hs x (List.mem_of_getElem? e)
      refine ⟨ts, Pa, true, Pa, h1, h2, ⟨rfl, fun T σ F H Q S hl q => q F H S (Same.refl _)⟩, fun _ => ⟨f x, Pa, h4, ?_, h3.symm⟩, fun z => nomatch z⟩
      rw [List.take_add_one, e]
      simp)
  simpa using h
theorem o_filterL {wi : TI} {g : TG} {tt : TT} {te : TE} {vs : List Nat} {xs : List α} {r f : α → PyData} (p : α → Bool) {ds : List PyData} (hd : ds = xs.map r) (hw : TId c wi P ds P) (hvs : ∀ v ∈ vs, v < P.length) (hz : xs.length ≤ 10000)
    (hs : ∀ x, x ∈ xs → ∃ ts Pa, (∀ j ∈ ts, j ∈ vs) ∧ TGd g c ts (r x) (noAt vs P) Pa ∧ noAt vs Pa = noAt vs P ∧ TTg c tt Pa (p x) Pa ∧ (p x = true → TEg c te Pa (f x) Pa)) :
    TEo c (tLc wi g tt te vs) P ((xs.filter p).map f) (noAt vs P) := by
  subst hd
  have h := o_lc (te := te) (tt := tt) (g := g) hw hvs (fun _ => noAt vs P) (fun i => ((xs.take i).filter p).map f) rfl (by simp) (by simpa using hz) (fun i d hd => by
    rw [List.getElem?_map] at hd
    cases e : xs[i]? with
    | none => rw [e] at hd; cases hd
    | some x =>
      rw [e] at hd
      cases hd
      obtain ⟨ts, Pa, h1, h2, h3, h4, h5⟩ := hs x (List.mem_of_getElem? e)
      refine ⟨ts, Pa, p x, Pa, h1, h2, h4, fun hp => ⟨f x, Pa, h5 hp, ?_, h3.symm⟩, fun hp => ⟨?_, h3.symm⟩⟩
      · rw [List.take_add_one, e]
        simp [hp]
      · rw [List.take_add_one, e]
        simp [hp])
  simpa using h
theorem rng_map (n : Nat) : rngD n = (List.range n).map fun (i : Nat) => PyData.int (i : Int) := rfl
theorem en_map {r : α → PyData} (xs : List α) : enD (xs.map r) = xs.zipIdx.map fun p => PyData.tuple [.int (p.2 : Int), r p.1] := by
  refine List.ext_getElem? fun i => ?_
  unfold enD
  rw [List.getElem?_mapIdx, List.getElem?_map, List.getElem?_map, List.getElem?_zipIdx]
  cases xs[i]? <;> simp
theorem z2_map {r : α → PyData} {q : β → PyData} (xs : List α) (ys : List β) : z2D (xs.map r) (ys.map q) = (xs.zip ys).map fun p => PyData.tuple [r p.1, q p.2] := by
  unfold z2D
  rw [List.zip, List.map_zipWith, List.zipWith_map]
theorem mem_zipIdx' {xs : List α} {p : α × Nat} (h : p ∈ xs.zipIdx) : p.2 < xs.length ∧ xs[p.2]? = some p.1 := by
  have := List.mem_zipIdx_iff_getElem?.mp h
  exact ⟨(List.getElem?_eq_some_iff.mp this).1, this⟩
/-- whole numbers, ratios, texts -/
def iD (xs : List Int) : List PyData := xs.map .int
def qsD (xs : List Rat) : List PyData := xs.map qD
theorem ixN_nat {n i : Nat} (h : i < n) : ixN n (i : Int) = some i := by unfold ixN; simp [h]
theorem atI_nat {α : Type} {xs : List α} {i : Nat} {x : α} (h : xs[i]? = some x) : atI xs (i : Int) = some x := by
  unfold atI
  rw [ixN_nat (List.getElem?_eq_some_iff.mp h).1]
  exact h
theorem iD_at {xs : List Int} {i : Nat} (h : i < xs.length) : atI (iD xs) (i : Int) = some (.int (xs.getD i 0)) := atI_nat (by
  unfold iD List.getD
  rw [List.getElem?_map, List.getElem?_eq_getElem h]; rfl)
/-- the last one -/
theorem atI_last {α : Type} {xs : List α} {x : α} (h : xs.getLast? = some x) : atI xs (-1) = some x := by
  rw [List.getLast?_eq_getElem?] at h
  have h0 := (List.getElem?_eq_some_iff.mp h).1
  unfold atI ixN
  rw [if_neg (by omega), if_pos (by omega)]
  have : ((-1 : Int) + xs.length).toNat = xs.length - 1 := by omega
  show xs[((-1 : Int) + xs.length).toNat]? = some x
  rw [this]; exact h
/-! texts -/
def ckS (k : Bool) : Str := ⟨#[if k then 43 else 42]⟩
def ksS (ks : List Bool) : Str := ⟨(ks.map fun k => if k then 43 else 42).toArray⟩
def sgS : Sn → Str | .ge => ">=" | .le => "<=" | .eq => "="
theorem ch_ks (ks : List Bool) : chD (ksS ks) = ks.map fun k => PyData.str (ckS k) := by
  unfold chD ksS ckS
  simp
theorem ks_len (ks : List Bool) : (ksS ks).length = ks.length := by
  show (ks.map _).toArray.size = _
  simp
theorem ck_plus (k : Bool) : PyData.eqv (.str (ckS k)) (.str ("+" : Str)) = k := by cases k <;> decide +kernel
theorem sg_ge (s : Sn) : PyData.eqv (.str (sgS s)) (.str (">=" : Str)) = decide (s = .ge) := by cases s <;> decide +kernel
theorem sg_le (s : Sn) : PyData.eqv (.str (sgS s)) (.str ("<=" : Str)) = decide (s = .le) := by cases s <;> decide +kernel
theorem shp_ck (k : Bool) : SeqAt.shaped (.str (ckS k)) = true := by cases k <;> decide +kernel
theorem shp_sg (k : Sn) : SeqAt.shaped (.str (sgS k)) = true := by cases k <;> decide +kernel
theorem shp_q (x : Rat) : SeqAt.shaped (qD x) = true := by simp [qD, SeqAt.shaped, PyData.canLay0, PyData.canLayAll0, PyData.depth, PyData.depthAll]
theorem joinL_ones : ∀ cs : List Nat, TL.joinL [] (cs.map fun c => [c]) = cs
  | [] => rfl
  | [c] => rfl
  | c :: d :: r => by
    show [c] ++ ([] ++ TL.joinL [] ((d :: r).map fun c => [c])) = _
    rw [joinL_ones]; rfl
theorem join_ks (ks : List Bool) : Txt.join ("" : Str) (ks.map ckS) = ksS ks := by
  refine TL.ext_tl ((congrArg TL.tl (TL.join_eq _ _)).trans ?_)
  rw [TL.tl_join]
  have e2 : TL.tl ("" : Str) = [] := by decide +kernel
  have e : (ks.map ckS).map TL.tl = (ks.map fun k => if k then 43 else 42).map fun c => [c] := by
    rw [List.map_map, List.map_map]; rfl
  rw [e2, e, joinL_ones]
  rfl
theorem g_join {to te : TE} {a : Str} {ys : List Str} (ho : TEg c to P (.str a) P1) (he : TEg c te P1 (.list (ys.map .str)) P2) (hz : (ys.map (·.length)).sum + ys.length * a.length ≤ 16777216) :
    TEg c (tM1 (fun x xs H Q => ∃ a p, ∃ ys : List Str, x = .str a ∧ xs = [.ref p] ∧ (SqL c.K H p (ys.map V.str) ∨ SqT c.K H p (ys.map V.str)) ∧ (ys.map (·.length)).sum + ys.length * a.length ≤ 16777216 ∧ Q (.str (Txt.join a ys)) H) to te) P (.str (Txt.join a ys)) P2 := by
  refine ⟨he.len.trans ho.len, fun T σ F H Q S hl q => ?_⟩
  refine ho.run T σ F H _ S hl fun x F1 H1 S1 m1 r1 => ?_
  cases r1
  refine ⟨⟨a, rfl⟩, he.run T σ F1 H1 _ S1 (hl.trans ho.len.symm) fun y F2 H2 S2 m2 r2 => ?_⟩
  cases r2 with
  | lst e l =>
    have inv : ∀ {vs : List V} {ys : List Str}, RpL F2 vs (ys.map .str) → vs = ys.map V.str := by
      intro vs ys
      induction ys generalizing vs with
      | nil => intro h; cases h; rfl
      | cons y ys ih =>
        intro h
        cases h with
        | cons r rr =>
          cases r
          rw [ih rr]; rfl
    have e2 := inv l
    subst e2
    exact ⟨a, _, ys, rfl, rfl, .inl (SqL.of (S2.sub _ _ e)), hz, q _ F2 H2 S2 (m1.trans m2) (.str _)⟩
theorem o_cats {i j : Str} (h : i.length + j.length ≤ 10000) : O2 (fun x y H Q => ∃ i j, x = .str i ∧ y = .str j ∧ i.length + j.length ≤ sizeLine ∧ Q (.str (i ++ j)) H) (.str i) (.str j) (.str (i ++ j)) := fun F H x y Q s r1 r2 q => by
  cases r1
  cases r2
  exact ⟨i, j, rfl, rfl, Nat.le_trans h (by decide), q _ F H (Ex.refl s) (.str _)⟩
/-! tasks as data -/
def rwD (r : Rw) : PyData := .tuple [.tuple (iD r.cs), .str (sgS r.sn), .int r.rt]
def tD (T : Tsk) : PyData := .tuple [.str (ksS T.ks), .tuple (iD T.cs), .tuple (T.rows.map rwD)]
theorem atT0 {a b d : PyData} : atI [a, b, d] 0 = some a := rfl
theorem atT1 {a b d : PyData} : atI [a, b, d] 1 = some b := rfl
theorem atT2 {a b d : PyData} : atI [a, b, d] 2 = some d := rfl
end
end Cp
end
/-! ## CF2 -/
section
set_option Elab.async false
set_option linter.all false
set_option autoImplicit false
set_option maxRecDepth 100000
set_option maxHeartbeats 4000000
set_option exponentiation.threshold 100000
namespace Cp
variable [KFix]
open PySem PySem.Spec PyProof.Rows L2
section
variable {Pg : Program} {w : World} {K : PySem.W.Frag} {mg : Str → Option Value} {base : Heap}
theorem t_eqI {c : Bc} {P P1 P2 : List Sl} {ta tb : TE} {i j : Int} (ha : TEg c ta P (.int i) P1) (hb : TEg c tb P1 (.int j) P2) : TTg c (tTest (tOp (rEqD K) ta tb)) P (decide (i = j)) P2 := (t_cmp (g_op ha hb (o_eq rfl rfl))).eq (by
  show (i == j) = _
  by_cases h : i = j <;> simp [h])
def pre_unit (ds : List PyData) (d : PyData) : Prop := ∃ (n at_ : Nat) (s : Int), ds = [.int n, .int at_, .int s] ∧ n ≤ 1000 ∧ d = .tuple (iD (unitI n at_ s))
theorem len_unit : ∀ ds d, pre_unit ds d → ds.length = 3 := by rintro _ _ ⟨_, _, _, rfl, _⟩; rfl
theorem ok_unit (T : Txt K mg) : FnOk Pg w K mg base CX0 1 (He.ga K "unit") (T.fd 34) ["many", "at", "sign"] (spD pre_unit) := by
  refine (T.F 34 d_unit rfl).ok sc_unit (spD_len (n := 3) ?len) (fun cdv A outer s H vs Q E hr h => ?_)
  case len => exact len_unit
  refine ⟨_, PSs.nox (pss_one (ps_ret (pe_callTy call_tuple_of (by rfl) T.n_tuple (by decide +kernel) (pa_cons (pe_lc (own := [("one", 3)]) (by rfl) sc_unit.nd (pi_range1 (by rfl) T.n_range (pa_cons (pv 0) pa_nil)) (blkOk_by (N := ["many", "at", "sign", "one"]) (sc := defScope s_unit) (by decide +kernel)) (fun _ _ _ _ _ => (pg_name (i := 3) sc_unit.nd rfl (by first | exact Or.inl rfl | exact Or.inr rfl))) (fun _ _ _ _ _ => pts_nil) (fun _ _ _ _ _ => (pe_ifExp (pt_cmpR (op_eqDK (K := K) hr.units) (pv 3) (pv 1) (nomark _)) (pv 2) pe_int))) pa_nil)))), ?_⟩
  refine body_pure (K := K) (C := gC K) h (fun ds d hp => by rw [len_unit ds d hp]; decide) (fun ds d hp F0 H0 => ?_)
  obtain ⟨n, at_, s, rfl, hn, rfl⟩ := hp
  show Sd _ _ [.d (.int n), .d (.int at_), .d (.int s), .no] _ _
  refine s_ret (g_cb (a_cons (TEo.g (o_mapL (xs := List.range n) (f := fun i => .int (if i = at_ then s else 0)) (rng_map n) (i_rng (a_cons (g_var rfl) a_nil) (by omega)) (by simp) (by simpa using Nat.le_trans hn (by decide)) fun x hx => ?_)) a_nil) b_tuple) ?_
  · refine ⟨_, _, by simp, d_name (by simp [noAt]), rfl, ?_⟩
    refine g_if (b := decide (x = at_)) ((t_eqI (g_var rfl) (g_var rfl)).eq (by simp; omega)) (fun h => (g_var rfl).eq ?_) (fun h => g_int.eq ?_)
    · have := of_decide_eq_true h
      rw [if_pos this]
    · have := of_decide_eq_false h
      rw [if_neg this]
  · unfold unitI iD
    rw [List.map_map]; rfl
def pre_priced (ds : List PyData) (d : PyData) : Prop := ∃ (T : Tsk) (c : List Int), (ds = [tD T, .tuple (iD c)] ∨ ds = [tD T, .list (iD c)]) ∧ d = tD (priced T c)
theorem len_priced : ∀ ds d, pre_priced ds d → ds.length = 2 := by rintro _ _ ⟨_, _, rfl | rfl, _⟩ <;> rfl
theorem ok_priced (T : Txt K mg) : FnOk Pg w K mg base CX0 1 (He.ga K "priced") (T.fd 33) ["task", "costs"] (spD pre_priced) := by
  refine (T.F 33 d_priced rfl).ok sc_priced (spD_len (n := 2) ?len) (fun cdv A outer s H vs Q E hr h => ?_)
  case len => exact len_priced
  refine ⟨_, PSs.nox (pss_one (ps_ret (pe_tup (pa_cons (pe_ix (ix_seqK (K := K)) (pv 0) pe_int (fun _ _ => rfl)) (pa_cons (pe_callTy call_tuple_of (by rfl) T.n_tuple (by decide +kernel) (pa_cons (pv 1) pa_nil)) (pa_cons (pe_ix (ix_seqK (K := K)) (pv 0) pe_int (fun _ _ => rfl)) pa_nil)))))), ?_⟩
  refine body_pure (K := K) (C := gC K) h (fun ds d hp => by rw [len_priced ds d hp]; decide) (fun ds d hp F0 H0 => ?_)
  obtain ⟨U, c, h, rfl⟩ := hp
  rcases h with rfl | rfl
  · show Sd _ _ [.d (tD U), .d (.tuple (iD c))] _ _
    exact s_ret (g_tup (a_cons (g_op (g_var rfl) g_int (o_ixqT atT0)) (a_cons (g_cb (a_cons (g_var rfl) a_nil) b_tupleT) (a_cons (g_op (g_var rfl) g_int (o_ixqT atT2)) a_nil))) (by simp)) rfl
  · show Sd _ _ [.d (tD U), .d (.list (iD c))] _ _
    exact s_ret (g_tup (a_cons (g_op (g_var rfl) g_int (o_ixqT atT0)) (a_cons (g_cb (a_cons (g_var rfl) a_nil) b_tuple) (a_cons (g_op (g_var rfl) g_int (o_ixqT atT2)) a_nil))) (by simp)) rfl
def pre_turned_row (ds : List PyData) (d : PyData) : Prop := ∃ r : Rw, ds = [rwD r] ∧ r.cs.length ≤ 1000 ∧ d = rwD r.plain
theorem len_turned_row : ∀ ds d, pre_turned_row ds d → ds.length = 1 := by rintro _ _ ⟨_, rfl, _⟩; rfl
theorem ok_turned_row (T : Txt K mg) : FnOk Pg w K mg base CX0 1 (He.ga K "turned_row") (T.fd 22) ["row"] (spD pre_turned_row) := by
  refine (T.F 22 d_turned_row rfl).ok sc_turned_row (spD_len (n := 1) ?len) (fun cdv A outer s H vs Q E hr h => ?_)
  case len => exact len_turned_row
  refine ⟨_, PSs.nox (pss_cons (ps_if (pt_cmpR (op_eqDK (K := K) hr.units) (pe_ix (ix_seqK (K := K)) (pv 0) pe_int (fun _ _ => rfl)) pe_str (nomark _)) (pss_one (ps_ret (pe_tup (pa_cons (pe_callTy call_tuple_of (by rfl) T.n_tuple (by decide +kernel) (pa_cons (pe_lc (own := [("one", 1)]) (by rfl) sc_turned_row.nd (pi_tup (pe_ix (ix_seqK (K := K)) (pv 0) pe_int (fun _ _ => rfl))) (blkOk_by (N := ["row", "one"]) (sc := defScope s_turned_row) (by decide +kernel)) (fun _ _ _ _ _ => (pg_name (i := 1) sc_turned_row.nd rfl (by first | exact Or.inl rfl | exact Or.inr rfl))) (fun _ _ _ _ _ => pts_nil) (fun _ _ _ _ _ => (pe_un un_neg (pv 1)))) pa_nil)) (pa_cons pe_str (pa_cons (pe_un un_neg (pe_ix (ix_seqK (K := K)) (pv 0) pe_int (fun _ _ => rfl))) pa_nil)))))) pss_nil)
      (pss_one (ps_ret (pv 0)))), ?_⟩
  refine body_pure (K := K) (C := gC K) h (fun ds d hp => by rw [len_turned_row ds d hp]; decide) (fun ds d hp F0 H0 => ?_)
  obtain ⟨r, rfl, hl, rfl⟩ := hp
  show Sd _ _ [.d (rwD r), .no] _ _
  refine s_seq (M := fun P' => r.sn ≠ .le ∧ P' = [.d (rwD r), .no]) (s_if (b := decide (r.sn = .le)) ((t_cmp (g_op (g_op (g_var rfl) g_int (o_ixqT atT1)) g_str (o_eq (shp_sg _) (by decide +kernel)))).eq (sg_le r.sn)) (fun h => ?_) fun h => s_next ⟨of_decide_eq_false h, rfl⟩) ?_
  · have h := of_decide_eq_true h
    refine s_ret (g_tup (a_cons (g_cb (a_cons (TEo.g (o_mapL (xs := r.cs) (r := .int) (f := fun i => .int (-i)) rfl (i_tup (g_op (g_var rfl) g_int (o_ixqT atT0))) (by simp) (by omega) fun x hx => ⟨_, _, by simp, d_name (by simp [noAt]), rfl, g_un (g_var rfl) o_neg⟩)) a_nil) b_tuple) (a_cons g_str (a_cons (g_un (g_op (g_var rfl) g_int (o_ixqT atT2)) o_neg) a_nil))) (by simp)) ?_
    unfold Rw.plain
    rw [h]
    unfold rwD negs iD
    simp only [List.map_map]
    rfl
  · rintro _ ⟨h, rfl⟩
    refine s_ret (g_var rfl) ?_
    unfold Rw.plain
    cases e : r.sn with
    | le => exact absurd e h
    | ge => rfl
    | eq => rfl
/-- sizes of tasks as lists -/
structure Sz (T : Tsk) : Prop where
  ks : T.ks.length ≤ 1000
  cs : T.cs.length ≤ 1000
  rows : T.rows.length ≤ 1000
  row : ∀ r, r ∈ T.rows → r.cs.length ≤ 1000
def pre_plain_of (ds : List PyData) (d : PyData) : Prop := ∃ T : Tsk, ds = [tD T] ∧ Sz T ∧ d = tD T.plain
theorem len_plain_of : ∀ ds d, pre_plain_of ds d → ds.length = 1 := by rintro _ _ ⟨_, rfl, _⟩; rfl
theorem ok_plain_of (T : Txt K mg) : FnOk Pg w K mg base CX0 2 (He.ga K "plain_of") (T.fd 23) ["task"] (spD pre_plain_of) := by
  refine (T.F 23 d_plain_of rfl).ok sc_plain_of (spD_len (n := 1) ?len) (fun cdv A outer s H vs Q E hr h => ?_)
  case len => exact len_plain_of
  refine ⟨_, PSs.nox (pss_one (ps_ret (pe_tup (pa_cons (pe_ix (ix_seqK (K := K)) (pv 0) pe_int (fun _ _ => rfl)) (pa_cons (pe_ix (ix_seqK (K := K)) (pv 0) pe_int (fun _ _ => rfl)) (pa_cons (pe_callTy call_tuple_of (by rfl) T.n_tuple (by decide +kernel) (pa_cons (pe_lc (own := [("row", 1)]) (by rfl) sc_plain_of.nd (pi_tup (pe_ix (ix_seqK (K := K)) (pv 0) pe_int (fun _ _ => rfl))) (blkOk_by (N := ["task", "row"]) (sc := defScope s_plain_of) (by decide +kernel)) (fun _ _ _ _ _ => (pg_name (i := 1) sc_plain_of.nd rfl (by first | exact Or.inl rfl | exact Or.inr rfl))) (fun _ _ _ _ _ => pts_nil) (fun _ _ _ _ _ => (pe_call (ok_turned_row T) (hr.mono (show 1 ≤ _ by decide)) (by rfl) T.g_turned_row (T.F 22 d_turned_row rfl).kp (b_turned_row T) .nil pass0 (pa_cons (pv 1) pa_nil)))) pa_nil)) pa_nil)))))), ?_⟩
  refine body_pure (K := K) (C := gC K) h (fun ds d hp => by rw [len_plain_of ds d hp]; decide) (fun ds d hp F0 H0 => ?_)
  obtain ⟨U, rfl, hz, rfl⟩ := hp
  show Sd _ _ [.d (tD U), .no] _ _
  refine s_ret (g_tup (a_cons (g_op (g_var rfl) g_int (o_ixqT atT0)) (a_cons (g_op (g_var rfl) g_int (o_ixqT atT1)) (a_cons (g_cb (a_cons (TEo.g (o_mapL (xs := U.rows) (r := rwD) (f := fun r => rwD r.plain) rfl (i_tup (g_op (g_var rfl) g_int (o_ixqT atT2))) (by simp) (by have := hz.rows; omega) fun x hx => ⟨_, _, by simp, d_name (by simp [noAt]), rfl, g_call (a_cons (g_var rfl) a_nil) ⟨x, rfl, hz.row x hx, rfl⟩⟩)) a_nil) b_tuple) a_nil))) (by simp)) ?_
  unfold tD Tsk.plain
  simp only [List.map_map]
  rfl
def ibd (n : Nat) (xs : List Int) : Prop := ∀ a, a ∈ xs → a.natAbs < 2 ^ n
def pre_kept (ds : List PyData) (d : PyData) : Prop := ∃ (T : Tsk) (v : Rat), ds = [tD T, qD v] ∧ Sz T ∧ ibd 1000 T.cs ∧ qb 4000 v ∧ d = tD (kept T v)
theorem len_kept : ∀ ds d, pre_kept ds d → ds.length = 2 := by rintro _ _ ⟨_, _, rfl, _⟩; rfl
theorem ok_kept (T : Txt K mg) : FnOk Pg w K mg base CX0 1 (He.ga K "kept") (T.fd 32) ["task", "value"] (spD pre_kept) := by
  refine (T.F 32 d_kept rfl).ok sc_kept (spD_len (n := 2) ?len) (fun cdv A outer s H vs Q E hr h => ?_)
  case len => exact len_kept
  refine ⟨_, PSs.nox (pss_cons (ps_set (i := 2) sc_kept.nd rfl (by first | exact Or.inl rfl | exact Or.inr rfl) (pe_tup (pa_cons (pe_callTy call_tuple_of (by rfl) T.n_tuple (by decide +kernel) (pa_cons (pe_lc (own := [("one", 3)]) (by rfl) sc_kept.nd (pi_tup (pe_ix (ix_seqK (K := K)) (pv 0) pe_int (fun _ _ => rfl))) (blkOk_by (N := ["task", "value", "row", "one"]) (sc := defScope s_kept) (by decide +kernel)) (fun _ _ _ _ _ => (pg_name (i := 3) sc_kept.nd rfl (by first | exact Or.inl rfl | exact Or.inr rfl))) (fun _ _ _ _ _ => pts_nil) (fun _ _ _ _ _ => (pe_op op_mulW (pv 3) (pe_ix (ix_seqK (K := K)) (pv 1) pe_int (fun _ _ => rfl))))) pa_nil)) (pa_cons pe_str (pa_cons (pe_ix (ix_seqK (K := K)) (pv 1) pe_int (fun _ _ => rfl)) pa_nil)))))
      (pss_one (ps_ret (pe_tup (pa_cons (pe_ix (ix_seqK (K := K)) (pv 0) pe_int (fun _ _ => rfl)) (pa_cons (pe_ix (ix_seqK (K := K)) (pv 0) pe_int (fun _ _ => rfl)) (pa_cons (pe_tup (StX.pa_star (pe_ix (ix_seqK (K := K)) (pv 0) pe_int (fun _ _ => rfl)) (pa_cons (pv 2) pa_nil))) pa_nil))))))), ?_⟩
  refine body_pure (K := K) (C := gC K) h (fun ds d hp => by rw [len_kept ds d hp]; decide) (fun ds d hp F0 H0 => ?_)
  obtain ⟨U, v, rfl, hz, hc, hv, rfl⟩ := hp
  show Sd _ _ [.d (tD U), .d (qD v), .no, .no] _ _
  refine s_seq1 (P' := [.d (tD U), .d (qD v), .d (rwD ⟨U.cs.map fun one => one * (v.den : Int), .eq, v.num⟩), .no]) ?_ ?_
  · refine s_set (d := rwD ⟨U.cs.map fun one => one * (v.den : Int), .eq, v.num⟩) ((g_tup (a_cons (g_cb (a_cons (TEo.g (o_mapL (xs := U.cs) (r := .int) (f := fun i => .int (i * (v.den : Int))) rfl (i_tup (g_op (g_var rfl) g_int (o_ixqT atT1))) (by simp) (by have := hz.cs; omega) fun x hx => ⟨_, _, by simp, d_name (by simp [noAt]), rfl, g_op (g_var rfl) (g_q1 (g_var rfl) g_int) (o_mul (cmul (hc x hx) (den_bits hv)))⟩)) a_nil) b_tuple) (a_cons g_str (a_cons (g_q0 (g_var rfl) g_int) a_nil))) (by simp)).eq ?_) (by simp [noAt]) rfl
    unfold rwD iD
    simp only [List.map_map]
    rfl
  · refine s_ret (g_tup (a_cons (g_op (g_var rfl) g_int (o_ixqT atT0)) (a_cons (g_op (g_var rfl) g_int (o_ixqT atT1)) (a_cons (g_tup (a_star (.inl (g_op (g_var rfl) g_int (o_ixqT atT2))) (a_cons (g_var rfl) a_nil)) (by have := hz.rows; simp; omega)) a_nil))) (by simp)) ?_
    unfold tD kept
    simp
end
end Cp
end
/-! ## CF3 -/
section
set_option Elab.async false
set_option linter.all false
set_option autoImplicit false
set_option maxRecDepth 100000
set_option maxHeartbeats 4000000
set_option exponentiation.threshold 100000
namespace Cp
variable [KFix]
open PySem PySem.Spec PyProof.Rows L2
/-- the common low number -/
def lcS (l : Int) (x : Rat) : Int := l * (x.den : Int) / (Int.gcd l (x.den : Int) : Int)
def lcL (xs : List Rat) : Int := xs.foldl lcS 1
theorem lcS_spec {l : Int} (h : 0 < l) (x : Rat) : 0 < lcS l x ∧ l ∣ lcS l x ∧ (x.den : Int) ∣ lcS l x ∧ (lcS l x).natAbs ≤ l.natAbs * x.den := by
  have hd := den_pos x
  have hg := gcd_pos (t := l) hd
  obtain ⟨a, ha⟩ := Int.gcd_dvd_left l (x.den : Int)
  obtain ⟨b, hb⟩ := Int.gcd_dvd_right l (x.den : Int)
  have e : lcS l x = l * b := by
    unfold lcS
    conv => lhs; lhs; rhs; rw [hb]
    rw [← Int.mul_assoc, Int.mul_comm l, Int.mul_assoc, Int.mul_ediv_cancel_left _ (by omega)]
  have e2 : lcS l x = (x.den : Int) * a := by
    unfold lcS
    conv => lhs; lhs; lhs; rw [ha]
    rw [Int.mul_assoc, Int.mul_ediv_cancel_left _ (by omega), Int.mul_comm]
  have hb0 : 0 < b := by
    rcases Int.lt_trichotomy b 0 with z | z | z
    · have := Int.mul_neg_of_pos_of_neg hg z; omega
    · rw [z, Int.mul_zero] at hb; omega
    · exact z
  refine ⟨by rw [e]; exact Int.mul_pos h hb0, ⟨b, e⟩, ⟨a, e2⟩, ?_⟩
  rw [e, Int.natAbs_mul]
  refine Nat.mul_le_mul_left _ ?_
  have h1 : ((x.den : Nat) : Int).natAbs = (Int.gcd l (x.den : Int) : Int).natAbs * b.natAbs := by rw [← Int.natAbs_mul, ← hb]
  rw [Int.natAbs_natCast, Int.natAbs_natCast] at h1
  rw [h1]
  exact Nat.le_mul_of_pos_left _ (by omega)
theorem lcL_spec {n : Nat} : ∀ (xs : List Rat), (∀ x, x ∈ xs → qb n x) → ∀ l : Int, 0 < l → 0 < xs.foldl lcS l ∧ l ∣ xs.foldl lcS l ∧ (∀ x, x ∈ xs → (x.den : Int) ∣ xs.foldl lcS l) ∧ (xs.foldl lcS l).natAbs ≤ l.natAbs * 2 ^ (n * xs.length)
  | [], _, l, h => ⟨h, ⟨1, by simp⟩, fun x hx => by simp at hx, by simp⟩
  | x :: xs, hq, l, h => by
    obtain ⟨h1, h2, h3, h4⟩ := lcS_spec h x
    obtain ⟨k1, k2, k3, k4⟩ := lcL_spec xs (fun y hy => hq y (List.mem_cons_of_mem _ hy)) (lcS l x) h1
    refine ⟨k1, Int.dvd_trans h2 k2, fun y hy => ?_, ?_⟩
    · rcases List.mem_cons.mp hy with rfl | hy
      · exact Int.dvd_trans h3 k2
      · exact k3 y hy
    · refine Nat.le_trans k4 ?_
      have hx := (hq x List.mem_cons_self).2
      rw [List.length_cons, Nat.mul_add, Nat.mul_one, Nat.pow_add, Nat.mul_comm (2 ^ _), ← Nat.mul_assoc]
      refine Nat.mul_le_mul_right _ (Nat.le_trans h4 (Nat.mul_le_mul_left _ (Nat.le_of_lt hx)))
theorem dot_lc {L : Int} (hL : 0 < L) : ∀ (ns : List Int) (xs : List Rat), (∀ x, x ∈ xs → (x.den : Int) ∣ L) → (((ns.zip xs).map fun p => p.1 * p.2.num * (L / (p.2.den : Int))).sum : Rat) = dotR ns xs * (L : Rat)
  | [], xs, _ => by cases xs <;> simp [dotR]
  | n :: ns, [], _ => by simp [dotR]
  | n :: ns, x :: xs, h => by
    have ih := dot_lc hL ns xs fun y hy => h y (List.mem_cons_of_mem _ hy)
    show ((n * x.num * (L / (x.den : Int)) + ((ns.zip xs).map fun p => p.1 * p.2.num * (L / (p.2.den : Int))).sum : Int) : Rat) = ((n : Rat) * x + dotR ns xs) * (L : Rat)
    rw [Rat.intCast_add, ih, Rat.intCast_mul, Rat.intCast_mul]
    obtain ⟨k, hk⟩ := h x List.mem_cons_self
    have e : L / (x.den : Int) = k := by
      rw [hk]; exact Int.mul_ediv_cancel_left _ (by have := den_pos x; omega)
    rw [e]
    have e2 : (L : Rat) = (x.den : Rat) * (k : Rat) := by rw [hk, Rat.intCast_mul, Rat.intCast_natCast]
    rw [e2, num_eq]; grind
section
variable {Pg : Program} {w : World} {K : PySem.W.Frag} {mg : Str → Option Value} {base : Heap}
def pre_dot (ds : List PyData) (d : PyData) : Prop := ∃ (ns : List Int) (xs : List Rat), ds = [.tuple (iD ns), .tuple (qsD xs)] ∧ ibd 1000 ns ∧ (∀ x, x ∈ xs → qb 1100 x) ∧ xs.length ≤ 6 ∧ d = qD (dotR ns xs)
theorem len_dot : ∀ ds d, pre_dot ds d → ds.length = 2 := by rintro _ _ ⟨_, _, rfl, _⟩; rfl
theorem ok_dot (T : Txt K mg) : FnOk Pg w K mg base CX0 3 (He.ga K "dot") (T.fd 7) ["numbers", "plan"] (spD pre_dot) := by
  refine (T.F 7 d_dot rfl).ok sc_dot (spD_len (n := 2) ?len) (fun cdv A outer s H vs Q E hr h => ?_)
  case len => exact len_dot
  refine ⟨_, PSs.nox (pss_cons (ps_set (i := 2) sc_dot.nd rfl (by first | exact Or.inl rfl | exact Or.inr rfl) pe_int)
      (pss_cons (ps_for PassesOwn.never rfl (pi_tup (pv 1)) (pg_name (i := 3) sc_dot.nd rfl (by first | exact Or.inl rfl | exact Or.inr rfl)) (pss_one (ps_set (i := 2) sc_dot.nd rfl (by first | exact Or.inl rfl | exact Or.inr rfl) (pe_op op_fdivW (pe_op op_mulW (pv 2) (pe_ix (ix_seqK (K := K)) (pv 3) pe_int (fun _ _ => rfl))) (pe_call (ok_divisor T) (hr.mono (show 1 ≤ _ by decide)) (by rfl) T.g_divisor (T.F 1 d_divisor rfl).kp (b_divisor T) .nil pass0 (pa_cons (pv 2) (pa_cons (pe_ix (ix_seqK (K := K)) (pv 3) pe_int (fun _ _ => rfl)) pa_nil)))))))
      (pss_one (ps_ret (pe_call (ok_ratio T) (hr.mono (show 2 ≤ _ by decide)) (by rfl) T.g_ratio (T.F 2 d_ratio rfl).kp (b_ratio T) .nil pass0 (pa_cons (pe_callB (cr_sum (by rfl)) (by rfl) T.n_sum (by decide +kernel) (pa_cons (pe_lc (own := [("number", 4), ("one", 3)]) (by rfl) sc_dot.nd (pi_z2Q (by rfl) T.n_zip (pa_cons (pv 0) (pa_cons (pv 1) pa_nil))) (blkOk_by (N := ["numbers", "plan", "low", "one", "number"]) (sc := defScope s_dot) (by decide +kernel)) (fun _ _ _ _ _ => (pg_tupK (K := K) (n := 2) (by rfl) (pgs_cons (pg_name (i := 4) sc_dot.nd rfl (by first | exact Or.inl rfl | exact Or.inr rfl)) (pgs_cons (pg_name (i := 3) sc_dot.nd rfl (by first | exact Or.inl rfl | exact Or.inr rfl)) pgs_nil)))) (fun _ _ _ _ _ => pts_nil) (fun _ _ _ _ _ => (pe_op op_mulW (pe_op op_mulW (pv 4) (pe_ix (ix_seqK (K := K)) (pv 3) pe_int (fun _ _ => rfl))) (pe_op op_fdivW (pv 2) (pe_ix (ix_seqK (K := K)) (pv 3) pe_int (fun _ _ => rfl)))))) pa_nil)) (pa_cons (pv 2) pa_nil))))))), ?_⟩
  refine body_pure (K := K) (C := gC K) h (fun ds d hp => by rw [len_dot ds d hp]; decide) (fun ds d hp F0 H0 => ?_)
  obtain ⟨ns, xs, rfl, hn, hx, h6, rfl⟩ := hp
  show Sd _ _ [.d (.tuple (iD ns)), .d (.tuple (qsD xs)), .no, .no, .no] _ _
  have lcb : ∀ i, (lcL (xs.take i)).natAbs < 2 ^ 6601 ∧ 0 < lcL (xs.take i) := fun i => by
    obtain ⟨k1, k2, k3, k4⟩ := lcL_spec (n := 1100) (xs.take i) (fun x h => hx x (List.mem_of_mem_take h)) 1 (by decide)
    refine ⟨Nat.lt_of_le_of_lt k4 ?_, k1⟩
    have : (xs.take i).length ≤ 6 := by rw [List.length_take]; omega
    show 1 * _ < _
    rw [Nat.one_mul]
    exact Nat.pow_lt_pow_right (by decide) (by omega)
  refine s_seq1 (P' := [.d (.tuple (iD ns)), .d (.tuple (qsD xs)), .d (.int 1), .no, .no]) (s_set g_int (by simp) rfl) ?_
  refine s_seq (M := fun P' => ∃ s, P' = [.d (.tuple (iD ns)), .d (.tuple (qsD xs)), .d (.int (lcL xs)), s, .no]) (s_for (ds := qsD xs) (i_tup (g_var rfl)) (fun i P' => ∃ s, P' = [.d (.tuple (iD ns)), .d (.tuple (qsD xs)), .d (.int (lcL (xs.take i))), s, .no]) ⟨_, rfl⟩ ?_ ?_) ?_
  · rintro i d P2 hd ⟨s, rfl⟩
    unfold qsD at hd
    rw [List.getElem?_map] at hd
    cases e : xs[i]? with
    | none => rw [e] at hd; cases hd
    | some x =>
      rw [e] at hd
      cases hd
      have hq := hx x (List.mem_of_getElem? e)
      obtain ⟨lb, l0⟩ := lcb i
      have hg := gcd_pos (t := lcL (xs.take i)) (den_pos x)
      have hg2 : ((Int.gcd (lcL (xs.take i)) (x.den : Int) : Nat) : Int).natAbs < 2 ^ 1100 := Nat.lt_of_le_of_lt (by have := gcd_le (t := lcL (xs.take i)) (den_pos x); omega) hq.2
      refine ⟨_, [.d (.tuple (iD ns)), .d (.tuple (qsD xs)), .d (.int (lcL (xs.take i))), .d (qD x), .no], d_name (by simp), s_set (g_op (g_op (g_var rfl) (g_q1 (g_var rfl) g_int) (o_mul (cmul lb (den_bits hq)))) (g_call (a_cons (g_var rfl) (a_cons (g_q1 (g_var rfl) g_int) a_nil)) ⟨_, _, rfl, rfl⟩) (o_div (cdiv hg hg2))) (by simp) ⟨.d (qD x), ?_⟩⟩
      have e3 : lcL (xs.take (i + 1)) = lcS (lcL (xs.take i)) x := by
        unfold lcL
        rw [List.take_add_one, e, List.foldl_append]; rfl
      rw [e3]; rfl
  · rintro _ ⟨s, rfl⟩
    refine ⟨s, ?_⟩
    have : (qsD xs).length = xs.length := by simp [qsD]
    rw [this, List.take_length]
  · rintro _ ⟨s, rfl⟩
    obtain ⟨lb, l0⟩ := lcb xs.length
    rw [List.take_length] at lb l0
    obtain ⟨k1, k2, k3, k4⟩ := lcL_spec (n := 1100) xs hx 1 (by decide)
    have k3 : ∀ x, x ∈ xs → (x.den : Int) ∣ lcL xs := k3
    refine s_ret (g_call (a_cons (g_cb (a_cons ((TEo.g (o_mapL (P := [.d (.tuple (iD ns)), .d (.tuple (qsD xs)), .d (.int (lcL xs)), s, .no]) (xs := ns.zip xs) (f := fun p => .int (p.1 * p.2.num * (lcL xs / (p.2.den : Int)))) (z2_map (r := .int) (q := qD) ns xs) (i_z2 (a_cons (g_var rfl) (a_cons (g_var rfl) a_nil)) its_t its_t) (by simp) (by simp; omega) fun p hp => ?_)).eq (d' := dInts ((ns.zip xs).map fun p => p.1 * p.2.num * (lcL xs / (p.2.den : Int)))) (by unfold dInts; rw [List.map_map]; rfl)) a_nil) b_sum) (a_cons (g_var rfl) a_nil)) ⟨_, _, rfl, l0, lt2_mono lb (by decide), rfl⟩) ?_
    · have hn' := hn p.1 (List.of_mem_zip hp).1
      have hx' := hx p.2 (List.of_mem_zip hp).2
      refine ⟨_, [.d (.tuple (iD ns)), .d (.tuple (qsD xs)), .d (.int (lcL xs)), .d (qD p.2), .d (.int p.1)], ?_, d_tup (ds_cons (d_name (by simp [noAt])) (ds_cons (d_name (by simp [noAt])) ds_nil)) rfl, rfl, ?_⟩
      · simp
      · have hb : (lcL xs / (p.2.den : Int)).natAbs < 2 ^ 6601 := by
          refine Nat.lt_of_le_of_lt ?_ lb
          have h1 := Int.ediv_le_self (b := (p.2.den : Int)) (Int.le_of_lt l0)
          have h2 := Int.ediv_nonneg (Int.le_of_lt l0) (Int.le_of_lt (den_pos p.2))
          omega
        exact g_op (g_op (g_var rfl) (g_q0 (g_var rfl) g_int) (o_mul (cmul hn' hx'.1))) (g_op (g_var rfl) (g_q1 (g_var rfl) g_int) (o_div (cdiv (den_pos p.2) (den_bits hx')))) (o_mul (cmul (mul_bits hn' hx'.1) hb))
    · rw [dot_lc l0 ns xs k3]
      have : (lcL xs : Rat) ≠ 0 := by
        have := cast_pos l0
        grind
      congr 1
      grind
end
end Cp
end
/-! ## CF4 -/
section
set_option Elab.async false
set_option linter.all false
set_option autoImplicit false
set_option maxRecDepth 100000
set_option maxHeartbeats 4000000
set_option exponentiation.threshold 100000
namespace Cp
variable [KFix]
open PySem PySem.Spec PyProof.Rows L2
section
variable {Pg : Program} {w : World} {K : PySem.W.Frag} {mg : Str → Option Value} {base : Heap}
def pre_moved_rights (ds : List PyData) (d : PyData) : Prop := ∃ (T : Tsk) (st : List Int) (t : Rat), ds = [tD T, .list (iD st), qD t] ∧ Sz T ∧ ibd 1000 st ∧ (∀ r, r ∈ T.rows → r.rt.natAbs < 2 ^ 1000) ∧ qb 4000 t ∧ d = tD (moved T st t)
theorem len_moved_rights : ∀ ds d, pre_moved_rights ds d → ds.length = 3 := by rintro _ _ ⟨_, _, _, rfl, _⟩; rfl
theorem ok_moved_rights (T : Txt K mg) : FnOk Pg w K mg base CX0 1 (He.ga K "moved_rights") (T.fd 36) ["task", "steps", "time"] (spD pre_moved_rights) := by
  refine (T.F 36 d_moved_rights rfl).ok sc_moved_rights (spD_len (n := 3) ?len) (fun cdv A outer s H vs Q E hr h => ?_)
  case len => exact len_moved_rights
  refine ⟨_, PSs.nox (pss_cons (ps_set (i := 3) sc_moved_rights.nd rfl (by first | exact Or.inl rfl | exact Or.inr rfl) (pe_lst pa_nil))
      (pss_cons (ps_for PassesOwn.never rfl (pi_z2Q (by rfl) T.n_zip (pa_cons (pe_ix (ix_seqK (K := K)) (pv 0) pe_int (fun _ _ => rfl)) (pa_cons (pv 1) pa_nil))) (pg_tupK (K := K) (n := 2) (by rfl) (pgs_cons (pg_name (i := 4) sc_moved_rights.nd rfl (by first | exact Or.inl rfl | exact Or.inr rfl)) (pgs_cons (pg_name (i := 5) sc_moved_rights.nd rfl (by first | exact Or.inl rfl | exact Or.inr rfl)) pgs_nil))) (pss_one (ps_expr (pe_bm PySem.F.plainAttrs_list PySem.F.slot_list_append PySem.F.type_list_append mt_append (pv 3) (pa_cons (pe_tup (pa_cons (pe_ix (ix_seqK (K := K)) (pv 4) pe_int (fun _ _ => rfl)) (pa_cons (pe_ix (ix_seqK (K := K)) (pv 4) pe_int (fun _ _ => rfl)) (pa_cons (pe_op op_add (pe_op op_mulW (pe_ix (ix_seqK (K := K)) (pv 4) pe_int (fun _ _ => rfl)) (pe_ix (ix_seqK (K := K)) (pv 2) pe_int (fun _ _ => rfl))) (pe_op op_mulW (pv 5) (pe_ix (ix_seqK (K := K)) (pv 2) pe_int (fun _ _ => rfl)))) pa_nil)))) pa_nil)))))
      (pss_one (ps_ret (pe_tup (pa_cons (pe_ix (ix_seqK (K := K)) (pv 0) pe_int (fun _ _ => rfl)) (pa_cons (pe_ix (ix_seqK (K := K)) (pv 0) pe_int (fun _ _ => rfl)) (pa_cons (pe_callTy call_tuple_of (by rfl) T.n_tuple (by decide +kernel) (pa_cons (pv 3) pa_nil)) pa_nil)))))))), ?_⟩
  refine body_pure (K := K) (C := gC K) h (fun ds d hp => by rw [len_moved_rights ds d hp]; decide) (fun ds d hp F0 H0 => ?_)
  obtain ⟨U, st, t, rfl, hz, hs, hr', ht, rfl⟩ := hp
  show Sd _ _ [.d (tD U), .d (.list (iD st)), .d (qD t), .no, .no, .no] _ _
  refine s_seq (M := fun P' => ∃ a, P' = [.d (tD U), .d (.list (iD st)), .d (qD t), .own a [], .no, .no]) (s_nilOwn a_nil (by simp) (by simp) fun a => ⟨a, rfl⟩) ?_
  rintro _ ⟨a, rfl⟩
  refine s_seq (M := fun P' => ∃ a u v, P' = [.d (tD U), .d (.list (iD st)), .d (qD t), .own a ((U.rows.zip st).map fun p => rwD ⟨p.1.cs, p.1.sn, p.1.rt * (t.den : Int) + p.2 * t.num⟩), u, v]) (s_for (ds := z2D (U.rows.map rwD) (iD st)) (i_z2 (a_cons (g_op (g_var rfl) g_int (o_ixqT atT2)) (a_cons (g_var rfl) a_nil)) its_t its_l)
    (fun i P' => ∃ a u v, P' = [.d (tD U), .d (.list (iD st)), .d (qD t), .own a (((U.rows.zip st).take i).map fun p => rwD ⟨p.1.cs, p.1.sn, p.1.rt * (t.den : Int) + p.2 * t.num⟩), u, v]) ⟨a, _, _, rfl⟩ ?_ ?_) ?_
  · rintro i d P2 hd ⟨a, u, v, rfl⟩
    rw [show iD st = st.map PyData.int from rfl, z2_map, List.getElem?_map] at hd
    cases e : (U.rows.zip st)[i]? with
    | none => rw [e] at hd; cases hd
    | some p =>
      rw [e] at hd
      cases hd
      have hm := List.mem_of_getElem? e
      have h1 := hr' p.1 (List.of_mem_zip hm).1
      have h2 := hs p.2 (List.of_mem_zip hm).2
      have hl : (((U.rows.zip st).take i).map fun p => rwD ⟨p.1.cs, p.1.sn, p.1.rt * (t.den : Int) + p.2 * t.num⟩).length ≤ 10000 := by
        have := hz.rows
        simp; omega
      refine ⟨_, [.d (tD U), .d (.list (iD st)), .d (qD t), .own a (((U.rows.zip st).take i).map fun p => rwD ⟨p.1.cs, p.1.sn, p.1.rt * (t.den : Int) + p.2 * t.num⟩), .d (rwD p.1), .d (.int p.2)], d_tup (ds_cons (d_name (by simp)) (ds_cons (d_name (by simp)) ds_nil)) rfl, ?_⟩
      refine s_append rfl (g_tup (a_cons (g_op (g_var rfl) g_int (o_ixqT atT0)) (a_cons (g_op (g_var rfl) g_int (o_ixqT atT1)) (a_cons (g_op (g_op (g_op (g_var rfl) g_int (o_ixqT atT2)) (g_q1 (g_var rfl) g_int) (o_mul (cmul h1 (den_bits ht)))) (g_op (g_var rfl) (g_q0 (g_var rfl) g_int) (o_mul (cmul h2 ht.1))) o_add) a_nil))) (by simp)) rfl hl ⟨a, .d (rwD p.1), .d (.int p.2), ?_⟩
      rw [List.take_add_one, e]
      simp [rwD]
  · rintro _ ⟨a, u, v, rfl⟩
    refine ⟨a, u, v, ?_⟩
    have : (z2D (U.rows.map rwD) (iD st)).length = (U.rows.zip st).length := by simp [z2D_len, iD]
    rw [this, List.take_length]
  · rintro _ ⟨a, u, v, rfl⟩
    refine s_ret (g_tup (a_cons (g_op (g_var rfl) g_int (o_ixqT atT0)) (a_cons (g_op (g_var rfl) g_int (o_ixqT atT1)) (a_cons (g_cb (a_cons (g_own rfl) a_nil) b_tuple) a_nil))) (by simp)) ?_
    unfold tD moved
    rw [List.map_zipWith, List.zip, List.map_zipWith]
theorem sum_ones : ∀ l : List Rw, (l.map fun _ => (1 : Nat)).sum = l.length
  | [] => rfl
  | _ :: l => by rw [List.map_cons, List.sum_cons, sum_ones l, List.length_cons]; omega
theorem ck_lit (b : Bool) : PyData.str (ckS b) = if b then .str ("+" : Str) else .str ("*" : Str) := by
  have h1 : ckS true = ("+" : Str) := by decide +kernel
  have h2 : ckS false = ("*" : Str) := by decide +kernel
  cases b
  · rw [h2]; rfl
  · rw [h1]; rfl
def pre_other_of (ds : List PyData) (d : PyData) : Prop := ∃ T : Tsk, ds = [tD T] ∧ Sz T ∧ Wl T ∧ d = tD (other T.plain)
theorem len_other_of : ∀ ds d, pre_other_of ds d → ds.length = 1 := by rintro _ _ ⟨_, rfl, _⟩; rfl
theorem ok_other_of (T : Txt K mg) : FnOk Pg w K mg base CX0 3 (He.ga K "other_of") (T.fd 31) ["task"] (spD pre_other_of) := by
  refine (T.F 31 d_other_of rfl).ok sc_other_of (spD_len (n := 1) ?len) (fun cdv A outer s H vs Q E hr h => ?_)
  case len => exact len_other_of
  refine ⟨_, PSs.nox (pss_cons (ps_asg (pe_call (ok_plain_of T) (hr.mono (show 2 ≤ _ by decide)) (by rfl) T.g_plain_of (T.F 23 d_plain_of rfl).kp (b_plain_of T) .nil pass0 (pa_cons (pv 0) pa_nil)) (pg_tupK (K := K) (n := 3) (by rfl) (pgs_cons (pg_name (i := 1) sc_other_of.nd rfl (by first | exact Or.inl rfl | exact Or.inr rfl)) (pgs_cons (pg_name (i := 2) sc_other_of.nd rfl (by first | exact Or.inl rfl | exact Or.inr rfl)) (pgs_cons (pg_name (i := 3) sc_other_of.nd rfl (by first | exact Or.inl rfl | exact Or.inr rfl)) pgs_nil)))))
      (pss_cons (ps_set (i := 4) sc_other_of.nd rfl (by first | exact Or.inl rfl | exact Or.inr rfl) (pe_lst pa_nil))
      (pss_cons (ps_for PassesOwn.never rfl (pi_enQ (by rfl) T.n_enumerate (pa_cons (pv 1) pa_nil)) (pg_tupK (K := K) (n := 2) (by rfl) (pgs_cons (pg_name (i := 5) sc_other_of.nd rfl (by first | exact Or.inl rfl | exact Or.inr rfl)) (pgs_cons (pg_name (i := 6) sc_other_of.nd rfl (by first | exact Or.inl rfl | exact Or.inr rfl)) pgs_nil))) (pss_cons (ps_set (i := 7) sc_other_of.nd rfl (by first | exact Or.inl rfl | exact Or.inr rfl) (pe_callTy call_tuple_of (by rfl) T.n_tuple (by decide +kernel) (pa_cons (pe_lc (own := [("row", 9)]) (by rfl) sc_other_of.nd (pi_tup (pv 3)) (blkOk_by (N := ["task", "kinds", "costs", "rows", "found", "at", "kind", "coefs", "signs", "row"]) (sc := defScope s_other_of) (by decide +kernel)) (fun _ _ _ _ _ => (pg_name (i := 9) sc_other_of.nd rfl (by first | exact Or.inl rfl | exact Or.inr rfl))) (fun _ _ _ _ _ => pts_nil) (fun _ _ _ _ _ => (pe_un un_neg (pe_ix (ix_seqK (K := K)) (pe_ix (ix_seqK (K := K)) (pv 9) pe_int (fun _ _ => rfl)) (pv 5) (fun _ _ => rfl))))) pa_nil)))
      (pss_one (ps_expr (pe_bm PySem.F.plainAttrs_list PySem.F.slot_list_append PySem.F.type_list_append mt_append (pv 4) (pa_cons (pe_tup (pa_cons (pv 7) (pa_cons (pe_ifExp (pt_cmpR (op_eqDK (K := K) hr.units) (pv 6) pe_str (nomark _)) pe_str pe_str) (pa_cons (pe_un un_neg (pe_ix (ix_seqK (K := K)) (pv 2) (pv 5) (fun _ _ => rfl))) pa_nil)))) pa_nil))))))
      (pss_cons (ps_set (i := 8) sc_other_of.nd rfl (by first | exact Or.inl rfl | exact Or.inr rfl) (pe_join pe_str (pe_lc (own := [("row", 9)]) (by rfl) sc_other_of.nd (pi_tup (pv 3)) (blkOk_by (N := ["task", "kinds", "costs", "rows", "found", "at", "kind", "coefs", "signs", "row"]) (sc := defScope s_other_of) (by decide +kernel)) (fun _ _ _ _ _ => (pg_name (i := 9) sc_other_of.nd rfl (by first | exact Or.inl rfl | exact Or.inr rfl))) (fun _ _ _ _ _ => pts_nil) (fun _ _ _ _ _ => (pe_ifExp (pt_cmpR (op_eqDK (K := K) hr.units) (pe_ix (ix_seqK (K := K)) (pv 9) pe_int (fun _ _ => rfl)) pe_str (nomark _)) pe_str pe_str)))))
      (pss_one (ps_ret (pe_tup (pa_cons (pv 8) (pa_cons (pe_callTy call_tuple_of (by rfl) T.n_tuple (by decide +kernel) (pa_cons (pe_lc (own := [("row", 9)]) (by rfl) sc_other_of.nd (pi_tup (pv 3)) (blkOk_by (N := ["task", "kinds", "costs", "rows", "found", "at", "kind", "coefs", "signs", "row"]) (sc := defScope s_other_of) (by decide +kernel)) (fun _ _ _ _ _ => (pg_name (i := 9) sc_other_of.nd rfl (by first | exact Or.inl rfl | exact Or.inr rfl))) (fun _ _ _ _ _ => pts_nil) (fun _ _ _ _ _ => (pe_un un_neg (pe_ix (ix_seqK (K := K)) (pv 9) pe_int (fun _ _ => rfl))))) pa_nil)) (pa_cons (pe_callTy call_tuple_of (by rfl) T.n_tuple (by decide +kernel) (pa_cons (pv 4) pa_nil)) pa_nil)))))))))), ?_⟩
  refine body_pure (K := K) (C := gC K) h (fun ds d hp => by rw [len_other_of ds d hp]; decide) (fun ds d hp F0 H0 => ?_)
  obtain ⟨U0, rfl, hz0, hw0, rfl⟩ := hp
  show Sd _ _ [.d (tD U0), .no, .no, .no, .no, .no, .no, .no, .no, .no] _ _
  have hzr : ∀ r, r ∈ U0.plain.rows → r.cs.length = U0.plain.ks.length := fun r hr => by
    obtain ⟨q, hq, rfl⟩ := List.mem_map.mp hr
    have := hw0.row q hq
    unfold Rw.plain
    split
    · show (negs q.cs).length = U0.ks.length
      rw [← this]; simp [negs]
    · exact this
  have hl1 : U0.plain.rows.length ≤ 1000 := by have := hz0.rows; simpa [Tsk.plain] using this
  have hk1 : U0.plain.ks.length ≤ 1000 := hz0.ks
  have hcs : U0.plain.cs.length = U0.plain.ks.length := hw0.cs
  refine s_seq1 (P' := [.d (tD U0), .d (.str (ksS U0.plain.ks)), .d (.tuple (iD U0.plain.cs)), .d (.tuple (U0.plain.rows.map rwD)), .no, .no, .no, .no, .no, .no]) (s_asg (g_call (a_cons (g_var rfl) a_nil) ⟨U0, rfl, hz0, rfl⟩) (d_tup (ds_cons (d_name (by simp)) (ds_cons (d_name (by simp)) (ds_cons (d_name (by simp)) ds_nil))) rfl) rfl) ?_
  generalize U0.plain = U at *
  refine s_seq (M := fun P' => ∃ a, P' = [.d (tD U0), .d (.str (ksS U.ks)), .d (.tuple (iD U.cs)), .d (.tuple (U.rows.map rwD)), .own a [], .no, .no, .no, .no, .no]) (s_nilOwn a_nil (by simp) (by simp) fun a => ⟨a, rfl⟩) ?_
  rintro _ ⟨a, rfl⟩
  refine s_seq (M := fun P' => ∃ a u v x, P' = [.d (tD U0), .d (.str (ksS U.ks)), .d (.tuple (iD U.cs)), .d (.tuple (U.rows.map rwD)), .own a ((List.range U.ks.length).map fun j => rwD (sideR U j)), u, v, x, .no, .no]) (s_for (ds := enD (chD (ksS U.ks))) (i_en (a_cons (g_var rfl) a_nil) its_s)
    (fun i P' => ∃ a u v x, P' = [.d (tD U0), .d (.str (ksS U.ks)), .d (.tuple (iD U.cs)), .d (.tuple (U.rows.map rwD)), .own a ((List.range i).map fun j => rwD (sideR U j)), u, v, x, .no, .no]) ⟨a, _, _, _, rfl⟩ ?_ ?_) ?_
  · rintro i d P2 hd ⟨a, u, v, x, rfl⟩
    rw [ch_ks, en_map, List.getElem?_map, List.getElem?_zipIdx] at hd
    cases e : U.ks[i]? with
    | none => rw [e] at hd; cases hd
    | some k =>
      rw [e] at hd
      simp only [Option.map_some, Nat.zero_add] at hd
      cases hd
      have hi : i < U.ks.length := (List.getElem?_eq_some_iff.mp e).1
      have hk : U.ks.getD i false = k := by unfold List.getD; rw [e]; rfl
      have hlen : ((List.range i).map fun j => rwD (sideR U j)).length ≤ 10000 := by simp; omega
      refine ⟨_, [.d (tD U0), .d (.str (ksS U.ks)), .d (.tuple (iD U.cs)), .d (.tuple (U.rows.map rwD)), .own a ((List.range i).map fun j => rwD (sideR U j)), .d (.int i), .d (.str (ckS k)), x, .no, .no], d_tup (ds_cons (d_name (by simp)) (ds_cons (d_name (by simp)) ds_nil)) rfl, ?_⟩
      refine s_seq1 (P' := [.d (tD U0), .d (.str (ksS U.ks)), .d (.tuple (iD U.cs)), .d (.tuple (U.rows.map rwD)), .own a ((List.range i).map fun j => rwD (sideR U j)), .d (.int i), .d (.str (ckS k)), .d (.tuple (iD (U.rows.map fun r => -(r.cs.getD i 0)))), .no, .no]) ?_ ?_
      · refine s_set ((g_cb (a_cons (TEo.g (o_mapL (xs := U.rows) (r := rwD) (f := fun r => .int (-(r.cs.getD i 0))) rfl (i_tup (g_var rfl)) (by simp) (by omega) fun r hr => ⟨_, _, by simp, d_name (by simp [noAt]), rfl, g_un (g_op (g_op (g_var rfl) g_int (o_ixqT atT0)) (g_var rfl) (o_ixqT (iD_at (by rw [hzr r hr]; exact hi)))) o_neg⟩)) a_nil) b_tuple).eq (by unfold iD; rw [List.map_map]; rfl)) (by simp [noAt]) rfl
      · refine s_append rfl (g_tup (a_cons (g_var rfl) (a_cons (g_if (b := k) ((t_cmp (g_op (g_var rfl) g_str (o_eq (shp_ck k) (by decide +kernel)))).eq (ck_plus k)) (fun h => g_str.eq (d' := .str (sgS (if k = true then .ge else .eq))) (by rw [h]; rfl)) (fun h => g_str.eq (by rw [h]; rfl))) (a_cons (g_un (g_op (g_var rfl) (g_var rfl) (o_ixqT (iD_at (by rw [hcs]; exact hi)))) o_neg) a_nil))) (by simp)) rfl hlen ⟨a, .d (.int i), .d (.str (ckS k)), .d (.tuple (iD (U.rows.map fun r => -(r.cs.getD i 0)))), ?_⟩
        rw [List.range_succ, List.map_append]
        simp only [List.map_cons, List.map_nil]
        have : rwD (sideR U i) = .tuple [.tuple (iD (U.rows.map fun r => -(r.cs.getD i 0))), .str (sgS (if k = true then .ge else .eq)), .int (-(U.cs.getD i 0))] := by
          unfold rwD sideR
          rw [hk]
        rw [this]; rfl
  · rintro _ ⟨a, u, v, x, rfl⟩
    refine ⟨a, u, v, x, ?_⟩
    have : (enD (chD (ksS U.ks))).length = U.ks.length := by rw [enD_len, ch_ks, List.length_map]
    rw [this]
  · rintro _ ⟨a, u, v, x, rfl⟩
    refine s_seq1 (P' := [.d (tD U0), .d (.str (ksS U.ks)), .d (.tuple (iD U.cs)), .d (.tuple (U.rows.map rwD)), .own a ((List.range U.ks.length).map fun j => rwD (sideR U j)), u, v, x, .d (.str (ksS (U.rows.map fun r => decide (r.sn = .ge)))), .no]) ?_ ?_
    · refine s_set ((g_join (a := "") (ys := (U.rows.map fun r => decide (r.sn = .ge)).map ckS) g_str ((TEo.g (o_mapL (xs := U.rows) (r := rwD) (f := fun r => .str (ckS (decide (r.sn = .ge)))) rfl (i_tup (g_var rfl)) (by simp) (by omega) fun r hr => ⟨_, _, by simp, d_name (by simp [noAt]), rfl, ?_⟩)).eq (by rw [List.map_map, List.map_map]; rfl)) ?_).eq (by rw [join_ks])) (by simp [noAt]) rfl
      · refine g_if (b := decide (r.sn = .ge)) ((t_cmp (g_op (g_op (g_var rfl) g_int (o_ixqT atT1)) g_str (o_eq (shp_sg _) (by decide +kernel)))).eq (sg_ge r.sn)) (fun h => g_str.eq (by rw [h]; exact (ck_lit true).symm)) (fun h => g_str.eq (by rw [h]; exact (ck_lit false).symm))
      · have e1 : (((U.rows.map fun r => decide (r.sn = .ge)).map ckS).map (·.length)).sum = U.rows.length := by
          rw [List.map_map, List.map_map]
          have : (((fun x : Str => x.length) ∘ ckS) ∘ fun r : Rw => decide (r.sn = .ge)) = fun _ => 1 := by funext r; rfl
          rw [this]; exact sum_ones _
        have e2 : ("" : Str).length = 0 := by decide +kernel
        rw [e1, e2]; simp; omega
    · refine s_ret (g_tup (a_cons (g_var rfl) (a_cons (g_cb (a_cons (TEo.g (o_mapL (xs := U.rows) (r := rwD) (f := fun r => .int (-r.rt)) rfl (i_tup (g_var rfl)) (by simp) (by omega) fun r hr => ⟨_, _, by simp, d_name (by simp [noAt]), rfl, g_un (g_op (g_var rfl) g_int (o_ixqT atT2)) o_neg⟩)) a_nil) b_tuple) (a_cons (g_cb (a_cons (g_own rfl) a_nil) b_tuple) a_nil))) (by simp)) ?_
      have e1 : (other U).rows.map rwD = (List.range U.ks.length).map fun j => rwD (sideR U j) := by
        show ((List.range U.ks.length).map (sideR U)).map rwD = _
        rw [List.map_map]; rfl
      have e2 : iD (other U).cs = U.rows.map fun r => .int (-r.rt) := by
        show (U.rows.map fun r => -r.rt).map PyData.int = _
        rw [List.map_map]; rfl
      unfold tD
      rw [e1, e2]
      rfl
end
end Cp
end
/-! ## CDp -/
section
set_option Elab.async false
set_option linter.all false
set_option autoImplicit false
set_option maxRecDepth 100000
set_option maxHeartbeats 4000000
/-! more rules -/
namespace Cp
variable [KFix]
open PySem PySem.Spec PyProof.Rows L2
section
variable {c : Bc} {P P1 P2 P3 : List Sl} {N : List Sl → Prop} {R : PyData → List Sl → Prop}
/-- a, b = l, m: both new lists -/
theorem s_parOO {i j : Nat} {ta tb : TE} {ds es : List PyData} (h : TEo c ta P ds P1) (h2 : TEo c tb P1 es P2) (hi : i < P2.length) (hj : j < P2.length) (hij : i ≠ j) (hn : ∀ a b, N ((P2.set j (.own b es)).set i (.own a ds))) : Sd c (tPar i j (tCons ta (tCons tb tNil))) P N R := by
  intro T σ F H D S hl n r
  refine h.run T σ F H _ S hl fun a F1 H1 S1 m1 => ?_
  refine h2.run (T ++ [.own a ds]) σ F1 H1 _ S1 (hl.trans h.len.symm) fun b F2 H2 S2 m2 => ?_
  have hl2 : σ.length = P2.length := (hl.trans h.len.symm).trans h2.len.symm
  refine ⟨_, _, rfl, ?_⟩
  rw [← List.append_assoc] at S2
  have S3 := S2.take (i := j) (by rw [hl2]; exact hj) (by rw [hl2]; simp)
  rw [set_app hj, ← List.append_assoc] at S3
  have S4 := S3.take (i := i) (by simp [hl2]; exact hi) (by simp [hl2])
  rw [set_app (by simpa using hi)] at S4
  rw [List.set_comm _ _ hij]
  exact n _ _ F2 H2 (hn a b) S4 (by simp [hl2]) (m1.trans m2)
/-- a, b = l, d: a new list and data -/
theorem s_parOD {i j : Nat} {ta tb : TE} {ds : List PyData} {d : PyData} (h : TEo c ta P ds P1) (h2 : TEg c tb P1 d P2) (hi : i < P2.length) (hj : j < P2.length) (hij : i ≠ j) (hn : ∀ a, N ((P2.set j (.d d)).set i (.own a ds))) : Sd c (tPar i j (tCons ta (tCons tb tNil))) P N R := by
  intro T σ F H D S hl n r
  refine h.run T σ F H _ S hl fun a F1 H1 S1 m1 => ?_
  refine h2.run (T ++ [.own a ds]) σ F1 H1 _ S1 (hl.trans h.len.symm) fun v F2 H2 S2 m2 rv => ?_
  have hl2 : σ.length = P2.length := (hl.trans h.len.symm).trans h2.len.symm
  refine ⟨_, _, rfl, ?_⟩
  have S3 := S2.store (i := j) (v := v) (t := .d d) (by rw [hl2]; exact hj) ⟨v, rfl, rv⟩ rfl trivial
  rw [set_app hj, ← List.append_assoc] at S3
  have S4 := S3.take (i := i) (by simp [hl2]; exact hi) (by simp [hl2])
  rw [set_app (by simpa using hi)] at S4
  rw [List.set_comm _ _ hij]
  exact n _ _ F2 H2 (hn a) S4 (by simp [hl2]) (m1.trans m2)
/-- (a, b) = (d, l) by way of a tuple: data and a new list -/
theorem s_tupDO {K : PySem.W.Frag} {i j : Nat} {ta tb : TE} {es : List PyData} {d : PyData} (h : TEg c ta P d P1) (h2 : TEo c tb P1 es P2) (hi : i < P2.length) (hj : j < P2.length) (hij : i ≠ j) (hn : ∀ a, N ((P2.set i (.d d)).set j (.own a es))) :
    Sd c (tAsg (tTup (tCons ta (tCons tb tNil))) (gTup K 2 (gCons (gName i) (gCons (gName j) gNil)))) P N R := by
  intro T σ F H D S hl n r
  refine h.run T σ F H _ S hl fun v F1 H1 S1 m1 rv => ?_
  refine h2.run T σ F1 H1 _ S1 (hl.trans h.len.symm) fun a F2 H2 S2 m2 => ?_
  have hl2 : σ.length = P2.length := (hl.trans h.len.symm).trans h2.len.symm
  refine ⟨(by show 2 ≤ sizeLine; decide), fun p np => ?_⟩
  have e := Ex.new (o := .tup [v, .ref a]) S2.sub np
  have S3 := S2.exd e
  refine ⟨p, _, rfl, SqT.of upd_same, rfl, v, _, rfl, _, _, rfl, rfl, ?_⟩
  have S4 := S3.store (i := i) (v := v) (t := .d d) (by rw [hl2]; exact hi) ⟨v, rfl, (rv.mono m2).mono e.f⟩ rfl trivial
  rw [set_app hi, ← List.append_assoc] at S4
  have S5 := S4.take (i := j) (by simp [hl2]; exact hj) (by simp [hl2])
  rw [set_app (by simpa using hj)] at S5
  exact n _ _ _ _ (hn a) S5 (by simp [hl2]) ((m1.trans m2).trans e.f)
/-- a text in a tuple of texts -/
theorem g_inS {K : PySem.W.Frag} {te : TE} {x : Str} {p : Addr} {xs : List Str} (h : TEg c te P (.str x) P1) (hs : ∀ H, SqT K H p (xs.map .str)) : TEg c (tOp (rIn K false) te (tC (.ref p))) P (.bool (xs.any fun y => y == x)) P1 := by
  refine ⟨h.len, fun T σ F H Q S hl q => ?_⟩
  refine h.run T σ F H _ S hl fun v F1 H1 S1 m1 r1 => ?_
  cases r1
  refine ⟨p, _, rfl, .inr (hs H1), rfl, ?_, ?_⟩
  · rw [List.all_map]; exact List.all_eq_true.mpr fun y _ => rfl
  · have : inV (V.str x) (xs.map .str) = xs.any fun y => y == x := by
      unfold inV
      rw [List.any_map]; rfl
    rw [if_neg Bool.false_ne_true, this]
    exact q _ F1 H1 S1 m1 (.bl _)
theorem o_notInS {i j : Str} {b : Bool} (h : (!(!(Builtin.Str.occurrences j i 0 j.length 1).isEmpty)) = b) : O2 (fun x y H Q => ∃ i j, x = .str i ∧ y = .str j ∧ Q (.bl (!(!(Builtin.Str.occurrences j i 0 j.length 1).isEmpty))) H) (.str i) (.str j) (.bool b) := fun F H x y Q s r1 r2 q => by
  cases r1
  cases r2
  subst h
  exact ⟨i, j, rfl, rfl, q _ F H (Ex.refl s) (.bl _)⟩
theorem ck_in (k : Bool) : (!(!(Builtin.Str.occurrences ("+*" : Str) (ckS k) 0 ("+*" : Str).length 1).isEmpty)) = false := by cases k <;> decide +kernel
end
end Cp
end
/-! ## CF5 -/
section
set_option Elab.async false
set_option linter.all false
set_option autoImplicit false
set_option maxRecDepth 100000
set_option maxHeartbeats 4000000
set_option exponentiation.threshold 100000
namespace Cp
variable [KFix]
open PySem PySem.Spec PyProof.Rows L2
/-- a number that a task can have -/
def sml (i : Int) : Prop := -1000 ≤ i ∧ i ≤ 1000
def Nr (n : Nat) (r : Rw) : Prop := r.cs.length = n ∧ (∀ a, a ∈ r.cs → sml a) ∧ sml r.rt
structure Nd (T : Tsk) : Prop where
  k1 : 1 ≤ T.ks.length
  k6 : T.ks.length ≤ 6
  cs : T.cs.length = T.ks.length
  csm : ∀ a, a ∈ T.cs → sml a
  r8 : T.rows.length ≤ 8
  row : ∀ r, r ∈ T.rows → Nr T.ks.length r
theorem Nd.sz {T : Tsk} (h : Nd T) : Sz T := ⟨by have := h.k6; omega, by rw [h.cs]; have := h.k6; omega, by have := h.r8; omega, fun r hr => by rw [(h.row r hr).1]; have := h.k6; omega⟩
theorem Nd.wl {T : Tsk} (h : Nd T) : Wl T := ⟨h.cs, fun r hr => (h.row r hr).1⟩
theorem o_leT {i j : Int} (h : i ≤ j) : O2 (rI0 fun i j => .bl (decide (i ≤ j))) (.int i) (.int j) (.bool true) := by
  have := o_le (i := i) (j := j)
  rw [decide_eq_true h] at this
  exact this
theorem o_ltT {i j : Int} (h : i < j) : O2 (rI0 fun i j => .bl (decide (i < j))) (.int i) (.int j) (.bool true) := by
  have := o_lt (i := i) (j := j)
  rw [decide_eq_true h] at this
  exact this
theorem all_true {α : Type} (xs : List α) : (xs.map fun _ => true).all id = true := by
  rw [List.all_map]
  exact List.all_eq_true.mpr fun _ _ => rfl
theorem any_false {α : Type} (xs : List α) : (xs.map fun _ => false).any id = false := by
  rw [List.any_map]
  exact List.any_eq_false.mpr fun _ _ => Bool.false_ne_true
theorem any_sg (s : Sn) : ([(">=" : Str), "<=", "="].any fun y => y == sgS s) = true := by cases s <;> decide +kernel
section
variable {Pg : Program} {w : World} {K : PySem.W.Frag} {mg : Str → Option Value} {base : Heap}
theorem t_neI {c : Bc} {P P1 P2 : List Sl} {ta tb : TE} {i j : Int} (ha : TEg c ta P (.int i) P1) (hb : TEg c tb P1 (.int j) P2) : TTg c (tTest (tOp (rNeD K) ta tb)) P (!decide (i = j)) P2 := (t_cmp (g_op ha hb (o_ne rfl rfl))).eq (by
  show (!(i == j)) = _
  by_cases h : i = j <;> simp [h])
theorem t_isi {c : Bc} {P P1 : List Sl} {ta : TE} {d : PyData} {T : String} (h : TEg c ta P d P1) (k : kitB (tyOf d) T = some true) (hd : isDict d = false := by rfl) : TTg c (tNot (tB (tCB (rIsi K) (tCons ta (tCons (tC (.ty T)) tNil))))) P false P1 := t_not (t_val (g_isi h k hd))
def pre_is_small (ds : List PyData) (d : PyData) : Prop := ∃ i : Int, ds = [.int i] ∧ sml i ∧ d = .bool true
theorem len_is_small : ∀ ds d, pre_is_small ds d → ds.length = 1 := by rintro _ _ ⟨_, rfl, _⟩; rfl
theorem ok_is_small (T : Txt K mg) : FnOk Pg w K mg base CX0 2 (He.ga K "is_small") (T.fd 19) ["value"] (spD pre_is_small) := by
  refine (T.F 19 d_is_small rfl).ok sc_is_small (spD_len (n := 1) ?len) (fun cdv A outer s H vs Q E hr h => ?_)
  case len => exact len_is_small
  refine ⟨_, PSs.nox (pss_one (ps_ret (pe_and (pe_call (ok_is_int T) (hr.mono (show 1 ≤ _ by decide)) (by rfl) T.g_is_int (T.F 0 d_is_int rfl).kp (b_is_int T) .nil pass0 (pa_cons (pv 0) pa_nil)) (pe_one (pe_chain op_le op_le (pe_un un_neg (pe_gint (by rfl) T.z_MOST_VALUEe)) (pv 0) (pe_gint (by rfl) T.z_MOST_VALUEe)))))), ?_⟩
  refine body_pure (K := K) (C := gC K) h (fun ds d hp => by rw [len_is_small ds d hp]; decide) (fun ds d hp F0 H0 => ?_)
  obtain ⟨i, rfl, hi, rfl⟩ := hp
  show Sd _ _ [.d (.int i)] _ _
  exact s_ret (g_andV (a := true) (b := true) (g_call (a_cons (g_var rfl) a_nil) ⟨i, rfl, rfl⟩) fun _ => g_chainT (g_un g_int o_neg) (g_var rfl) (o_leT hi.1) g_int (o_leT hi.2)) rfl
def pre_is_row (ds : List PyData) (d : PyData) : Prop := ∃ (r : Rw) (n : Nat), ds = [rwD r, .int n] ∧ n ≤ 6 ∧ Nr n r ∧ d = .bool true
theorem len_is_row : ∀ ds d, pre_is_row ds d → ds.length = 2 := by rintro _ _ ⟨_, _, rfl, _⟩; rfl
theorem ok_is_row (T : Txt K mg) : FnOk Pg w K mg base CX0 3 (He.ga K "is_row") (T.fd 20) ["value", "many"] (spD pre_is_row) := by
  refine (T.F 20 d_is_row rfl).ok sc_is_row (spD_len (n := 2) ?len) (fun cdv A outer s H vs Q E hr h => ?_)
  case len => exact len_is_row
  refine ⟨_, PSs.nox (pss_cons (ps_if (PW.pt (pw_or (pt_not (pt_val (pe_callB call_isi (by rfl) T.n_isinstance (by decide +kernel) (pa_cons (pv 0) (pa_cons (pe_bltn (v := .ty "tuple") (by rfl) T.n_tuple (by decide +kernel) rfl) pa_nil))))) (pw_or (pt_cmpR (op_neDK (K := K) hr.units) (pe_callB call_len (by rfl) T.n_len PySem.boot_len (pa_cons (pv 0) pa_nil)) pe_int (nomark _)) (pw_or (pt_not (pt_val (pe_callB call_isi (by rfl) T.n_isinstance (by decide +kernel) (pa_cons (pe_ix (ix_seqK (K := K)) (pv 0) pe_int (fun _ _ => rfl)) (pa_cons (pe_bltn (v := .ty "tuple") (by rfl) T.n_tuple (by decide +kernel) rfl) pa_nil))))) (pw_or1 (pt_cmpR (op_neDK (K := K) hr.units) (pe_callB call_len (by rfl) T.n_len PySem.boot_len (pa_cons (pe_ix (ix_seqK (K := K)) (pv 0) pe_int (fun _ _ => rfl)) pa_nil)) (pv 1) (nomark _))))))) (pss_one (ps_ret pe_bl)) pss_nil)
      (pss_one (ps_ret (pe_and (pe_callB (cr_all (by rfl)) (by rfl) T.n_all (by decide +kernel) (pa_cons (pe_lc (own := [("one", 2)]) (by rfl) sc_is_row.nd (pi_tup (pe_ix (ix_seqK (K := K)) (pv 0) pe_int (fun _ _ => rfl))) (blkOk_by (N := ["value", "many", "one"]) (sc := defScope s_is_row) (by decide +kernel)) (fun _ _ _ _ _ => (pg_name (i := 2) sc_is_row.nd rfl (by first | exact Or.inl rfl | exact Or.inr rfl))) (fun _ _ _ _ _ => pts_nil) (fun _ _ _ _ _ => (pe_call (ok_is_small T) (hr.mono (show 2 ≤ _ by decide)) (by rfl) T.g_is_small (T.F 19 d_is_small rfl).kp (b_is_small T) .nil pass0 (pa_cons (pv 2) pa_nil)))) pa_nil)) (pe_and (pe_cmpR (op_in_seqK (K := K)) (pe_ix (ix_seqK (K := K)) (pv 0) pe_int (fun _ _ => rfl)) (pe_glob (v := .ref (He.ga K "SIGNS")) (by rfl) T.g_SIGNS rfl) (by rfl)) (pe_one (pe_call (ok_is_small T) (hr.mono (show 2 ≤ _ by decide)) (by rfl) T.g_is_small (T.F 19 d_is_small rfl).kp (b_is_small T) .nil pass0 (pa_cons (pe_ix (ix_seqK (K := K)) (pv 0) pe_int (fun _ _ => rfl)) pa_nil)))))))), ?_⟩
  refine body_pure (K := K) (C := gC K) h (fun ds d hp => by rw [len_is_row ds d hp]; decide) (fun ds d hp F0 H0 => ?_)
  obtain ⟨r, n, rfl, h6, hr', rfl⟩ := hp
  show Sd _ _ [.d (rwD r), .d (.int n), .no] _ _
  have k : kitB "tuple" "tuple" = some true := by decide +kernel
  refine s_seq1 (P' := [.d (rwD r), .d (.int n), .no]) (s_if (b := false) (t_orF (t_isi (g_var rfl) k) (t_orF ((t_neI (g_cb (a_cons (g_var rfl) a_nil) b_lenT) g_int).eq (by simp)) (t_orF (t_isi (g_op (g_var rfl) g_int (o_ixqT atT0)) k) ((t_neI (g_cb (a_cons (g_op (g_var rfl) g_int (o_ixqT atT0)) a_nil) b_lenT) (g_var rfl)).eq (by simp [iD, hr'.1]))))) (fun z => nomatch z) fun _ => s_next rfl) ?_
  refine s_ret (P1 := [.d (rwD r), .d (.int n), .no]) (g_andV (a := true) (b := true) (((g_cb (a_cons ((TEo.g (o_mapL (xs := r.cs) (r := .int) (f := fun _ => .bool true) rfl (i_tup (g_op (g_var rfl) g_int (o_ixqT atT0))) (by simp) (by have := hr'.1; omega) fun x hx => ⟨_, _, by simp, d_name (by simp [noAt]), rfl, g_call (a_cons (g_var rfl) a_nil) ⟨x, rfl, hr'.2.1 x hx, rfl⟩⟩)).eq (d' := .list ((r.cs.map fun _ => true).map .bool)) (by rw [List.map_map]; rfl)) a_nil) b_all).eq (by rw [all_true])).eqP rfl) fun _ => g_andV (a := true) (b := true) ((g_inS (xs := [(">=" : Str), "<=", "="]) (g_op (g_var rfl) g_int (o_ixqT atT1)) fun H => T.sg H).eq (by rw [any_sg])) fun _ => g_call (a_cons (g_op (g_var rfl) g_int (o_ixqT atT2)) a_nil) ⟨_, rfl, hr'.2.2, rfl⟩) rfl
def pre_need_task (ds : List PyData) (d : PyData) : Prop := ∃ T : Tsk, ds = [tD T] ∧ Nd T ∧ d = .none
theorem len_need_task : ∀ ds d, pre_need_task ds d → ds.length = 1 := by rintro _ _ ⟨_, rfl, _⟩; rfl
theorem ok_need_task (T : Txt K mg) : FnOk Pg w K mg base CX0 4 (He.ga K "need_task") (T.fd 21) ["value"] (spD pre_need_task) := by
  refine (T.F 21 d_need_task rfl).ok sc_need_task (spD_len (n := 1) ?len) (fun cdv A outer s H vs Q E hr h => ?_)
  case len => exact len_need_task
  refine ⟨_, PSs.nox (pss_cons (ps_if (PW.pt (pw_or (pt_not (pt_val (pe_callB call_isi (by rfl) T.n_isinstance (by decide +kernel) (pa_cons (pv 0) (pa_cons (pe_bltn (v := .ty "tuple") (by rfl) T.n_tuple (by decide +kernel) rfl) pa_nil))))) (pw_or1 (pt_cmpR (op_neDK (K := K) hr.units) (pe_callB call_len (by rfl) T.n_len PySem.boot_len (pa_cons (pv 0) pa_nil)) pe_int (nomark _))))) (pss_one ps_never) pss_nil)
      (pss_cons (ps_asg (pv 0) (pg_tupK (K := K) (n := 3) (by rfl) (pgs_cons (pg_name (i := 1) sc_need_task.nd rfl (by first | exact Or.inl rfl | exact Or.inr rfl)) (pgs_cons (pg_name (i := 2) sc_need_task.nd rfl (by first | exact Or.inl rfl | exact Or.inr rfl)) (pgs_cons (pg_name (i := 3) sc_need_task.nd rfl (by first | exact Or.inl rfl | exact Or.inr rfl)) pgs_nil)))))
      (pss_cons (ps_if (PW.pt (pw_or (pt_not (pt_val (pe_callB call_isi (by rfl) T.n_isinstance (by decide +kernel) (pa_cons (pv 1) (pa_cons (pe_bltn (v := .ty "str") (by rfl) T.n_str (by decide +kernel) rfl) pa_nil))))) (pw_or (pt_not (pt_chain op_le op_le pe_int (pe_callB call_len (by rfl) T.n_len PySem.boot_len (pa_cons (pv 1) pa_nil)) (pe_gint (by rfl) T.z_MOST_COLUMNSe))) (pw_or1 (pt_val (pe_callB (cr_any (by rfl)) (by rfl) T.n_any (by decide +kernel) (pa_cons (pe_lc (own := [("one", 6)]) (by rfl) sc_need_task.nd (pi_str (pv 1)) (blkOk_by (N := ["value", "kinds", "costs", "rows", "index", "row", "one"]) (sc := defScope s_need_task) (by decide +kernel)) (fun _ _ _ _ _ => (pg_name (i := 6) sc_need_task.nd rfl (by first | exact Or.inl rfl | exact Or.inr rfl))) (fun _ _ _ _ _ => pts_nil) (fun _ _ _ _ _ => (pe_cmpR op_notIn_str (pv 6) pe_str (by rfl)))) pa_nil))))))) (pss_one ps_never) pss_nil)
      (pss_cons (ps_if (PW.pt (pw_or (pt_not (pt_val (pe_callB call_isi (by rfl) T.n_isinstance (by decide +kernel) (pa_cons (pv 2) (pa_cons (pe_bltn (v := .ty "tuple") (by rfl) T.n_tuple (by decide +kernel) rfl) pa_nil))))) (pw_or (pt_cmpR (op_neDK (K := K) hr.units) (pe_callB call_len (by rfl) T.n_len PySem.boot_len (pa_cons (pv 2) pa_nil)) (pe_callB call_len (by rfl) T.n_len PySem.boot_len (pa_cons (pv 1) pa_nil)) (nomark _)) (pw_or1 (pt_not (pt_val (pe_callB (cr_all (by rfl)) (by rfl) T.n_all (by decide +kernel) (pa_cons (pe_lc (own := [("one", 6)]) (by rfl) sc_need_task.nd (pi_tup (pv 2)) (blkOk_by (N := ["value", "kinds", "costs", "rows", "index", "row", "one"]) (sc := defScope s_need_task) (by decide +kernel)) (fun _ _ _ _ _ => (pg_name (i := 6) sc_need_task.nd rfl (by first | exact Or.inl rfl | exact Or.inr rfl))) (fun _ _ _ _ _ => pts_nil) (fun _ _ _ _ _ => (pe_call (ok_is_small T) (hr.mono (show 2 ≤ _ by decide)) (by rfl) T.g_is_small (T.F 19 d_is_small rfl).kp (b_is_small T) .nil pass0 (pa_cons (pv 6) pa_nil)))) pa_nil)))))))) (pss_one ps_never) pss_nil)
      (pss_cons (ps_if (PW.pt (pw_or (pt_not (pt_val (pe_callB call_isi (by rfl) T.n_isinstance (by decide +kernel) (pa_cons (pv 3) (pa_cons (pe_bltn (v := .ty "tuple") (by rfl) T.n_tuple (by decide +kernel) rfl) pa_nil))))) (pw_or1 (pt_cmpR op_gt (pe_callB call_len (by rfl) T.n_len PySem.boot_len (pa_cons (pv 3) pa_nil)) (pe_gint (by rfl) T.z_MOST_ROWSe) (nomark _))))) (pss_one ps_never) pss_nil)
      (pss_one (ps_for PassesOwn.never rfl (pi_enQ (by rfl) T.n_enumerate (pa_cons (pv 3) pa_nil)) (pg_tupK (K := K) (n := 2) (by rfl) (pgs_cons (pg_name (i := 4) sc_need_task.nd rfl (by first | exact Or.inl rfl | exact Or.inr rfl)) (pgs_cons (pg_name (i := 5) sc_need_task.nd rfl (by first | exact Or.inl rfl | exact Or.inr rfl)) pgs_nil))) (pss_one (ps_if (pt_not (pt_val (pe_call (ok_is_row T) (hr.mono (show 3 ≤ _ by decide)) (by rfl) T.g_is_row (T.F 20 d_is_row rfl).kp (b_is_row T) .nil pass0 (pa_cons (pv 5) (pa_cons (pe_callB call_len (by rfl) T.n_len PySem.boot_len (pa_cons (pv 1) pa_nil)) pa_nil))))) (pss_one ps_never) pss_nil))))))))), ?_⟩
  refine body_pure (K := K) (C := gC K) h (fun ds d hp => by rw [len_need_task ds d hp]; decide) (fun ds d hp F0 H0 => ?_)
  obtain ⟨U, rfl, hn, rfl⟩ := hp
  show Sd _ _ [.d (tD U), .no, .no, .no, .no, .no, .no] _ _
  have k : kitB "tuple" "tuple" = some true := by decide +kernel
  have ks : kitB "str" "str" = some true := by decide +kernel
  have k1 := hn.k1
  have k6 := hn.k6
  refine s_seq1 (P' := [.d (tD U), .no, .no, .no, .no, .no, .no]) (s_if (b := false) (t_orF (t_isi (g_var rfl) k) ((t_neI (g_cb (a_cons (g_var rfl) a_nil) b_lenT) g_int).eq (by simp))) (fun z => nomatch z) fun _ => s_next rfl) ?_
  refine s_seq1 (P' := [.d (tD U), .d (.str (ksS U.ks)), .d (.tuple (iD U.cs)), .d (.tuple (U.rows.map rwD)), .no, .no, .no]) (s_asg (g_var rfl) (d_tup (ds_cons (d_name (by simp)) (ds_cons (d_name (by simp)) (ds_cons (d_name (by simp)) ds_nil))) rfl) rfl) ?_
  have lenS : ∀ {P : List Sl} {F0 H0 : Hp}, P[1]? = some (.d (.str (ksS U.ks))) → TEg ⟨K, gC K, F0, H0⟩ (tCB (fun xs H Q => ∃ x n, xs = [x] ∧ LenV K x H n ∧ Q (.int n) H) (tCons (tVar 1) tNil)) P (.int U.ks.length) P := fun hP =>
    (g_cb (a_cons (g_var hP) a_nil) (b_lenS (by rw [ks_len]; omega))).eq (by rw [ks_len])
  refine s_seq1 (P' := [.d (tD U), .d (.str (ksS U.ks)), .d (.tuple (iD U.cs)), .d (.tuple (U.rows.map rwD)), .no, .no, .no]) (s_if (b := false) (t_orF (t_isi (g_var rfl) ks) (t_orF ((t_not (t_cmp (g_chainT g_int (lenS rfl) (o_leT (by omega)) g_int (o_leT (by omega))))).eq rfl) ((t_val ((g_cb (a_cons ((TEo.g (o_mapL (xs := U.ks) (r := fun k => .str (ckS k)) (f := fun _ => .bool false) (ch_ks U.ks) (i_str (g_var rfl)) (by simp) (by omega) fun x hx => ⟨_, _, by simp, d_name (by simp [noAt]), rfl, g_op (g_var rfl) g_str (o_notInS (ck_in x))⟩)).eq (d' := .list ((U.ks.map fun _ => false).map .bool)) (by rw [List.map_map]; rfl)) a_nil) b_any))).eq (any_false _)))) (fun z => nomatch z) fun _ => s_next rfl) ?_
  refine s_seq1 (P' := [.d (tD U), .d (.str (ksS U.ks)), .d (.tuple (iD U.cs)), .d (.tuple (U.rows.map rwD)), .no, .no, .no]) (s_if (b := false) (t_orF (t_isi (g_var rfl) k) (t_orF ((t_neI (g_cb (a_cons (g_var rfl) a_nil) b_lenT) (lenS rfl)).eq (by simp [iD, hn.cs])) ((t_not (t_val ((g_cb (a_cons ((TEo.g (o_mapL (xs := U.cs) (r := .int) (f := fun _ => .bool true) rfl (i_tup (g_var rfl)) (by simp) (by have := hn.cs; omega) fun x hx => ⟨_, _, by simp, d_name (by simp [noAt]), rfl, g_call (a_cons (g_var rfl) a_nil) ⟨x, rfl, hn.csm x hx, rfl⟩⟩)).eq (d' := .list ((U.cs.map fun _ => true).map .bool)) (by rw [List.map_map]; rfl)) a_nil) b_all).eq (by rw [all_true])))).eq rfl))) (fun z => nomatch z) fun _ => s_next rfl) ?_
  refine s_seq1 (P' := [.d (tD U), .d (.str (ksS U.ks)), .d (.tuple (iD U.cs)), .d (.tuple (U.rows.map rwD)), .no, .no, .no]) (s_if (b := false) (t_orF (t_isi (g_var rfl) k) ((t_cmp (g_op (g_cb (a_cons (g_var rfl) a_nil) b_lenT) g_int o_gt)).eq (by have := hn.r8; simp; omega))) (fun z => nomatch z) fun _ => s_next rfl) ?_
  refine s_for (ds := enD (U.rows.map rwD)) (i_en (a_cons (g_var rfl) a_nil) its_t) (fun i P' => ∃ u v, P' = [.d (tD U), .d (.str (ksS U.ks)), .d (.tuple (iD U.cs)), .d (.tuple (U.rows.map rwD)), u, v, .no]) ⟨_, _, rfl⟩ ?_ fun _ _ => rfl
  rintro i d P2 hd ⟨u, v, rfl⟩
  rw [en_map, List.getElem?_map, List.getElem?_zipIdx] at hd
  cases e : U.rows[i]? with
  | none => rw [e] at hd; cases hd
  | some r =>
    rw [e] at hd
    simp only [Option.map_some, Nat.zero_add] at hd
    cases hd
    refine ⟨_, [.d (tD U), .d (.str (ksS U.ks)), .d (.tuple (iD U.cs)), .d (.tuple (U.rows.map rwD)), .d (.int i), .d (rwD r), .no], d_tup (ds_cons (d_name (by simp)) (ds_cons (d_name (by simp)) ds_nil)) rfl, ?_⟩
    exact s_if (b := false) ((t_not (t_val (g_call (a_cons (g_var rfl) (a_cons (lenS rfl) a_nil)) ⟨r, U.ks.length, rfl, k6, hn.row r (List.mem_of_getElem? e), rfl⟩))).eq rfl) (fun z => nomatch z) fun _ => s_next ⟨_, _, rfl⟩
def pre_need_column (ds : List PyData) (d : PyData) : Prop := ∃ (T : Tsk) (i : Nat), ds = [tD T, .int i] ∧ i < T.ks.length ∧ T.ks.length ≤ 6 ∧ d = .none
theorem len_need_column : ∀ ds d, pre_need_column ds d → ds.length = 2 := by rintro _ _ ⟨_, _, rfl, _⟩; rfl
theorem ok_need_column (T : Txt K mg) : FnOk Pg w K mg base CX0 2 (He.ga K "need_column") (T.fd 24) ["task", "value"] (spD pre_need_column) := by
  refine (T.F 24 d_need_column rfl).ok sc_need_column (spD_len (n := 2) ?len) (fun cdv A outer s H vs Q E hr h => ?_)
  case len => exact len_need_column
  refine ⟨_, PSs.nox (pss_one (ps_if (PW.pt (pw_or (pt_not (pt_val (pe_call (ok_is_int T) (hr.mono (show 1 ≤ _ by decide)) (by rfl) T.g_is_int (T.F 0 d_is_int rfl).kp (b_is_int T) .nil pass0 (pa_cons (pv 1) pa_nil)))) (pw_or1 (pt_not (pt_chain op_le op_lt pe_int (pv 1) (pe_callB call_len (by rfl) T.n_len PySem.boot_len (pa_cons (pe_ix (ix_seqK (K := K)) (pv 0) pe_int (fun _ _ => rfl)) pa_nil))))))) (pss_one ps_never) pss_nil)), ?_⟩
  refine body_pure (K := K) (C := gC K) h (fun ds d hp => by rw [len_need_column ds d hp]; decide) (fun ds d hp F0 H0 => ?_)
  obtain ⟨U, i, rfl, hi, h6, rfl⟩ := hp
  show Sd _ _ [.d (tD U), .d (.int i)] _ _
  exact s_if (b := false) (t_orF ((t_not (t_val (g_call (a_cons (g_var rfl) a_nil) ⟨_, rfl, rfl⟩))).eq rfl) ((t_not (t_cmp (g_chainT g_int (g_var rfl) (o_leT (by omega)) (g_cb (a_cons (g_op (g_var rfl) g_int (o_ixqT atT0)) a_nil) (b_lenS (by rw [ks_len]; omega))) (o_ltT (by rw [ks_len]; omega))))).eq rfl)) (fun z => nomatch z) fun _ => s_next rfl
def pre_need_steps (ds : List PyData) (d : PyData) : Prop := ∃ st : List Int, ds = [.tuple (iD st), .int st.length] ∧ st.length ≤ 1000 ∧ (∀ a, a ∈ st → sml a) ∧ d = .none
theorem len_need_steps : ∀ ds d, pre_need_steps ds d → ds.length = 2 := by rintro _ _ ⟨_, rfl, _⟩; rfl
theorem ok_need_steps (T : Txt K mg) : FnOk Pg w K mg base CX0 3 (He.ga K "need_steps") (T.fd 35) ["value", "many"] (spD pre_need_steps) := by
  refine (T.F 35 d_need_steps rfl).ok sc_need_steps (spD_len (n := 2) ?len) (fun cdv A outer s H vs Q E hr h => ?_)
  case len => exact len_need_steps
  refine ⟨_, PSs.nox (pss_one (ps_if (PW.pt (pw_or (pt_not (pt_val (pe_callB call_isi (by rfl) T.n_isinstance (by decide +kernel) (pa_cons (pv 0) (pa_cons (pe_bltn (v := .ty "tuple") (by rfl) T.n_tuple (by decide +kernel) rfl) pa_nil))))) (pw_or (pt_cmpR (op_neDK (K := K) hr.units) (pe_callB call_len (by rfl) T.n_len PySem.boot_len (pa_cons (pv 0) pa_nil)) (pv 1) (nomark _)) (pw_or1 (pt_not (pt_val (pe_callB (cr_all (by rfl)) (by rfl) T.n_all (by decide +kernel) (pa_cons (pe_lc (own := [("one", 2)]) (by rfl) sc_need_steps.nd (pi_tup (pv 0)) (blkOk_by (N := ["value", "many", "one"]) (sc := defScope s_need_steps) (by decide +kernel)) (fun _ _ _ _ _ => (pg_name (i := 2) sc_need_steps.nd rfl (by first | exact Or.inl rfl | exact Or.inr rfl))) (fun _ _ _ _ _ => pts_nil) (fun _ _ _ _ _ => (pe_call (ok_is_small T) (hr.mono (show 2 ≤ _ by decide)) (by rfl) T.g_is_small (T.F 19 d_is_small rfl).kp (b_is_small T) .nil pass0 (pa_cons (pv 2) pa_nil)))) pa_nil)))))))) (pss_one ps_never) pss_nil)), ?_⟩
  refine body_pure (K := K) (C := gC K) h (fun ds d hp => by rw [len_need_steps ds d hp]; decide) (fun ds d hp F0 H0 => ?_)
  obtain ⟨st, rfl, hl, hs, rfl⟩ := hp
  show Sd _ _ [.d (.tuple (iD st)), .d (.int st.length), .no] _ _
  have k : kitB "tuple" "tuple" = some true := by decide +kernel
  exact s_if (b := false) (t_orF (t_isi (g_var rfl) k) (t_orF ((t_neI (g_cb (a_cons (g_var rfl) a_nil) b_lenT) (g_var rfl)).eq (by simp [iD])) ((t_not (t_val ((g_cb (a_cons ((TEo.g (o_mapL (xs := st) (r := .int) (f := fun _ => .bool true) rfl (i_tup (g_var rfl)) (by simp) (by omega) fun x hx => ⟨_, _, by simp, d_name (by simp [noAt]), rfl, g_call (a_cons (g_var rfl) a_nil) ⟨x, rfl, hs x hx, rfl⟩⟩)).eq (d' := .list ((st.map fun _ => true).map .bool)) (by rw [List.map_map]; rfl)) a_nil) b_all).eq (by rw [all_true])))).eq rfl))) (fun z => nomatch z) fun _ => s_next rfl
end
end Cp
end
/-! ## CF6 -/
section
set_option Elab.async false
set_option linter.all false
set_option autoImplicit false
set_option maxRecDepth 100000
set_option maxHeartbeats 4000000
set_option exponentiation.threshold 100000
namespace Cp
variable [KFix]
open PySem PySem.Spec PyProof.Rows L2
theorem gath_snoc : ∀ {ks : List Bool} {k : Bool} {xs : List Rat}, gath (ks ++ [k]) xs = gath ks xs ++ [if k = true then xs.getD (wid ks) 0 else xs.getD (wid ks) 0 - xs.getD (wid ks + 1) 0]
  | [], k, xs => by cases k <;> rfl
  | true :: ks, k, xs => by
    have ih := gath_snoc (ks := ks) (k := k) (xs := xs.drop 1)
    show xs.getD 0 0 :: gath (ks ++ [k]) (xs.drop 1) = xs.getD 0 0 :: (gath ks (xs.drop 1) ++ _)
    rw [ih]
    have e : ∀ j, (xs.drop 1).getD j 0 = xs.getD (j + 1) 0 := fun j => by unfold List.getD; rw [List.getElem?_drop, Nat.add_comm]
    rw [e, e]
    have : wid (true :: ks) = wid ks + 1 := by simp [wid]; omega
    rw [this]
  | false :: ks, k, xs => by
    have ih := gath_snoc (ks := ks) (k := k) (xs := xs.drop 2)
    show (xs.getD 0 0 - xs.getD 1 0) :: gath (ks ++ [k]) (xs.drop 2) = (xs.getD 0 0 - xs.getD 1 0) :: (gath ks (xs.drop 2) ++ _)
    rw [ih]
    have e : ∀ j, (xs.drop 2).getD j 0 = xs.getD (j + 2) 0 := fun j => by unfold List.getD; rw [List.getElem?_drop, Nat.add_comm]
    rw [e, e]
    have : wid (false :: ks) = wid ks + 2 := by simp [wid]; omega
    rw [this]
theorem wid_snoc : ∀ {ks : List Bool} {k : Bool}, wid (ks ++ [k]) = wid ks + if k = true then 1 else 2
  | [], k => by cases k <;> rfl
  | c :: ks, k => by
    have := wid_snoc (ks := ks) (k := k)
    show (if c = true then 1 else 2) + wid (ks ++ [k]) = (if c = true then 1 else 2) + wid ks + _
    rw [this]; omega
theorem wid_take {ks : List Bool} {i : Nat} {k : Bool} (h : ks[i]? = some k) : wid (ks.take i) + (if k = true then 1 else 2) ≤ wid ks := by
  have e : ks = ks.take i ++ [k] ++ ks.drop (i + 1) := by
    have h1 := List.take_append_drop (i + 1) ks
    rw [List.take_add_one, h] at h1
    exact h1.symm
  have app : ∀ a b : List Bool, wid (a ++ b) = wid a + wid b := fun a b => by
    induction a with
    | nil => simp [wid]
    | cons x a ih => simp only [List.cons_append, wid, ih]; omega
  have h2 := congrArg wid e
  rw [app, wid_snoc] at h2
  omega
theorem qs_at {xs : List Rat} {i : Nat} (h : i < xs.length) : atI (qsD xs) (i : Int) = some (qD (xs.getD i 0)) := atI_nat (by
  unfold qsD List.getD
  rw [List.getElem?_map, List.getElem?_eq_getElem h]; rfl)
theorem dot_pair (x y : Rat) : dotR [1, -1] [x, y] = x - y := by
  simp only [dotR]
  have h1 : ((1 : Int) : Rat) = 1 := rfl
  have h2 : ((-1 : Int) : Rat) = -1 := rfl
  rw [h1, h2]; grind
/-- spread, as a flat list -/
def expZ (l : List (Bool × Int)) : List Int := l.flatMap fun p => if p.1 = true then [p.2] else [p.2, -p.2]
theorem exp_zip : ∀ {ks : List Bool} {as : List Int}, expand ks as = expZ (ks.zip as)
  | [], as => by cases as <;> rfl
  | k :: ks, [] => rfl
  | k :: ks, a :: as => by
    have := exp_zip (ks := ks) (as := as)
    cases k
    · show a :: -a :: expand ks as = [a, -a] ++ expZ (ks.zip as)
      rw [this]; rfl
    · show a :: expand ks as = [a] ++ expZ (ks.zip as)
      rw [this]; rfl
theorem expZ_len : ∀ l : List (Bool × Int), (expZ l).length ≤ 2 * l.length
  | [] => Nat.le_refl _
  | p :: l => by
    have := expZ_len l
    show ((if p.1 = true then [p.2] else [p.2, -p.2]) ++ expZ l).length ≤ _
    rw [List.length_append, List.length_cons]
    split <;> simp <;> omega
theorem zipIdx_range (rows : List Rw) : rows.zipIdx = (List.range rows.length).map fun i => (rwAt rows i, i) := by
  refine List.ext_getElem? fun i => ?_
  rw [List.getElem?_zipIdx, List.getElem?_map]
  rcases Nat.lt_or_ge i rows.length with q | q
  · rw [List.getElem?_range q, List.getElem?_eq_getElem q]
    unfold rwAt List.getD
    simp [List.getElem?_eq_getElem q]
  · rw [List.getElem?_eq_none q, List.getElem?_eq_none (by simpa using q)]; rfl
theorem slack_zip (rows : List Rw) : ((rows.zipIdx.filter fun p => decide (p.1.sn = .ge)).map fun p => PyData.int (p.2 : Int)) = (slackAt rows).map fun (i : Nat) => PyData.int (i : Int) := by
  rw [zipIdx_range, List.filter_map, List.map_map]
  rfl
section
variable {Pg : Program} {w : World} {K : PySem.W.Frag} {mg : Str → Option Value} {base : Heap}
def pre_gathered (ds : List PyData) (d : PyData) : Prop := ∃ (ks : List Bool) (xs : List Rat), ds = [.str (ksS ks), .list (qsD xs)] ∧ wid ks ≤ xs.length ∧ ks.length ≤ 1000 ∧ (∀ x, x ∈ xs → qb 1100 x) ∧ d = .tuple (qsD (gath ks xs))
theorem len_gathered : ∀ ds d, pre_gathered ds d → ds.length = 2 := by rintro _ _ ⟨_, _, rfl, _⟩; rfl
theorem ok_gathered (T : Txt K mg) : FnOk Pg w K mg base CX0 4 (He.ga K "gathered") (T.fd 26) ["kinds", "values"] (spD pre_gathered) := by
  refine (T.F 26 d_gathered rfl).ok sc_gathered (spD_len (n := 2) ?len) (fun cdv A outer s H vs Q E hr h => ?_)
  case len => exact len_gathered
  refine ⟨_, PSs.nox (pss_cons (ps_par (i := 2) (j := 3) (by rfl) sc_gathered.nd rfl rfl (by decide) rfl rfl (pa_cons (pe_lst pa_nil) (pa_cons pe_int pa_nil)) (by rfl))
      (pss_cons (ps_for PassesOwn.never rfl (pi_str (pv 0)) (pg_name (i := 4) sc_gathered.nd rfl (by first | exact Or.inl rfl | exact Or.inr rfl)) (pss_one (ps_if (pt_cmpR (op_eqDK (K := K) hr.units) (pv 4) pe_str (nomark _)) (pss_cons (ps_expr (pe_bm PySem.F.plainAttrs_list PySem.F.slot_list_append PySem.F.type_list_append mt_append (pv 2) (pa_cons (pe_ix (ix_seqK (K := K)) (pv 1) (pv 3) (fun _ _ => rfl)) pa_nil)))
      (pss_one (ps_aug (i := 3) sc_gathered.nd rfl (by first | exact Or.inl rfl | exact Or.inr rfl) pe_int ip_add))) (pss_cons (ps_par (i := 5) (j := 6) (by rfl) sc_gathered.nd rfl rfl (by decide) rfl rfl (pa_cons (pe_ix (ix_seqK (K := K)) (pv 1) (pv 3) (fun _ _ => rfl)) (pa_cons (pe_ix (ix_seqK (K := K)) (pv 1) (pe_op op_add (pv 3) pe_int) (fun _ _ => rfl)) pa_nil)) (by rfl))
      (pss_cons (ps_expr (pe_bm PySem.F.plainAttrs_list PySem.F.slot_list_append PySem.F.type_list_append mt_append (pv 2) (pa_cons (pe_ifExp (pt_cmpR (op_eqDK (K := K) hr.units) (pe_ix (ix_seqK (K := K)) (pv 6) pe_int (fun _ _ => rfl)) pe_int (nomark _)) (pv 5) (pe_call (ok_dot T) (hr.mono (show 3 ≤ _ by decide)) (by rfl) T.g_dot (T.F 7 d_dot rfl).kp (b_dot T) .nil pass0 (pa_cons (pe_tup (pa_cons pe_int (pa_cons (pe_un un_neg pe_int) pa_nil))) (pa_cons (pe_tup (pa_cons (pv 5) (pa_cons (pv 6) pa_nil))) pa_nil)))) pa_nil)))
      (pss_one (ps_aug (i := 3) sc_gathered.nd rfl (by first | exact Or.inl rfl | exact Or.inr rfl) pe_int ip_add)))))))
      (pss_one (ps_ret (pe_callTy call_tuple_of (by rfl) T.n_tuple (by decide +kernel) (pa_cons (pv 2) pa_nil)))))), ?_⟩
  refine body_pure (K := K) (C := gC K) h (fun ds d hp => by rw [len_gathered ds d hp]; decide) (fun ds d hp F0 H0 => ?_)
  obtain ⟨ks, xs, rfl, hw, hk, hx, rfl⟩ := hp
  show Sd _ _ [.d (.str (ksS ks)), .d (.list (qsD xs)), .no, .no, .no, .no, .no] _ _
  have hx' : ∀ j, j < xs.length → qb 1100 (xs.getD j 0) := fun j hj => by
    unfold List.getD
    rw [List.getElem?_eq_getElem hj]
    exact hx _ (List.getElem_mem hj)
  refine s_seq (M := fun P' => ∃ a, P' = [.d (.str (ksS ks)), .d (.list (qsD xs)), .own a [], .d (.int 0), .no, .no, .no]) (s_parOD (o_lst a_nil (by simp)) g_int (by simp) (by simp) (by decide) fun a => ⟨a, rfl⟩) ?_
  rintro _ ⟨a, rfl⟩
  refine s_seq (M := fun P' => ∃ a u v w, P' = [.d (.str (ksS ks)), .d (.list (qsD xs)), .own a (qsD (gath ks xs)), .d (.int (wid ks : Nat)), u, v, w]) (s_for (ds := chD (ksS ks)) (i_str (g_var rfl)) (fun i P' => ∃ a u v w, P' = [.d (.str (ksS ks)), .d (.list (qsD xs)), .own a (qsD (gath (ks.take i) xs)), .d (.int (wid (ks.take i) : Nat)), u, v, w]) ⟨a, _, _, _, rfl⟩ ?_ ?_) ?_
  · rintro i d P2 hd ⟨a, u, v, w, rfl⟩
    rw [ch_ks, List.getElem?_map] at hd
    cases e : ks[i]? with
    | none => rw [e] at hd; cases hd
    | some k =>
      rw [e] at hd
      cases hd
      have hwt := wid_take e
      have et : ks.take (i + 1) = ks.take i ++ [k] := by rw [List.take_add_one, e]; rfl
      have hlen : (qsD (gath (ks.take i) xs)).length ≤ 10000 := by
        simp [qsD, gath_len]; omega
      refine ⟨_, [.d (.str (ksS ks)), .d (.list (qsD xs)), .own a (qsD (gath (ks.take i) xs)), .d (.int (wid (ks.take i) : Nat)), .d (.str (ckS k)), v, w], d_name (by simp), ?_⟩
      rw [et, gath_snoc, wid_snoc]
      refine s_if (b := k) ((t_cmp (g_op (g_var rfl) g_str (o_eq (shp_ck k) (by decide +kernel)))).eq (ck_plus k)) (fun hk1 => ?_) fun hk0 => ?_
      · rw [if_pos hk1] at hwt
        rw [if_pos hk1, if_pos hk1]
        refine s_seq1 (P' := [.d (.str (ksS ks)), .d (.list (qsD xs)), .own a (qsD (gath (ks.take i) xs ++ [xs.getD (wid (ks.take i)) 0])), .d (.int (wid (ks.take i) : Nat)), .d (.str (ckS k)), v, w]) (s_append rfl (g_op (g_var rfl) (g_var rfl) (o_ixqL (qs_at (by omega)))) rfl hlen (by unfold qsD; rw [List.map_append]; rfl)) ?_
        exact s_aug rfl g_int o_ipadd ⟨a, .d (.str (ckS k)), v, w, rfl⟩
      · rw [if_neg (by rw [hk0]; decide)] at hwt
        rw [if_neg (by rw [hk0]; decide), if_neg (by rw [hk0]; decide)]
        have q1 := hx' (wid (ks.take i)) (by omega)
        have q2 := hx' (wid (ks.take i) + 1) (by omega)
        have at1 : atI (qsD xs) ((wid (ks.take i) : Nat) + (1 : Int)) = some (qD (xs.getD (wid (ks.take i) + 1) 0)) := qs_at (i := wid (ks.take i) + 1) (by omega)
        have at0' := qs_at (xs := xs) (i := wid (ks.take i)) (by omega)
        generalize xs.getD (wid (ks.take i)) 0 = x at *
        generalize xs.getD (wid (ks.take i) + 1) 0 = y at *
        have hy0 : y.num = 0 → qD x = qD (x - y) := fun hy => by
          have : y = 0 := by
            have h := rat_self y
            rw [hy] at h
            rw [← h]; simp [Rat.div_def]
          rw [this]
          have : x - 0 = x := by grind
          rw [this]
        have hib : ibd 1000 [1, -1] := fun b hb => by
          simp at hb
          rcases hb with rfl | rfl <;> decide
        have hqb : ∀ b, b ∈ [x, y] → qb 1100 b := fun b hb => by
          simp at hb
          rcases hb with rfl | rfl
          · exact q1
          · exact q2
        refine s_seq1 (P' := [.d (.str (ksS ks)), .d (.list (qsD xs)), .own a (qsD (gath (ks.take i) xs)), .d (.int (wid (ks.take i) : Nat)), .d (.str (ckS k)), .d (qD x), .d (qD y)]) (s_par (a_cons (g_op (g_var rfl) (g_var rfl) (o_ixqL at0')) (a_cons (g_op (g_var rfl) (g_op (g_var rfl) g_int o_add) (o_ixqL at1)) a_nil)) (by simp) (by simp) rfl) ?_
        refine s_seq1 (P' := [.d (.str (ksS ks)), .d (.list (qsD xs)), .own a (qsD (gath (ks.take i) xs ++ [x - y])), .d (.int (wid (ks.take i) : Nat)), .d (.str (ckS k)), .d (qD x), .d (qD y)]) (s_append (d := qD (x - y)) rfl (g_if (b := decide (y.num = 0)) ((t_eqI (g_q0 (g_var rfl) g_int) g_int)) (fun hy => (g_var rfl).eq (hy0 (of_decide_eq_true hy))) (fun hy => (g_call (a_cons (g_tup (a_cons g_int (a_cons (g_un g_int o_neg) a_nil)) (by simp)) (a_cons (g_tup (a_cons (g_var rfl) (a_cons (g_var rfl) a_nil)) (by simp)) a_nil)) ⟨[1, -1], [x, y], rfl, hib, hqb, by simp, rfl⟩).eq (by rw [dot_pair]))) rfl hlen (by unfold qsD; rw [List.map_append]; rfl)) ?_
        exact s_aug rfl g_int o_ipadd ⟨a, .d (.str (ckS k)), .d (qD x), .d (qD y), rfl⟩
  · rintro _ ⟨a, u, v, w, rfl⟩
    refine ⟨a, u, v, w, ?_⟩
    have : (chD (ksS ks)).length = ks.length := by rw [ch_ks, List.length_map]
    rw [this, List.take_length]
  · rintro _ ⟨a, u, v, w, rfl⟩
    exact s_ret (g_cb (a_cons (g_own rfl) a_nil) b_tuple) rfl
def sgnD (T : Tsk) (ys : List Rat) : PyData := .tuple ((T.rows.zip ys).map fun p => if p.1.sn = .le then .tuple [.int (-p.2.num), .int p.2.den] else qD p.2)
def pre_signed (ds : List PyData) (d : PyData) : Prop := ∃ (T : Tsk) (ys : List Rat), ds = [tD T, .list (qsD ys)] ∧ Sz T ∧ d = sgnD T ys
theorem len_signed : ∀ ds d, pre_signed ds d → ds.length = 2 := by rintro _ _ ⟨_, _, rfl, _⟩; rfl
theorem ok_signed (T : Txt K mg) : FnOk Pg w K mg base CX0 1 (He.ga K "signed") (T.fd 28) ["task", "weights"] (spD pre_signed) := by
  refine (T.F 28 d_signed rfl).ok sc_signed (spD_len (n := 2) ?len) (fun cdv A outer s H vs Q E hr h => ?_)
  case len => exact len_signed
  refine ⟨_, PSs.nox (pss_one (ps_ret (pe_callTy call_tuple_of (by rfl) T.n_tuple (by decide +kernel) (pa_cons (pe_lc (own := [("row", 2), ("one", 3)]) (by rfl) sc_signed.nd (pi_z2Q (by rfl) T.n_zip (pa_cons (pe_ix (ix_seqK (K := K)) (pv 0) pe_int (fun _ _ => rfl)) (pa_cons (pv 1) pa_nil))) (blkOk_by (N := ["task", "weights", "row", "one"]) (sc := defScope s_signed) (by decide +kernel)) (fun _ _ _ _ _ => (pg_tupK (K := K) (n := 2) (by rfl) (pgs_cons (pg_name (i := 2) sc_signed.nd rfl (by first | exact Or.inl rfl | exact Or.inr rfl)) (pgs_cons (pg_name (i := 3) sc_signed.nd rfl (by first | exact Or.inl rfl | exact Or.inr rfl)) pgs_nil)))) (fun _ _ _ _ _ => pts_nil) (fun _ _ _ _ _ => (pe_ifExp (pt_cmpR (op_eqDK (K := K) hr.units) (pe_ix (ix_seqK (K := K)) (pv 2) pe_int (fun _ _ => rfl)) pe_str (nomark _)) (pe_tup (pa_cons (pe_un un_neg (pe_ix (ix_seqK (K := K)) (pv 3) pe_int (fun _ _ => rfl))) (pa_cons (pe_ix (ix_seqK (K := K)) (pv 3) pe_int (fun _ _ => rfl)) pa_nil))) (pv 3)))) pa_nil)))), ?_⟩
  refine body_pure (K := K) (C := gC K) h (fun ds d hp => by rw [len_signed ds d hp]; decide) (fun ds d hp F0 H0 => ?_)
  obtain ⟨U, ys, rfl, hz, rfl⟩ := hp
  show Sd _ _ [.d (tD U), .d (.list (qsD ys)), .no, .no] _ _
  refine s_ret (g_cb (a_cons (TEo.g (o_mapL (xs := U.rows.zip ys) (f := fun p => if p.1.sn = .le then .tuple [.int (-p.2.num), .int p.2.den] else qD p.2) (z2_map (r := rwD) (q := qD) U.rows ys) (i_z2 (a_cons (g_op (g_var rfl) g_int (o_ixqT atT2)) (a_cons (g_var rfl) a_nil)) its_t its_l) (by simp) (by have := hz.rows; simp; omega) fun p hp => ?_)) a_nil) b_tuple) rfl
  refine ⟨_, [.d (tD U), .d (.list (qsD ys)), .d (rwD p.1), .d (qD p.2)], ?_, d_tup (ds_cons (d_name (by simp [noAt])) (ds_cons (d_name (by simp [noAt])) ds_nil)) rfl, rfl, ?_⟩
  · simp
  · refine g_if (b := decide (p.1.sn = .le)) ((t_cmp (g_op (g_op (g_var rfl) g_int (o_ixqT atT1)) g_str (o_eq (shp_sg _) (by decide +kernel)))).eq (sg_le _)) (fun h => (g_tup (a_cons (g_un (g_q0 (g_var rfl) g_int) o_neg) (a_cons (g_q1 (g_var rfl) g_int) a_nil)) (by simp)).eq ?_) (fun h => (g_var rfl).eq ?_)
    · rw [if_pos (of_decide_eq_true h)]
    · rw [if_neg (of_decide_eq_false h)]
end
end Cp
end
/-! ## CF7 -/
section
set_option Elab.async false
set_option linter.all false
set_option autoImplicit false
set_option maxRecDepth 100000
set_option maxHeartbeats 4000000
set_option exponentiation.threshold 100000
namespace Cp
variable [KFix]
open PySem PySem.Spec PyProof.Rows L2
def lD (xs : List Int) : PyData := .list (iD xs)
section
variable {Pg : Program} {w : World} {K : PySem.W.Frag} {mg : Str → Option Value} {base : Heap}
theorem iD_app (xs ys : List Int) : iD (xs ++ ys) = iD xs ++ iD ys := List.map_append
theorem iD_len (xs : List Int) : (iD xs).length = xs.length := List.length_map ..
/-- [one] or [one, -one] -/
theorem g_spr {c : Bc} {P : List Sl} {p : Bool × Int} (hc : c.K = K) (h7 : P[7]? = some (.d (.str (ckS p.1)))) (h8 : P[8]? = some (.d (.int p.2))) :
    TEg c (tIf (tTest (tOp (rEqD K) (tVar 7) (tC (.str ("+" : Str))))) (tLst (tCons (tVar 8) tNil)) (tLst (tCons (tVar 8) (tCons (tUn (rU fun i => .int (-i)) (tVar 8)) tNil)))) P (.list (iD (expZ [p]))) P := by
  refine g_if (b := p.1) ((t_cmp (g_op (g_var h7) g_str (o_eq (shp_ck p.1) (by decide +kernel)))).eq (ck_plus p.1)) (fun h => (g_lst (a_cons (g_var h8) a_nil) (by simp)).eq ?_) (fun h => (g_lst (a_cons (g_var h8) (a_cons (g_un (g_var h8) o_neg) a_nil)) (by simp)).eq ?_)
  · unfold expZ; simp [h, iD]
  · unfold expZ; simp [h, iD]
def pre_spread (ds : List PyData) (d : PyData) : Prop := ∃ T : Tsk, ds = [tD T] ∧ Sz T ∧ Wl T ∧ d = .tuple [.list ((linesOf T).map lD), lD (pricesOf T)]
theorem len_spread : ∀ ds d, pre_spread ds d → ds.length = 1 := by rintro _ _ ⟨_, rfl, _⟩; rfl
theorem slack_len (rows : List Rw) : (slackAt rows).length ≤ rows.length := by
  unfold slackAt
  refine Nat.le_trans (List.length_filter_le _ _) ?_
  simp
theorem expZ_snoc (l : List (Bool × Int)) (i : Nat) {p : Bool × Int} (h : l[i]? = some p) : expZ (l.take (i + 1)) = expZ (l.take i) ++ expZ [p] := by
  rw [List.take_add_one, h]
  unfold expZ
  rw [List.flatMap_append]; rfl
theorem ok_spread (T : Txt K mg) : FnOk Pg w K mg base CX0 1 (He.ga K "spread") (T.fd 25) ["task"] (spD pre_spread) := by
  refine (T.F 25 d_spread rfl).ok sc_spread (spD_len (n := 1) ?len) (fun cdv A outer s H vs Q E hr h => ?_)
  case len => exact len_spread
  refine ⟨_, PSs.nox (pss_cons (ps_asg (pv 0) (pg_tupK (K := K) (n := 3) (by rfl) (pgs_cons (pg_name (i := 1) sc_spread.nd rfl (by first | exact Or.inl rfl | exact Or.inr rfl)) (pgs_cons (pg_name (i := 2) sc_spread.nd rfl (by first | exact Or.inl rfl | exact Or.inr rfl)) (pgs_cons (pg_name (i := 3) sc_spread.nd rfl (by first | exact Or.inl rfl | exact Or.inr rfl)) pgs_nil)))))
      (pss_cons (ps_setLc (i := 4) (own := [("at", 12), ("row", 10)]) (by rfl) sc_spread.nd rfl rfl (sw_true rfl rfl rfl (by decide +kernel)) (pi_enQ (by rfl) T.n_enumerate (pa_cons (pv 3) pa_nil)) (blkOk_by (N := ["task", "kinds", "costs", "rows", "slack", "found", "prices", "kind", "one", "index", "row", "line", "at"]) (sc := defScope s_spread) (by decide +kernel)) (fun _ _ _ _ _ => (pg_tupK (K := K) (n := 2) (by rfl) (pgs_cons (pg_name (i := 12) sc_spread.nd rfl (by first | exact Or.inl rfl | exact Or.inr rfl)) (pgs_cons (pg_name (i := 10) sc_spread.nd rfl (by first | exact Or.inl rfl | exact Or.inr rfl)) pgs_nil)))) (fun _ _ _ _ _ => (pts_one (pt_cmpR (op_eqDK (K := K) hr.units) (pe_ix (ix_seqK (K := K)) (pv 10) pe_int (fun _ _ => rfl)) pe_str (nomark _)))) (fun _ _ _ _ _ => (pv 12)))
      (pss_cons (ps_par (i := 5) (j := 6) (by rfl) sc_spread.nd rfl rfl (by decide) rfl rfl (pa_cons (pe_lst pa_nil) (pa_cons (pe_lst pa_nil) pa_nil)) (by rfl))
      (pss_cons (ps_for PassesOwn.never rfl (pi_z2Q (by rfl) T.n_zip (pa_cons (pv 1) (pa_cons (pv 2) pa_nil))) (pg_tupK (K := K) (n := 2) (by rfl) (pgs_cons (pg_name (i := 7) sc_spread.nd rfl (by first | exact Or.inl rfl | exact Or.inr rfl)) (pgs_cons (pg_name (i := 8) sc_spread.nd rfl (by first | exact Or.inl rfl | exact Or.inr rfl)) pgs_nil))) (pss_one (ps_expr (pe_bm PySem.F.plainAttrs_list PySem.F.slot_list_extend PySem.F.type_list_extend mt_extend (pv 6) (pa_cons (pe_ifExp (pt_cmpR (op_eqDK (K := K) hr.units) (pv 7) pe_str (nomark _)) (pe_lst (pa_cons (pv 8) pa_nil)) (pe_lst (pa_cons (pv 8) (pa_cons (pe_un un_neg (pv 8)) pa_nil)))) pa_nil)))))
      (pss_cons (ps_expr (pe_bm PySem.F.plainAttrs_list PySem.F.slot_list_extend PySem.F.type_list_extend mt_extend (pv 6) (pa_cons (pe_op op_rep (pe_lst (pa_cons pe_int pa_nil)) (pe_callB call_len (by rfl) T.n_len PySem.boot_len (pa_cons (pv 4) pa_nil))) pa_nil)))
      (pss_cons (ps_for PassesOwn.never rfl (pi_enQ (by rfl) T.n_enumerate (pa_cons (pv 3) pa_nil)) (pg_tupK (K := K) (n := 2) (by rfl) (pgs_cons (pg_name (i := 9) sc_spread.nd rfl (by first | exact Or.inl rfl | exact Or.inr rfl)) (pgs_cons (pg_name (i := 10) sc_spread.nd rfl (by first | exact Or.inl rfl | exact Or.inr rfl)) pgs_nil))) (pss_cons (ps_set (i := 11) sc_spread.nd rfl (by first | exact Or.inl rfl | exact Or.inr rfl) (pe_lst pa_nil))
      (pss_cons (ps_for PassesOwn.never rfl (pi_z2Q (by rfl) T.n_zip (pa_cons (pv 1) (pa_cons (pe_ix (ix_seqK (K := K)) (pv 10) pe_int (fun _ _ => rfl)) pa_nil))) (pg_tupK (K := K) (n := 2) (by rfl) (pgs_cons (pg_name (i := 7) sc_spread.nd rfl (by first | exact Or.inl rfl | exact Or.inr rfl)) (pgs_cons (pg_name (i := 8) sc_spread.nd rfl (by first | exact Or.inl rfl | exact Or.inr rfl)) pgs_nil))) (pss_one (ps_expr (pe_bm PySem.F.plainAttrs_list PySem.F.slot_list_extend PySem.F.type_list_extend mt_extend (pv 11) (pa_cons (pe_ifExp (pt_cmpR (op_eqDK (K := K) hr.units) (pv 7) pe_str (nomark _)) (pe_lst (pa_cons (pv 8) pa_nil)) (pe_lst (pa_cons (pv 8) (pa_cons (pe_un un_neg (pv 8)) pa_nil)))) pa_nil)))))
      (pss_cons (ps_expr (pe_bm PySem.F.plainAttrs_list PySem.F.slot_list_extend PySem.F.type_list_extend mt_extend (pv 11) (pa_cons (pe_lc (own := [("at", 12)]) (by rfl) sc_spread.nd (pi_list (pv 4)) (blkOk_by (N := ["task", "kinds", "costs", "rows", "slack", "found", "prices", "kind", "one", "index", "row", "line", "at"]) (sc := defScope s_spread) (by decide +kernel)) (fun _ _ _ _ _ => (pg_name (i := 12) sc_spread.nd rfl (by first | exact Or.inl rfl | exact Or.inr rfl))) (fun _ _ _ _ _ => pts_nil) (fun _ _ _ _ _ => (pe_ifExp (pt_cmpR (op_eqDK (K := K) hr.units) (pv 12) (pv 9) (nomark _)) (pe_un un_neg pe_int) pe_int))) pa_nil)))
      (pss_one (ps_expr (pe_bm PySem.F.plainAttrs_list PySem.F.slot_list_append PySem.F.type_list_append mt_append (pv 5) (pa_cons (pv 11) pa_nil))))))))
      (pss_one (ps_ret (pe_tup (pa_cons (pv 5) (pa_cons (pv 6) pa_nil))))))))))), ?_⟩
  refine body_pure (K := K) (C := gC K) h (fun ds d hp => by rw [len_spread ds d hp]; decide) (fun ds d hp F0 H0 => ?_)
  obtain ⟨U, rfl, hz, hw, rfl⟩ := hp
  show Sd _ _ [.d (tD U), .no, .no, .no, .no, .no, .no, .no, .no, .no, .no, .no, .no] _ _
  have z1 := hz.ks
  have z2 := hz.cs
  have z3 := hz.rows
  have z4 := slack_len U.rows
  have lenE : ∀ as : List Int, (expand U.ks as).length ≤ 2000 := fun as => by
    rw [exp_zip]
    refine Nat.le_trans (expZ_len _) ?_
    rw [List.length_zip]; omega
  have lenT : ∀ (as : List Int) (i : Nat), (expZ ((U.ks.zip as).take i)).length ≤ 2000 := fun as i => by
    refine Nat.le_trans (expZ_len _) ?_
    rw [List.length_take, List.length_zip]; omega
  have len1 : ∀ p : Bool × Int, (expZ [p]).length ≤ 2 := fun p => expZ_len [p]
  have slk : ((slackAt U.rows).map fun (i : Nat) => PyData.int (i : Int)).length ≤ 1000 := by rw [List.length_map]; omega
  refine s_seq1 (P' := [.d (tD U), .d (.str (ksS U.ks)), .d (.tuple (iD U.cs)), .d (.tuple (U.rows.map rwD)), .no, .no, .no, .no, .no, .no, .no, .no, .no]) (s_asg (g_var rfl) (d_tup (ds_cons (d_name (by simp)) (ds_cons (d_name (by simp)) (ds_cons (d_name (by simp)) ds_nil))) rfl) rfl) ?_
  refine s_seq1 (P' := [.d (tD U), .d (.str (ksS U.ks)), .d (.tuple (iD U.cs)), .d (.tuple (U.rows.map rwD)), .d (.list ((slackAt U.rows).map fun (i : Nat) => PyData.int (i : Int))), .no, .no, .no, .no, .no, .no, .no, .no]) ?_ ?_
  · refine s_set ((TEo.g (o_filterL (xs := U.rows.zipIdx) (f := fun p => .int (p.2 : Int)) (fun p => decide (p.1.sn = .ge)) (en_map (r := rwD) U.rows) (i_en (a_cons (g_var rfl) a_nil) its_t) (by simp) (by simp; omega) fun p hp => ?_)).eq (by rw [slack_zip])) (by simp [noAt]) rfl
    refine ⟨_, [.d (tD U), .d (.str (ksS U.ks)), .d (.tuple (iD U.cs)), .d (.tuple (U.rows.map rwD)), .no, .no, .no, .no, .no, .no, .d (rwD p.1), .no, .d (.int (p.2 : Int))], ?_, d_tup (ds_cons (d_name (by simp [noAt])) (ds_cons (d_name (by simp [noAt])) ds_nil)) rfl, rfl, (t_cmp (g_op (g_op (g_var rfl) g_int (o_ixqT atT1)) g_str (o_eq (shp_sg _) (by decide +kernel)))).eq (sg_ge _), fun _ => g_var rfl⟩
    simp
  refine s_seq (M := fun P' => ∃ a b, P' = [.d (tD U), .d (.str (ksS U.ks)), .d (.tuple (iD U.cs)), .d (.tuple (U.rows.map rwD)), .d (.list ((slackAt U.rows).map fun (i : Nat) => PyData.int (i : Int))), .own a [], .own b [], .no, .no, .no, .no, .no, .no]) (s_parOO (o_lst a_nil (by simp)) (o_lst a_nil (by simp)) (by simp) (by simp) (by decide) fun a b => ⟨a, b, rfl⟩) ?_
  rintro _ ⟨a, b, rfl⟩
  refine s_seq (M := fun P' => ∃ a b u v, P' = [.d (tD U), .d (.str (ksS U.ks)), .d (.tuple (iD U.cs)), .d (.tuple (U.rows.map rwD)), .d (.list ((slackAt U.rows).map fun (i : Nat) => PyData.int (i : Int))), .own a [], .own b (iD (expand U.ks U.cs)), u, v, .no, .no, .no, .no]) (s_for (ds := z2D (chD (ksS U.ks)) (iD U.cs)) (i_z2 (a_cons (g_var rfl) (a_cons (g_var rfl) a_nil)) its_s its_t)
    (fun i P' => ∃ a b u v, P' = [.d (tD U), .d (.str (ksS U.ks)), .d (.tuple (iD U.cs)), .d (.tuple (U.rows.map rwD)), .d (.list ((slackAt U.rows).map fun (i : Nat) => PyData.int (i : Int))), .own a [], .own b (iD (expZ ((U.ks.zip U.cs).take i))), u, v, .no, .no, .no, .no]) ⟨a, b, _, _, rfl⟩ ?_ ?_) ?_
  · rintro i d P2 hd ⟨a, b, u, v, rfl⟩
    rw [ch_ks, show iD U.cs = U.cs.map PyData.int from rfl, z2_map, List.getElem?_map] at hd
    cases e : (U.ks.zip U.cs)[i]? with
    | none => rw [e] at hd; cases hd
    | some p =>
      rw [e] at hd
      cases hd
      refine ⟨_, [.d (tD U), .d (.str (ksS U.ks)), .d (.tuple (iD U.cs)), .d (.tuple (U.rows.map rwD)), .d (.list ((slackAt U.rows).map fun (i : Nat) => PyData.int (i : Int))), .own a [], .own b (iD (expZ ((U.ks.zip U.cs).take i))), .d (.str (ckS p.1)), .d (.int p.2), .no, .no, .no, .no], d_tup (ds_cons (d_name (by simp)) (ds_cons (d_name (by simp)) ds_nil)) rfl, ?_⟩
      refine s_extend rfl (g_spr (p := p) rfl rfl rfl) rfl ?_ ⟨a, b, .d (.str (ckS p.1)), .d (.int p.2), ?_⟩
      · rw [iD_len, iD_len]
        have h1 := lenT U.cs i
        have h2 := len1 p
        omega
      · rw [expZ_snoc _ _ e, iD_app]; rfl
  · rintro _ ⟨a, b, u, v, rfl⟩
    refine ⟨a, b, u, v, ?_⟩
    have : (z2D (chD (ksS U.ks)) (iD U.cs)).length = (U.ks.zip U.cs).length := by rw [z2D_len, ch_ks, List.length_map, iD_len, List.length_zip]
    rw [this, List.take_length, exp_zip]
  rintro _ ⟨a, b, u, v, rfl⟩
  refine s_seq1 (P' := [.d (tD U), .d (.str (ksS U.ks)), .d (.tuple (iD U.cs)), .d (.tuple (U.rows.map rwD)), .d (.list ((slackAt U.rows).map fun (i : Nat) => PyData.int (i : Int))), .own a [], .own b (iD (pricesOf U)), u, v, .no, .no, .no, .no]) ?_ ?_
  · refine s_extend (es := iD (List.replicate (slackAt U.rows).length 0)) rfl ((g_op (g_lst (a_cons g_int a_nil) (by simp)) (g_cb (a_cons (g_var rfl) a_nil) b_lenL) (o_rep1 (by rw [List.length_map]; omega) (by omega))).eq (by simp [iD])) rfl ?_ ?_
    · rw [iD_len, iD_len, List.length_replicate]
      have := lenE U.cs
      omega
    · unfold pricesOf
      rw [iD_app]; rfl
  refine s_seq (M := fun P' => ∃ a x1 x2 x3 x4 x5, P' = [.d (tD U), .d (.str (ksS U.ks)), .d (.tuple (iD U.cs)), .d (.tuple (U.rows.map rwD)), .d (.list ((slackAt U.rows).map fun (i : Nat) => PyData.int (i : Int))), .own a ((linesOf U).map lD), .own b (iD (pricesOf U)), x1, x2, x3, x4, x5, .no]) (s_for (ds := enD (U.rows.map rwD)) (i_en (a_cons (g_var rfl) a_nil) its_t)
    (fun i P' => ∃ a x1 x2 x3 x4 x5, P' = [.d (tD U), .d (.str (ksS U.ks)), .d (.tuple (iD U.cs)), .d (.tuple (U.rows.map rwD)), .d (.list ((slackAt U.rows).map fun (i : Nat) => PyData.int (i : Int))), .own a (((linesOf U).take i).map lD), .own b (iD (pricesOf U)), x1, x2, x3, x4, x5, .no]) ⟨a, _, _, _, _, _, rfl⟩ ?_ ?_) ?_
  · rintro i d P2 hd ⟨a, x1, x2, x3, x4, x5, rfl⟩
    rw [en_map, List.getElem?_map, List.getElem?_zipIdx] at hd
    cases e : U.rows[i]? with
    | none => rw [e] at hd; cases hd
    | some r =>
      rw [e] at hd
      simp only [Option.map_some, Nat.zero_add] at hd
      cases hd
      have hl : (linesOf U)[i]? = some (expand U.ks r.cs ++ slackLine i (slackAt U.rows)) := by
        unfold linesOf
        rw [List.getElem?_mapIdx, e]; rfl
      have hln : (((linesOf U).take i).map lD).length ≤ 10000 := by
        have : (linesOf U).length = U.rows.length := by simp [linesOf]
        simp; omega
      refine ⟨_, [.d (tD U), .d (.str (ksS U.ks)), .d (.tuple (iD U.cs)), .d (.tuple (U.rows.map rwD)), .d (.list ((slackAt U.rows).map fun (i : Nat) => PyData.int (i : Int))), .own a (((linesOf U).take i).map lD), .own b (iD (pricesOf U)), x1, x2, .d (.int i), .d (rwD r), x5, .no], d_tup (ds_cons (d_name (by simp)) (ds_cons (d_name (by simp)) ds_nil)) rfl, ?_⟩
      generalize hdone : ((linesOf U).take i).map lD = done at hln ⊢
      refine s_seq (M := fun P' => ∃ l, P' = [.d (tD U), .d (.str (ksS U.ks)), .d (.tuple (iD U.cs)), .d (.tuple (U.rows.map rwD)), .d (.list ((slackAt U.rows).map fun (i : Nat) => PyData.int (i : Int))), .own a done, .own b (iD (pricesOf U)), x1, x2, .d (.int i), .d (rwD r), .own l [], .no]) (s_nilOwn a_nil (by simp) (by simp) fun l => ⟨l, rfl⟩) ?_
      rintro _ ⟨l, rfl⟩
      refine s_seq (M := fun P' => ∃ l x1 x2, P' = [.d (tD U), .d (.str (ksS U.ks)), .d (.tuple (iD U.cs)), .d (.tuple (U.rows.map rwD)), .d (.list ((slackAt U.rows).map fun (i : Nat) => PyData.int (i : Int))), .own a done, .own b (iD (pricesOf U)), x1, x2, .d (.int i), .d (rwD r), .own l (iD (expand U.ks r.cs)), .no]) (s_for (ds := z2D (chD (ksS U.ks)) (iD r.cs)) (i_z2 (a_cons (g_var rfl) (a_cons (g_op (g_var rfl) g_int (o_ixqT atT0)) a_nil)) its_s its_t)
        (fun k P' => ∃ l x1 x2, P' = [.d (tD U), .d (.str (ksS U.ks)), .d (.tuple (iD U.cs)), .d (.tuple (U.rows.map rwD)), .d (.list ((slackAt U.rows).map fun (i : Nat) => PyData.int (i : Int))), .own a done, .own b (iD (pricesOf U)), x1, x2, .d (.int i), .d (rwD r), .own l (iD (expZ ((U.ks.zip r.cs).take k))), .no]) ⟨l, _, _, rfl⟩ ?_ ?_) ?_
      · rintro k d P2 hd ⟨l, u, v, rfl⟩
        rw [ch_ks, show iD r.cs = r.cs.map PyData.int from rfl, z2_map, List.getElem?_map] at hd
        cases e2 : (U.ks.zip r.cs)[k]? with
        | none => rw [e2] at hd; cases hd
        | some p =>
          rw [e2] at hd
          cases hd
          refine ⟨_, [.d (tD U), .d (.str (ksS U.ks)), .d (.tuple (iD U.cs)), .d (.tuple (U.rows.map rwD)), .d (.list ((slackAt U.rows).map fun (i : Nat) => PyData.int (i : Int))), .own a done, .own b (iD (pricesOf U)), .d (.str (ckS p.1)), .d (.int p.2), .d (.int i), .d (rwD r), .own l (iD (expZ ((U.ks.zip r.cs).take k))), .no], d_tup (ds_cons (d_name (by simp)) (ds_cons (d_name (by simp)) ds_nil)) rfl, ?_⟩
          refine s_extend rfl (g_spr (p := p) rfl rfl rfl) rfl ?_ ⟨l, .d (.str (ckS p.1)), .d (.int p.2), ?_⟩
          · rw [iD_len, iD_len]
            have h1 := lenT r.cs k
            have h2 := len1 p
            omega
          · rw [expZ_snoc _ _ e2, iD_app]; rfl
      · rintro _ ⟨l, u, v, rfl⟩
        refine ⟨l, u, v, ?_⟩
        have : (z2D (chD (ksS U.ks)) (iD r.cs)).length = (U.ks.zip r.cs).length := by rw [z2D_len, ch_ks, List.length_map, iD_len, List.length_zip]
        rw [this, List.take_length, exp_zip]
      rintro _ ⟨l, u, v, rfl⟩
      refine s_seq1 (P' := [.d (tD U), .d (.str (ksS U.ks)), .d (.tuple (iD U.cs)), .d (.tuple (U.rows.map rwD)), .d (.list ((slackAt U.rows).map fun (i : Nat) => PyData.int (i : Int))), .own a done, .own b (iD (pricesOf U)), u, v, .d (.int i), .d (rwD r), .own l (iD (expand U.ks r.cs ++ slackLine i (slackAt U.rows))), .no]) ?_ ?_
      · refine s_extend (es := iD (slackLine i (slackAt U.rows))) rfl ((TEo.g (o_mapL (xs := slackAt U.rows) (r := fun (k : Nat) => .int (k : Int)) (f := fun k => .int (if k = i then -1 else 0)) rfl (i_list (g_var rfl)) (by simp) (by omega) fun k hk => ⟨_, _, by simp, d_name (by simp [noAt]), rfl, g_if (b := decide (k = i)) ((t_eqI (g_var rfl) (g_var rfl)).eq (by simp; omega)) (fun h => (g_un g_int o_neg).eq (by rw [if_pos (of_decide_eq_true h)])) (fun h => g_int.eq (by rw [if_neg (of_decide_eq_false h)]))⟩)).eq (by unfold iD slackLine; rw [List.map_map]; rfl)) rfl ?_ ?_
        · rw [iD_len, iD_len]
          have := lenE r.cs
          have : (slackLine i (slackAt U.rows)).length = (slackAt U.rows).length := by simp [slackLine]
          omega
        · rw [iD_app]; rfl
      refine s_append rfl (g_own rfl) rfl hln ⟨a, u, v, .d (.int i), .d (rwD r), .d (lD (expand U.ks r.cs ++ slackLine i (slackAt U.rows))), ?_⟩
      have : ((linesOf U).take (i + 1)).map lD = done ++ [lD (expand U.ks r.cs ++ slackLine i (slackAt U.rows))] := by
        rw [List.take_add_one, hl, ← hdone]; simp
      rw [this]; rfl
  · rintro _ ⟨a, x1, x2, x3, x4, x5, rfl⟩
    refine ⟨a, x1, x2, x3, x4, x5, ?_⟩
    have : (enD (U.rows.map rwD)).length = (linesOf U).length := by rw [enD_len]; simp [linesOf]
    rw [this, List.take_length]
  · rintro _ ⟨a, x1, x2, x3, x4, x5, rfl⟩
    exact s_ret (g_tup (a_cons (g_own rfl) (a_cons (g_own rfl) a_nil)) (by simp)) rfl
end
end Cp
end
/-! ## CDg -/
section
set_option Elab.async false
set_option linter.all false
set_option autoImplicit false
set_option maxRecDepth 100000
set_option maxHeartbeats 4000000
/-! objects with data fields and owned list fields; calls that are handed an owned thing -/
namespace Cp
variable [KFix]
open PySem PySem.Spec PyProof.Rows L2

theorem fAs_own {f : Str} {a : Addr} {ds : List PyData} : ∀ {fs : List (Str × Fd)}, fs.lookup f = some (.own a ds) → a ∈ fAs fs
  | [], e => by simp at e
  | (k, x) :: fs, e => by
    rw [List.lookup_cons] at e
    cases q : (f == k) with
    | true =>
      rw [q] at e
      have := Option.some.inj e
      subst this
      simp [fAs, Fd.as]
    | false =>
      rw [q] at e
      exact List.mem_append_right _ (fAs_own e)
/-- a field that holds data, or none, takes data; an owned one keeps its list -/
def Kp (fs : List (Str × Fd)) (f : Str) (x : Fd) : Prop := fs.lookup f = none ∧ x.as = [] ∨ ∃ y, fs.lookup f = some y ∧ x.as = y.as
theorem fAs_put {f : Str} {x : Fd} : ∀ {fs : List (Str × Fd)}, Kp fs f x → fAs (putD f x fs) = fAs fs
  | [], h => by
    rcases h with ⟨_, h⟩ | ⟨y, h, _⟩
    · simp [putD, fAs, h]
    · simp at h
  | (k, z) :: fs, h => by
    unfold Kp at h
    rw [List.lookup_cons] at h
    by_cases e : k = f
    · subst e
      simp only [beq_self_eq_true] at h
      have e2 : putD k x ((k, z) :: fs) = (k, x) :: fs := if_pos rfl
      rw [e2]
      rcases h with ⟨h, _⟩ | ⟨y, h, h2⟩
      · cases h
      · cases h
        simp [fAs, h2]
    · have e2 : putD f x ((k, z) :: fs) = (k, z) :: putD f x fs := if_neg e
      have e3 : (f == k) = false := by simpa using fun q => e q.symm
      rw [e3] at h
      rw [e2]
      show z.as ++ fAs (putD f x fs) = z.as ++ fAs fs
      rw [fAs_put h]
theorem fAs_putNew {f : Str} {a : Addr} {ds : List PyData} : ∀ {fs : List (Str × Fd)}, fs.lookup f = none → fAs (putD f (.own a ds) fs) = fAs fs ++ [a]
  | [], h => by simp [putD, fAs, Fd.as]
  | (k, z) :: fs, h => by
    rw [List.lookup_cons] at h
    have e : ¬ k = f := fun e => by subst e; simp at h
    have e3 : (f == k) = false := by simpa using fun q => e q.symm
    rw [e3] at h
    have e2 : putD f (.own a ds) ((k, z) :: fs) = (k, z) :: putD f (.own a ds) fs := if_neg e
    rw [e2]
    show z.as ++ fAs (putD f _ fs) = (z.as ++ fAs fs) ++ [a]
    rw [fAs_putNew h, List.append_assoc]
section
variable {c : Bc} {P P1 P2 P3 : List Sl} {L : List Sl} {σ : L2.St} {F H : Hp} {p dx : Addr} {fs : List (Str × Fd)} {f : Str}
/-- what stands of an object -/
theorem Stt.obj {i : Nat} (S : Stt c L σ F H) (h : L[i]? = some (.obj p dx fs)) : (∃ raw, H p = some (.ins c.C dx raw) ∧ FsO F H raw fs) ∧ H dx = some (.own p) ∧ (p :: dx :: fAs fs).Nodup := S.hold i _ h
theorem Stt.slot {i : Nat} {s : Sl} {T : List Sl} (S : Stt c (P ++ T) σ F H) (hl : σ.length = P.length) (h : P[i]? = some s) : SlV F (σ[i]?) s := S.val i _ (get_app h) (by rw [hl]; exact lt_of_get h)
/-- o.f, a field of data -/
theorem g_fld {i : Nat} {x : PyData} (h : P[i]? = some (.obj p dx fs)) (hf : fs.lookup f = some (.d x)) (cl : Cls c.K c.C) (nf : NoAttr c.K c.C f) : TEg c (tFld c.K (tVar i) f) P x P := by
  refine ⟨rfl, fun T σ F H Q S hl q => ?_⟩
  have e := S.slot hl h
  obtain ⟨⟨raw, e1, r⟩, e2, nd⟩ := S.obj (get_app h)
  obtain ⟨v, hv, rv⟩ := r.lookup hf
  exact ⟨.ref p, e, p, c.C, dx, raw, v, rfl, e1, cl, nf, hv, q v F H S (Same.refl _) rv⟩
/-- o.f[k], an owned field -/
theorem g_fldIx {i : Nat} {a : Addr} {ds : List PyData} {tk : TE} {k : Int} {d : PyData} (h : P[i]? = some (.obj p dx fs)) (hf : fs.lookup f = some (.own a ds)) (cl : Cls c.K c.C) (nf : NoAttr c.K c.C f)
    (hk : TEg c tk P (.int k) P) (hd : atI ds k = some d) : TEg c (tOp (rIx c.K) (tFld c.K (tVar i) f) tk) P d P := by
  refine ⟨rfl, fun T σ F H Q S hl q => ?_⟩
  have e := S.slot hl h
  obtain ⟨⟨raw, e1, r⟩, e2, nd⟩ := S.obj (get_app h)
  obtain ⟨v, hv, rv⟩ := r.lookup hf
  obtain ⟨rfl, _⟩ := rv
  refine ⟨.ref p, e, p, c.C, dx, raw, _, rfl, e1, cl, nf, hv, hk.run T σ F H _ S hl fun y F2 H2 S2 m2 r2 => ?_⟩
  cases r2
  obtain ⟨⟨raw2, e12, r2'⟩, _, _⟩ := S2.obj (get_app h)
  obtain ⟨v2, hv2, rv2⟩ := r2'.lookup hf
  obtain ⟨rfl, vs, hH, rl⟩ := rv2
  obtain ⟨u, hu, ru⟩ := atI_rp rl hd
  exact .inl ⟨a, vs, k, u, rfl, rfl, SqL.of hH, hu, q u F2 H2 S2 m2 ru⟩
/-- len(o.f) -/
theorem g_fldLen {i : Nat} {a : Addr} {ds : List PyData} (h : P[i]? = some (.obj p dx fs)) (hf : fs.lookup f = some (.own a ds)) (cl : Cls c.K c.C) (nf : NoAttr c.K c.C f) :
    TEg c (tCB (fun xs H Q => ∃ x n, xs = [x] ∧ LenV c.K x H n ∧ Q (.int n) H) (tCons (tFld c.K (tVar i) f) tNil)) P (.int ds.length) P := by
  refine ⟨rfl, fun T σ F H Q S hl q => ?_⟩
  have e := S.slot hl h
  obtain ⟨⟨raw, e1, r⟩, e2, nd⟩ := S.obj (get_app h)
  obtain ⟨v, hv, rv⟩ := r.lookup hf
  obtain ⟨rfl, vs, hH, rl⟩ := rv
  exact ⟨.ref p, e, p, c.C, dx, raw, _, rfl, e1, cl, nf, hv, _, _, rfl, .inl ⟨vs, SqL.of hH, rl.len.symm⟩, q _ F H S (Same.refl _) (.int _)⟩
/-- list(o.f) -/
theorem o_fldList {i : Nat} {a : Addr} {ds : List PyData} (h : P[i]? = some (.obj p dx fs)) (hf : fs.lookup f = some (.own a ds)) (cl : Cls c.K c.C) (nf : NoAttr c.K c.C f) :
    TEo c (tCB (fun xs H Q => ∃ p ys, xs = [.ref p] ∧ (SqL c.K H p ys ∨ SqT c.K H p ys) ∧ ∀ l, H l = none → Q (.ref l) (upd H l (.lst ys))) (tCons (tFld c.K (tVar i) f) tNil)) P ds P := by
  refine ⟨rfl, fun T σ F H Q S hl q => ?_⟩
  have e := S.slot hl h
  obtain ⟨⟨raw, e1, r⟩, e2, nd⟩ := S.obj (get_app h)
  obtain ⟨v, hv, rv⟩ := r.lookup hf
  obtain ⟨rfl, vs, hH, rl⟩ := rv
  refine ⟨.ref p, e, p, c.C, dx, raw, _, rfl, e1, cl, nf, hv, a, vs, rfl, .inl (SqL.of hH), fun l hn => ?_⟩
  have S2 := S.ghost hn rl
  rw [List.append_assoc] at S2
  exact q l F _ S2 (Same.refl _)
/-- the object is written -/
theorem Stt.putF {i : Nat} {v : V} {x : Fd} {raw : List (Str × V)} (S : Stt c L σ F H) (h : L[i]? = some (.obj p dx fs)) (hraw : H p = some (.ins c.C dx raw)) (r : FsO F H raw fs) (hx : FvO F H v x) (k : Kp fs f x) :
    Stt c (L.set i (.obj p dx (putD f x fs))) σ F (upd H p (.ins c.C dx (L2.putF f v raw))) := by
  obtain ⟨_, e2, nd⟩ := S.obj h
  have np : ∀ a ∈ fAs fs, a ≠ p := fun a ha z => by
    subst z
    exact (List.nodup_cons.mp nd).1 (List.mem_cons_of_mem _ ha)
  have ndx : dx ≠ p := fun z => by
    subst z
    exact (List.nodup_cons.mp nd).1 (List.mem_cons_self ..)
  have r2 : FsO F H (L2.putF f v raw) (putD f x fs) := r.put hx
  refine S.write (t := .obj p dx (putD f x fs)) h (fun a ha => ?_) (fun b hb => upd_ne fun z => hb (by simp [Sl.as, z])) ⟨⟨_, upd_same, r2.mono (Same.refl _) fun a ha o q => ?_⟩, by rw [upd_ne ndx]; exact e2, ?_⟩ fun hl => (show SlV F _ (.obj p dx fs) from S.val i _ h hl)
  · simp only [Sl.as, fAs_put k] at ha ⊢; exact ha
  · rw [fAs_put k] at ha
    rw [upd_ne (np a ha)]; exact q
  · rw [fAs_put k]; exact nd
/-- o.f = e, data -/
theorem s_fld {i : Nat} {te : TE} {d : PyData} {N : List Sl → Prop} {R : PyData → List Sl → Prop} (he : TEg c te P d P1) (h : P1[i]? = some (.obj p dx fs)) (k : Kp fs f (.d d)) (cl : Cls c.K c.C) (nf : NoAttr c.K c.C f) (hl0 : fs.length < 1000)
    (hn : N (P1.set i (.obj p dx (putD f (.d d) fs)))) : Sd c (sFld c.K (tVar i) te f) P N R := by
  intro T σ F H D S hl n r
  refine he.run T σ F H _ S hl fun v F1 H1 S1 m1 r1 => ?_
  have hl1 : σ.length = P1.length := hl.trans he.len.symm
  have e := S1.slot hl1 h
  obtain ⟨⟨raw, e1, rr⟩, e2, nd⟩ := S1.obj (get_app h)
  have S2 := S1.putF (v := v) (x := .d d) (get_app h) e1 rr r1 k
  rw [set_app (lt_of_get h)] at S2
  exact ⟨.ref p, e, p, c.C, dx, raw, rfl, e1, cl, nf, by rw [rr.len]; exact hl0, n _ _ F1 _ hn S2 (by simp [hl1]) m1⟩
/-- o.f = e, a new list that stays owned, the field new -/
theorem s_fldO {i : Nat} {te : TE} {ds : List PyData} {N : List Sl → Prop} {R : PyData → List Sl → Prop} (he : TEo c te P ds P1) (h : P1[i]? = some (.obj p dx fs)) (k : fs.lookup f = none) (cl : Cls c.K c.C) (nf : NoAttr c.K c.C f) (hl0 : fs.length < 1000)
    (hn : ∀ a, N (P1.set i (.obj p dx (putD f (.own a ds) fs)))) : Sd c (sFld c.K (tVar i) te f) P N R := by
  intro T σ F H D S hl n r
  refine he.run T σ F H _ S hl fun a F1 H1 S1 m1 => ?_
  have hl1 : σ.length = P1.length := hl.trans he.len.symm
  have S0 : Stt c (P1 ++ T) σ F1 H1 := by
    rw [← List.append_assoc] at S1
    exact S1.drop (by rw [hl1]; simp)
  have e := S0.slot hl1 h
  obtain ⟨⟨raw, e1, rr⟩, e2, nd⟩ := S0.obj (get_app h)
  refine ⟨.ref p, e, p, c.C, dx, raw, rfl, e1, cl, nf, by rw [rr.len]; exact hl0, ?_⟩
  obtain ⟨vs, hH, rl⟩ := S1.hold _ _ get_last
  have gl : (P1 ++ (T ++ [Sl.own a ds]))[P1.length + T.length]? = some (.own a ds) := get_last
  have gi : (P1 ++ (T ++ [Sl.own a ds]))[i]? = some (.obj p dx fs) := get_app h
  have ne : ∀ (j : Nat) u b, (P1 ++ T)[j]? = some u → b ∈ u.as → b ≠ a := fun j u b e q z => by
    have hj : j < (P1 ++ T).length := lt_of_get e
    have := S1.apart j _ u _ b (by rw [← List.append_assoc, List.getElem?_append_left hj]; exact e) gl q (by simp [Sl.as, z])
    rw [List.length_append] at hj
    omega
  have nob : ∀ b ∈ (p :: dx :: fAs fs), b ≠ a := fun b hb => ne i _ b (get_app h) hb
  have np : ∀ b ∈ fAs fs, b ≠ p := fun b hb z => by
    subst z
    exact (List.nodup_cons.mp nd).1 (List.mem_cons_of_mem _ hb)
  have ndx : dx ≠ p := fun z => by
    subst z
    exact (List.nodup_cons.mp nd).1 (List.mem_cons_self ..)
  have r2 : FsO F1 H1 (L2.putF f (.ref a) raw) (putD f (.own a ds) fs) := rr.put (show FvO F1 H1 (.ref a) (.own a ds) from ⟨rfl, vs, hH, rl⟩)
  have as2 : fAs (putD f (.own a ds) fs) = fAs fs ++ [a] := fAs_putNew k
  refine n _ _ F1 _ (hn a) ?_ (by simp [hl1]) m1
  have key : ∀ (j : Nat) u, (P1.set i (.obj p dx (putD f (.own a ds) fs)) ++ T)[j]? = some u → (j = i ∧ u = .obj p dx (putD f (.own a ds) fs)) ∨ (j ≠ i ∧ (P1 ++ T)[j]? = some u) := fun j u e => by
    rw [← set_app (lt_of_get h)] at e
    by_cases hj : j = i
    · subst hj
      rw [List.getElem?_set_self (lt_of_get (get_app h))] at e
      exact .inl ⟨rfl, (Option.some.inj e).symm⟩
    · rw [List.getElem?_set_ne (Ne.symm hj)] at e
      exact .inr ⟨hj, e⟩
  have up : ∀ (j : Nat) u, (P1 ++ T)[j]? = some u → (P1 ++ (T ++ [Sl.own a ds]))[j]? = some u := fun j u e => by
    rw [← List.append_assoc, List.getElem?_append_left (lt_of_get e)]; exact e
  have fr := S1.free _ _ a gl (by simp [Sl.as])
  have pf := S1.free _ _ p gi (by simp [Sl.as])
  refine ⟨⟨S0.ex.f, fun b o q => ?_, fun b o q => ?_, S0.ex.n⟩, by simp [hl1], fun j u e hj => ?_, fun j u e => ?_, fun j u b e q => ?_, fun j k' u w b e1' e2' q1 q2 => ?_⟩
  · rw [upd_ne (fun z => by rw [z, pf.2] at q; cases q)]; exact S0.ex.h b o q
  · rw [upd_ne (fun z => by rw [z, pf.1] at q; cases q)]; exact S0.ex.s b o q
  · rcases key j u e with ⟨rfl, rfl⟩ | ⟨_, e'⟩
    · exact (show SlV F1 _ (.obj p dx fs) from S0.val _ _ (get_app h) hj)
    · exact S0.val j u e' hj
  · rcases key j u e with ⟨rfl, rfl⟩ | ⟨hj, e'⟩
    · refine ⟨⟨_, upd_same, r2.mono (Same.refl _) fun b hb o q => ?_⟩, by rw [upd_ne ndx]; exact e2, ?_⟩
      · rw [as2] at hb
        have nb : b ≠ p := by
          rcases List.mem_append.mp hb with q | q
          · exact np b q
          · rw [List.mem_singleton.mp q]; exact (nob p (by simp)).symm
        rw [upd_ne nb]; exact q
      · rw [as2]
        have : (p :: dx :: (fAs fs ++ [a])) = (p :: dx :: fAs fs) ++ [a] := rfl
        rw [this, List.nodup_append]
        exact ⟨nd, by simp, fun b hb b' hb' => by rw [List.mem_singleton.mp hb']; exact nob b hb⟩
    · refine (S0.hold j u e').mono (Same.refl _) fun b hb o q => ?_
      rw [upd_ne fun z => hj (S0.apart j i u _ b e' (get_app h) hb (by simp [Sl.as, z]))]; exact q
  · rcases key j u e with ⟨rfl, rfl⟩ | ⟨_, e'⟩
    · have : b ∈ (p :: dx :: fAs fs) ∨ b = a := by
        have q' : b ∈ p :: dx :: fAs (putD f (.own a ds) fs) := q
        rw [as2] at q'
        simp only [List.mem_cons, List.mem_append, List.not_mem_nil, or_false] at q' ⊢
        (rcases q' with q | q | q | q <;> simp [q])
      rcases this with q | q
      · exact S0.free _ _ b (get_app h) q
      · rw [q]; exact fr
    · exact S0.free j u b e' q
  · have own : ∀ b, b ∈ (Sl.obj p dx (putD f (.own a ds) fs)).as → b ∈ (Sl.obj p dx fs).as ∨ b = a := fun b q => by
      have q' : b ∈ p :: dx :: fAs (putD f (.own a ds) fs) := q
      rw [as2] at q'
      simp only [Sl.as, List.mem_cons, List.mem_append, List.not_mem_nil, or_false] at q' ⊢
      (rcases q' with q | q | q | q <;> simp [q])
    rcases key j u e1' with ⟨rfl, rfl⟩ | ⟨hj, e1''⟩
    · rcases key k' w e2' with ⟨rfl, rfl⟩ | ⟨hk', e2''⟩
      · rfl
      · rcases own b q1 with q | q
        · exact S0.apart _ k' _ w b (get_app h) e2'' q q2
        · exact absurd q (ne k' w b e2'' q2)
    · rcases key k' w e2' with ⟨rfl, rfl⟩ | ⟨hk', e2''⟩
      · rcases own b q2 with q | q
        · exact S0.apart j _ u _ b e1'' (get_app h) q1 q
        · exact absurd q (ne j u b e1'' q1)
      · exact S0.apart j k' u w b e1'' e2'' q1 q2
/-- o.f[k] = e, an owned field -/
theorem s_fldIx {i : Nat} {te tk : TE} {d : PyData} {a : Addr} {ds : List PyData} {k : Int} {j : Nat} {N : List Sl → Prop} {R : PyData → List Sl → Prop} (he : TEg c te P d P1) (h : P1[i]? = some (.obj p dx fs)) (hf : fs.lookup f = some (.own a ds)) (cl : Cls c.K c.C) (nf : NoAttr c.K c.C f)
    (hk : TEg c tk P1 (.int k) P1) (hj : ixN ds.length k = some j) (hn : N (P1.set i (.obj p dx (putD f (.own a (ds.set j d)) fs)))) : Sd c (tAsg te (gSub (tFld c.K (tVar i) f) tk rSetL)) P N R := by
  intro T σ F H D S hl n r
  refine he.run T σ F H _ S hl fun y F1 H1 S1 m1 r1 => ?_
  have hl1 : σ.length = P1.length := hl.trans he.len.symm
  have e := S1.slot hl1 h
  obtain ⟨⟨raw, e1, rr⟩, e2, nd⟩ := S1.obj (get_app h)
  obtain ⟨v, hv, rv⟩ := rr.lookup hf
  obtain ⟨rfl, _⟩ := rv
  refine ⟨.ref p, e, p, c.C, dx, raw, _, rfl, e1, cl, nf, hv, hk.run T σ F1 H1 _ S1 hl1 fun z F2 H2 S2 m2 r2 => ?_⟩
  cases r2
  obtain ⟨⟨raw2, e12, rr2⟩, e22, nd2⟩ := S2.obj (get_app h)
  obtain ⟨v2, hv2, rv2⟩ := rr2.lookup hf
  obtain ⟨rfl, vs, hH, rl⟩ := rv2
  refine ⟨a, vs, k, j, rfl, rfl, hH, by rw [rl.len]; exact hj, ?_⟩
  have ham : a ∈ fAs fs := fAs_own hf
  have nap : a ≠ p := fun z => by
    subst z
    exact (List.nodup_cons.mp nd).1 (List.mem_cons_of_mem _ ham)
  have nadx : a ≠ dx := fun z => by
    subst z
    exact (List.nodup_cons.mp (List.nodup_cons.mp nd).2).1 ham
  have as2 : fAs (putD f (.own a (ds.set j d)) fs) = fAs fs := fAs_put (.inr ⟨_, hf, rfl⟩)
  -- the object's own fields, with the list at a changed
  have rr3 : FsO F2 (upd H2 a (.lst (vs.set j y))) raw2 (putD f (.own a (ds.set j d)) fs) := by
    have go : ∀ {raw : List (Str × V)} {fs : List (Str × Fd)}, FsO F2 H2 raw fs → fs.lookup f = some (.own a ds) → raw.lookup f = some (.ref a) → (fAs fs).Nodup → FsO F2 (upd H2 a (.lst (vs.set j y))) raw (putD f (.own a (ds.set j d)) fs) := by
      intro raw fs r0
      induction r0 with
      | nil => intro h1; simp at h1
      | @cons k' v' x' raw' fs' hx hr ih =>
        intro h1 h2 nd'
        rw [List.lookup_cons] at h1 h2
        by_cases e' : k' = f
        · subst e'
          simp only [beq_self_eq_true] at h1 h2
          cases h1
          cases h2
          have e5 : putD k' (.own a (ds.set j d)) ((k', Fd.own a ds) :: fs') = (k', .own a (ds.set j d)) :: fs' := if_pos rfl
          rw [e5]
          refine .cons ⟨rfl, _, upd_same, RpL.set (r1.mono m2) j rl⟩ (hr.mono (Same.refl _) fun b hb o q => ?_)
          have nb : b ≠ a := fun z => by
            subst z
            simp [fAs, Fd.as] at nd'
            exact nd'.1 hb
          rw [upd_ne nb]; exact q
        · have e3 : (f == k') = false := by simpa using fun q => e' q.symm
          rw [e3] at h1 h2
          have e5 : putD f (.own a (ds.set j d)) ((k', x') :: fs') = (k', x') :: putD f (.own a (ds.set j d)) fs' := if_neg e'
          rw [e5]
          have nd2 : (x'.as ++ fAs fs').Nodup := nd'
          refine .cons (hx.mono (Same.refl _) fun b hb o q => ?_) (ih h1 h2 (List.nodup_append.mp nd2).2.1)
          have nb : b ≠ a := (List.nodup_append.mp nd2).2.2 b hb a (fAs_own h1)
          rw [upd_ne nb]; exact q
    exact go rr2 hf hv2 (List.nodup_cons.mp (List.nodup_cons.mp nd).2).2
  have S3 := S2.write (H' := upd H2 a (.lst (vs.set j y))) (t := .obj p dx (putD f (.own a (ds.set j d)) fs)) (get_app h) (fun b hb => by
      simp only [Sl.as, as2] at hb ⊢; exact hb) (fun b hb => upd_ne fun z => hb (by simp [Sl.as, z, ham])) ⟨⟨raw2, by rw [upd_ne nap.symm]; exact e12, rr3⟩, by rw [upd_ne nadx.symm]; exact e22, by rw [as2]; exact nd⟩ fun hl' => (show SlV F2 _ (.obj p dx fs) from S2.val i _ (get_app h) hl')
  rw [set_app (lt_of_get h)] at S3
  exact n _ _ F2 _ hn S3 (by simp [hl1]) (m1.trans m2)
/-- enumerate(o.f), o.f an owned field that stays as it is through the loop -/
theorem w_enFld {i : Nat} {a : Addr} {ds : List PyData} {I : Nat → List Sl → Prop} (h : P[i]? = some (.obj p dx fs)) (hf : fs.lookup f = some (.own a ds)) (cl : Cls c.K c.C) (nf : NoAttr c.K c.C f)
    (hI : ∀ j P2, I j P2 → ∃ fs2, P2[i]? = some (.obj p dx fs2) ∧ fs2.lookup f = some (.own a ds)) (T : List Sl) (σ : L2.St) (F H : Hp) (Rr : It → Hp → Prop) (S : Stt c (P ++ T) σ F H) (hl : σ.length = P.length)
    (q : ∀ J F' H', Stt c (P ++ T) σ F' H' → Same F F' →
        (∀ j P2 σ2 F2 H2, I j P2 → Stt c (P2 ++ T) σ2 F2 H2 → Same F' F2 → j ≤ ds.length → (j = ds.length → J.stop j H2) ∧ (j < ds.length → J.go j H2 ∧ ∀ v H3, J.yld j H2 v H3 → ∃ F3, Ex F2 H2 F3 H3 ∧ Rp F3 v ((enD ds).getD j .none))) → Rr J H') :
    iEnQ (tCons (tFld c.K (tVar i) f) tNil) σ H Rr := by
  have e := S.slot hl h
  obtain ⟨⟨raw, e1, r⟩, e2, nd⟩ := S.obj (get_app h)
  obtain ⟨v, hv, rv⟩ := r.lookup hf
  obtain ⟨rfl, vs, hH, rl⟩ := rv
  refine ⟨.ref p, e, p, c.C, dx, raw, _, rfl, e1, cl, nf, hv, .lst a, vs, rfl, hH, q _ F H S (Same.refl _) fun j P2 σ2 F2 H2 hj S2 m2 hle => ?_⟩
  obtain ⟨fs2, h2, hf2⟩ := hI j P2 hj
  obtain ⟨⟨raw2, e12, r2⟩, _, _⟩ := S2.obj (get_app h2)
  obtain ⟨v2, hv2, rv2⟩ := r2.lookup hf2
  obtain ⟨rfl, vs2, hH2, rl2⟩ := rv2
  refine ⟨fun ej => ⟨vs2, hH2, by rw [rl2.len]; exact ej⟩, fun lt => ⟨⟨vs2, hH2, by rw [rl2.len]; exact lt⟩, fun v H3 yv => ?_⟩⟩
  obtain ⟨T', x, rfl, hT, rfl, hx⟩ := yv
  obtain ⟨d', hd', rd⟩ := rl2.getV (hx vs2 hH2)
  have ex := Ex.new (o := .tup [.int (j : Int), x]) S2.sub hT
  have eg : (enD ds).getD j .none = .tuple [.int (j : Int), d'] := by
    unfold List.getD
    rw [enD_get hd']
    rfl
  rw [eg]
  exact ⟨_, ex, .tup upd_same (.cons (.int _) (.cons (rd.mono ex.f) .nil))⟩
end

/-! ### a step that writes at some addresses -/
structure ExW (ws : List Addr) (F H F' H' : Hp) : Prop where
  f : Same F F'
  h : ∀ b o, b ∉ ws → H b = some o → H' b = some o
  s : Same F' H'
  n : ∀ b o, F' b = some o → F b = some o ∨ (H b = none ∧ b ∉ ws)
theorem Stt.exw {c : Bc} {L : List Sl} {σ : L2.St} {F H F' H' : Hp} {i : Nat} {s t : Sl} (S : Stt c L σ F H) (hi : L[i]? = some s) (hv : i < σ.length → SlV F' (σ[i]?) t) (e : ExW s.as F H F' H') (ht : SlO c.C F' H' t) (ha : t.as = s.as) : Stt c (L.set i t) σ F' H' := by
  have hil : i < L.length := lt_of_get hi
  have key : ∀ (j : Nat) u, (L.set i t)[j]? = some u → (j = i ∧ u = t) ∨ (j ≠ i ∧ L[j]? = some u) := fun j u e => by
    by_cases hj : j = i
    · subst hj
      rw [List.getElem?_set_self hil] at e
      exact .inl ⟨rfl, (Option.some.inj e).symm⟩
    · rw [List.getElem?_set_ne (Ne.symm hj)] at e
      exact .inr ⟨hj, e⟩
  have fr : ∀ (j : Nat) u a, L[j]? = some u → a ∈ u.as → F' a = none ∧ c.H0 a = none := fun j u a e1 q => by
    refine ⟨?_, (S.free j u a e1 q).2⟩
    cases z : F' a with
    | none => rfl
    | some o =>
      rcases e.n a o z with y | ⟨y, _⟩
      · rw [(S.free j u a e1 q).1] at y; cases y
      · exact absurd y ((S.hold j u e1).at_ a q)
  refine ⟨⟨S.ex.f.trans e.f, fun b o q => ?_, e.s, fun b o q => ?_⟩, by simpa using S.len, fun j u e1 hj => ?_, fun j u e1 => ?_, fun j u a e1 q => ?_, fun j k u w a e1 e2 q1 q2 => ?_⟩
  · exact e.h b o (fun z => by rw [(S.free i s b hi z).2] at q; cases q) (S.ex.h b o q)
  · rcases e.n b o q with z | ⟨z, _⟩
    · exact S.ex.n b o z
    · exact .inr (S.ex.h.free z)
  · rcases key j u e1 with ⟨rfl, rfl⟩ | ⟨_, e'⟩
    · exact hv hj
    · exact (S.val j u e' hj).mono e.f
  · rcases key j u e1 with ⟨rfl, rfl⟩ | ⟨hj, e'⟩
    · exact ht
    · exact (S.hold j u e').mono e.f fun a q o z => e.h a o (fun y => hj (S.apart j i u s a e' hi q y)) z
  · rcases key j u e1 with ⟨rfl, rfl⟩ | ⟨_, e'⟩
    · rw [ha] at q; exact fr j s a hi q
    · exact fr j u a e' q
  · rcases key j u e1 with ⟨rfl, rfl⟩ | ⟨hj, e1'⟩
    · rcases key k w e2 with ⟨rfl, rfl⟩ | ⟨hk', e2'⟩
      · rfl
      · rw [ha] at q1; exact S.apart j k s w a hi e2' q1 q2
    · rcases key k w e2 with ⟨rfl, rfl⟩ | ⟨hk', e2'⟩
      · rw [ha] at q2; exact S.apart j k u s a e1' hi q1 q2
      · exact S.apart j k u w a e1' e2' q1 q2
def Sl.isO : Sl → Bool
  | .own _ _ => true
  | .obj _ _ _ => true
  | _ => false
/-- the promise of a def whose first parameter is an owned thing s; behind it that is t -/
def spS (C : Addr) (pre : Sl → List PyData → PyData → Sl → Prop) : Sp := fun vs H Q _ => ∃ (F : Hp) (s t : Sl) (sv : V) (ws : List V) (ds : List PyData) (d : PyData), vs = sv :: ws ∧ Same F H ∧ SlV F (some (some sv)) s ∧ SlO C F H s ∧ (∀ a ∈ s.as, F a = none) ∧ RpL F ws ds ∧ pre s ds d t ∧ t.as = s.as ∧ (s.isO = true ∧ t.isO = true) ∧
  ∀ v F' H', ExW s.as F H F' H' → SlO C F' H' t → SlV F' (some (some sv)) t → Rp F' v d → Q v H'
section
variable {c : Bc} {P P1 P2 P3 : List Sl}
/-- f(o, ..) -/
theorem g_callS {pre : Sl → List PyData → PyData → Sl → Prop} {E : XK} {i : Nat} {s t : Sl} {ta : TA} {ds : List PyData} {d : PyData} (hs : s.isO = true) (ht0 : t.isO = true) (ha : TAg c ta P ds P1) (h0 : P[i]? = some s) (h1 : P1[i]? = some s) (hp : pre s ds d t) (has : t.as = s.as) :
    TEg c (tCall (spS c.C pre) [] E (tCons (tVar i) ta)) P d (P1.set i t) := by
  refine ⟨by rw [List.length_set]; exact ha.len, fun T σ F H Q S hl q => ?_⟩
  obtain ⟨sv, hsv⟩ : ∃ sv, σ[i]? = some (some sv) := by
    have e := S.slot hl h0
    cases s with
    | no => cases hs
    | d x => cases hs
    | own a l => exact ⟨_, e⟩
    | obj p dx fs => exact ⟨_, e⟩
  refine ⟨sv, hsv, ha.run T σ F H _ S hl fun vs F1 H1 S1 m1 r1 => ?_⟩
  have hl1 : σ.length = P1.length := hl.trans ha.len.symm
  have e1 := S1.slot hl1 h1
  refine ⟨F1, s, t, sv, vs, ds, d, by rw [List.append_nil], S1.sub, by rw [← hsv]; exact e1, S1.hold i s (get_app h1), fun a q => (S1.free i s a (get_app h1) q).1, r1, hp, has, ⟨hs, ht0⟩, fun v F' H' ex ht hv rv => ?_⟩
  have S2 := S1.exw (get_app h1) (fun _ => by rw [hsv]; exact hv) ex ht has
  rw [set_app (lt_of_get h1)] at S2
  exact q v F' H' S2 (m1.trans ex.f) rv
/-- o.m(..) -/
theorem g_methS {pre : Sl → List PyData → PyData → Sl → Prop} {E : XK} {m : Str} {i : Nat} {p dx : Addr} {fs : List (Str × Fd)} {t : Sl} {ta : TA} {ds : List PyData} {d : PyData} (ha : TAg c ta P ds P1) (h0 : P[i]? = some (.obj p dx fs)) (hm : fs.lookup m = none) (h1 : P1[i]? = some (.obj p dx fs)) (hp : pre (.obj p dx fs) ds d t) (has : t.as = (Sl.obj p dx fs).as) (ht0 : t.isO = true) :
    TEg c (tMeth c.C m (spS c.C pre) [] E (tVar i) ta) P d (P1.set i t) := by
  refine ⟨by rw [List.length_set]; exact ha.len, fun T σ F H Q S hl q => ?_⟩
  have e0 := S.slot hl h0
  obtain ⟨⟨raw, er, rr⟩, _, _⟩ := S.obj (get_app h0)
  refine ⟨.ref p, e0, p, dx, raw, rfl, er, rr.lookup_none hm, ha.run T σ F H _ S hl fun vs F1 H1 S1 m1 r1 => ?_⟩
  have hl1 : σ.length = P1.length := hl.trans ha.len.symm
  have e1 := S1.slot hl1 h1
  refine ⟨F1, .obj p dx fs, t, .ref p, vs, ds, d, by rw [List.append_nil], S1.sub, rfl, S1.hold i _ (get_app h1), fun a q => (S1.free i _ a (get_app h1) q).1, r1, hp, has, ⟨rfl, ht0⟩, fun v F' H' ex ht hv rv => ?_⟩
  have hsv : σ[i]? = some (some (.ref p)) := e0
  have S2 := S1.exw (get_app h1) (fun _ => by rw [hsv]; exact hv) ex ht has
  rw [set_app (lt_of_get h1)] at S2
  exact q v F' H' S2 (m1.trans ex.f) rv
theorem spS_len {C : Addr} {pre : Sl → List PyData → PyData → Sl → Prop} {n : Nat} (h : ∀ s ds d t, pre s ds d t → ds.length + 1 = n) : ∀ vs H Q E, spS C pre vs H Q E → vs.length = n := fun vs H Q E ⟨F, s, t, sv, ws, ds, d, e, _, _, _, _, r, p, _, _, _⟩ => by
  rw [e, List.length_cons, r.len]; exact h s ds d t p
end
def stS (s : Sl) (ds : List PyData) (n : Nat) : List Sl := s :: ds.map Sl.d ++ List.replicate (n - (ds.length + 1)) .no
theorem body_own {K : PySem.W.Frag} {C : Addr} {N : List Str} {tt : TS} {pre : Sl → List PyData → PyData → Sl → Prop} {vs : List V} {H : Hp} {Q : VK} {E : XK} (h : spS C pre vs H Q E)
    (hn : ∀ s ds d t, pre s ds d t → ds.length + 1 ≤ N.length)
    (hb : ∀ s ds d t, pre s ds d t → ∀ F0 H0, Sd ⟨K, C, F0, H0⟩ tt (stS s ds N.length) (fun P' => d = .none ∧ P'[0]? = some t) (fun d' P' => d' = d ∧ P'[0]? = some t)) : tt { nx := fun _ H' => Q .non H', rt := Q } (L2.start N vs) H := by
  obtain ⟨F, s0, t, sv, ws, ds, d, rfl, sm, hv, ho, hfr, r, pp, has, ⟨hso, hto⟩, q⟩ := h
  have hl := r.len
  have hN := hn s0 ds d t pp
  let H0 : Hp := fun b => if b ∈ s0.as then none else H b
  have key : ∀ (i : Nat) s, (stS s0 ds N.length)[i]? = some s → (i = 0 ∧ s = s0) ∨ (∃ j x, i = j + 1 ∧ s = .d x ∧ ds[j]? = some x) ∨ s = .no := fun i s e => by
    unfold stS at e
    cases i with
    | zero => exact .inl ⟨rfl, by simpa using e.symm⟩
    | succ i =>
      rw [List.cons_append, List.getElem?_cons_succ] at e
      rcases Nat.lt_or_ge i ds.length with h1 | h1
      · rw [List.getElem?_append_left (by simpa using h1), List.getElem?_map] at e
        cases q : ds[i]? with
        | none => rw [q] at e; cases e
        | some x => rw [q] at e; exact .inr (.inl ⟨i, x, rfl, (Option.some.inj e).symm, q⟩)
      · rw [List.getElem?_append_right (by simpa using h1)] at e
        exact .inr (.inr (List.eq_of_mem_replicate (List.mem_of_getElem? e)))
  have S : Stt ⟨K, C, F, H0⟩ (stS s0 ds N.length ++ []) (L2.start N (sv :: ws)) F H := by
    rw [List.append_nil]
    refine ⟨⟨Same.refl _, fun b o e => ?_, sm, fun b o e => .inl e⟩, ?_, fun i s e hi => ?_, fun i s e => ?_, fun i s a e ha => ?_, fun i j s u a e1 e2 q1 q2 => ?_⟩
    · show H b = some o
      have e' : (if b ∈ s0.as then none else H b) = some o := e
      by_cases hb : b ∈ s0.as
      · rw [if_pos hb] at e'; cases e'
      · rw [if_neg hb] at e'; exact e'
    · unfold L2.start stS
      simp [hl]
    · rcases key i s e with ⟨rfl, rfl⟩ | ⟨j, x, rfl, rfl, hx⟩ | rfl
      · unfold L2.start
        exact hv
      · obtain ⟨v, hv', rv⟩ := r.get hx
        refine ⟨v, ?_, rv⟩
        unfold L2.start
        rw [List.map_cons, List.cons_append, List.getElem?_cons_succ, List.getElem?_append_left (by simpa using (List.getElem?_eq_some_iff.mp hv').1), List.getElem?_map, hv']
        rfl
      · trivial
    · rcases key i s e with ⟨rfl, rfl⟩ | ⟨j, x, rfl, rfl, hx⟩ | rfl
      · exact ho
      · trivial
      · trivial
    · rcases key i s e with ⟨rfl, rfl⟩ | ⟨j, x, rfl, rfl, hx⟩ | rfl
      · exact ⟨hfr a ha, if_pos ha⟩
      · cases ha
      · cases ha
    · rcases key i s e1 with ⟨rfl, rfl⟩ | ⟨j', x, rfl, rfl, hx⟩ | rfl
      · rcases key j u e2 with ⟨rfl, rfl⟩ | ⟨j', x, rfl, rfl, hx⟩ | rfl
        · rfl
        · cases q2
        · cases q2
      · cases q1
      · cases q1
  have fin : ∀ (P' : List Sl) (σ' : L2.St) (F' H' : Hp) (v : V), P'[0]? = some t → Stt ⟨K, C, F, H0⟩ (P' ++ []) σ' F' H' → Rp F' v d → Q v H' := fun P' σ' F' H' v e S' rv => by
    rw [List.append_nil] at S'
    have ht := S'.hold 0 t e
    refine q v F' H' ⟨S'.ex.f, fun b o hb e1 => S'.ex.h b o (by show (if b ∈ s0.as then none else H b) = some o; rw [if_neg hb]; exact e1), S'.ex.s, fun b o e1 => ?_⟩ ht ?_ rv
    · rcases S'.ex.n b o e1 with z | z
      · exact .inl z
      · by_cases hb : b ∈ s0.as
        · exfalso
          rw [(S'.free 0 t b e (by rw [has]; exact hb)).1] at e1
          cases e1
        · have z' : (if b ∈ s0.as then none else H b) = none := z
          rw [if_neg hb] at z'
          exact .inr ⟨z', hb⟩
    · cases t with
      | no => trivial
      | d x => cases hto
      | own a l =>
        cases s0 with
        | no => cases has
        | d y => cases has
        | own a' l' =>
          have e' : [a] = [a'] := has
          cases e'
          exact hv
        | obj p dx fs => exact absurd (congrArg List.length has) (by simp [Sl.as])
      | obj p dx fs =>
        cases s0 with
        | no => cases has
        | d y => cases has
        | own a' l' => exact absurd (congrArg List.length has) (by simp [Sl.as])
        | obj p' dx' fs' =>
          have e' : p :: dx :: fAs fs = p' :: dx' :: fAs fs' := has
          have e2 : p = p' := (List.cons.inj e').1
          subst e2
          exact hv
  refine hb s0 ds d t pp F H0 [] (L2.start N (sv :: ws)) F H _ S (by unfold L2.start stS; simp [hl]) (fun P' σ' F' H' e S' _ m => ?_) fun d' P' v σ' F' H' e S' m rv => ?_
  · obtain ⟨rfl, e⟩ := e
    exact fin P' σ' F' H' .non e S' .non
  · obtain ⟨rfl, e⟩ := e
    exact fin P' σ' F' H' v e S' rv
end Cp
end
/-! ## CGr -/
section
set_option Elab.async false
set_option linter.all false
set_option autoImplicit false
set_option maxRecDepth 100000
set_option maxHeartbeats 4000000
/-! the grid as an object -/
namespace Cp
variable [KFix]
open PySem PySem.Spec PyProof.Rows L2
section
variable {c : Bc} {P P1 P2 P3 : List Sl} {L : List Sl} {σ : L2.St} {F H : Hp} {p dx : Addr} {fs : List (Str × Fd)} {f : Str} {N : List Sl → Prop} {R : PyData → List Sl → Prop}
/-- o.f.append(e) -/
theorem s_fldApp {i : Nat} {te : TE} {d : PyData} {a : Addr} {ds : List PyData} (h0 : P[i]? = some (.obj p dx fs)) (he : TEg c te P d P1) (h : P1[i]? = some (.obj p dx fs)) (hf : fs.lookup f = some (.own a ds)) (cl : Cls c.K c.C) (nf : NoAttr c.K c.C f)
    (hz : ds.length ≤ 10000) (hn : N (P1.set i (.obj p dx (putD f (.own a (ds ++ [d])) fs)))) : Sd c (tDrop (tBM c.K "list" rAppend (tFld c.K (tVar i) f) (tCons te tNil))) P N R := by
  intro T σ F H D S hl n r
  have e := S.slot hl h0
  obtain ⟨⟨raw, e1, rr⟩, e2, nd⟩ := S.obj (get_app h0)
  obtain ⟨v, hv, rv⟩ := rr.lookup hf
  obtain ⟨rfl, vs0, hH0, _⟩ := rv
  refine ⟨.ref p, e, p, c.C, dx, raw, _, rfl, e1, cl, nf, hv, .inl ⟨rfl, _, SqL.of hH0⟩, he.run T σ F H _ S hl fun y F2 H2 S2 m2 r1 => ?_⟩
  have hl1 : σ.length = P1.length := hl.trans he.len.symm
  obtain ⟨⟨raw2, e12, rr2⟩, e22, nd2⟩ := S2.obj (get_app h)
  obtain ⟨v2, hv2, rv2⟩ := rr2.lookup hf
  obtain ⟨rfl, vs, hH, rl⟩ := rv2
  refine ⟨a, vs, y, rfl, rfl, hH, by rw [rl.len]; exact Nat.lt_of_le_of_lt hz (by decide), ?_⟩
  have ham : a ∈ fAs fs := fAs_own hf
  have nap : a ≠ p := fun z => by
    subst z
    exact (List.nodup_cons.mp nd2).1 (List.mem_cons_of_mem _ ham)
  have nadx : a ≠ dx := fun z => by
    subst z
    exact (List.nodup_cons.mp (List.nodup_cons.mp nd2).2).1 ham
  have as2 : fAs (putD f (.own a (ds ++ [d])) fs) = fAs fs := fAs_put (.inr ⟨_, hf, rfl⟩)
  have rr3 : FsO F2 (upd H2 a (.lst (vs ++ [y]))) raw2 (putD f (.own a (ds ++ [d])) fs) := by
    have go : ∀ {raw : List (Str × V)} {fs : List (Str × Fd)}, FsO F2 H2 raw fs → fs.lookup f = some (.own a ds) → raw.lookup f = some (.ref a) → (fAs fs).Nodup → FsO F2 (upd H2 a (.lst (vs ++ [y]))) raw (putD f (.own a (ds ++ [d])) fs) := by
      intro raw fs r0
      induction r0 with
      | nil => intro h1; simp at h1
      | @cons k' v' x' raw' fs' hx hr ih =>
        intro h1 h2 nd'
        rw [List.lookup_cons] at h1 h2
        by_cases e' : k' = f
        · subst e'
          simp only [beq_self_eq_true] at h1 h2
          cases h1
          cases h2
          have e5 : putD k' (.own a (ds ++ [d])) ((k', Fd.own a ds) :: fs') = (k', .own a (ds ++ [d])) :: fs' := if_pos rfl
          rw [e5]
          refine .cons ⟨rfl, _, upd_same, rl.append (.cons r1 .nil)⟩ (hr.mono (Same.refl _) fun b hb o q => ?_)
          have nb : b ≠ a := fun z => by
            subst z
            simp [fAs, Fd.as] at nd'
            exact nd'.1 hb
          rw [upd_ne nb]; exact q
        · have e3 : (f == k') = false := by simpa using fun q => e' q.symm
          rw [e3] at h1 h2
          have e5 : putD f (.own a (ds ++ [d])) ((k', x') :: fs') = (k', x') :: putD f (.own a (ds ++ [d])) fs' := if_neg e'
          rw [e5]
          have nd2 : (x'.as ++ fAs fs').Nodup := nd'
          refine .cons (hx.mono (Same.refl _) fun b hb o q => ?_) (ih h1 h2 (List.nodup_append.mp nd2).2.1)
          have nb : b ≠ a := (List.nodup_append.mp nd2).2.2 b hb a (fAs_own h1)
          rw [upd_ne nb]; exact q
    exact go rr2 hf hv2 (List.nodup_cons.mp (List.nodup_cons.mp nd2).2).2
  have S3 := S2.write (H' := upd H2 a (.lst (vs ++ [y]))) (t := .obj p dx (putD f (.own a (ds ++ [d])) fs)) (get_app h) (fun b hb => by
      simp only [Sl.as, as2] at hb ⊢; exact hb) (fun b hb => upd_ne fun z => hb (by simp [Sl.as, z, ham])) ⟨⟨raw2, by rw [upd_ne nap.symm]; exact e12, rr3⟩, by rw [upd_ne nadx.symm]; exact e22, by rw [as2]; exact nd2⟩ fun hl' => (show SlV F2 _ (.obj p dx fs) from S2.val i _ (get_app h) hl')
  rw [set_app (lt_of_get h)] at S3
  exact n _ _ F2 _ hn S3 (by simp [hl1]) m2
/-- a new owned thing takes a place -/
theorem Stt.putN {i : Nat} {v : V} {t : Sl} (S : Stt c L σ F H) (hi : i < σ.length) (hv : SlV F (some (some v)) t) (ho : SlO c.C F H t) (hf : ∀ a ∈ t.as, F a = none ∧ c.H0 a = none) (hn : ∀ (j : Nat) u a, L[j]? = some u → a ∈ u.as → a ∉ t.as) : Stt c (L.set i t) (σ.set i (some v)) F H := by
  have hil : i < L.length := Nat.lt_of_lt_of_le hi S.len
  have key : ∀ (j : Nat) u, (L.set i t)[j]? = some u → (j = i ∧ u = t) ∨ (j ≠ i ∧ L[j]? = some u) := fun j u e => by
    by_cases hj : j = i
    · subst hj
      rw [List.getElem?_set_self hil] at e
      exact .inl ⟨rfl, (Option.some.inj e).symm⟩
    · rw [List.getElem?_set_ne (Ne.symm hj)] at e
      exact .inr ⟨hj, e⟩
  refine ⟨S.ex, by simpa using S.len, fun j u e hl => ?_, fun j u e => ?_, fun j u a e q => ?_, fun j k u w a e1 e2 q1 q2 => ?_⟩
  · rcases key j u e with ⟨rfl, rfl⟩ | ⟨hj, e'⟩
    · rw [List.getElem?_set_self hi]; exact hv
    · rw [List.getElem?_set_ne (Ne.symm hj)]; exact S.val j u e' (by simpa using hl)
  · rcases key j u e with ⟨rfl, rfl⟩ | ⟨hj, e'⟩
    · exact ho
    · exact S.hold j u e'
  · rcases key j u e with ⟨rfl, rfl⟩ | ⟨_, e'⟩
    · exact hf a q
    · exact S.free j u a e' q
  · rcases key j u e1 with ⟨rfl, rfl⟩ | ⟨hj, e1'⟩
    · rcases key k w e2 with ⟨rfl, rfl⟩ | ⟨hk', e2'⟩
      · rfl
      · exact absurd q1 (hn k w a e2' q2)
    · rcases key k w e2 with ⟨rfl, rfl⟩ | ⟨hk', e2'⟩
      · exact absurd q2 (hn j u a e1' q1)
      · exact S.apart j k u w a e1' e2' q1 q2
end
/-- the promise of an __init__: the object p is empty ahead, and behind it has fields that t tells -/
def spI (C : Addr) (pre : List PyData → (Addr → Addr → List (Str × Fd) → Prop) → Prop) : Sp := fun vs H Q _ => ∃ (F : Hp) (p dx : Addr) (ws : List V) (ds : List PyData) (G : Addr → Addr → List (Str × Fd) → Prop), vs = .ref p :: ws ∧ Same F H ∧ H p = some (.ins C dx []) ∧ H dx = some (.own p) ∧ p ≠ dx ∧ F p = none ∧ F dx = none ∧ RpL F ws ds ∧ pre ds G ∧
  ∀ F' H' fs, ExW [p, dx] F H F' H' → G p dx fs → SlO C F' H' (.obj p dx fs) → (∀ a ∈ fAs fs, F' a = none ∧ H a = none) → Q .non H'
section
variable {c : Bc} {P P1 P2 P3 : List Sl} {N : List Sl → Prop} {R : PyData → List Sl → Prop}
theorem s_make {pre : List PyData → (Addr → Addr → List (Str × Fd) → Prop) → Prop} {G : Addr → Addr → List (Str × Fd) → Prop} {E : XK} {i : Nat} {ta : TA} {ds : List PyData} (ha : TAg c ta P ds P1) (hp : pre ds G) (hi : i < P1.length)
    (hn : ∀ p dx fs, G p dx fs → N (P1.set i (.obj p dx fs))) : Sd c (tAsg (tMake c.C (spI c.C pre) [] E ta) (gName i)) P N R := by
  intro T σ F H D S hl n r
  refine ha.run T σ F H _ S hl fun vs F1 H1 S1 m1 r1 x dx hx hdx hne => ?_
  have fx := S1.sub.free hx
  have fdx := S1.sub.free hdx
  have hl1 : σ.length = P1.length := hl.trans ha.len.symm
  refine ⟨F1, x, dx, vs, ds, G, by rw [List.append_nil], fun b o e => ?_, upd_same, by rw [upd_ne hne]; exact upd_same, hne.symm, fx, fdx, r1, hp, fun F' H' fs ex hG ho hfr => ?_⟩
  · have h1 := S1.sub b o e
    rw [upd_ne (ne_of_none h1 hx), upd_ne (ne_of_none h1 hdx)]; exact h1
  · have old : ∀ b, H1 b ≠ none → b ≠ x ∧ b ≠ dx := fun b hb => ⟨fun z => hb (z ▸ hx), fun z => hb (z ▸ hdx)⟩
    have ex2 : Ex F1 H1 F' H' := ⟨ex.f, fun b o e => by
      obtain ⟨q1, q2⟩ := old b (by rw [e]; simp)
      exact ex.h b o (by simp [q1, q2]) (by rw [upd_ne q1, upd_ne q2]; exact e), ex.s, fun b o e => by
      rcases ex.n b o e with z | ⟨z, q⟩
      · exact .inl z
      · simp only [List.mem_cons, List.not_mem_nil, or_false, not_or] at q
        rw [upd_ne q.1, upd_ne q.2] at z
        exact .inr z⟩
    have S2 := S1.exd ex2
    have H1n : ∀ a ∈ (Sl.obj x dx fs).as, H1 a = none := fun a ha => by
      rcases List.mem_cons.mp ha with rfl | ha
      · exact hx
      rcases List.mem_cons.mp ha with rfl | ha
      · exact hdx
      · have := (hfr a ha).2
        by_cases q1 : a = x
        · rw [q1]; exact hx
        by_cases q2 : a = dx
        · rw [q2]; exact hdx
        rw [upd_ne q1, upd_ne q2] at this
        exact this
    have S3 := S2.putN (i := i) (v := .ref x) (t := .obj x dx fs) (by rw [hl1]; exact hi) rfl ho (fun a ha => ⟨?_, S1.ex.h.free (H1n a ha)⟩) fun j u a e q ha => (S1.hold j u e).at_ a q (H1n a ha)
    · rw [set_app hi] at S3
      exact ⟨rfl, n _ _ F' H' (hn x dx fs hG) S3 (by simp [hl1]) (m1.trans ex.f)⟩
    · rcases List.mem_cons.mp ha with rfl | ha'
      · cases z : F' a with
        | none => rfl
        | some o =>
          rcases ex.n a o z with y | ⟨_, y⟩
          · rw [fx] at y; cases y
          · exact absurd (by simp) y
      rcases List.mem_cons.mp ha' with rfl | ha'
      · cases z : F' a with
        | none => rfl
        | some o =>
          rcases ex.n a o z with y | ⟨_, y⟩
          · rw [fdx] at y; cases y
          · exact absurd (by simp) y
      · exact (hfr a ha').1
theorem spI_len {C : Addr} {pre : List PyData → (Addr → Addr → List (Str × Fd) → Prop) → Prop} {n : Nat} (h : ∀ ds G, pre ds G → ds.length + 1 = n) : ∀ vs H Q E, spI C pre vs H Q E → vs.length = n := fun vs H Q E ⟨F, p, dx, ws, ds, G, e, _, _, _, _, _, _, r, q, _⟩ => by
  rw [e, List.length_cons, r.len]; exact h ds G q
end
theorem body_init {K : PySem.W.Frag} {C : Addr} {N : List Str} {tt : TS} {pre : List PyData → (Addr → Addr → List (Str × Fd) → Prop) → Prop} {vs : List V} {H : Hp} {Q : VK} {E : XK} (h : spI C pre vs H Q E)
    (hn : ∀ ds G, pre ds G → ds.length + 1 ≤ N.length)
    (hb : ∀ ds G, pre ds G → ∀ p dx F0 H0, Sd ⟨K, C, F0, H0⟩ tt (stS (.obj p dx []) ds N.length) (fun P' => ∃ fs, P'[0]? = some (.obj p dx fs) ∧ G p dx fs) (fun _ _ => False)) : tt { nx := fun _ H' => Q .non H', rt := Q } (L2.start N vs) H := by
  obtain ⟨F, p, dx, ws, ds, G, rfl, sm, hp, hdx, hne, fp, fdx, r, pp, q⟩ := h
  have hl := r.len
  have hN := hn ds G pp
  let H0 : Hp := fun b => if b = p ∨ b = dx then none else H b
  have key : ∀ (i : Nat) s, (stS (.obj p dx []) ds N.length)[i]? = some s → (i = 0 ∧ s = .obj p dx []) ∨ (∃ j x, i = j + 1 ∧ s = .d x ∧ ds[j]? = some x) ∨ s = .no := fun i s e => by
    unfold stS at e
    cases i with
    | zero => exact .inl ⟨rfl, by simpa using e.symm⟩
    | succ i =>
      rw [List.cons_append, List.getElem?_cons_succ] at e
      rcases Nat.lt_or_ge i ds.length with h1 | h1
      · rw [List.getElem?_append_left (by simpa using h1), List.getElem?_map] at e
        cases q : ds[i]? with
        | none => rw [q] at e; cases e
        | some x => rw [q] at e; exact .inr (.inl ⟨i, x, rfl, (Option.some.inj e).symm, q⟩)
      · rw [List.getElem?_append_right (by simpa using h1)] at e
        exact .inr (.inr (List.eq_of_mem_replicate (List.mem_of_getElem? e)))
  have hH0 : ∀ b, H0 b = if b = p ∨ b = dx then none else H b := fun _ => rfl
  have S : Stt ⟨K, C, F, H0⟩ (stS (.obj p dx []) ds N.length ++ []) (L2.start N (.ref p :: ws)) F H := by
    rw [List.append_nil]
    refine ⟨⟨Same.refl _, fun b o e => ?_, sm, fun b o e => .inl e⟩, ?_, fun i s e hi => ?_, fun i s e => ?_, fun i s a e ha => ?_, fun i j s u a e1 e2 q1 q2 => ?_⟩
    · have e' : H0 b = some o := e
      rw [hH0] at e'
      by_cases hb : b = p ∨ b = dx
      · rw [if_pos hb] at e'; cases e'
      · rw [if_neg hb] at e'; exact e'
    · unfold L2.start stS
      simp [hl]
    · rcases key i s e with ⟨rfl, rfl⟩ | ⟨j, x, rfl, rfl, hx⟩ | rfl
      · unfold L2.start
        rfl
      · obtain ⟨v, hv', rv⟩ := r.get hx
        refine ⟨v, ?_, rv⟩
        unfold L2.start
        rw [List.map_cons, List.cons_append, List.getElem?_cons_succ, List.getElem?_append_left (by simpa using (List.getElem?_eq_some_iff.mp hv').1), List.getElem?_map, hv']
        rfl
      · trivial
    · rcases key i s e with ⟨rfl, rfl⟩ | ⟨j, x, rfl, rfl, hx⟩ | rfl
      · exact ⟨⟨[], hp, .nil⟩, hdx, by simp [fAs, hne]⟩
      · trivial
      · trivial
    · rcases key i s e with ⟨rfl, rfl⟩ | ⟨j, x, rfl, rfl, hx⟩ | rfl
      · have ha : a = p ∨ a = dx := by simpa [Sl.as, fAs] using ha
        refine ⟨?_, (hH0 a).trans (if_pos ha)⟩
        rcases ha with rfl | rfl
        · exact fp
        · exact fdx
      · cases ha
      · cases ha
    · rcases key i s e1 with ⟨rfl, rfl⟩ | ⟨j', x, rfl, rfl, hx⟩ | rfl
      · rcases key j u e2 with ⟨rfl, rfl⟩ | ⟨j', x, rfl, rfl, hx⟩ | rfl
        · rfl
        · cases q2
        · cases q2
      · cases q1
      · cases q1
  refine hb ds G pp p dx F H0 [] (L2.start N (.ref p :: ws)) F H _ S (by unfold L2.start stS; simp [hl]) (fun P' σ' F' H' e S' _ m => ?_) fun d' P' v σ' F' H' e S' m rv => e.elim
  obtain ⟨fs, e, hG⟩ := e
  rw [List.append_nil] at S'
  have ho := S'.hold 0 _ e
  have hfr : ∀ a ∈ (Sl.obj p dx fs).as, F' a = none ∧ H0 a = none := fun a ha => S'.free 0 _ a e ha
  refine q F' H' fs ⟨S'.ex.f, fun b o hb e1 => S'.ex.h b o ?_, S'.ex.s, fun b o e1 => ?_⟩ hG ho fun a ha => ?_
  · show H0 b = some o
    simp only [List.mem_cons, List.not_mem_nil, or_false] at hb
    rw [hH0, if_neg hb]; exact e1
  · rcases S'.ex.n b o e1 with z | z
    · exact .inl z
    · by_cases hb : b = p ∨ b = dx
      · exfalso
        have := (hfr b (by rcases hb with rfl | rfl <;> simp [Sl.as])).1
        rw [this] at e1; cases e1
      · have z' : H0 b = none := z
        rw [hH0, if_neg hb] at z'
        exact .inr ⟨z', by simpa using hb⟩
  · have h1 := hfr a (List.mem_cons_of_mem _ (List.mem_cons_of_mem _ ha))
    refine ⟨h1.1, ?_⟩
    have nd := ho.2.2
    have n1 : a ≠ p := fun z => (List.nodup_cons.mp nd).1 (z ▸ List.mem_cons_of_mem _ ha)
    have n2 : a ≠ dx := fun z => (List.nodup_cons.mp (List.nodup_cons.mp nd).2).1 (z ▸ ha)
    have h2 := h1.2
    rw [hH0, if_neg (by rintro (z | z); exact n1 z; exact n2 z)] at h2
    exact h2
end Cp
end
/-! ## CGo -/
section
set_option Elab.async false
set_option linter.all false
set_option autoImplicit false
set_option maxRecDepth 100000
set_option maxHeartbeats 4000000
set_option exponentiation.threshold 100000
namespace Cp
variable [KFix]
open PySem PySem.Spec PyProof.Rows L2
theorem lk_eq {k : Str} {x : Fd} {fs : List (Str × Fd)} : List.lookup k ((k, x) :: fs) = some x := by rw [List.lookup_cons, beq_self_eq_true]
theorem lk_ne {k f : Str} {x : Fd} {fs : List (Str × Fd)} (h : (f == k) = false) : List.lookup f ((k, x) :: fs) = List.lookup f fs := by rw [List.lookup_cons, h]
theorem lk_ne' {k f : Str} {x : Fd} {fs : List (Str × Fd)} {o : Option Fd} (h : (f == k) = false) (r : List.lookup f fs = o) : List.lookup f ((k, x) :: fs) = o := (lk_ne h).trans r
theorem pt_eq {k : Str} {x y : Fd} {fs : List (Str × Fd)} : putD k x ((k, y) :: fs) = (k, x) :: fs := if_pos rfl
theorem pt_ne {k f : Str} {x y : Fd} {fs gs : List (Str × Fd)} (h : (f == k) = false) (r : putD f x fs = gs) : putD f x ((k, y) :: fs) = (k, y) :: gs := by
  have : ¬ k = f := fun e => by subst e; simp at h
  show (if k = f then _ else _) = _
  rw [if_neg this, r]
theorem pt_nil {f : Str} {x : Fd} : putD f x [] = [(f, x)] := rfl
section
variable {sg mn lw tp : PyData} {ar ai : Addr} {rs is_ : List PyData} {x : PyData} {ys : List PyData}
abbrev fsG (sg mn : PyData) (ar : Addr) (rs : List PyData) (ai : Addr) (is_ : List PyData) (lw tp : PyData) : List (Str × Fd) := [("signs", .d sg), ("many", .d mn), ("rows", .own ar rs), ("inside", .own ai is_), ("low", .d lw), ("top", .d tp)]
theorem k_signs : List.lookup ("signs" : Str) (fsG sg mn ar rs ai is_ lw tp) = some (Fd.d sg) := lk_eq
theorem k_many : List.lookup ("many" : Str) (fsG sg mn ar rs ai is_ lw tp) = some (Fd.d mn) := lk_ne' (by decide +kernel) lk_eq
theorem k_rows : List.lookup ("rows" : Str) (fsG sg mn ar rs ai is_ lw tp) = some (Fd.own ar rs) := lk_ne' (by decide +kernel) (lk_ne' (by decide +kernel) lk_eq)
theorem k_inside : List.lookup ("inside" : Str) (fsG sg mn ar rs ai is_ lw tp) = some (Fd.own ai is_) := lk_ne' (by decide +kernel) (lk_ne' (by decide +kernel) (lk_ne' (by decide +kernel) lk_eq))
theorem k_low : List.lookup ("low" : Str) (fsG sg mn ar rs ai is_ lw tp) = some (Fd.d lw) := lk_ne' (by decide +kernel) (lk_ne' (by decide +kernel) (lk_ne' (by decide +kernel) (lk_ne' (by decide +kernel) lk_eq)))
theorem k_top : List.lookup ("top" : Str) (fsG sg mn ar rs ai is_ lw tp) = some (Fd.d tp) := lk_ne' (by decide +kernel) (lk_ne' (by decide +kernel) (lk_ne' (by decide +kernel) (lk_ne' (by decide +kernel) (lk_ne' (by decide +kernel) lk_eq))))
theorem k_none {f : Str} (h : ((f == ("signs" : Str)) || (f == ("many" : Str)) || (f == ("rows" : Str)) || (f == ("inside" : Str)) || (f == ("low" : Str)) || (f == ("top" : Str))) = false) : (fsG sg mn ar rs ai is_ lw tp).lookup f = none := by
  simp only [Bool.or_eq_false_iff] at h
  obtain ⟨⟨⟨⟨⟨h1, h2⟩, h3⟩, h4⟩, h5⟩, h6⟩ := h
  exact lk_ne' h1 (lk_ne' h2 (lk_ne' h3 (lk_ne' h4 (lk_ne' h5 (lk_ne' h6 rfl)))))
theorem p_rows : putD "rows" (.own ar ys) (fsG sg mn ar rs ai is_ lw tp) = fsG sg mn ar ys ai is_ lw tp := pt_ne (by decide +kernel) (pt_ne (by decide +kernel) pt_eq)
theorem p_inside : putD "inside" (.own ai ys) (fsG sg mn ar rs ai is_ lw tp) = fsG sg mn ar rs ai ys lw tp := pt_ne (by decide +kernel) (pt_ne (by decide +kernel) (pt_ne (by decide +kernel) pt_eq))
theorem p_low : putD "low" (.d x) (fsG sg mn ar rs ai is_ lw tp) = fsG sg mn ar rs ai is_ x tp := pt_ne (by decide +kernel) (pt_ne (by decide +kernel) (pt_ne (by decide +kernel) (pt_ne (by decide +kernel) pt_eq)))
theorem p_top : putD "top" (.d x) (fsG sg mn ar rs ai is_ lw tp) = fsG sg mn ar rs ai is_ lw x := pt_ne (by decide +kernel) (pt_ne (by decide +kernel) (pt_ne (by decide +kernel) (pt_ne (by decide +kernel) (pt_ne (by decide +kernel) pt_eq))))
theorem kp_low : Kp (fsG sg mn ar rs ai is_ lw tp) "low" (.d x) := .inr ⟨_, k_low, rfl⟩
theorem kp_top : Kp (fsG sg mn ar rs ai is_ lw tp) "top" (.d x) := .inr ⟨_, k_top, rfl⟩
end
def nD (xs : List Nat) : List PyData := xs.map fun (n : Nat) => PyData.int (n : Int)
abbrev fsO (ar ai : Addr) (g : G) : List (Str × Fd) := fsG (lD g.signs) (.int g.many) ar (g.rows.map lD) ai (nD g.inside) (.int g.low) (lD g.top)
abbrev gO (p dx ar ai : Addr) (g : G) : Sl := .obj p dx (fsO ar ai g)
theorem gO_as {p dx ar ai : Addr} {g g' : G} : (gO p dx ar ai g).as = (gO p dx ar ai g').as := rfl
section
variable {Pg : Program} {w : World} {K : PySem.W.Frag} {mg : Str → Option Value} {base : Heap}
/-! __init__ -/
def InitG (rows : List (List Int)) (rights : List Int) (many : Nat) (p dx : Addr) (fs : List (Str × Fd)) : Prop := ∃ ar ai, fs = fsO ar ai (gridInit rows rights many)
def pre_g_init (ds : List PyData) (G : Addr → Addr → List (Str × Fd) → Prop) : Prop := ∃ (rows : List (List Int)) (rights : List Int) (many : Nat), ds = [.list (rows.map lD), lD rights, .int many] ∧ rows.length = rights.length ∧ rows.length ≤ 1000 ∧ many ≤ 1000 ∧ (∀ row, row ∈ rows → row.length ≤ 1000 ∧ ibd 1000 row) ∧ ibd 1000 rights ∧ G = InitG rows rights many
theorem len_g_init : ∀ ds G, pre_g_init ds G → ds.length + 1 = 4 := by rintro _ _ ⟨_, _, _, rfl, _⟩; rfl
theorem sign_bits (r : Int) : (signOf r).natAbs < 2 ^ 1 := by
  rcases signOf_pm r with h | h <;> rw [h] <;> decide
abbrev fs3 (sg mn : PyData) (ar : Addr) (rs : List PyData) : List (Str × Fd) := [("signs", .d sg), ("many", .d mn), ("rows", .own ar rs)]
theorem ok_g_init (T : Txt K mg) : FnOk Pg w K mg base CX0 1 (He.ma K (gC K) "__init__") (T.fd 8) ["self", "rows", "rights", "many"] (spI (gC K) pre_g_init) := by
  refine (T.F 8 dg_init rfl).ok sc_g_init (spI_len (n := 4) ?len) (fun cdv A outer s H vs Q E hr h => ?_)
  case len => exact len_g_init
  refine ⟨_, PSs.nox (pss_cons (ps_fld (pv 0) (pe_lc (own := [("right", 8)]) (by rfl) sc_g_init.nd (pi_list (pv 2)) (blkOk_by (N := ["self", "rows", "rights", "many", "index", "row", "sign", "help_part", "right", "at", "one"]) (sc := defScope sg_init) (by decide +kernel)) (fun _ _ _ _ _ => (pg_name (i := 8) sc_g_init.nd rfl (by first | exact Or.inl rfl | exact Or.inr rfl))) (fun _ _ _ _ _ => pts_nil) (fun _ _ _ _ _ => (pe_ifExp (pt_cmpR op_lt (pv 8) pe_int (nomark _)) (pe_un un_neg pe_int) pe_int))) rfl)
      (pss_cons (ps_fld (pv 0) (pv 3) rfl)
      (pss_cons (ps_fld (pv 0) (pe_lst pa_nil) rfl)
      (pss_cons (ps_for PassesOwn.never rfl (pi_enQ (by rfl) T.n_enumerate (pa_cons (pv 1) pa_nil)) (pg_tupK (K := K) (n := 2) (by rfl) (pgs_cons (pg_name (i := 4) sc_g_init.nd rfl (by first | exact Or.inl rfl | exact Or.inr rfl)) (pgs_cons (pg_name (i := 5) sc_g_init.nd rfl (by first | exact Or.inl rfl | exact Or.inr rfl)) pgs_nil))) (pss_cons (ps_set (i := 6) sc_g_init.nd rfl (by first | exact Or.inl rfl | exact Or.inr rfl) (pe_ix (ix_seqK (K := K)) (pe_fldK (K := K) (pv 0) rfl) (pv 4) (fun _ _ => rfl)))
      (pss_cons (ps_setLc (i := 7) (own := [("at", 9)]) (by rfl) sc_g_init.nd rfl rfl (sw_true rfl rfl rfl (by decide +kernel)) (pi_range1 (by rfl) T.n_range (pa_cons (pe_callB call_len (by rfl) T.n_len PySem.boot_len (pa_cons (pv 1) pa_nil)) pa_nil)) (blkOk_by (N := ["self", "rows", "rights", "many", "index", "row", "sign", "help_part", "right", "at", "one"]) (sc := defScope sg_init) (by decide +kernel)) (fun _ _ _ _ _ => (pg_name (i := 9) sc_g_init.nd rfl (by first | exact Or.inl rfl | exact Or.inr rfl))) (fun _ _ _ _ _ => pts_nil) (fun _ _ _ _ _ => (pe_ifExp (pt_cmpR (op_eqDK (K := K) hr.units) (pv 9) (pv 4) (nomark _)) pe_int pe_int)))
      (pss_one (ps_expr (pe_bm PySem.F.plainAttrs_list PySem.F.slot_list_append PySem.F.type_list_append mt_append (pe_fldK (K := K) (pv 0) rfl) (pa_cons (pe_op op_cat (pe_op op_cat (pe_lc (own := [("one", 10)]) (by rfl) sc_g_init.nd (pi_list (pv 5)) (blkOk_by (N := ["self", "rows", "rights", "many", "index", "row", "sign", "help_part", "right", "at", "one"]) (sc := defScope sg_init) (by decide +kernel)) (fun _ _ _ _ _ => (pg_name (i := 10) sc_g_init.nd rfl (by first | exact Or.inl rfl | exact Or.inr rfl))) (fun _ _ _ _ _ => pts_nil) (fun _ _ _ _ _ => (pe_op op_mulW (pv 6) (pv 10)))) (pv 7)) (pe_lst (pa_cons (pe_op op_mulW (pv 6) (pe_ix (ix_seqK (K := K)) (pv 2) (pv 4) (fun _ _ => rfl))) pa_nil))) pa_nil)))))))
      (pss_cons (ps_fld (pv 0) (pe_lc (own := [("index", 4)]) (by rfl) sc_g_init.nd (pi_range1 (by rfl) T.n_range (pa_cons (pe_callB call_len (by rfl) T.n_len PySem.boot_len (pa_cons (pv 1) pa_nil)) pa_nil)) (blkOk_by (N := ["self", "rows", "rights", "many", "index", "row", "sign", "help_part", "right", "at", "one"]) (sc := defScope sg_init) (by decide +kernel)) (fun _ _ _ _ _ => (pg_name (i := 4) sc_g_init.nd rfl (by first | exact Or.inl rfl | exact Or.inr rfl))) (fun _ _ _ _ _ => pts_nil) (fun _ _ _ _ _ => (pe_op op_add (pv 3) (pv 4)))) rfl)
      (pss_cons (ps_fld (pv 0) pe_int rfl)
      (pss_one (ps_fld (pv 0) (pe_lst pa_nil) rfl)))))))), ?_⟩
  refine body_init (K := K) (C := gC K) h (fun ds G hp => by rw [len_g_init ds G hp]; decide) (fun ds G hp p dx F0 H0 => ?_)
  obtain ⟨rows, rights, many, rfl, hlen, hr0, hm0, hrow, hrt, rfl⟩ := hp
  show Sd _ _ [.obj p dx [], .d (.list (rows.map lD)), .d (lD rights), .d (.int many), .no, .no, .no, .no, .no, .no, .no] _ _
  have gd : ∀ i, i < rights.length → (rights.getD i 0).natAbs < 2 ^ 1000 := fun i hi => by
    unfold List.getD
    rw [List.getElem?_eq_getElem hi]
    exact hrt _ (List.getElem_mem hi)
  refine s_seq1 (P' := [.obj p dx [("signs", .d (lD (rights.map signOf)))], .d (.list (rows.map lD)), .d (lD rights), .d (.int many), .no, .no, .no, .no, .no, .no, .no]) ?_ ?_
  · refine s_fld (d := lD (rights.map signOf)) ((TEo.g (o_mapL (xs := rights) (r := .int) (f := fun i => .int (signOf i)) rfl (i_list (g_var rfl)) (by simp) (by omega) fun x hx => ⟨_, _, by simp, d_name (by simp [noAt]), rfl, g_if (b := decide (x < 0)) (t_cmp (g_op (g_var rfl) g_int o_lt)) (fun h => (g_un g_int o_neg).eq ?_) (fun h => g_int.eq ?_)⟩)).eq ?_) rfl (.inl ⟨rfl, rfl⟩) T.cls T.no_signs (by simp) rfl
    · unfold signOf; rw [if_pos (of_decide_eq_true h)]
    · unfold signOf; rw [if_neg (of_decide_eq_false h)]
    · unfold lD iD; rw [List.map_map]; rfl
  refine s_seq1 (P' := [.obj p dx [("signs", .d (lD (rights.map signOf))), ("many", .d (.int many))], .d (.list (rows.map lD)), .d (lD rights), .d (.int many), .no, .no, .no, .no, .no, .no, .no]) (s_fld (g_var rfl) rfl (.inl ⟨lk_ne' (by decide +kernel) rfl, rfl⟩) T.cls T.no_many (by simp) (by rw [pt_ne (by decide +kernel) pt_nil]; rfl)) ?_
  refine s_seq (M := fun P' => ∃ ar, P' = [.obj p dx (fs3 (lD (rights.map signOf)) (.int many) ar []), .d (.list (rows.map lD)), .d (lD rights), .d (.int many), .no, .no, .no, .no, .no, .no, .no]) (s_fldO (o_lst a_nil (by simp)) rfl (lk_ne' (by decide +kernel) (lk_ne' (by decide +kernel) rfl)) T.cls T.no_rows (by simp) fun a => ⟨a, by rw [pt_ne (by decide +kernel) (pt_ne (by decide +kernel) pt_nil)]; rfl⟩) ?_
  rintro _ ⟨ar, rfl⟩
  refine s_seq (M := fun P' => ∃ a b c d e f, P' = [.obj p dx (fs3 (lD (rights.map signOf)) (.int many) ar ((rows.mapIdx (lineOf rows rights)).map lD)), .d (.list (rows.map lD)), .d (lD rights), .d (.int many), a, b, c, d, .no, e, f]) (s_for (ds := enD (rows.map lD)) (i_en (a_cons (g_var rfl) a_nil) its_l)
    (fun i P' => ∃ a b c d e f, P' = [.obj p dx (fs3 (lD (rights.map signOf)) (.int many) ar (((rows.mapIdx (lineOf rows rights)).take i).map lD)), .d (.list (rows.map lD)), .d (lD rights), .d (.int many), a, b, c, d, .no, e, f]) ⟨_, _, _, _, _, _, rfl⟩ ?_ ?_) ?_
  · rintro i d P2 hd ⟨x1, x2, x3, x4, x5, x6, rfl⟩
    rw [en_map, List.getElem?_map, List.getElem?_zipIdx] at hd
    cases e : rows[i]? with
    | none => rw [e] at hd; cases hd
    | some row =>
      rw [e] at hd
      simp only [Option.map_some, Nat.zero_add] at hd
      cases hd
      have hi : i < rows.length := (List.getElem?_eq_some_iff.mp e).1
      obtain ⟨rl, rb⟩ := hrow row (List.mem_of_getElem? e)
      have hl : (rows.mapIdx (lineOf rows rights))[i]? = some (lineOf rows rights i row) := by rw [List.getElem?_mapIdx, e]; rfl
      have hln : (((rows.mapIdx (lineOf rows rights)).take i).map lD).length ≤ 10000 := by simp; omega
      have et : ((rows.mapIdx (lineOf rows rights)).take (i + 1)).map lD = ((rows.mapIdx (lineOf rows rights)).take i).map lD ++ [lD (lineOf rows rights i row)] := by
        rw [List.take_add_one, hl]; simp
      rw [et]
      generalize ((rows.mapIdx (lineOf rows rights)).take i).map lD = done at hln ⊢
      have sat : atI ((rights.map signOf).map PyData.int) (i : Int) = some (.int (signOf (rights.getD i 0))) := atI_nat (by
        rw [List.getElem?_map, List.getElem?_map, List.getElem?_eq_getElem (show i < rights.length by omega)]
        simp [List.getD, show i < rights.length by omega])
      refine ⟨_, [.obj p dx (fs3 (lD (rights.map signOf)) (.int many) ar done), .d (.list (rows.map lD)), .d (lD rights), .d (.int many), .d (.int i), .d (lD row), x3, x4, .no, x5, x6], d_tup (ds_cons (d_name (by simp)) (ds_cons (d_name (by simp)) ds_nil)) rfl, ?_⟩
      refine s_seq1 (P' := [.obj p dx (fs3 (lD (rights.map signOf)) (.int many) ar done), .d (.list (rows.map lD)), .d (lD rights), .d (.int many), .d (.int i), .d (lD row), .d (.int (signOf (rights.getD i 0))), x4, .no, x5, x6]) (s_set (g_op (g_fld (x := lD (rights.map signOf)) rfl lk_eq T.cls T.no_signs) (g_var rfl) (o_ixqL sat)) (by simp) rfl) ?_
      refine s_seq1 (P' := [.obj p dx (fs3 (lD (rights.map signOf)) (.int many) ar done), .d (.list (rows.map lD)), .d (lD rights), .d (.int many), .d (.int i), .d (lD row), .d (.int (signOf (rights.getD i 0))), .d (lD ((List.range rows.length).map fun at_ => if at_ = i then (1 : Int) else 0)), .no, .no, x6]) ?_ ?_
      · refine s_set ((TEo.g (o_mapL (xs := List.range rows.length) (f := fun k => .int (if k = i then 1 else 0)) (rng_map _) (i_rng (a_cons ((g_cb (a_cons (g_var rfl) a_nil) b_lenL).eq (by rw [List.length_map])) a_nil) (by omega)) (by simp) (by simp; omega) fun k hk => ⟨_, _, by simp, d_name (by simp [noAt]), rfl, g_if (b := decide (k = i)) ((t_eqI (g_var rfl) (g_var rfl)).eq (by simp; omega)) (fun h => g_int.eq (by rw [if_pos (of_decide_eq_true h)])) (fun h => g_int.eq (by rw [if_neg (of_decide_eq_false h)]))⟩)).eq ?_) (by simp [noAt]) rfl
        unfold lD iD; rw [List.map_map]; rfl
      · refine (s_fldApp (d := lD (lineOf rows rights i row)) rfl ((g_op (g_op (TEo.g (o_mapL (xs := row) (r := .int) (f := fun one => .int (signOf (rights.getD i 0) * one)) rfl (i_list (g_var rfl)) (by simp) (by omega) fun x hx => ⟨_, _, by simp, d_name (by simp [noAt]), rfl, g_op (g_var rfl) (g_var rfl) (o_mul (cmul (sign_bits _) (rb x hx)))⟩)) (g_var rfl) (o_cat ?_)) (g_lst (a_cons (g_op (g_var rfl) (g_op (g_var rfl) (g_var rfl) (o_ixqL (iD_at (by omega)))) (o_mul (cmul (sign_bits _) (gd i (by omega))))) a_nil) (by simp)) (o_cat ?_)).eq ?_) rfl (lk_ne' (by decide +kernel) (lk_ne' (by decide +kernel) lk_eq)) T.cls T.no_rows hln (by rw [pt_ne (by decide +kernel) (pt_ne (by decide +kernel) pt_eq)]; exact ⟨.d (.int i), .d (lD row), .d (.int (signOf (rights.getD i 0))), .d (lD ((List.range rows.length).map fun at_ => if at_ = i then (1 : Int) else 0)), .no, .no, rfl⟩))
        · simp [iD]; omega
        · simp [iD]; omega
        · unfold lD lineOf
          rw [iD_app, iD_app]
          unfold iD
          rw [List.map_map, List.map_map]
          rfl
  · rintro _ ⟨x1, x2, x3, x4, x5, x6, rfl⟩
    refine ⟨x1, x2, x3, x4, x5, x6, ?_⟩
    have : (enD (rows.map lD)).length = (rows.mapIdx (lineOf rows rights)).length := by rw [enD_len]; simp
    rw [this, List.take_length]
  rintro _ ⟨x1, x2, x3, x4, x5, x6, rfl⟩
  refine s_seq (M := fun P' => ∃ ai, P' = [.obj p dx [("signs", .d (lD (rights.map signOf))), ("many", .d (.int many)), ("rows", .own ar ((rows.mapIdx (lineOf rows rights)).map lD)), ("inside", .own ai (nD ((List.range rows.length).map fun i => many + i)))], .d (.list (rows.map lD)), .d (lD rights), .d (.int many), .no, x2, x3, x4, .no, x5, x6]) ?_ ?_
  · refine s_fldO (ds := (List.range rows.length).map fun (k : Nat) => PyData.int ((many : Int) + (k : Int))) (o_mapL (xs := List.range rows.length) (f := fun (k : Nat) => .int ((many : Int) + (k : Int))) (rng_map _) (i_rng (a_cons ((g_cb (a_cons (g_var rfl) a_nil) b_lenL).eq (by rw [List.length_map])) a_nil) (by omega)) (by simp) (by simp; omega) fun k hk => ⟨_, _, by simp, d_name (by simp [noAt]), rfl, g_op (g_var rfl) (g_var rfl) o_add⟩) rfl (lk_ne' (by decide +kernel) (lk_ne' (by decide +kernel) (lk_ne' (by decide +kernel) rfl))) T.cls T.no_inside (by simp) fun a => ⟨a, ?_⟩
    rw [pt_ne (by decide +kernel) (pt_ne (by decide +kernel) (pt_ne (by decide +kernel) pt_nil))]
    unfold nD
    rw [List.map_map]
    rfl
  rintro _ ⟨ai, rfl⟩
  refine s_seq1 (P' := [.obj p dx [("signs", .d (lD (rights.map signOf))), ("many", .d (.int many)), ("rows", .own ar ((rows.mapIdx (lineOf rows rights)).map lD)), ("inside", .own ai (nD ((List.range rows.length).map fun i => many + i))), ("low", .d (.int 1))], .d (.list (rows.map lD)), .d (lD rights), .d (.int many), .no, x2, x3, x4, .no, x5, x6]) (s_fld g_int rfl (.inl ⟨lk_ne' (by decide +kernel) (lk_ne' (by decide +kernel) (lk_ne' (by decide +kernel) (lk_ne' (by decide +kernel) rfl))), rfl⟩) T.cls T.no_low (by simp) (by rw [pt_ne (by decide +kernel) (pt_ne (by decide +kernel) (pt_ne (by decide +kernel) (pt_ne (by decide +kernel) pt_nil)))]; rfl)) ?_
  refine s_fld (g_lst a_nil (by simp)) rfl (.inl ⟨lk_ne' (by decide +kernel) (lk_ne' (by decide +kernel) (lk_ne' (by decide +kernel) (lk_ne' (by decide +kernel) (lk_ne' (by decide +kernel) rfl)))), rfl⟩) T.cls T.no_top (by simp) ?_
  rw [pt_ne (by decide +kernel) (pt_ne (by decide +kernel) (pt_ne (by decide +kernel) (pt_ne (by decide +kernel) (pt_ne (by decide +kernel) pt_nil))))]
  exact ⟨_, rfl, ar, ai, rfl⟩
end
end Cp
end
/-! ## CGm -/
section
set_option Elab.async false
set_option linter.all false
set_option autoImplicit false
set_option maxRecDepth 100000
set_option maxHeartbeats 4000000
set_option exponentiation.threshold 100000
namespace Cp
variable [KFix]
open PySem PySem.Spec PyProof.Rows L2
/-- sizes of a grid -/
structure SzG (m n : Nat) (g : G) : Prop where
  shp : Shp m n g
  rb : ∀ row, row ∈ g.rows → ibd 2000 row
  tb : ibd 2000 g.top
  l0 : 0 < g.low
  lb : g.low.natAbs < 2 ^ 2000
  small : n + m + 1 ≤ 1000
theorem rowAt_mem {g : G} {i : Nat} (h : i < g.rows.length) : rowAt g i ∈ g.rows := by
  unfold rowAt List.getD
  rw [List.getElem?_eq_getElem h]
  exact List.getElem_mem h
theorem rowAt_get {g : G} {i : Nat} (h : i < g.rows.length) : g.rows[i]? = some (rowAt g i) := by
  unfold rowAt List.getD
  rw [List.getElem?_eq_getElem h]; rfl
theorem ibd_get {k : Nat} {xs : List Int} (h : ibd k xs) (j : Nat) : (xs.getD j 0).natAbs < 2 ^ k := by
  unfold List.getD
  cases e : xs[j]? with
  | none => exact Nat.pow_pos (by decide)
  | some v => exact h v (List.mem_of_getElem? e)
theorem lD_at {rows : List (List Int)} {i : Nat} {row : List Int} (h : rows[i]? = some row) : atI (rows.map lD) (i : Int) = some (lD row) := atI_nat (by rw [List.getElem?_map, h]; rfl)
theorem nD_at {xs : List Nat} {i : Nat} (h : i < xs.length) : atI (nD xs) (i : Int) = some (.int (xs.getD i 0 : Nat)) := atI_nat (by
  unfold nD List.getD
  rw [List.getElem?_map, List.getElem?_eq_getElem h]; rfl)
theorem turnRow_ibd {g : G} {r c k : Nat} (h : ibd k (rowAt g r)) : ibd k (turnRow g r c) := by
  unfold turnRow
  split
  · intro a ha
    obtain ⟨b, hb, rfl⟩ := List.mem_map.mp ha
    rw [Int.natAbs_neg]; exact h b hb
  · exact h
theorem set_self {α : Type} {xs : List α} {i : Nat} {x : α} (h : xs[i]? = some x) : xs.set i x = xs := by
  refine List.ext_getElem? fun j => ?_
  rw [List.getElem?_set]
  by_cases q : i = j
  · subst q
    rw [if_pos rfl, if_pos (List.getElem?_eq_some_iff.mp h).1, h]
  · rw [if_neg q]
section
variable {Pg : Program} {w : World} {K : PySem.W.Frag} {mg : Str → Option Value} {base : Heap}
def pre_g_swept (s : Sl) (ds : List PyData) (d : PyData) (t : Sl) : Prop := ∃ (p dx ar ai : Addr) (g : G) (told row : List Int) (pivot weight : Int), s = gO p dx ar ai g ∧ t = gO p dx ar ai g ∧ ds = [lD told, lD row, .int pivot, .int weight] ∧ told.length ≤ 1000 ∧ ibd 2000 told ∧ ibd 2000 row ∧ pivot.natAbs < 2 ^ 2000 ∧ weight.natAbs < 2 ^ 2000 ∧ 0 < g.low ∧ g.low.natAbs < 2 ^ 2000 ∧ d = lD (sweptM g.low told row pivot weight)
theorem len_g_swept : ∀ s ds d t, pre_g_swept s ds d t → ds.length + 1 = 5 := by rintro _ _ _ _ ⟨_, _, _, _, _, _, _, _, _, rfl, rfl, rfl, _⟩; rfl
theorem ok_g_swept (T : Txt K mg) : FnOk Pg w K mg base CX0 1 (He.ma K (gC K) "swept") (T.fd 11) ["self", "told", "row", "pivot", "weight"] (spS (gC K) pre_g_swept) := by
  refine (T.F 11 dg_swept rfl).ok sc_g_swept (spS_len (n := 5) ?len) (fun cdv A outer s H vs Q E hr h => ?_)
  case len => exact len_g_swept
  refine ⟨_, PSs.nox (pss_one (ps_ret (pe_lc (own := [("one", 5), ("other", 6)]) (by rfl) sc_g_swept.nd (pi_z2Q (by rfl) T.n_zip (pa_cons (pv 1) (pa_cons (pv 2) pa_nil))) (blkOk_by (N := ["self", "told", "row", "pivot", "weight", "one", "other"]) (sc := defScope sg_swept) (by decide +kernel)) (fun _ _ _ _ _ => (pg_tupK (K := K) (n := 2) (by rfl) (pgs_cons (pg_name (i := 5) sc_g_swept.nd rfl (by first | exact Or.inl rfl | exact Or.inr rfl)) (pgs_cons (pg_name (i := 6) sc_g_swept.nd rfl (by first | exact Or.inl rfl | exact Or.inr rfl)) pgs_nil)))) (fun _ _ _ _ _ => pts_nil) (fun _ _ _ _ _ => (pe_op op_fdivW (pe_op op_sub (pe_op op_mulW (pv 5) (pv 3)) (pe_op op_mulW (pv 4) (pv 6))) (pe_fldK (K := K) (pv 0) rfl)))))), ?_⟩
  refine body_own (K := K) (C := gC K) h (fun s ds d t hp => by rw [len_g_swept s ds d t hp]; decide) (fun s ds d t hp F0 H0 => ?_)
  obtain ⟨p, dx, ar, ai, g, told, row, pivot, weight, rfl, rfl, rfl, hl, h1, h2, h3, h4, l0, lb, rfl⟩ := hp
  show Sd _ _ [gO p dx ar ai g, .d (lD told), .d (lD row), .d (.int pivot), .d (.int weight), .no, .no] _ _
  refine s_ret ((TEo.g (o_mapL (xs := told.zip row) (f := fun q => .int ((q.1 * pivot - weight * q.2) / g.low)) (z2_map (r := .int) (q := .int) told row) (i_z2 (a_cons (g_var rfl) (a_cons (g_var rfl) a_nil)) its_l its_l) (by simp) (by simp; omega) fun q hq => ?_)).eq ?_) ⟨rfl, rfl⟩
  · have b1 := h1 q.1 (List.of_mem_zip hq).1
    have b2 := h2 q.2 (List.of_mem_zip hq).2
    refine ⟨_, [gO p dx ar ai g, .d (lD told), .d (lD row), .d (.int pivot), .d (.int weight), .d (.int q.1), .d (.int q.2)], ?_, d_tup (ds_cons (d_name (by simp [noAt])) (ds_cons (d_name (by simp [noAt])) ds_nil)) rfl, rfl, ?_⟩
    · simp
    · exact g_op (g_op (g_op (g_var rfl) (g_var rfl) (o_mul (cmul b1 h3))) (g_op (g_var rfl) (g_var rfl) (o_mul (cmul h4 b2))) o_sub) (g_fld rfl k_low T.cls T.no_low) (o_div (cdiv l0 lb))
  · unfold lD iD sweptM
    rw [List.map_zipWith, List.zip, List.map_zipWith]
def pre_g_price (s : Sl) (ds : List PyData) (d : PyData) (t : Sl) : Prop := ∃ (p dx ar ai : Addr) (g : G) (costs : List Int), s = gO p dx ar ai g ∧ t = gO p dx ar ai (priceM costs g) ∧ ds = [lD costs] ∧ costs.length ≤ 1000 ∧ ibd 1000 costs ∧ g.low.natAbs < 2 ^ 2000 ∧ (∀ row, row ∈ g.rows → row.length ≤ 1000 ∧ ibd 2000 row) ∧ g.inside.length = g.rows.length ∧ (∀ i, i < g.rows.length → g.inside.getD i 0 < costs.length) ∧ d = .none
theorem len_g_price : ∀ s ds d t, pre_g_price s ds d t → ds.length + 1 = 2 := by rintro _ _ _ _ ⟨_, _, _, _, _, _, rfl, rfl, rfl, _⟩; rfl
theorem ok_g_price (T : Txt K mg) : FnOk Pg w K mg base CX0 1 (He.ma K (gC K) "price") (T.fd 9) ["self", "costs"] (spS (gC K) pre_g_price) := by
  refine (T.F 9 dg_price rfl).ok sc_g_price (spS_len (n := 2) ?len) (fun cdv A outer s H vs Q E hr h => ?_)
  case len => exact len_g_price
  refine ⟨_, PSs.nox (pss_cons (ps_fld (pv 0) (pe_op op_cat (pe_lc (own := [("one", 5)]) (by rfl) sc_g_price.nd (pi_list (pv 1)) (blkOk_by (N := ["self", "costs", "index", "row", "weight", "one", "other"]) (sc := defScope sg_price) (by decide +kernel)) (fun _ _ _ _ _ => (pg_name (i := 5) sc_g_price.nd rfl (by first | exact Or.inl rfl | exact Or.inr rfl))) (fun _ _ _ _ _ => pts_nil) (fun _ _ _ _ _ => (pe_op op_mulW (pe_fldK (K := K) (pv 0) rfl) (pv 5)))) (pe_lst (pa_cons pe_int pa_nil))) rfl)
      (pss_one (ps_for PassesOwn.never rfl (pi_enQ (by rfl) T.n_enumerate (pa_cons (pe_fldK (K := K) (pv 0) rfl) pa_nil)) (pg_tupK (K := K) (n := 2) (by rfl) (pgs_cons (pg_name (i := 2) sc_g_price.nd rfl (by first | exact Or.inl rfl | exact Or.inr rfl)) (pgs_cons (pg_name (i := 3) sc_g_price.nd rfl (by first | exact Or.inl rfl | exact Or.inr rfl)) pgs_nil))) (pss_cons (ps_set (i := 4) sc_g_price.nd rfl (by first | exact Or.inl rfl | exact Or.inr rfl) (pe_ix (ix_seqK (K := K)) (pv 1) (pe_ix (ix_seqK (K := K)) (pe_fldK (K := K) (pv 0) rfl) (pv 2) (fun _ _ => rfl)) (fun _ _ => rfl)))
      (pss_one (ps_if (pt_cmpR (op_neDK (K := K) hr.units) (pv 4) pe_int (nomark _)) (pss_one (ps_fld (pv 0) (pe_lc (own := [("one", 5), ("other", 6)]) (by rfl) sc_g_price.nd (pi_z2Q (by rfl) T.n_zip (pa_cons (pe_fldK (K := K) (pv 0) rfl) (pa_cons (pv 3) pa_nil))) (blkOk_by (N := ["self", "costs", "index", "row", "weight", "one", "other"]) (sc := defScope sg_price) (by decide +kernel)) (fun _ _ _ _ _ => (pg_tupK (K := K) (n := 2) (by rfl) (pgs_cons (pg_name (i := 5) sc_g_price.nd rfl (by first | exact Or.inl rfl | exact Or.inr rfl)) (pgs_cons (pg_name (i := 6) sc_g_price.nd rfl (by first | exact Or.inl rfl | exact Or.inr rfl)) pgs_nil)))) (fun _ _ _ _ _ => pts_nil) (fun _ _ _ _ _ => (pe_op op_sub (pv 5) (pe_op op_mulW (pv 4) (pv 6))))) rfl)) pss_nil)))))), ?_⟩
  refine body_own (K := K) (C := gC K) h (fun s ds d t hp => by rw [len_g_price s ds d t hp]; decide) (fun s ds d t hp F0 H0 => ?_)
  obtain ⟨p, dx, ar, ai, g, costs, rfl, rfl, rfl, hl, hc, lb, hr', hin, hlt, rfl⟩ := hp
  show Sd _ _ [gO p dx ar ai g, .d (lD costs), .no, .no, .no, .no, .no] _ _
  refine s_seq1 (P' := [gO p dx ar ai { g with top := top0 costs g }, .d (lD costs), .no, .no, .no, .no, .no]) ?_ ?_
  · refine s_fld (d := lD (top0 costs g)) ((g_op (TEo.g (o_mapL (xs := costs) (r := .int) (f := fun one => .int (g.low * one)) rfl (i_list (g_var rfl)) (by simp) (by omega) fun x hx => ⟨_, _, by simp, d_name (by simp [noAt]), rfl, g_op (g_fld rfl k_low T.cls T.no_low) (g_var rfl) (o_mul (cmul lb (hc x hx)))⟩)) (g_lst (a_cons g_int a_nil) (by simp)) (o_cat (by simp; omega))).eq ?_) rfl kp_top T.cls T.no_top (by simp) (by rw [p_top]; rfl)
    unfold lD top0
    rw [iD_app]
    unfold iD
    rw [List.map_map]; rfl
  have lenT : ∀ k, ((List.range k).foldl (topStep costs g) (top0 costs g)).length ≤ 1001 := fun k => by
    induction k with
    | zero => simp [top0]; omega
    | succ k ih =>
      rw [List.range_succ, List.foldl_append]
      generalize (List.range k).foldl (topStep costs g) (top0 costs g) = tp at ih ⊢
      show (topStep costs g tp k).length ≤ 1001
      unfold topStep
      split
      · rw [List.length_zipWith]; omega
      · exact ih
  refine s_forG (P1 := [gO p dx ar ai { g with top := top0 costs g }, .d (lD costs), .no, .no, .no, .no, .no]) (n := (g.rows.map lD).length) (fun i P2 => ∃ a b c d e, P2 = [gO p dx ar ai { g with top := (List.range i).foldl (topStep costs g) (top0 costs g) }, .d (lD costs), a, b, c, d, e]) (fun i => (enD (g.rows.map lD)).getD i .none) rfl (fun T' σ F H Rr S hl q => w_enFld (ds := g.rows.map lD) rfl k_rows T.cls T.no_rows ?_ T' σ F H Rr S hl q) ⟨_, _, _, _, _, rfl⟩ ?_ ?_
  · rintro j P2 ⟨a, b, c, d, e, rfl⟩
    exact ⟨_, rfl, k_rows⟩
  · rintro i P2 hi ⟨x1, x2, x3, x4, x5, rfl⟩
    have hi' : i < g.rows.length := by simpa using hi
    have hrow := rowAt_get hi'
    obtain ⟨rl, rb⟩ := hr' _ (rowAt_mem hi')
    have eg : (enD (g.rows.map lD)).getD i .none = .tuple [.int (i : Int), lD (rowAt g i)] := by
      unfold List.getD
      rw [enD_get (d := lD (rowAt g i)) (by rw [List.getElem?_map, hrow]; rfl)]; rfl
    rw [eg, List.range_succ, List.foldl_append]
    have lt' := lenT i
    generalize (List.range i).foldl (topStep costs g) (top0 costs g) = tp at lt' ⊢
    have hw := hlt i hi'
    have hcb : (costs.getD (g.inside.getD i 0) 0).natAbs < 2 ^ 1000 := ibd_get hc _
    refine ⟨_, [gO p dx ar ai { g with top := tp }, .d (lD costs), .d (.int i), .d (lD (rowAt g i)), x3, x4, x5], d_tup (ds_cons (d_name (by simp)) (ds_cons (d_name (by simp)) ds_nil)) rfl, ?_⟩
    refine s_seq1 (P' := [gO p dx ar ai { g with top := tp }, .d (lD costs), .d (.int i), .d (lD (rowAt g i)), .d (.int (costs.getD (g.inside.getD i 0) 0)), x4, x5]) (s_set (g_op (g_var rfl) (g_fldIx (ds := nD g.inside) rfl k_inside T.cls T.no_inside (g_var rfl) (nD_at (by omega))) (o_ixqL (iD_at hw))) (by simp) rfl) ?_
    show Sd _ _ _ (fun P2 => ∃ a b c d e, P2 = [gO p dx ar ai { g with top := topStep costs g tp i }, .d (lD costs), a, b, c, d, e]) _
    refine s_if (b := !decide (costs.getD (g.inside.getD i 0) 0 = 0)) (t_neI (g_var rfl) g_int) (fun h => ?_) fun h => s_next ⟨.d (.int i), .d (lD (rowAt g i)), .d (.int (costs.getD (g.inside.getD i 0) 0)), x4, x5, ?_⟩
    · have h : costs.getD (g.inside.getD i 0) 0 ≠ 0 := by simpa using h
      refine s_fld (d := lD (topStep costs g tp i)) ((TEo.g (o_mapL (P := [gO p dx ar ai { g with top := tp }, .d (lD costs), .d (.int i), .d (lD (rowAt g i)), .d (.int (costs.getD (g.inside.getD i 0) 0)), x4, x5]) (xs := tp.zip (rowAt g i)) (f := fun q => .int (q.1 - costs.getD (g.inside.getD i 0) 0 * q.2)) (z2_map (r := .int) (q := .int) tp (rowAt g i)) (i_z2 (a_cons (g_fld rfl k_top T.cls T.no_top) (a_cons (g_var rfl) a_nil)) its_l its_l) (by simp) (by simp; omega) fun q hq => ?_)).eq ?_) rfl kp_top T.cls T.no_top (by simp) ⟨.d (.int i), .d (lD (rowAt g i)), .d (.int (costs.getD (g.inside.getD i 0) 0)), .no, .no, by rw [p_top]; rfl⟩
      · refine ⟨_, [gO p dx ar ai { g with top := tp }, .d (lD costs), .d (.int i), .d (lD (rowAt g i)), .d (.int (costs.getD (g.inside.getD i 0) 0)), .d (.int q.1), .d (.int q.2)], ?_, d_tup (ds_cons (d_name (by simp [noAt])) (ds_cons (d_name (by simp [noAt])) ds_nil)) rfl, rfl, g_op (g_var rfl) (g_op (g_var rfl) (g_var rfl) (o_mul (cmul hcb (rb q.2 (List.of_mem_zip hq).2)))) o_sub⟩
        simp
      · unfold topStep
        rw [if_pos h]
        unfold lD iD
        rw [List.map_zipWith, List.zip, List.map_zipWith]
    · have h : costs.getD (g.inside.getD i 0) 0 = 0 := by simpa using h
      have : topStep costs g tp i = tp := by unfold topStep; rw [if_neg (by rw [h]; simp)]
      rw [this]
  · rintro P2 ⟨x1, x2, x3, x4, x5, rfl⟩
    refine ⟨rfl, ?_⟩
    rw [List.length_map]; rfl
def keyD (k : Int × Int × Nat × Nat) : PyData := .tuple [.int k.1, .int k.2.1, .int (k.2.2.1 : Nat), .int (k.2.2.2 : Nat)]
def kbd (k : Int × Int × Nat × Nat) : Prop := k.1.natAbs < 2 ^ 2000 ∧ k.2.1.natAbs < 2 ^ 2000
def pre_g_is_less (s : Sl) (ds : List PyData) (d : PyData) (t : Sl) : Prop := ∃ (p dx ar ai : Addr) (g : G) (a b : Int × Int × Nat × Nat), s = gO p dx ar ai g ∧ t = gO p dx ar ai g ∧ ds = [keyD a, keyD b] ∧ kbd a ∧ kbd b ∧ d = .bool (keyLess a b)
theorem len_g_is_less : ∀ s ds d t, pre_g_is_less s ds d t → ds.length + 1 = 3 := by rintro _ _ _ _ ⟨_, _, _, _, _, _, _, rfl, rfl, rfl, _⟩; rfl
theorem ok_g_is_less (T : Txt K mg) : FnOk Pg w K mg base CX0 1 (He.ma K (gC K) "is_less") (T.fd 13) ["self", "one", "other"] (spS (gC K) pre_g_is_less) := by
  refine (T.F 13 dg_is_less rfl).ok sc_g_is_less (spS_len (n := 3) ?len) (fun cdv A outer s H vs Q E hr h => ?_)
  case len => exact len_g_is_less
  refine ⟨_, PSs.nox (pss_cons (ps_set (i := 3) sc_g_is_less.nd rfl (by first | exact Or.inl rfl | exact Or.inr rfl) (pe_op op_sub (pe_op op_mulW (pe_ix (ix_seqK (K := K)) (pv 1) pe_int (fun _ _ => rfl)) (pe_ix (ix_seqK (K := K)) (pv 2) pe_int (fun _ _ => rfl))) (pe_op op_mulW (pe_ix (ix_seqK (K := K)) (pv 2) pe_int (fun _ _ => rfl)) (pe_ix (ix_seqK (K := K)) (pv 1) pe_int (fun _ _ => rfl)))))
      (pss_one (ps_ret (pe_or (pe_cmpR op_lt (pv 3) pe_int (nomark _)) (pe_one (pe_and (pe_cmpR (op_eqDK (K := K) hr.units) (pv 3) pe_int (nomark _)) (pe_one (pe_cmpR op_lt (pe_ix (ix_seqK (K := K)) (pv 1) pe_int (fun _ _ => rfl)) (pe_ix (ix_seqK (K := K)) (pv 2) pe_int (fun _ _ => rfl)) (nomark _))))))))), ?_⟩
  refine body_own (K := K) (C := gC K) h (fun s ds d t hp => by rw [len_g_is_less s ds d t hp]; decide) (fun s ds d t hp F0 H0 => ?_)
  obtain ⟨p, dx, ar, ai, g, a, b, rfl, rfl, rfl, ha, hb, rfl⟩ := hp
  show Sd _ _ [gO p dx ar ai g, .d (keyD a), .d (keyD b), .no] _ _
  refine s_seq1 (P' := [gO p dx ar ai g, .d (keyD a), .d (keyD b), .d (.int (a.1 * b.2.1 - b.1 * a.2.1))]) (s_set (g_op (g_op (g_op (g_var rfl) g_int (o_ixqT rfl)) (g_op (g_var rfl) g_int (o_ixqT rfl)) (o_mul (cmul ha.1 hb.2))) (g_op (g_op (g_var rfl) g_int (o_ixqT rfl)) (g_op (g_var rfl) g_int (o_ixqT rfl)) (o_mul (cmul hb.1 ha.2))) o_sub) (by simp) rfl) ?_
  refine s_ret (g_orV (g_op (g_var rfl) g_int o_lt) fun _ => g_andV ((g_op (g_var rfl) g_int (o_eq rfl rfl)).eq (d' := .bool (decide (a.1 * b.2.1 - b.1 * a.2.1 = 0))) ?_) fun _ => g_op (g_op (g_var rfl) g_int (o_ixqT rfl)) (g_op (g_var rfl) g_int (o_ixqT rfl)) o_lt) ⟨?_, rfl⟩
  · show PyData.bool (_ == (0 : Int)) = _
    by_cases h : a.1 * b.2.1 - b.1 * a.2.1 = 0 <;> simp [h]
  · unfold keyLess
    simp
def turnI (g : G) (r c i : Nat) : List (List Int) := (g.rows.set r (turnRow g r c)).mapIdx fun at_ told => if at_ < i ∧ at_ ≠ r then sweptM g.low told (turnRow g r c) ((turnRow g r c).getD c 0) (told.getD c 0) else told
theorem turnI_0 (g : G) (r c : Nat) : turnI g r c 0 = g.rows.set r (turnRow g r c) := by
  refine List.ext_getElem? fun j => ?_
  unfold turnI
  rw [List.getElem?_mapIdx]
  simp
theorem turnI_end (g : G) (r c : Nat) (hr : r < g.rows.length) : turnI g r c g.rows.length = (turnM g r c).rows := by
  refine List.ext_getElem? fun j => ?_
  unfold turnI turnM
  rw [List.getElem?_mapIdx, List.getElem?_mapIdx, List.getElem?_set]
  by_cases q : r = j
  · subst q
    rw [if_pos rfl, if_pos hr, List.getElem?_eq_getElem hr]
    simp
  · rw [if_neg q]
    cases e : g.rows[j]? with
    | none => rfl
    | some x =>
      have := (List.getElem?_eq_some_iff.mp e).1
      simp only [Option.map_some]
      rw [if_pos ⟨this, Ne.symm q⟩, if_neg (Ne.symm q)]
theorem turnI_step (g : G) (r c i : Nat) (told : List Int) (h : (g.rows.set r (turnRow g r c))[i]? = some told) : turnI g r c (i + 1) = if i = r then turnI g r c i else (turnI g r c i).set i (sweptM g.low told (turnRow g r c) ((turnRow g r c).getD c 0) (told.getD c 0)) := by
  by_cases q : i = r
  · rw [if_pos q]
    refine List.ext_getElem? fun j => ?_
    unfold turnI
    rw [List.getElem?_mapIdx, List.getElem?_mapIdx]
    congr 1
    funext x
    by_cases z : j < i ∧ j ≠ r
    · rw [if_pos z, if_pos ⟨by omega, z.2⟩]
    · rw [if_neg z, if_neg (by omega)]
  · rw [if_neg q]
    refine List.ext_getElem? fun j => ?_
    have hil := (List.getElem?_eq_some_iff.mp h).1
    unfold turnI
    generalize g.rows.set r (turnRow g r c) = R1 at *
    rw [List.getElem?_mapIdx, List.getElem?_set, List.length_mapIdx]
    by_cases z : i = j
    · subst z
      rw [if_pos rfl, if_pos hil, h]
      simp only [Option.map_some]
      rw [if_pos ⟨by omega, q⟩]
    · rw [if_neg z, List.getElem?_mapIdx]
      congr 1
      funext x
      by_cases z' : j < i ∧ j ≠ r
      · rw [if_pos z', if_pos ⟨by omega, z'.2⟩]
      · rw [if_neg z', if_neg (by omega)]
def pre_g_turn (s : Sl) (ds : List PyData) (d : PyData) (t : Sl) : Prop := ∃ (p dx ar ai : Addr) (g : G) (m n r c : Nat), s = gO p dx ar ai g ∧ t = gO p dx ar ai (turnM g r c) ∧ ds = [.int r, .int c] ∧ SzG m n g ∧ r < m ∧ c < n + m + 1 ∧ d = .none
theorem len_g_turn : ∀ s ds d t, pre_g_turn s ds d t → ds.length + 1 = 3 := by rintro _ _ _ _ ⟨_, _, _, _, _, _, _, _, _, rfl, rfl, rfl, _⟩; rfl
theorem ok_g_turn (T : Txt K mg) : FnOk Pg w K mg base CX0 2 (He.ma K (gC K) "turn") (T.fd 10) ["self", "index", "column"] (spS (gC K) pre_g_turn) := by
  refine (T.F 10 dg_turn rfl).ok sc_g_turn (spS_len (n := 3) ?len) (fun cdv A outer s H vs Q E hr h => ?_)
  case len => exact len_g_turn
  refine ⟨_, PSs.nox (pss_cons (ps_if (pt_cmpR op_lt (pe_ix (ix_seqK (K := K)) (pe_ix (ix_seqK (K := K)) (pe_fldK (K := K) (pv 0) rfl) (pv 1) (fun _ _ => rfl)) (pv 2) (fun _ _ => rfl)) pe_int (nomark _)) (pss_one (ps_asg (pe_lc (own := [("one", 7)]) (by rfl) sc_g_turn.nd (pi_list (pe_ix (ix_seqK (K := K)) (pe_fldK (K := K) (pv 0) rfl) (pv 1) (fun _ _ => rfl))) (blkOk_by (N := ["self", "index", "column", "row", "pivot", "at", "told", "one"]) (sc := defScope sg_turn) (by decide +kernel)) (fun _ _ _ _ _ => (pg_name (i := 7) sc_g_turn.nd rfl (by first | exact Or.inl rfl | exact Or.inr rfl))) (fun _ _ _ _ _ => pts_nil) (fun _ _ _ _ _ => (pe_un un_neg (pv 7)))) (pg_sub (pe_fldK (K := K) (pv 0) rfl) (pv 1) set_list))) pss_nil)
      (pss_cons (ps_set (i := 3) sc_g_turn.nd rfl (by first | exact Or.inl rfl | exact Or.inr rfl) (pe_ix (ix_seqK (K := K)) (pe_fldK (K := K) (pv 0) rfl) (pv 1) (fun _ _ => rfl)))
      (pss_cons (ps_set (i := 4) sc_g_turn.nd rfl (by first | exact Or.inl rfl | exact Or.inr rfl) (pe_ix (ix_seqK (K := K)) (pv 3) (pv 2) (fun _ _ => rfl)))
      (pss_cons (ps_for PassesOwn.never rfl (pi_enQ (by rfl) T.n_enumerate (pa_cons (pe_callTy call_list_of (by rfl) T.n_list (by decide +kernel) (pa_cons (pe_fldK (K := K) (pv 0) rfl) pa_nil)) pa_nil)) (pg_tupK (K := K) (n := 2) (by rfl) (pgs_cons (pg_name (i := 5) sc_g_turn.nd rfl (by first | exact Or.inl rfl | exact Or.inr rfl)) (pgs_cons (pg_name (i := 6) sc_g_turn.nd rfl (by first | exact Or.inl rfl | exact Or.inr rfl)) pgs_nil))) (pss_one (ps_if (pt_cmpR (op_neDK (K := K) hr.units) (pv 5) (pv 1) (nomark _)) (pss_one (ps_asg (pe_meth (pv 0) T.cls T.m_swept (ok_g_swept T) (hr.mono (show 1 ≤ _ by decide)) (b_g_swept T) .nil pass0 (pa_cons (pv 6) (pa_cons (pv 3) (pa_cons (pv 4) (pa_cons (pe_ix (ix_seqK (K := K)) (pv 6) (pv 2) (fun _ _ => rfl)) pa_nil))))) (pg_sub (pe_fldK (K := K) (pv 0) rfl) (pv 5) set_list))) pss_nil)))
      (pss_cons (ps_fld (pv 0) (pe_meth (pv 0) T.cls T.m_swept (ok_g_swept T) (hr.mono (show 1 ≤ _ by decide)) (b_g_swept T) .nil pass0 (pa_cons (pe_fldK (K := K) (pv 0) rfl) (pa_cons (pv 3) (pa_cons (pv 4) (pa_cons (pe_ix (ix_seqK (K := K)) (pe_fldK (K := K) (pv 0) rfl) (pv 2) (fun _ _ => rfl)) pa_nil))))) rfl)
      (pss_cons (ps_fld (pv 0) (pv 4) rfl)
      (pss_one (ps_asg (pv 2) (pg_sub (pe_fldK (K := K) (pv 0) rfl) (pv 1) set_list))))))))), ?_⟩
  refine body_own (K := K) (C := gC K) h (fun s ds d t hp => by rw [len_g_turn s ds d t hp]; decide) (fun s ds d t hp F0 H0 => ?_)
  obtain ⟨p, dx, ar, ai, g, m, n, r, c, rfl, rfl, rfl, Z, hrm, hcm, rfl⟩ := hp
  show Sd _ _ [gO p dx ar ai g, .d (.int r), .d (.int c), .no, .no, .no, .no, .no] _ _
  have hr0 : r < g.rows.length := by rw [Z.shp.rows]; exact hrm
  have hrow := rowAt_get hr0
  have hsm := Z.small
  have hrl := Z.shp.row r hrm
  have hrb := Z.rb _ (rowAt_mem hr0)
  have htl := turnRow_len (c := c) Z.shp hrm
  have htb : ibd 2000 (turnRow g r c) := turnRow_ibd hrb
  have hpb := ibd_get htb c
  refine s_seq1 (P' := [gO p dx ar ai { g with rows := g.rows.set r (turnRow g r c) }, .d (.int r), .d (.int c), .no, .no, .no, .no, .no]) ?_ ?_
  · refine s_if (b := decide ((rowAt g r).getD c 0 < 0)) (t_cmp (g_op (g_op (g_fldIx (ds := g.rows.map lD) rfl k_rows T.cls T.no_rows (g_var rfl) (lD_at hrow)) (g_var rfl) (o_ixqL (iD_at (by omega)))) g_int o_lt)) (fun h => ?_) fun h => s_next ?_
    · have h := of_decide_eq_true h
      have et : turnRow g r c = (rowAt g r).map fun one => -one := by unfold turnRow; rw [if_pos h]
      refine s_fldIx (d := lD (turnRow g r c)) ((TEo.g (o_mapL (xs := rowAt g r) (r := .int) (f := fun one => .int (-one)) rfl (i_list (g_fldIx (ds := g.rows.map lD) rfl k_rows T.cls T.no_rows (g_var rfl) (lD_at hrow))) (by simp) (by omega) fun x hx => ⟨_, _, by simp, d_name (by simp [noAt]), rfl, g_un (g_var rfl) o_neg⟩)).eq ?_) rfl k_rows T.cls T.no_rows (g_var rfl) (ixN_nat (by simpa using hr0)) ?_
      · rw [et]
        unfold lD iD; rw [List.map_map]; rfl
      · rw [p_rows, ← List.map_set]; rfl
    · have h := of_decide_eq_false h
      have et : turnRow g r c = rowAt g r := by unfold turnRow; rw [if_neg h]
      rw [et, set_self hrow]
  have hrow1 : (g.rows.set r (turnRow g r c))[r]? = some (turnRow g r c) := by rw [List.getElem?_set_self hr0]
  refine s_seq1 (P' := [gO p dx ar ai { g with rows := g.rows.set r (turnRow g r c) }, .d (.int r), .d (.int c), .d (lD (turnRow g r c)), .no, .no, .no, .no]) (s_set (g_fldIx (ds := (g.rows.set r (turnRow g r c)).map lD) rfl k_rows T.cls T.no_rows (g_var rfl) (lD_at hrow1)) (by simp) rfl) ?_
  refine s_seq1 (P' := [gO p dx ar ai { g with rows := g.rows.set r (turnRow g r c) }, .d (.int r), .d (.int c), .d (lD (turnRow g r c)), .d (.int ((turnRow g r c).getD c 0)), .no, .no, .no]) (s_set (g_op (g_var rfl) (g_var rfl) (o_ixqL (iD_at (by omega)))) (by simp) rfl) ?_
  refine s_seq (M := fun P' => ∃ a b, P' = [gO p dx ar ai { g with rows := (turnM g r c).rows }, .d (.int r), .d (.int c), .d (lD (turnRow g r c)), .d (.int ((turnRow g r c).getD c 0)), a, b, .no]) (s_for (ds := enD ((g.rows.set r (turnRow g r c)).map lD)) (i_en (a_cons (TEo.g (o_fldList (ds := (g.rows.set r (turnRow g r c)).map lD) rfl k_rows T.cls T.no_rows)) a_nil) its_l)
    (fun i P' => ∃ a b, P' = [gO p dx ar ai { g with rows := turnI g r c i }, .d (.int r), .d (.int c), .d (lD (turnRow g r c)), .d (.int ((turnRow g r c).getD c 0)), a, b, .no]) ⟨.no, .no, by rw [turnI_0]⟩ ?_ ?_) ?_
  · rintro i d P2 hd ⟨x1, x2, rfl⟩
    rw [en_map, List.getElem?_map, List.getElem?_zipIdx] at hd
    cases e : (g.rows.set r (turnRow g r c))[i]? with
    | none => rw [e] at hd; cases hd
    | some told =>
      rw [e] at hd
      simp only [Option.map_some, Nat.zero_add] at hd
      cases hd
      have hi : i < g.rows.length := by have := (List.getElem?_eq_some_iff.mp e).1; simpa using this
      have him : i < m := by rw [← Z.shp.rows]; exact hi
      have hti : told.length = n + m + 1 ∧ ibd 2000 told := by
        rw [List.getElem?_set] at e
        by_cases q : r = i
        · rw [if_pos q, if_pos hr0] at e
          cases e
          exact ⟨htl, htb⟩
        · rw [if_neg q, rowAt_get hi] at e
          cases e
          exact ⟨Z.shp.row i him, Z.rb _ (rowAt_mem hi)⟩
      obtain ⟨tl, tbd⟩ := hti
      refine ⟨_, [gO p dx ar ai { g with rows := turnI g r c i }, .d (.int r), .d (.int c), .d (lD (turnRow g r c)), .d (.int ((turnRow g r c).getD c 0)), .d (.int i), .d (lD told), .no], d_tup (ds_cons (d_name (by simp)) (ds_cons (d_name (by simp)) ds_nil)) rfl, ?_⟩
      have hstep := turnI_step g r c i told e
      refine s_if (b := !decide (i = r)) ((t_neI (g_var rfl) (g_var rfl)).eq (by simp; omega)) (fun h => ?_) fun h => s_next ⟨.d (.int i), .d (lD told), ?_⟩
      · have h : i ≠ r := by simpa using h
        rw [if_neg h] at hstep
        refine s_fldIx (d := lD (sweptM g.low told (turnRow g r c) ((turnRow g r c).getD c 0) (told.getD c 0))) (g_methS (t := gO p dx ar ai { g with rows := turnI g r c i }) (a_cons (g_var rfl) (a_cons (g_var rfl) (a_cons (g_var rfl) (a_cons (g_op (g_var rfl) (g_var rfl) (o_ixqL (iD_at (by omega)))) a_nil)))) rfl (k_none (by decide +kernel)) rfl ⟨p, dx, ar, ai, { g with rows := turnI g r c i }, told, turnRow g r c, _, _, rfl, rfl, rfl, by omega, tbd, htb, hpb, ibd_get tbd c, Z.l0, Z.lb, rfl⟩ rfl rfl) rfl k_rows T.cls T.no_rows (g_var rfl) (ixN_nat (by simp [turnI]; exact hi)) ⟨.d (.int i), .d (lD told), ?_⟩
        rw [p_rows, ← List.map_set, ← hstep]; rfl
      · have h : i = r := by simpa using h
        rw [if_pos h] at hstep
        rw [hstep]
  · rintro _ ⟨x1, x2, rfl⟩
    refine ⟨x1, x2, ?_⟩
    have : (enD ((g.rows.set r (turnRow g r c)).map lD)).length = g.rows.length := by rw [enD_len]; simp
    rw [this, turnI_end g r c hr0]
  rintro _ ⟨x1, x2, rfl⟩
  have tl := Z.shp.top
  refine s_seq1 (P' := [gO p dx ar ai { g with rows := (turnM g r c).rows, top := (turnM g r c).top }, .d (.int r), .d (.int c), .d (lD (turnRow g r c)), .d (.int ((turnRow g r c).getD c 0)), x1, x2, .no]) (s_fld (d := lD (turnM g r c).top) (g_methS (t := gO p dx ar ai { g with rows := (turnM g r c).rows }) (a_cons (g_fld rfl k_top T.cls T.no_top) (a_cons (g_var rfl) (a_cons (g_var rfl) (a_cons (g_op (g_fld rfl k_top T.cls T.no_top) (g_var rfl) (o_ixqL (iD_at (by rw [tl]; exact hcm)))) a_nil)))) rfl (k_none (by decide +kernel)) rfl ⟨p, dx, ar, ai, { g with rows := (turnM g r c).rows }, g.top, turnRow g r c, _, _, rfl, rfl, rfl, by omega, Z.tb, htb, hpb, ibd_get Z.tb c, Z.l0, Z.lb, rfl⟩ rfl rfl) rfl kp_top T.cls T.no_top (by simp) (by rw [p_top]; rfl)) ?_
  refine s_seq1 (P' := [gO p dx ar ai { g with rows := (turnM g r c).rows, top := (turnM g r c).top, low := (turnM g r c).low }, .d (.int r), .d (.int c), .d (lD (turnRow g r c)), .d (.int ((turnRow g r c).getD c 0)), x1, x2, .no]) (s_fld (g_var rfl) rfl kp_low T.cls T.no_low (by simp) (by rw [p_low]; rfl)) ?_
  refine s_fldIx (g_var rfl) rfl k_inside T.cls T.no_inside (g_var rfl) (ixN_nat (i := r) (by simp [nD]; rw [Z.shp.inside]; exact hrm)) ⟨rfl, ?_⟩
  rw [p_inside]
  have : (nD g.inside).set r (.int (c : Int)) = nD (g.inside.set r c) := by unfold nD; rw [List.map_set]
  rw [this]
  rfl
end
end Cp
end
/-! ## CGn -/
section
set_option Elab.async false
set_option linter.all false
set_option autoImplicit false
set_option maxRecDepth 100000
set_option maxHeartbeats 4000000
set_option exponentiation.threshold 100000
namespace Cp
variable [KFix]
open PySem PySem.Spec PyProof.Rows L2
def bestD : Option (Int × Int × Nat × Nat) → PyData
  | none => .none
  | some k => keyD k
def rowD : Option (Int × Int × Nat × Nat) → PyData
  | none => .none
  | some k => .int (k.2.2.2 : Nat)
def colD : Option Nat → PyData
  | none => .none
  | some c => .int (c : Nat)
theorem iD_last {row : List Int} {k : Nat} (h : row.length = k + 1) : atI (iD row) (-1) = some (.int (row.getLastD 0)) := atI_last (by
  unfold iD
  rw [List.getLast?_map, List.getLastD_eq_getLast?]
  cases e : row.getLast? with
  | none => rw [List.getLast?_eq_none_iff] at e; subst e; cases h
  | some x => rfl)
theorem last_ibd {row : List Int} {k j : Nat} (h : ibd k row) : (row.getLastD 0).natAbs < 2 ^ k := by
  rw [List.getLastD_eq_getLast?]
  cases e : row.getLast? with
  | none => exact Nat.pow_pos (by decide)
  | some x => exact h x (List.mem_of_getLast? e)
theorem key_kbd {m n : Nat} {g : G} (Z : SzG m n g) {i : Nat} (hi : i < g.rows.length) (c : Nat) : kbd (keyOf g c i) := ⟨last_ibd (j := 0) (Z.rb _ (rowAt_mem hi)), ibd_get (Z.rb _ (rowAt_mem hi)) c⟩
theorem goes_kbd {m n : Nat} {g : G} (Z : SzG m n g) (c : Nat) : ∀ i, i ≤ g.rows.length → ∀ k, (List.range i).foldl (goesStep g c) none = some k → kbd k
  | 0, _, k, h => by cases h
  | i + 1, hi, k, h => by
    have ih := goes_kbd Z c i (by omega)
    rw [List.range_succ, List.foldl_append] at h
    generalize (List.range i).foldl (goesStep g c) none = best at ih h
    have h : goesStep g c best i = some k := h
    unfold goesStep at h
    split at h
    · split at h
      · cases h; exact key_kbd Z (by omega) c
      · split at h
        · cases h; exact key_kbd Z (by omega) c
        · cases h; exact ih _ rfl
    · exact ih _ h
theorem shp_ints : ∀ xs : List Int, PyData.canLayAll0 (iD xs) = true ∧ PyData.depthAll (iD xs) ≤ 1
  | [] => ⟨rfl, by simp [iD, PyData.depthAll]⟩
  | x :: xs => by
    obtain ⟨h1, h2⟩ := shp_ints xs
    refine ⟨?_, ?_⟩
    · show (PyData.canLay0 (.int x) && PyData.canLayAll0 (iD xs)) = true
      rw [h1]; rfl
    · show PyData.depthAll (.int x :: iD xs) ≤ 1
      simp only [PyData.depthAll, PyData.depth]
      omega
theorem shp_il (xs : List Int) : SeqAt.shaped (.list (iD xs)) = true := by
  obtain ⟨h1, h2⟩ := shp_ints xs
  unfold SeqAt.shaped
  rw [Bool.and_eq_true]
  refine ⟨h1, decide_eq_true ?_⟩
  simp only [PyData.depth]
  omega
theorem eqv_nil (xs : List Int) : PyData.eqv (.list (iD xs)) (.list []) = xs.isEmpty := by
  cases xs <;> rfl
theorem at_c0 (c : Int) (r : List Int) : atI (iD (c :: r)) 0 = some (.int c) := atI_nat (i := 0) rfl
/-- some = those of a range, as data -/
def someI (n : Nat) (p : Nat → Bool) : List Int := ((List.range n).filter p).map fun (i : Nat) => (i : Int)
theorem some_find (n : Nat) (p : Nat → Bool) : match (List.range n).find? p with
    | none => someI n p = []
    | some c => ∃ r, someI n p = (c : Int) :: r := by
  unfold someI
  rw [← List.head?_filter]
  cases (List.range n).filter p with
  | nil => rfl
  | cons c r => exact ⟨_, rfl⟩
theorem qb_ratio {t l : Int} {k : Nat} (h0 : 0 < l) (ht : t.natAbs < 2 ^ k) (hl : l.natAbs < 2 ^ k) : qb k ((t : Rat) / (l : Rat)) := by
  have hg := gcd_pos (t := t) h0
  refine ⟨?_, ?_⟩
  · rw [num_of h0]
    refine Nat.lt_of_le_of_lt ?_ ht
    exact Int.natAbs_ediv_le_natAbs _ _
  · have := den_of (t := t) h0
    have h2 : (((t : Rat) / (l : Rat)).den : Int).natAbs = (l / (Int.gcd t l : Int)).natAbs := by rw [this]
    rw [Int.natAbs_natCast] at h2
    rw [h2]
    exact Nat.lt_of_le_of_lt (Int.natAbs_ediv_le_natAbs _ _) hl
section
variable {Pg : Program} {w : World} {K : PySem.W.Frag} {mg : Str → Option Value} {base : Heap}
def pre_g_goes_out (s : Sl) (ds : List PyData) (d : PyData) (t : Sl) : Prop := ∃ (p dx ar ai : Addr) (g : G) (m n c : Nat), s = gO p dx ar ai g ∧ t = gO p dx ar ai g ∧ ds = [.int c] ∧ SzG m n g ∧ c < n + m + 1 ∧ d = rowD (goesOutM g c)
theorem len_g_goes_out : ∀ s ds d t, pre_g_goes_out s ds d t → ds.length + 1 = 2 := by rintro _ _ _ _ ⟨_, _, _, _, _, _, _, _, rfl, rfl, rfl, _⟩; rfl
theorem ok_g_goes_out (T : Txt K mg) : FnOk Pg w K mg base CX0 2 (He.ma K (gC K) "goes_out") (T.fd 12) ["self", "column"] (spS (gC K) pre_g_goes_out) := by
  refine (T.F 12 dg_goes_out rfl).ok sc_g_goes_out (spS_len (n := 2) ?len) (fun cdv A outer s H vs Q E hr h => ?_)
  case len => exact len_g_goes_out
  refine ⟨_, PSs.nox (pss_cons (ps_set (i := 2) sc_g_goes_out.nd rfl (by first | exact Or.inl rfl | exact Or.inr rfl) pe_non)
      (pss_cons (ps_for PassesOwn.never rfl (pi_enQ (by rfl) T.n_enumerate (pa_cons (pe_fldK (K := K) (pv 0) rfl) pa_nil)) (pg_tupK (K := K) (n := 2) (by rfl) (pgs_cons (pg_name (i := 3) sc_g_goes_out.nd rfl (by first | exact Or.inl rfl | exact Or.inr rfl)) (pgs_cons (pg_name (i := 4) sc_g_goes_out.nd rfl (by first | exact Or.inl rfl | exact Or.inr rfl)) pgs_nil))) (pss_one (ps_if (pt_cmpR op_gt (pe_ix (ix_seqK (K := K)) (pv 4) (pv 1) (fun _ _ => rfl)) pe_int (nomark _)) (pss_cons (ps_set (i := 5) sc_g_goes_out.nd rfl (by first | exact Or.inl rfl | exact Or.inr rfl) (pe_tup (pa_cons (pe_ix (ix_seqK (K := K)) (pv 4) (pe_un un_neg pe_int) (fun _ _ => rfl)) (pa_cons (pe_ix (ix_seqK (K := K)) (pv 4) (pv 1) (fun _ _ => rfl)) (pa_cons (pe_ix (ix_seqK (K := K)) (pe_fldK (K := K) (pv 0) rfl) (pv 3) (fun _ _ => rfl)) (pa_cons (pv 3) pa_nil))))))
      (pss_one (ps_if (PW.pt (pw_or (pt_cmpR op_isN (pv 2) pe_non (nomark _)) (pw_or1 (pt_val (pe_meth (pv 0) T.cls T.m_is_less (ok_g_is_less T) (hr.mono (show 1 ≤ _ by decide)) (b_g_is_less T) .nil pass0 (pa_cons (pv 5) (pa_cons (pv 2) pa_nil))))))) (pss_one (ps_set (i := 2) sc_g_goes_out.nd rfl (by first | exact Or.inl rfl | exact Or.inr rfl) (pv 5))) pss_nil))) pss_nil)))
      (pss_one (ps_ret (pe_ifExp (pt_cmpR op_notN (pv 2) pe_non (nomark _)) (pe_ix (ix_seqK (K := K)) (pv 2) pe_int (fun _ _ => rfl)) pe_non))))), ?_⟩
  refine body_own (K := K) (C := gC K) h (fun s ds d t hp => by rw [len_g_goes_out s ds d t hp]; decide) (fun s ds d t hp F0 H0 => ?_)
  obtain ⟨p, dx, ar, ai, g, m, n, c, rfl, rfl, rfl, Z, hc, rfl⟩ := hp
  show Sd _ _ [gO p dx ar ai g, .d (.int c), .no, .no, .no, .no] _ _
  have hsm := Z.small
  refine s_seq1 (P' := [gO p dx ar ai g, .d (.int c), .d (bestD none), .no, .no, .no]) (s_set g_non (by simp) rfl) ?_
  refine s_seq (M := fun P' => ∃ x3 x4 x5, P' = [gO p dx ar ai g, .d (.int c), .d (bestD (goesOutM g c)), x3, x4, x5]) (s_forG (P1 := [gO p dx ar ai g, .d (.int c), .d (bestD none), .no, .no, .no]) (n := (g.rows.map lD).length) (fun i P2 => ∃ x3 x4 x5, P2 = [gO p dx ar ai g, .d (.int c), .d (bestD ((List.range i).foldl (goesStep g c) none)), x3, x4, x5]) (fun i => (enD (g.rows.map lD)).getD i .none) rfl (fun T' σ F H Rr S hl q => w_enFld (ds := g.rows.map lD) rfl k_rows T.cls T.no_rows ?_ T' σ F H Rr S hl q) ⟨_, _, _, rfl⟩ ?_ ?_) ?_
  · rintro j P2 ⟨a, b, e, rfl⟩
    exact ⟨_, rfl, k_rows⟩
  · rintro i P2 hi ⟨x3, x4, x5, rfl⟩
    have hi' : i < g.rows.length := by simpa using hi
    have him : i < m := by rw [← Z.shp.rows]; exact hi'
    have hrow := rowAt_get hi'
    have rl := Z.shp.row i him
    have rb := Z.rb _ (rowAt_mem hi')
    have il := Z.shp.inside
    have eg : (enD (g.rows.map lD)).getD i .none = .tuple [.int (i : Int), lD (rowAt g i)] := by
      unfold List.getD
      rw [enD_get (d := lD (rowAt g i)) (by rw [List.getElem?_map, hrow]; rfl)]; rfl
    have hk := goes_kbd Z c i (by omega)
    rw [eg, List.range_succ, List.foldl_append]
    generalize (List.range i).foldl (goesStep g c) none = best at hk ⊢
    show Sg _ _ _ _ _ (fun P2 => ∃ x3 x4 x5, P2 = [gO p dx ar ai g, .d (.int c), .d (bestD (goesStep g c best i)), x3, x4, x5]) _
    refine ⟨_, [gO p dx ar ai g, .d (.int c), .d (bestD best), .d (.int i), .d (lD (rowAt g i)), x5], d_tup (ds_cons (d_name (by simp)) (ds_cons (d_name (by simp)) ds_nil)) rfl, ?_⟩
    refine s_if (b := decide (0 < (rowAt g i).getD c 0)) (t_cmp (g_op (g_op (g_var rfl) (g_var rfl) (o_ixqL (iD_at (by omega)))) g_int o_gt)) (fun h => ?_) fun h => s_next ⟨.d (.int i), .d (lD (rowAt g i)), x5, ?_⟩
    · have h := of_decide_eq_true h
      refine s_seq1 (P' := [gO p dx ar ai g, .d (.int c), .d (bestD best), .d (.int i), .d (lD (rowAt g i)), .d (keyD (keyOf g c i))]) (s_set ((g_tup (a_cons (g_op (g_var rfl) (g_un g_int o_neg) (o_ixqL (iD_last rl))) (a_cons (g_op (g_var rfl) (g_var rfl) (o_ixqL (iD_at (by omega)))) (a_cons (g_fldIx (ds := nD g.inside) rfl k_inside T.cls T.no_inside (g_var rfl) (nD_at (by omega))) (a_cons (g_var rfl) a_nil)))) (by simp)).eq rfl) (by simp) rfl) ?_
      cases best with
      | none =>
        refine s_if (b := true) (t_orT (t_cmp (g_op (g_var rfl) g_non o_isN))) (fun _ => s_set (g_var rfl) (by simp) ⟨.d (.int i), .d (lD (rowAt g i)), .d (keyD (keyOf g c i)), ?_⟩) (fun z => nomatch z)
        unfold goesStep
        rw [if_pos h]; rfl
      | some k =>
        refine s_if (b := keyLess (keyOf g c i) k) (t_orF (t_cmp (g_op (g_var rfl) g_non o_isN)) (t_val (g_methS (t := gO p dx ar ai g) (a_cons (g_var rfl) (a_cons (g_var rfl) a_nil)) rfl (k_none (by decide +kernel)) rfl ⟨p, dx, ar, ai, g, _, _, rfl, rfl, rfl, key_kbd Z hi' c, hk k rfl, rfl⟩ rfl rfl))) (fun hl => s_set (g_var rfl) (by simp) ⟨.d (.int i), .d (lD (rowAt g i)), .d (keyD (keyOf g c i)), ?_⟩) (fun hl => s_next ⟨.d (.int i), .d (lD (rowAt g i)), .d (keyD (keyOf g c i)), ?_⟩)
        · have : goesStep g c (some k) i = some (keyOf g c i) := by
            unfold goesStep
            rw [if_pos h]
            simp only [hl, if_true]
          rw [this]; rfl
        · have : goesStep g c (some k) i = some k := by
            unfold goesStep
            rw [if_pos h]
            simp only [hl, Bool.false_eq_true, if_false]
          rw [this]; rfl
    · have h := of_decide_eq_false h
      unfold goesStep
      rw [if_neg h]
  · rintro P2 ⟨x3, x4, x5, rfl⟩
    refine ⟨x3, x4, x5, ?_⟩
    rw [List.length_map]; rfl
  rintro _ ⟨x3, x4, x5, rfl⟩
  cases e : goesOutM g c with
  | none => exact s_ret (g_if (b := false) (t_cmp (g_op (g_var rfl) g_non o_notN)) (fun z => nomatch z) fun _ => g_non) ⟨rfl, rfl⟩
  | some k => exact s_ret (g_if (b := true) (t_cmp (g_op (g_var rfl) g_non o_notN)) (fun _ => g_op (g_var rfl) g_int (o_ixqT rfl)) fun z => nomatch z) ⟨rfl, rfl⟩
def pre_g_settle (s : Sl) (ds : List PyData) (d : PyData) (t : Sl) : Prop := ∃ (p dx ar ai : Addr) (g g' : G) (m n allowed k : Nat) (A : Nat → Nat → Int) (cost : Nat → Int) (res : Option Nat), s = gO p dx ar ai g ∧ t = gO p dx ar ai g' ∧ ds = [.int allowed] ∧ allowed ≤ n ∧ (∀ g, Good m n A cost g → SzG m n g) ∧ Run (Good m n A cost) allowed k g g' res ∧ d = colD res
theorem len_g_settle : ∀ s ds d t, pre_g_settle s ds d t → ds.length + 1 = 2 := by rintro _ _ _ _ ⟨_, _, _, _, _, _, _, _, _, _, _, _, _, rfl, rfl, rfl, _⟩; rfl
theorem ok_g_settle (T : Txt K mg) : FnOk Pg w K mg base CX0 3 (He.ma K (gC K) "settle") (T.fd 14) ["self", "allowed"] (spS (gC K) pre_g_settle) := by
  refine (T.F 14 dg_settle rfl).ok sc_g_settle (spS_len (n := 2) ?len) (fun cdv A outer s H vs Q E hr h => ?_)
  case len => exact len_g_settle
  refine ⟨_, PSs.nox (pss_one (ps_while PassesOwn.never (pt_val pe_bl) (pss_cons (ps_setLc (i := 2) (own := [("at", 4)]) (by rfl) sc_g_settle.nd rfl rfl (sw_true rfl rfl rfl (by decide +kernel)) (pi_range1 (by rfl) T.n_range (pa_cons (pv 1) pa_nil)) (blkOk_by (N := ["self", "allowed", "some", "index", "at"]) (sc := defScope sg_settle) (by decide +kernel)) (fun _ _ _ _ _ => (pg_name (i := 4) sc_g_settle.nd rfl (by first | exact Or.inl rfl | exact Or.inr rfl))) (fun _ _ _ _ _ => (pts_one (pt_cmpR op_lt (pe_ix (ix_seqK (K := K)) (pe_fldK (K := K) (pv 0) rfl) (pv 4) (fun _ _ => rfl)) pe_int (nomark _)))) (fun _ _ _ _ _ => (pv 4)))
      (pss_cons (ps_if (pt_cmpR (op_eqDK (K := K) hr.units) (pv 2) (pe_lst pa_nil) (nomark _)) (pss_one (ps_ret pe_non)) pss_nil)
      (pss_cons (ps_set (i := 3) sc_g_settle.nd rfl (by first | exact Or.inl rfl | exact Or.inr rfl) (pe_meth (pv 0) T.cls T.m_goes_out (ok_g_goes_out T) (hr.mono (show 2 ≤ _ by decide)) (b_g_goes_out T) .nil pass0 (pa_cons (pe_ix (ix_seqK (K := K)) (pv 2) pe_int (fun _ _ => rfl)) pa_nil)))
      (pss_cons (ps_if (pt_cmpR op_isN (pv 3) pe_non (nomark _)) (pss_one (ps_ret (pe_ix (ix_seqK (K := K)) (pv 2) pe_int (fun _ _ => rfl)))) pss_nil)
      (pss_one (ps_expr (pe_meth (pv 0) T.cls T.m_turn (ok_g_turn T) (hr.mono (show 2 ≤ _ by decide)) (b_g_turn T) .nil pass0 (pa_cons (pv 3) (pa_cons (pe_ix (ix_seqK (K := K)) (pv 2) pe_int (fun _ _ => rfl)) pa_nil))))))))))), ?_⟩
  refine body_own (K := K) (C := gC K) h (fun s ds d t hp => by rw [len_g_settle s ds d t hp]; decide) (fun s ds d t hp F0 H0 => ?_)
  obtain ⟨p, dx, ar, ai, g, g', m, n, allowed, k, A', cost, res, rfl, rfl, rfl, hal, Z, R, rfl⟩ := hp
  show Sd _ _ [gO p dx ar ai g, .d (.int allowed), .no, .no, .no] _ _
  refine s_while (n0 := k) (fun j P2 => ∃ gj x2 x3, P2 = [gO p dx ar ai gj, .d (.int allowed), x2, x3, .no] ∧ Run (Good m n A' cost) allowed j gj g' res) ⟨g, _, _, rfl, R⟩ ?_
  rintro j P2 ⟨gj, x2, x3, rfl, Rj⟩
  refine ⟨true, _, t_val g_bl, fun _ => ?_, fun z => nomatch z⟩
  have Zj := Z _ Rj.first
  have hsm := Zj.small
  have tl := Zj.shp.top
  refine s_seq1 (P' := [gO p dx ar ai gj, .d (.int allowed), .d (.list (iD (someI allowed fun j => decide (gj.top.getD j 0 < 0)))), x3, .no]) ?_ ?_
  · refine s_set ((TEo.g (o_filterL (xs := List.range allowed) (f := fun (i : Nat) => .int (i : Int)) (fun j => decide (gj.top.getD j 0 < 0)) (rng_map allowed) (i_rng (a_cons (g_var rfl) a_nil) (by omega)) (by simp) (by simp; omega) fun x hx => ⟨_, _, by simp, d_name (by simp [noAt]), rfl, t_cmp (g_op (g_op (g_fld rfl k_top T.cls T.no_top) (g_var rfl) (o_ixqL (iD_at (by rw [tl]; have := List.mem_range.mp hx; omega)))) g_int o_lt), fun _ => g_var rfl⟩)).eq ?_) (by simp [noAt]) rfl
    unfold iD someI; rw [List.map_map]; rfl
  have hf := some_find allowed fun j => decide (gj.top.getD j 0 < 0)
  have heq : ∀ (xs : List Int) F0 H0, TTg ⟨K, gC K, F0, H0⟩ (tTest (tOp (rEqD K) (tVar 2) (tLst tNil))) [gO p dx ar ai gj, .d (.int allowed), .d (.list (iD xs)), x3, .no] xs.isEmpty [gO p dx ar ai gj, .d (.int allowed), .d (.list (iD xs)), x3, .no] := fun xs F0 H0 => (t_cmp (g_op (g_var rfl) (g_lst a_nil (by simp)) (o_eq (shp_il xs) (shp_il [])))).eq (eqv_nil xs)
  have hfn : firstNeg allowed gj.top = (List.range allowed).find? fun j => decide (gj.top.getD j 0 < 0) := rfl
  cases Rj with
  | stop w e =>
    rw [hfn] at e
    rw [e] at hf
    rw [hf]
    exact s_seq (M := fun _ => False) (s_if (b := true) (heq [] _ _) (fun _ => s_ret g_non ⟨rfl, rfl⟩) fun z => nomatch z) fun _ z => z.elim
  | @ray _ _ c w e1 e2 =>
    rw [hfn] at e1
    rw [e1] at hf
    obtain ⟨r, hf⟩ := hf
    rw [hf]
    obtain ⟨c1, _, _⟩ := find_range_some e1
    refine s_seq1 (P' := [gO p dx ar ai g', .d (.int allowed), .d (.list (iD ((c : Int) :: r))), x3, .no]) (s_if (b := false) (heq _ _ _) (fun z => nomatch z) fun _ => s_next rfl) ?_
    refine s_seq1 (P' := [gO p dx ar ai g', .d (.int allowed), .d (.list (iD ((c : Int) :: r))), .d (rowD none), .no]) (s_set (g_methS (t := gO p dx ar ai g') (a_cons (g_op (g_var rfl) g_int (o_ixqL (at_c0 _ _))) a_nil) rfl (k_none (by decide +kernel)) rfl ⟨p, dx, ar, ai, g', m, n, c, rfl, rfl, rfl, Zj, by omega, by rw [e2]⟩ rfl rfl) (by simp) rfl) ?_
    exact s_seq (M := fun _ => False) (s_if (b := true) (t_cmp (g_op (g_var rfl) g_non o_isN)) (fun _ => s_ret (g_op (g_var rfl) g_int (o_ixqL (at_c0 _ _))) ⟨rfl, rfl⟩) fun z => nomatch z) fun _ z => z.elim
  | @step j' _ _ c key _ w e1 e2 R2 =>
    rw [hfn] at e1
    rw [e1] at hf
    obtain ⟨r, hf⟩ := hf
    rw [hf]
    obtain ⟨c1, _, _⟩ := find_range_some e1
    have hlv := (leave_of w.1 e2).1
    refine s_seq1 (P' := [gO p dx ar ai gj, .d (.int allowed), .d (.list (iD ((c : Int) :: r))), x3, .no]) (s_if (b := false) (heq _ _ _) (fun z => nomatch z) fun _ => s_next rfl) ?_
    refine s_seq1 (P' := [gO p dx ar ai gj, .d (.int allowed), .d (.list (iD ((c : Int) :: r))), .d (rowD (some key)), .no]) (s_set (g_methS (t := gO p dx ar ai gj) (a_cons (g_op (g_var rfl) g_int (o_ixqL (at_c0 _ _))) a_nil) rfl (k_none (by decide +kernel)) rfl ⟨p, dx, ar, ai, gj, m, n, c, rfl, rfl, rfl, Zj, by omega, by rw [e2]⟩ rfl rfl) (by simp) rfl) ?_
    refine s_seq1 (P' := [gO p dx ar ai gj, .d (.int allowed), .d (.list (iD ((c : Int) :: r))), .d (rowD (some key)), .no]) (s_if (b := false) (t_cmp (g_op (g_var rfl) g_non o_isN)) (fun z => nomatch z) fun _ => s_next rfl) ?_
    exact s_drop (g_methS (t := gO p dx ar ai (turnM gj key.2.2.2 c)) (a_cons (g_var rfl) (a_cons (g_op (g_var rfl) g_int (o_ixqL (at_c0 _ _))) a_nil)) rfl (k_none (by decide +kernel)) rfl ⟨p, dx, ar, ai, gj, m, n, key.2.2.2, c, rfl, rfl, rfl, Zj, hlv, by omega, rfl⟩ rfl rfl) ⟨j', by omega, _, _, _, rfl, R2⟩
end
end Cp
end
/-! ## CGp -/
section
set_option Elab.async false
set_option linter.all false
set_option autoImplicit false
set_option maxRecDepth 100000
set_option maxHeartbeats 4000000
set_option exponentiation.threshold 100000
namespace Cp
variable [KFix]
open PySem PySem.Spec PyProof.Rows L2
/-- ratios of the rows at their columns -/
def amtL (m n : Nat) (g : G) (i : Nat) : List Rat := listOf n (amt i (n + m) (tab g))
theorem amtL_0 (m n : Nat) (g : G) : amtL m n g 0 = List.replicate n 0 := by
  unfold amtL listOf
  have : (amt 0 (n + m) (tab g)) = fun _ => 0 := by
    funext q
    unfold amt
    simp [sumN, Rat.div_def]
  rw [this]
  refine List.ext_getElem? fun j => ?_
  rw [List.getElem?_map, List.getElem?_replicate]
  by_cases q : j < n
  · rw [List.getElem?_range q, if_pos q]; rfl
  · rw [List.getElem?_eq_none (by simpa using q), if_neg q]; rfl
theorem amtL_step {m n : Nat} {A : Nat → Nat → Int} {g : G} (I : TInv m n A (tab g)) {i : Nat} (hi : i < m) : amtL m n g (i + 1) = if (tab g).b i < n then (amtL m n g i).set ((tab g).b i) (((tab g).R i (n + m) : Rat) / (g.low : Rat)) else amtL m n g i := by
  have key : ∀ q, q ≠ (tab g).b i → amt (i + 1) (n + m) (tab g) q = amt i (n + m) (tab g) q := fun q hq => by
    unfold amt
    show ((sumN i _ + (if (tab g).b i = q then _ else 0) : Int) : Rat) / _ = _
    rw [if_neg (Ne.symm hq), Int.add_zero]
  have key2 : amt (i + 1) (n + m) (tab g) ((tab g).b i) = ((tab g).R i (n + m) : Rat) / (g.low : Rat) := by
    unfold amt
    show ((sumN i _ + (if (tab g).b i = (tab g).b i then _ else 0) : Int) : Rat) / _ = _
    rw [if_pos rfl, sumN_zero fun k hk => if_neg fun e => by have := b_inj I (show k < m by omega) hi e; omega, Int.zero_add]
    rfl
  by_cases hb : (tab g).b i < n
  · rw [if_pos hb]
    unfold amtL listOf
    refine List.ext_getElem? fun j => ?_
    rw [List.getElem?_set, List.getElem?_map, List.getElem?_map, List.length_map, List.length_range]
    by_cases q : (tab g).b i = j
    · subst q
      rw [if_pos rfl, if_pos hb, List.getElem?_range hb]
      show some _ = _
      rw [key2]
    · rw [if_neg q]
      by_cases hj : j < n
      · rw [List.getElem?_range hj]
        show some _ = some _
        rw [key j (Ne.symm q)]
      · rw [List.getElem?_eq_none (by simpa using hj)]; rfl
  · rw [if_neg hb]
    unfold amtL listOf
    refine List.map_congr_left fun q hq => key q fun e => hb (e ▸ List.mem_range.mp hq)
def wayStep (m n c : Nat) (g : G) (f : List Rat) (i : Nat) : List Rat := if (tab g).b i < n then f.set ((tab g).b i) (((-(tab g).R i c : Int) : Rat) / (g.low : Rat)) else f
def wayL (m n c : Nat) (g : G) (i : Nat) : List Rat := (List.range i).foldl (wayStep m n c g) ((List.replicate n 0).set c 1)
theorem wayL_len (m n c : Nat) (g : G) : ∀ i, (wayL m n c g i).length = n
  | 0 => by simp [wayL]
  | i + 1 => by
    have ih := wayL_len m n c g i
    unfold wayL at ih ⊢
    rw [List.range_succ, List.foldl_append]
    generalize (List.range i).foldl (wayStep m n c g) ((List.replicate n 0).set c 1) = f at ih ⊢
    show (wayStep m n c g f i).length = n
    unfold wayStep
    split
    · rw [List.length_set, ih]
    · exact ih
theorem mem_set {α : Type} {xs : List α} {i : Nat} {x y : α} (h : y ∈ xs.set i x) : y = x ∨ y ∈ xs := by
  rcases List.mem_or_eq_of_mem_set h with z | z
  · exact .inr z
  · exact .inl z
theorem wayL_qb {m n c k : Nat} {g : G} (hk : 1 ≤ k) (l0 : 0 < g.low) (lb : g.low.natAbs < 2 ^ k) (hR : ∀ i, i < m → ((tab g).R i c).natAbs < 2 ^ k) : ∀ i, i ≤ m → ∀ x, x ∈ wayL m n c g i → qb k x
  | 0, _, x, h => by
    have h : x ∈ (List.replicate n (0 : Rat)).set c 1 := h
    have one : (1 : Nat) < 2 ^ k := Nat.lt_of_lt_of_le (by decide : 1 < 2 ^ 1) (Nat.pow_le_pow_right (by decide) hk)
    rcases mem_set h with rfl | h
    · exact ⟨one, one⟩
    · rw [List.eq_of_mem_replicate h]
      exact ⟨Nat.pow_pos (by decide), one⟩
  | i + 1, hi, x, h => by
    have ih := wayL_qb (n := n) hk l0 lb hR i (by omega)
    unfold wayL at ih h
    rw [List.range_succ, List.foldl_append] at h
    generalize (List.range i).foldl (wayStep m n c g) ((List.replicate n 0).set c 1) = f at ih h
    have h : x ∈ wayStep m n c g f i := h
    unfold wayStep at h
    split at h
    · rcases mem_set h with rfl | h
      · exact qb_ratio l0 (by rw [Int.natAbs_neg]; exact hR i (by omega)) lb
      · exact ih x h
    · exact ih x h
section
variable {Pg : Program} {w : World} {K : PySem.W.Frag} {mg : Str → Option Value} {base : Heap}
theorem q0_D : qD 0 = .tuple [.int 0, .int 1] := rfl
theorem q1_D : qD 1 = .tuple [.int 1, .int 1] := rfl
def pre_g_drive_out (s : Sl) (ds : List PyData) (d : PyData) (t : Sl) : Prop := ∃ (p dx ar ai : Addr) (g : G) (m n : Nat) (A : Nat → Nat → Int) (cost : Nat → Int), s = gO p dx ar ai g ∧ t = gO p dx ar ai (driveM g m) ∧ ds = [] ∧ (∀ g, GInv m n A cost g → SzG m n g) ∧ Drv m n A cost 0 g ∧ d = .none
theorem len_g_drive_out : ∀ s ds d t, pre_g_drive_out s ds d t → ds.length + 1 = 1 := by rintro _ _ _ _ ⟨_, _, _, _, _, _, _, _, _, rfl, rfl, rfl, _⟩; rfl
theorem ok_g_drive_out (T : Txt K mg) : FnOk Pg w K mg base CX0 3 (He.ma K (gC K) "drive_out") (T.fd 17) ["self"] (spS (gC K) pre_g_drive_out) := by
  refine (T.F 17 dg_drive_out rfl).ok sc_g_drive_out (spS_len (n := 1) ?len) (fun cdv A outer s H vs Q E hr h => ?_)
  case len => exact len_g_drive_out
  refine ⟨_, PSs.nox (pss_one (ps_for PassesOwn.never rfl (pi_range1 (by rfl) T.n_range (pa_cons (pe_callB call_len (by rfl) T.n_len PySem.boot_len (pa_cons (pe_fldK (K := K) (pv 0) rfl) pa_nil)) pa_nil)) (pg_name (i := 1) sc_g_drive_out.nd rfl (by first | exact Or.inl rfl | exact Or.inr rfl)) (pss_one (ps_if (pt_cmpR op_ge (pe_ix (ix_seqK (K := K)) (pe_fldK (K := K) (pv 0) rfl) (pv 1) (fun _ _ => rfl)) (pe_fldK (K := K) (pv 0) rfl) (nomark _)) (pss_cons (ps_setLc (i := 2) (own := [("at", 3)]) (by rfl) sc_g_drive_out.nd rfl rfl (sw_true rfl rfl rfl (by decide +kernel)) (pi_range1 (by rfl) T.n_range (pa_cons (pe_fldK (K := K) (pv 0) rfl) pa_nil)) (blkOk_by (N := ["self", "index", "some", "at"]) (sc := defScope sg_drive_out) (by decide +kernel)) (fun _ _ _ _ _ => (pg_name (i := 3) sc_g_drive_out.nd rfl (by first | exact Or.inl rfl | exact Or.inr rfl))) (fun _ _ _ _ _ => (pts_one (pt_cmpR (op_neDK (K := K) hr.units) (pe_ix (ix_seqK (K := K)) (pe_ix (ix_seqK (K := K)) (pe_fldK (K := K) (pv 0) rfl) (pv 1) (fun _ _ => rfl)) (pv 3) (fun _ _ => rfl)) pe_int (nomark _)))) (fun _ _ _ _ _ => (pv 3)))
      (pss_one (ps_if (pt_cmpR (op_neDK (K := K) hr.units) (pv 2) (pe_lst pa_nil) (nomark _)) (pss_one (ps_expr (pe_meth (pv 0) T.cls T.m_turn (ok_g_turn T) (hr.mono (show 2 ≤ _ by decide)) (b_g_turn T) .nil pass0 (pa_cons (pv 1) (pa_cons (pe_ix (ix_seqK (K := K)) (pv 2) pe_int (fun _ _ => rfl)) pa_nil))))) pss_nil))) pss_nil)))), ?_⟩
  refine body_own (K := K) (C := gC K) h (fun s ds d t hp => by rw [len_g_drive_out s ds d t hp]; decide) (fun s ds d t hp F0 H0 => ?_)
  obtain ⟨p, dx, ar, ai, g, m, n, A', cost, rfl, rfl, rfl, Z, D, rfl⟩ := hp
  show Sd _ _ [gO p dx ar ai g, .no, .no, .no] _ _
  have hm : (g.rows.map lD).length = m := by rw [List.length_map]; exact D.inv.shp.rows
  have hsm := (Z g D.inv).small
  refine s_for (ds := rngD m) (i_rng (a_cons ((g_fldLen (ds := g.rows.map lD) rfl k_rows T.cls T.no_rows).eq (by rw [hm])) a_nil) (by omega)) (fun i P' => ∃ a b, P' = [gO p dx ar ai (driveM g i), a, b, .no]) ⟨_, _, rfl⟩ ?_ ?_
  · rintro i d P2 hd ⟨x1, x2, rfl⟩
    have hi : i < m := by have := (List.getElem?_eq_some_iff.mp hd).1; rw [rngD_len] at this; exact this
    rw [rngD_get hi] at hd
    cases hd
    have Di := drv_all D i (by omega)
    have e : driveM g (i + 1) = driveStep (driveM g i) i := by unfold driveM; rw [List.range_succ, List.foldl_append]; rfl
    rw [e]
    generalize driveM g i = gi at Di ⊢
    have Zi := Z gi Di.inv
    have S := Zi.shp
    have hrow := rowAt_get (g := gi) (i := i) (by rw [S.rows]; exact hi)
    have rl := S.row i hi
    refine ⟨_, [gO p dx ar ai gi, .d (.int i), x2, .no], d_name (by simp), ?_⟩
    refine s_if (b := decide (gi.many ≤ gi.inside.getD i 0)) ((t_cmp (g_op (g_fldIx (ds := nD gi.inside) rfl k_inside T.cls T.no_inside (g_var rfl) (nD_at (by rw [S.inside]; exact hi))) (g_fld rfl k_many T.cls T.no_many) o_ge)).eq (by simp)) (fun h => ?_) fun h => s_next ⟨.d (.int i), x2, ?_⟩
    · have h := of_decide_eq_true h
      refine s_seq1 (P' := [gO p dx ar ai gi, .d (.int i), .d (.list (iD (someI gi.many fun j => decide ((rowAt gi i).getD j 0 ≠ 0)))), .no]) ?_ ?_
      · refine s_set ((TEo.g (o_filterL (xs := List.range gi.many) (f := fun (i : Nat) => .int (i : Int)) (fun j => decide ((rowAt gi i).getD j 0 ≠ 0)) (rng_map gi.many) (i_rng (a_cons (g_fld rfl k_many T.cls T.no_many) a_nil) (by rw [S.many]; omega)) (by simp) (by rw [S.many]; simp; omega) fun x hx => ⟨_, _, by simp, d_name (by simp [noAt]), rfl, (t_neI (g_op (g_fldIx (ds := gi.rows.map lD) rfl k_rows T.cls T.no_rows (g_var rfl) (lD_at hrow)) (g_var rfl) (o_ixqL (iD_at (by have := List.mem_range.mp hx; rw [S.many] at this; omega)))) g_int).eq (by simp), fun _ => g_var rfl⟩)).eq ?_) (by simp [noAt]) rfl
        unfold iD someI; rw [List.map_map]; rfl
      have hf := some_find gi.many fun j => decide ((rowAt gi i).getD j 0 ≠ 0)
      have hfn : firstNz gi.many (rowAt gi i) = (List.range gi.many).find? fun j => decide ((rowAt gi i).getD j 0 ≠ 0) := rfl
      have hne : ∀ (xs : List Int) F0 H0, TTg ⟨K, gC K, F0, H0⟩ (tTest (tOp (rNeD K) (tVar 2) (tLst tNil))) [gO p dx ar ai gi, .d (.int i), .d (.list (iD xs)), .no] (!xs.isEmpty) [gO p dx ar ai gi, .d (.int i), .d (.list (iD xs)), .no] := fun xs F0 H0 => (t_cmp (g_op (g_var rfl) (g_lst a_nil (by simp)) (o_ne (shp_il xs) (shp_il [])))).eq (by rw [eqv_nil])
      cases e1 : firstNz gi.many (rowAt gi i) with
      | none =>
        rw [hfn] at e1
        rw [e1] at hf
        rw [hf]
        refine s_if (b := false) (hne [] _ _) (fun z => nomatch z) fun _ => s_next ⟨.d (.int i), .d (.list (iD [])), ?_⟩
        have : driveStep gi i = gi := by unfold driveStep; rw [if_pos h, hfn, e1]
        rw [this]
      | some c =>
        rw [hfn] at e1
        rw [e1] at hf
        obtain ⟨r, hf⟩ := hf
        rw [hf]
        obtain ⟨c1, c2, _⟩ := find_range_some e1
        rw [S.many] at c1
        have : driveStep gi i = turnM gi i c := by unfold driveStep; rw [if_pos h, hfn, e1]
        rw [this]
        exact s_if (b := true) (hne _ _ _) (fun _ => s_drop (g_methS (t := gO p dx ar ai (turnM gi i c)) (a_cons (g_var rfl) (a_cons (g_op (g_var rfl) g_int (o_ixqL (at_c0 _ _))) a_nil)) rfl (k_none (by decide +kernel)) rfl ⟨p, dx, ar, ai, gi, m, n, i, c, rfl, rfl, rfl, Zi, hi, by omega, rfl⟩ rfl rfl) ⟨.d (.int i), _, rfl⟩) fun z => nomatch z
    · have h := of_decide_eq_false h
      have : driveStep gi i = gi := by unfold driveStep; rw [if_neg h]
      rw [this]
  · rintro _ ⟨x1, x2, rfl⟩
    rw [rngD_len]
    exact ⟨rfl, rfl⟩
def pre_g_amounts (s : Sl) (ds : List PyData) (d : PyData) (t : Sl) : Prop := ∃ (p dx ar ai : Addr) (g : G) (m n : Nat) (A : Nat → Nat → Int), s = gO p dx ar ai g ∧ t = gO p dx ar ai g ∧ ds = [] ∧ SzG m n g ∧ TInv m n A (tab g) ∧ d = .list (qsD (amtL m n g m))
theorem len_g_amounts : ∀ s ds d t, pre_g_amounts s ds d t → ds.length + 1 = 1 := by rintro _ _ _ _ ⟨_, _, _, _, _, _, _, _, rfl, rfl, rfl, _⟩; rfl
theorem amtL_len (m n i : Nat) (g : G) : (amtL m n g i).length = n := listOf_len _ _
theorem nD_en {g : G} {i : Nat} (h : i < g.inside.length) : (enD (nD g.inside)).getD i .none = .tuple [.int (i : Int), .int ((tab g).b i : Nat)] := by
  unfold List.getD
  rw [enD_get (d := .int ((tab g).b i : Nat)) (by
    unfold nD
    rw [List.getElem?_map, List.getElem?_eq_getElem h]
    show some _ = some (PyData.int ((g.inside.getD i 0 : Nat) : Int))
    unfold List.getD
    rw [List.getElem?_eq_getElem h]; rfl)]
  rfl
theorem ok_g_amounts (T : Txt K mg) : FnOk Pg w K mg base CX0 3 (He.ma K (gC K) "amounts") (T.fd 15) ["self"] (spS (gC K) pre_g_amounts) := by
  refine (T.F 15 dg_amounts rfl).ok sc_g_amounts (spS_len (n := 1) ?len) (fun cdv A outer s H vs Q E hr h => ?_)
  case len => exact len_g_amounts
  refine ⟨_, PSs.nox (pss_cons (ps_set (i := 1) sc_g_amounts.nd rfl (by first | exact Or.inl rfl | exact Or.inr rfl) (pe_op op_rep (pe_lst (pa_cons (pe_tup (pa_cons pe_int (pa_cons pe_int pa_nil))) pa_nil)) (pe_fldK (K := K) (pv 0) rfl)))
      (pss_cons (ps_for PassesOwn.never rfl (pi_enQ (by rfl) T.n_enumerate (pa_cons (pe_fldK (K := K) (pv 0) rfl) pa_nil)) (pg_tupK (K := K) (n := 2) (by rfl) (pgs_cons (pg_name (i := 2) sc_g_amounts.nd rfl (by first | exact Or.inl rfl | exact Or.inr rfl)) (pgs_cons (pg_name (i := 3) sc_g_amounts.nd rfl (by first | exact Or.inl rfl | exact Or.inr rfl)) pgs_nil))) (pss_one (ps_if (pt_cmpR op_lt (pv 3) (pe_fldK (K := K) (pv 0) rfl) (nomark _)) (pss_one (ps_asg (pe_call (ok_ratio T) (hr.mono (show 2 ≤ _ by decide)) (by rfl) T.g_ratio (T.F 2 d_ratio rfl).kp (b_ratio T) .nil pass0 (pa_cons (pe_ix (ix_seqK (K := K)) (pe_ix (ix_seqK (K := K)) (pe_fldK (K := K) (pv 0) rfl) (pv 2) (fun _ _ => rfl)) (pe_un un_neg pe_int) (fun _ _ => rfl)) (pa_cons (pe_fldK (K := K) (pv 0) rfl) pa_nil))) (pg_sub (pv 1) (pv 3) set_list))) pss_nil)))
      (pss_one (ps_ret (pv 1))))), ?_⟩
  refine body_own (K := K) (C := gC K) h (fun s ds d t hp => by rw [len_g_amounts s ds d t hp]; decide) (fun s ds d t hp F0 H0 => ?_)
  obtain ⟨p, dx, ar, ai, g, m, n, A', rfl, rfl, rfl, Z, I, rfl⟩ := hp
  show Sd _ _ [gO p dx ar ai g, .no, .no, .no] _ _
  have S := Z.shp
  have hsm := Z.small
  refine s_seq (M := fun P' => ∃ a, P' = [gO p dx ar ai g, .own a (qsD (amtL m n g 0)), .no, .no]) (s_setO (o_repO (d := qD 0) ((g_lst (a_cons (g_tup (a_cons g_int (a_cons g_int a_nil)) (by simp)) a_nil) (by simp))) (g_fld rfl k_many T.cls T.no_many) (by rw [S.many]; omega) (by omega)) (by simp) fun a => ⟨a, ?_⟩) ?_
  · rw [amtL_0]
    unfold qsD
    rw [List.map_replicate, S.many]; rfl
  rintro _ ⟨a, rfl⟩
  refine s_seq (M := fun P' => ∃ a x2 x3, P' = [gO p dx ar ai g, .own a (qsD (amtL m n g m)), x2, x3]) (s_forG (P1 := [gO p dx ar ai g, .own a (qsD (amtL m n g 0)), .no, .no]) (n := (nD g.inside).length) (fun i P2 => ∃ a x2 x3, P2 = [gO p dx ar ai g, .own a (qsD (amtL m n g i)), x2, x3]) (fun i => (enD (nD g.inside)).getD i .none) rfl (fun T' σ F H Rr S hl q => w_enFld (ds := nD g.inside) rfl k_inside T.cls T.no_inside ?_ T' σ F H Rr S hl q) ⟨a, _, _, rfl⟩ ?_ ?_) ?_
  · rintro j P2 ⟨a, b, e, rfl⟩
    exact ⟨_, rfl, k_inside⟩
  · rintro i P2 hi ⟨a, x2, x3, rfl⟩
    have hi' : i < g.inside.length := by simpa [nD] using hi
    have him : i < m := by rw [← S.inside]; exact hi'
    have hrow := rowAt_get (g := g) (i := i) (by rw [S.rows]; exact him)
    have rl := S.row i him
    rw [nD_en hi', amtL_step I him]
    refine ⟨_, [gO p dx ar ai g, .own a (qsD (amtL m n g i)), .d (.int i), .d (.int ((tab g).b i : Nat))], d_tup (ds_cons (d_name (by simp)) (ds_cons (d_name (by simp)) ds_nil)) rfl, ?_⟩
    refine s_if (b := decide ((tab g).b i < n)) ((t_cmp (g_op (g_var rfl) (g_fld rfl k_many T.cls T.no_many) o_lt)).eq (by rw [S.many]; simp)) (fun h => ?_) fun h => s_next ⟨a, .d (.int i), .d (.int ((tab g).b i : Nat)), ?_⟩
    · have h := of_decide_eq_true h
      rw [if_pos h]
      have eR : (rowAt g i).getLastD 0 = (tab g).R i (n + m) := lastD_get rl
      refine s_setOwn (d := qD (((tab g).R i (n + m) : Rat) / (g.low : Rat))) (g_call (a_cons (g_op (g_fldIx (ds := g.rows.map lD) rfl k_rows T.cls T.no_rows (g_var rfl) (lD_at hrow)) (g_un g_int o_neg) (o_ixqL (iD_last rl))) (a_cons (g_fld rfl k_low T.cls T.no_low) a_nil)) ⟨_, _, rfl, Z.l0, lt2_mono Z.lb (by decide), by rw [eR]⟩) rfl (g_var rfl) (ixN_nat (by simp [qsD, amtL_len]; exact h)) ⟨a, .d (.int i), .d (.int ((tab g).b i : Nat)), ?_⟩
      unfold qsD
      rw [List.map_set]; rfl
    · rw [if_neg (of_decide_eq_false h)]
  · rintro P2 ⟨a, x2, x3, rfl⟩
    refine ⟨a, x2, x3, ?_⟩
    have : (nD g.inside).length = m := by simp [nD, S.inside]
    rw [this]
  rintro _ ⟨a, x2, x3, rfl⟩
  exact s_ret (g_own rfl) ⟨rfl, rfl⟩
def pre_g_way (s : Sl) (ds : List PyData) (d : PyData) (t : Sl) : Prop := ∃ (p dx ar ai : Addr) (g : G) (m n c : Nat), s = gO p dx ar ai g ∧ t = gO p dx ar ai g ∧ ds = [.int c] ∧ SzG m n g ∧ c < n ∧ d = .list (qsD (wayL m n c g m))
theorem len_g_way : ∀ s ds d t, pre_g_way s ds d t → ds.length + 1 = 2 := by rintro _ _ _ _ ⟨_, _, _, _, _, _, _, _, rfl, rfl, rfl, _⟩; rfl
theorem ok_g_way (T : Txt K mg) : FnOk Pg w K mg base CX0 3 (He.ma K (gC K) "way") (T.fd 18) ["self", "column"] (spS (gC K) pre_g_way) := by
  refine (T.F 18 dg_way rfl).ok sc_g_way (spS_len (n := 2) ?len) (fun cdv A outer s H vs Q E hr h => ?_)
  case len => exact len_g_way
  refine ⟨_, PSs.nox (pss_cons (ps_set (i := 2) sc_g_way.nd rfl (by first | exact Or.inl rfl | exact Or.inr rfl) (pe_op op_rep (pe_lst (pa_cons (pe_tup (pa_cons pe_int (pa_cons pe_int pa_nil))) pa_nil)) (pe_fldK (K := K) (pv 0) rfl)))
      (pss_cons (ps_asg (pe_tup (pa_cons pe_int (pa_cons pe_int pa_nil))) (pg_sub (pv 2) (pv 1) set_list))
      (pss_cons (ps_for PassesOwn.never rfl (pi_enQ (by rfl) T.n_enumerate (pa_cons (pe_fldK (K := K) (pv 0) rfl) pa_nil)) (pg_tupK (K := K) (n := 2) (by rfl) (pgs_cons (pg_name (i := 3) sc_g_way.nd rfl (by first | exact Or.inl rfl | exact Or.inr rfl)) (pgs_cons (pg_name (i := 4) sc_g_way.nd rfl (by first | exact Or.inl rfl | exact Or.inr rfl)) pgs_nil))) (pss_one (ps_if (pt_cmpR op_lt (pv 4) (pe_fldK (K := K) (pv 0) rfl) (nomark _)) (pss_one (ps_asg (pe_call (ok_ratio T) (hr.mono (show 2 ≤ _ by decide)) (by rfl) T.g_ratio (T.F 2 d_ratio rfl).kp (b_ratio T) .nil pass0 (pa_cons (pe_un un_neg (pe_ix (ix_seqK (K := K)) (pe_ix (ix_seqK (K := K)) (pe_fldK (K := K) (pv 0) rfl) (pv 3) (fun _ _ => rfl)) (pv 1) (fun _ _ => rfl))) (pa_cons (pe_fldK (K := K) (pv 0) rfl) pa_nil))) (pg_sub (pv 2) (pv 4) set_list))) pss_nil)))
      (pss_one (ps_ret (pv 2)))))), ?_⟩
  refine body_own (K := K) (C := gC K) h (fun s ds d t hp => by rw [len_g_way s ds d t hp]; decide) (fun s ds d t hp F0 H0 => ?_)
  obtain ⟨p, dx, ar, ai, g, m, n, c, rfl, rfl, rfl, Z, hc, rfl⟩ := hp
  show Sd _ _ [gO p dx ar ai g, .d (.int c), .no, .no, .no] _ _
  have S := Z.shp
  have hsm := Z.small
  refine s_seq (M := fun P' => ∃ a, P' = [gO p dx ar ai g, .d (.int c), .own a (qsD (List.replicate n 0)), .no, .no]) (s_setO (o_repO (d := qD 0) ((g_lst (a_cons (g_tup (a_cons g_int (a_cons g_int a_nil)) (by simp)) a_nil) (by simp))) (g_fld rfl k_many T.cls T.no_many) (by rw [S.many]; omega) (by omega)) (by simp) fun a => ⟨a, ?_⟩) ?_
  · unfold qsD
    rw [List.map_replicate, S.many]; rfl
  rintro _ ⟨a, rfl⟩
  refine s_seq (M := fun P' => ∃ a, P' = [gO p dx ar ai g, .d (.int c), .own a (qsD (wayL m n c g 0)), .no, .no]) (s_setOwn (d := qD 1) (g_tup (a_cons g_int (a_cons g_int a_nil)) (by simp)) rfl (g_var rfl) (ixN_nat (by simp [qsD]; exact hc)) ⟨a, ?_⟩) ?_
  · show _ = [gO p dx ar ai g, .d (.int c), .own a (qsD ((List.replicate n 0).set c 1)), .no, .no]
    unfold qsD
    rw [List.map_set]; rfl
  rintro _ ⟨a, rfl⟩
  refine s_seq (M := fun P' => ∃ a x2 x3, P' = [gO p dx ar ai g, .d (.int c), .own a (qsD (wayL m n c g m)), x2, x3]) (s_forG (P1 := [gO p dx ar ai g, .d (.int c), .own a (qsD (wayL m n c g 0)), .no, .no]) (n := (nD g.inside).length) (fun i P2 => ∃ a x2 x3, P2 = [gO p dx ar ai g, .d (.int c), .own a (qsD (wayL m n c g i)), x2, x3]) (fun i => (enD (nD g.inside)).getD i .none) rfl (fun T' σ F H Rr S hl q => w_enFld (ds := nD g.inside) rfl k_inside T.cls T.no_inside ?_ T' σ F H Rr S hl q) ⟨a, _, _, rfl⟩ ?_ ?_) ?_
  · rintro j P2 ⟨a, b, e, rfl⟩
    exact ⟨_, rfl, k_inside⟩
  · rintro i P2 hi ⟨a, x2, x3, rfl⟩
    have hi' : i < g.inside.length := by simpa [nD] using hi
    have him : i < m := by rw [← S.inside]; exact hi'
    have hrow := rowAt_get (g := g) (i := i) (by rw [S.rows]; exact him)
    have rl := S.row i him
    have hlen := wayL_len m n c g i
    have est : wayL m n c g (i + 1) = wayStep m n c g (wayL m n c g i) i := by unfold wayL; rw [List.range_succ, List.foldl_append]; rfl
    rw [nD_en hi', est]
    generalize wayL m n c g i = f at hlen ⊢
    refine ⟨_, [gO p dx ar ai g, .d (.int c), .own a (qsD f), .d (.int i), .d (.int ((tab g).b i : Nat))], d_tup (ds_cons (d_name (by simp)) (ds_cons (d_name (by simp)) ds_nil)) rfl, ?_⟩
    unfold wayStep
    refine s_if (b := decide ((tab g).b i < n)) ((t_cmp (g_op (g_var rfl) (g_fld rfl k_many T.cls T.no_many) o_lt)).eq (by rw [S.many]; simp)) (fun h => ?_) fun h => s_next ⟨a, .d (.int i), .d (.int ((tab g).b i : Nat)), ?_⟩
    · have h := of_decide_eq_true h
      rw [if_pos h]
      refine s_setOwn (d := qD (((-(tab g).R i c : Int) : Rat) / (g.low : Rat))) (g_call (a_cons (g_un (g_op (g_fldIx (ds := g.rows.map lD) rfl k_rows T.cls T.no_rows (g_var rfl) (lD_at hrow)) (g_var rfl) (o_ixqL (iD_at (by omega)))) o_neg) (a_cons (g_fld rfl k_low T.cls T.no_low) a_nil)) ⟨_, _, rfl, Z.l0, lt2_mono Z.lb (by decide), rfl⟩) rfl (g_var rfl) (ixN_nat (by simp [qsD, hlen]; exact h)) ⟨a, .d (.int i), .d (.int ((tab g).b i : Nat)), ?_⟩
      unfold qsD
      rw [List.map_set]; rfl
    · rw [if_neg (of_decide_eq_false h)]
  · rintro P2 ⟨a, x2, x3, rfl⟩
    refine ⟨a, x2, x3, ?_⟩
    have : (nD g.inside).length = m := by simp [nD, S.inside]
    rw [this]
  rintro _ ⟨a, x2, x3, rfl⟩
  exact s_ret (g_own rfl) ⟨rfl, rfl⟩
def wgt (n : Nat) (g : G) (own : Int) (i : Nat) : Rat := ((g.signs.getD i 0 * (own * g.low - g.top.getD (n + i) 0) : Int) : Rat) / (g.low : Rat)
def pre_g_weights (s : Sl) (ds : List PyData) (d : PyData) (t : Sl) : Prop := ∃ (p dx ar ai : Addr) (g : G) (m n : Nat) (own : Int), s = gO p dx ar ai g ∧ t = gO p dx ar ai g ∧ ds = [.int own] ∧ SzG m n g ∧ g.signs.length = m ∧ ibd 2 g.signs ∧ own.natAbs < 2 ^ 2 ∧ d = .list (qsD ((List.range m).map (wgt n g own)))
theorem len_g_weights : ∀ s ds d t, pre_g_weights s ds d t → ds.length + 1 = 2 := by rintro _ _ _ _ ⟨_, _, _, _, _, _, _, _, rfl, rfl, rfl, _⟩; rfl
theorem ok_g_weights (T : Txt K mg) : FnOk Pg w K mg base CX0 3 (He.ma K (gC K) "weights") (T.fd 16) ["self", "own"] (spS (gC K) pre_g_weights) := by
  refine (T.F 16 dg_weights rfl).ok sc_g_weights (spS_len (n := 2) ?len) (fun cdv A outer s H vs Q E hr h => ?_)
  case len => exact len_g_weights
  refine ⟨_, PSs.nox (pss_cons (ps_set (i := 2) sc_g_weights.nd rfl (by first | exact Or.inl rfl | exact Or.inr rfl) (pe_lst pa_nil))
      (pss_cons (ps_for PassesOwn.never rfl (pi_enQ (by rfl) T.n_enumerate (pa_cons (pe_fldK (K := K) (pv 0) rfl) pa_nil)) (pg_tupK (K := K) (n := 2) (by rfl) (pgs_cons (pg_name (i := 3) sc_g_weights.nd rfl (by first | exact Or.inl rfl | exact Or.inr rfl)) (pgs_cons (pg_name (i := 4) sc_g_weights.nd rfl (by first | exact Or.inl rfl | exact Or.inr rfl)) pgs_nil))) (pss_cons (ps_set (i := 5) sc_g_weights.nd rfl (by first | exact Or.inl rfl | exact Or.inr rfl) (pe_ix (ix_seqK (K := K)) (pe_fldK (K := K) (pv 0) rfl) (pe_op op_add (pe_fldK (K := K) (pv 0) rfl) (pv 3)) (fun _ _ => rfl)))
      (pss_one (ps_expr (pe_bm PySem.F.plainAttrs_list PySem.F.slot_list_append PySem.F.type_list_append mt_append (pv 2) (pa_cons (pe_call (ok_ratio T) (hr.mono (show 2 ≤ _ by decide)) (by rfl) T.g_ratio (T.F 2 d_ratio rfl).kp (b_ratio T) .nil pass0 (pa_cons (pe_op op_mulW (pv 4) (pe_op op_sub (pe_op op_mulW (pv 1) (pe_fldK (K := K) (pv 0) rfl)) (pv 5))) (pa_cons (pe_fldK (K := K) (pv 0) rfl) pa_nil))) pa_nil))))))
      (pss_one (ps_ret (pv 2))))), ?_⟩
  refine body_own (K := K) (C := gC K) h (fun s ds d t hp => by rw [len_g_weights s ds d t hp]; decide) (fun s ds d t hp F0 H0 => ?_)
  obtain ⟨p, dx, ar, ai, g, m, n, own, rfl, rfl, rfl, Z, hsl, hsb, hob, rfl⟩ := hp
  show Sd _ _ [gO p dx ar ai g, .d (.int own), .no, .no, .no, .no] _ _
  have S := Z.shp
  have hsm := Z.small
  have tl := S.top
  refine s_seq (M := fun P' => ∃ a, P' = [gO p dx ar ai g, .d (.int own), .own a [], .no, .no, .no]) (s_nilOwn a_nil (by simp) (by simp) fun a => ⟨a, rfl⟩) ?_
  rintro _ ⟨a, rfl⟩
  refine s_seq (M := fun P' => ∃ a x2 x3 x4, P' = [gO p dx ar ai g, .d (.int own), .own a (qsD ((List.range m).map (wgt n g own))), x2, x3, x4]) (s_for (ds := enD (iD g.signs)) (i_en (a_cons (g_fld (x := lD g.signs) rfl k_signs T.cls T.no_signs) a_nil) its_l) (fun i P2 => ∃ a x2 x3 x4, P2 = [gO p dx ar ai g, .d (.int own), .own a (qsD ((List.range i).map (wgt n g own))), x2, x3, x4]) ⟨a, _, _, _, rfl⟩ ?_ ?_) ?_
  · rintro i d P2 hd ⟨a, x2, x3, x4, rfl⟩
    rw [show iD g.signs = g.signs.map PyData.int from rfl, en_map, List.getElem?_map, List.getElem?_zipIdx] at hd
    cases e : g.signs[i]? with
    | none => rw [e] at hd; cases hd
    | some sg =>
      rw [e] at hd
      simp only [Option.map_some, Nat.zero_add] at hd
      cases hd
      have him : i < m := by rw [← hsl]; exact (List.getElem?_eq_some_iff.mp e).1
      have hsg : g.signs.getD i 0 = sg := by unfold List.getD; rw [e]; rfl
      have hlen : (qsD ((List.range i).map (wgt n g own))).length ≤ 10000 := by simp [qsD]; omega
      have tat : atI (iD g.top) ((n : Int) + (i : Int)) = some (.int (g.top.getD (n + i) 0)) := iD_at (xs := g.top) (i := n + i) (by omega)
      have tb := ibd_get Z.tb (n + i)
      rw [List.range_succ, List.map_append]
      generalize (List.range i).map (wgt n g own) = done at hlen ⊢
      refine ⟨_, [gO p dx ar ai g, .d (.int own), .own a (qsD done), .d (.int i), .d (.int sg), x4], d_tup (ds_cons (d_name (by simp)) (ds_cons (d_name (by simp)) ds_nil)) rfl, ?_⟩
      refine s_seq1 (P' := [gO p dx ar ai g, .d (.int own), .own a (qsD done), .d (.int i), .d (.int sg), .d (.int (g.top.getD (n + i) 0))]) (s_set (g_op (g_fld (x := lD g.top) rfl k_top T.cls T.no_top) (g_op ((g_fld rfl k_many T.cls T.no_many).eq (d' := .int (n : Nat)) (by rw [S.many])) (g_var rfl) o_add) (o_ixqL tat)) (by simp) rfl) ?_
      have b1 : (own * g.low - g.top.getD (n + i) 0).natAbs < 2 ^ 2003 := by
        have h1 := mul_bits hob Z.lb
        exact lt2_mono (sub_bits (n := 2002) h1 (lt2_mono tb (by decide))) (by decide)
      refine s_append (d := qD (wgt n g own i)) rfl (g_call (a_cons (g_op (g_var rfl) (g_op (g_op (g_var rfl) (g_fld rfl k_low T.cls T.no_low) (o_mul (cmul hob Z.lb))) (g_var rfl) o_sub) (o_mul (cmul (hsb sg (List.mem_of_getElem? e)) b1))) (a_cons (g_fld rfl k_low T.cls T.no_low) a_nil)) ⟨_, _, rfl, Z.l0, lt2_mono Z.lb (by decide), by unfold wgt; rw [hsg]⟩) rfl hlen ⟨a, .d (.int i), .d (.int sg), .d (.int (g.top.getD (n + i) 0)), ?_⟩
      unfold qsD
      rw [List.map_append]; rfl
  · rintro P2 ⟨a, x2, x3, x4, rfl⟩
    refine ⟨a, x2, x3, x4, ?_⟩
    have : (enD (iD g.signs)).length = m := by rw [enD_len, iD_len, hsl]
    rw [this]
  rintro _ ⟨a, x2, x3, x4, rfl⟩
  exact s_ret (g_own rfl) ⟨rfl, rfl⟩
end
end Cp
end
/-! ## CSv -/
section
set_option Elab.async false
set_option linter.all false
set_option autoImplicit false
set_option maxRecDepth 100000
set_option maxHeartbeats 4000000
set_option exponentiation.threshold 100000
namespace Cp
variable [KFix]
open PySem PySem.Spec PyProof.Rows L2
theorem detB_5 {m : Nat} (hm : m ≤ 5) : (detB m fun _ => 2 ^ 212) ≤ 2 ^ 1067 := by
  refine Nat.le_trans (detB_le (Nat.one_le_two_pow) hm) ?_
  have h1 : (2 ^ 212) ^ m ≤ (2 ^ 212 : Nat) ^ 5 := Nat.pow_le_pow_right (Nat.two_pow_pos _) hm
  calc 120 * (2 ^ 212) ^ m ≤ 2 ^ 7 * (2 ^ 212) ^ 5 := Nat.mul_le_mul (by decide) h1
    _ = 2 ^ 1067 := by rw [← Nat.pow_mul, ← Nat.pow_add]
theorem lt_of_le2 {a k l : Nat} (h : a ≤ 2 ^ k) (hk : k < l) : a < 2 ^ l := Nat.lt_of_le_of_lt h (Nat.pow_lt_pow_right (by decide) hk)
theorem szg {m n : Nat} {A : Nat → Nat → Int} {cost : Nat → Int} {g : G} (I : GInv m n A cost g) (hA : Abd m n A (2 ^ 212)) (hc : ∀ j, (cost j).natAbs ≤ 2 ^ 212) (hm : m ≤ 5) (hs : n + m + 1 ≤ 1000) : SzG m n g := by
  have D := detB_5 hm
  refine ⟨I.shp, fun row hr a ha => ?_, fun a ha => ?_, I.inv.low, lt_of_le2 (Nat.le_trans (low_le I.inv hA) D) (by decide), hs⟩
  · obtain ⟨i, hi, e⟩ := List.getElem_of_mem hr
    have him : i < m := by rw [← I.shp.rows]; exact hi
    have er : rowAt g i = row := by
      unfold rowAt List.getD
      rw [List.getElem?_eq_getElem hi, e]; rfl
    obtain ⟨j, hj, e2⟩ := List.getElem_of_mem ha
    have hl := I.shp.row i him
    rw [er] at hl
    have ea : (tab g).R i j = a := by
      show (rowAt g i).getD j 0 = a
      rw [er]
      unfold List.getD
      rw [List.getElem?_eq_getElem hj, e2]; rfl
    rw [← ea]
    exact lt_of_le2 (Nat.le_trans (R_le I.inv hA him (by omega)) D) (by decide)
  · obtain ⟨j, hj, e2⟩ := List.getElem_of_mem ha
    have hl := I.shp.top
    have ea : g.top.getD j 0 = a := by
      unfold List.getD
      rw [List.getElem?_eq_getElem hj, e2]; rfl
    rw [← ea, I.top j (by omega)]
    have h1 := top_le I.inv hA hc (j := j) (by omega)
    have h2 : (m + 1) * ((detB m fun _ => 2 ^ 212) * 2 ^ 212) ≤ 2 ^ 3 * (2 ^ 1067 * 2 ^ 212) := Nat.mul_le_mul (by omega) (Nat.mul_le_mul_right _ D)
    have h3 : 2 ^ 3 * (2 ^ 1067 * 2 ^ 212) = 2 ^ 1282 := by rw [← Nat.pow_add, ← Nat.pow_add]
    rw [h3] at h2
    exact lt_of_le2 (Nat.le_trans h1 h2) (by decide)
/-- tasks that are handed to the solver -/
structure Big (T : Tsk) : Prop where
  wl : Wl T
  r5 : T.rows.length ≤ 5
  k6 : T.ks.length ≤ 6
  rs : Rsz T (2 ^ 212)
  cs : ∀ a, a ∈ T.cs → a.natAbs ≤ 2 ^ 212
theorem plain_wl {T : Tsk} (W : Wl T) : Wl T.plain := ⟨W.cs, fun r hr => by
  obtain ⟨q, hq, rfl⟩ := List.mem_map.mp hr
  have := W.row q hq
  unfold Rw.plain
  split
  · show (negs q.cs).length = T.ks.length
    rw [← this]; simp [negs]
  · exact this⟩
theorem plain_pn (T : Tsk) : Pn T.plain := fun r hr => by
  obtain ⟨q, hq, rfl⟩ := List.mem_map.mp hr
  unfold Rw.plain
  cases e : q.sn with
  | ge => exact .inl e
  | le => exact .inl rfl
  | eq => exact .inr e
theorem plain_rsz {T : Tsk} {E : Nat} (h : Rsz T E) : Rsz T.plain E := fun r hr => by
  obtain ⟨q, hq, rfl⟩ := List.mem_map.mp hr
  have := h q hq
  unfold Rw.plain
  split
  · refine ⟨fun a ha => ?_, by show (-q.rt).natAbs ≤ E; rw [Int.natAbs_neg]; exact this.2⟩
    obtain ⟨b, hb, rfl⟩ := List.mem_map.mp ha
    rw [Int.natAbs_neg]; exact this.1 b hb
  · exact this
theorem plain_same {T : Tsk} (h : Pn T) : T.plain = T := by
  have : T.rows.map Rw.plain = T.rows := by
    conv => rhs; rw [← List.map_id T.rows]
    refine List.map_congr_left fun r hr => ?_
    unfold Rw.plain
    rcases h r hr with q | q <;> rw [q] <;> rfl
  cases T with
  | mk ks cs rows => show Tsk.mk ks cs _ = _; rw [this]
theorem Big.plain {T : Tsk} (h : Big T) : Big T.plain := ⟨plain_wl h.wl, by show (T.rows.map Rw.plain).length ≤ 5; rw [List.length_map]; exact h.r5, h.k6, plain_rsz h.rs, h.cs⟩
theorem Big.sz {T : Tsk} (h : Big T) : Sz T := ⟨by have := h.k6; omega, by rw [h.wl.cs]; have := h.k6; omega, by have := h.r5; omega, fun r hr => by rw [h.wl.row r hr]; have := h.k6; omega⟩
theorem wid_le : ∀ ks : List Bool, wid ks ≤ 2 * ks.length
  | [] => Nat.le_refl _
  | k :: ks => by
    have := wid_le ks
    show (if k = true then 1 else 2) + wid ks ≤ 2 * (ks.length + 1)
    split <;> omega
theorem Big.wid {T : Tsk} (h : Big T) : widOf T ≤ 17 := by
  have h1 := wid_le T.ks
  have h2 := h.k6
  have h3 := slack_len T.rows
  have h4 := h.r5
  unfold widOf; omega
theorem Big.abd {T : Tsk} (h : Big T) : Abd T.rows.length (widOf T) (A0 (linesOf T) (rightsOf T) (widOf T)) (2 ^ 212) := Cp.abd h.wl Nat.one_le_two_pow h.rs
theorem Big.prc {T : Tsk} (h : Big T) : ∀ j, ((costs2 (pricesOf T) T.rows.length).getD j 0).natAbs ≤ 2 ^ 212 := fun j => by
  refine getD_le (fun a ha => ?_) j
  rcases List.mem_append.mp ha with z | z
  · rcases List.mem_append.mp z with z | z
    · exact expand_mem h.cs a z
    · rw [List.eq_of_mem_replicate z]; exact Nat.zero_le _
  · rw [List.eq_of_mem_replicate z]; exact Nat.zero_le _
theorem cost1_le (m n j : Nat) : (cost1 m n j).natAbs ≤ 2 ^ 212 := by
  unfold cost1
  split
  · exact Nat.one_le_two_pow
  · exact Nat.zero_le _
/-- what the solver gives -/
inductive SolvD (T : Tsk) : PyData → Prop
  | none {g2 : G} : Ph1 T.rows.length (widOf T.plain) (linesOf T.plain) (rightsOf T.plain) g2 → g2.top.getLastD 0 ≠ 0 → SolvD T (.tuple [.str "none", .none, sgnD T ((List.range T.rows.length).map (wgt (widOf T.plain) g2 1))])
  | best {g5 : G} : Ph2 T.rows.length (widOf T.plain) (linesOf T.plain) (rightsOf T.plain) (pricesOf T.plain) g5 none → SolvD T (.tuple [.str "best", .tuple (qsD (gath T.ks (amtL T.rows.length (widOf T.plain) g5 T.rows.length))), sgnD T ((List.range T.rows.length).map (wgt (widOf T.plain) g5 0))])
  | endless {g5 : G} {c : Nat} : Ph2 T.rows.length (widOf T.plain) (linesOf T.plain) (rightsOf T.plain) (pricesOf T.plain) g5 (some c) → SolvD T (.tuple [.str "endless", .tuple (qsD (gath T.ks (amtL T.rows.length (widOf T.plain) g5 T.rows.length))), .tuple (qsD (gath T.ks (wayL T.rows.length (widOf T.plain) c g5 T.rows.length)))])
/-- .. as the callers see it -/
def SolvF (T : Tsk) (d : PyData) : Prop :=
  (∃ z, d = .tuple [.str "none", .none, z] ∧ ¬ ∃ x, Plan T x) ∨
  (∃ x z, d = .tuple [.str "best", .tuple (qsD x), z] ∧ Plan T x ∧ (∀ y, Plan T y → dotR T.cs x ≤ dotR T.cs y) ∧ ∀ E, 1 ≤ E → Rsz T E → Box (detB T.rows.length fun _ => E) x) ∨
  (∃ x z, d = .tuple [.str "endless", .tuple (qsD x), z] ∧ Plan T x ∧ ∀ v, ∃ y, Plan T y ∧ dotR T.cs y < v)
theorem plen (T : Tsk) : T.plain.rows.length = T.rows.length := List.length_map ..
theorem solv_f {T : Tsk} (W : Wl T) {d : PyData} (h : SolvD T d) : SolvF T d := by
  have W' := plain_wl W
  have Pp := plain_pn T
  have hl := plen T
  cases h with
  | @none g2 p hz =>
    refine .inl ⟨_, rfl, fun ⟨x, hx⟩ => ?_⟩
    rw [← hl] at p
    exact ph1_none p hz ⟨_, sol_of W' Pp ((plain_plan T x).mpr hx)⟩
  | @best g5 p =>
    rw [← hl] at p
    obtain ⟨I, f, dd, h1, _⟩ := ph2_end (prices_len W') p
    obtain ⟨pl, y, dy, pr⟩ := end_best W' Pp I.inv f dd (h1 rfl)
    refine .inr (.inl ⟨_, _, rfl, ?_, fun z hz => ?_, fun E hE S => ?_⟩)
    · rw [← hl]; exact (plain_plan T _).mp pl
    · have := weak Pp dy ((plain_plan T z).mpr hz)
      rw [pr] at this
      rw [← hl]; exact this
    · rw [← hl]; exact box_of W' hE (plain_rsz S) I.inv
  | @endless g5 c p =>
    rw [← hl] at p
    obtain ⟨I, f, dd, _, h2⟩ := ph2_end (prices_len W') p
    obtain ⟨c1, c2, c3⟩ := h2 c rfl
    obtain ⟨w1, w2⟩ := end_ray W' Pp I.inv dd c1 c2 c3
    have pl := plan_of W' Pp (amt_sol I.inv f dd)
    refine .inr (.inr ⟨_, _, rfl, ?_, fun v => ?_⟩)
    · rw [← hl]; exact (plain_plan T _).mp pl
    · obtain ⟨z, pz, lt⟩ := way_below Pp pl w1 w2 v
      exact ⟨z, (plain_plan T z).mp pz, lt⟩
theorem solv_ex {T : Tsk} (W : Wl T) : ∃ d, SolvD T d := by
  have W' := plain_wl W
  obtain ⟨g2, p1⟩ := ph1_ex (rect W')
  by_cases hz : g2.top.getLastD 0 = 0
  · obtain ⟨g5, res, p2⟩ := ph2_ex (prices_len W') p1 hz
    rw [plen] at p2
    cases res with
    | none => exact ⟨_, .best p2⟩
    | some c => exact ⟨_, .endless p2⟩
  · rw [plen] at p1
    exact ⟨_, .none p1 hz⟩
section
variable {Pg : Program} {w : World} {K : PySem.W.Frag} {mg : Str → Option Value} {base : Heap}
def pre_solved (ds : List PyData) (d : PyData) : Prop := ∃ T : Tsk, ds = [tD T] ∧ Big T ∧ SolvD T d
theorem len_solved : ∀ ds d, pre_solved ds d → ds.length = 1 := by rintro _ _ ⟨_, rfl, _⟩; rfl
theorem signs_2 (rights : List Int) : ibd 2 (rights.map signOf) := fun a ha => by
  obtain ⟨b, _, rfl⟩ := List.mem_map.mp ha
  exact lt2_mono (sign_bits b) (by decide)
theorem run_signs {W : G → Prop} {allowed k : Nat} {g g' : G} {res : Option Nat} (R : Run W allowed k g g' res) : g'.signs = g.signs := by
  induction R with
  | stop => rfl
  | ray => rfl
  | step _ _ _ _ ih => exact ih
theorem drive_signs (g : G) : ∀ k, (driveM g k).signs = g.signs
  | 0 => rfl
  | k + 1 => by
    have ih := drive_signs g k
    have e : driveM g (k + 1) = driveStep (driveM g k) k := by unfold driveM; rw [List.range_succ, List.foldl_append]; rfl
    rw [e, ← ih]
    unfold driveStep
    split
    · split <;> rfl
    · rfl
theorem solv_inv {T : Tsk} {d : PyData} (h : SolvD T d) : ∃ g2, Ph1 T.rows.length (widOf T.plain) (linesOf T.plain) (rightsOf T.plain) g2 ∧
    ((g2.top.getLastD 0 ≠ 0 ∧ d = .tuple [.str "none", .none, sgnD T ((List.range T.rows.length).map (wgt (widOf T.plain) g2 1))]) ∨
    (g2.top.getLastD 0 = 0 ∧ ∃ g5 res k, Run (Good T.rows.length (widOf T.plain) (A0 (linesOf T.plain) (rightsOf T.plain) (widOf T.plain)) (fun j => (costs2 (pricesOf T.plain) T.rows.length).getD j 0)) (widOf T.plain) k (priceM (costs2 (pricesOf T.plain) T.rows.length) (driveM g2 T.rows.length)) g5 res ∧
      d = match (res : Option Nat) with
        | none => .tuple [.str "best", .tuple (qsD (gath T.ks (amtL T.rows.length (widOf T.plain) g5 T.rows.length))), sgnD T ((List.range T.rows.length).map (wgt (widOf T.plain) g5 0))]
        | some c => .tuple [.str "endless", .tuple (qsD (gath T.ks (amtL T.rows.length (widOf T.plain) g5 T.rows.length))), .tuple (qsD (gath T.ks (wayL T.rows.length (widOf T.plain) c g5 T.rows.length)))])) := by
  cases h with
  | none p hz => exact ⟨_, p, .inl ⟨hz, rfl⟩⟩
  | @best g5 p =>
    obtain ⟨g2, k, p1, hz, R⟩ := p
    exact ⟨g2, p1, .inr ⟨hz, g5, none, k, R, rfl⟩⟩
  | @endless g5 c p =>
    obtain ⟨g2, k, p1, hz, R⟩ := p
    exact ⟨g2, p1, .inr ⟨hz, g5, some c, k, R, rfl⟩⟩
theorem rep_costs1 (n m : Nat) : PyData.list (List.replicate (n : Int).toNat (PyData.int 0) ++ List.replicate (m : Int).toNat (PyData.int 1)) = lD (costs1 n m) := by
  unfold lD costs1 iD
  simp
theorem rep_costs2 (prices : List Int) (m : Nat) : PyData.list (iD prices ++ List.replicate (m : Int).toNat (PyData.int 0)) = lD (costs2 prices m) := by
  unfold lD costs2 iD
  simp
theorem Rsz.ibd {T : Tsk} (h : Rsz T (2 ^ 212)) : (∀ row, row ∈ linesOf T → ibd 1000 row) ∧ ibd 1000 (rightsOf T) := by
  have lt : ∀ {a : Nat}, a ≤ 2 ^ 212 → a < 2 ^ 1000 := fun h => lt_of_le2 h (by decide)
  refine ⟨fun row hr a ha => ?_, fun a ha => ?_⟩
  · obtain ⟨i, hi, rfl⟩ := List.mem_mapIdx.mp hr
    rcases List.mem_append.mp ha with z | z
    · exact lt (expand_mem (h _ (List.getElem_mem hi)).1 a z)
    · obtain ⟨q, _, rfl⟩ := List.mem_map.mp z
      split <;> exact lt2_mono (n := 1) (by decide) (by decide)
  · obtain ⟨r, hr, rfl⟩ := List.mem_map.mp ha
    exact lt (h r hr).2
theorem amt_qb {m n : Nat} {A : Nat → Nat → Int} {g : G} (I : TInv m n A (tab g)) (hA : Abd m n A (2 ^ 212)) (hm : m ≤ 5) : ∀ x, x ∈ amtL m n g m → qb 1100 x := fun x hx => by
  have D := detB_5 hm
  obtain ⟨q, _, rfl⟩ := List.mem_map.mp hx
  obtain ⟨p, e, hp⟩ := amt_num I q (B := ((detB m fun _ => 2 ^ 212 : Nat) : Int)) (by omega) fun i hi => by
    have := R_le I hA hi (Nat.le_refl (n + m)); omega
  rw [e]
  exact qb_ratio I.low (lt_of_le2 (Nat.le_trans hp D) (by decide)) (lt_of_le2 (Nat.le_trans (low_le I hA) D) (by decide))
theorem ok_solved (T : Txt K mg) : FnOk Pg w K mg base CX0 5 (He.ga K "solved") (T.fd 27) ["task"] (spD pre_solved) := by
  refine (T.F 27 d_solved rfl).ok sc_solved (spD_len (n := 1) ?len) (fun cdv A outer s H vs Q E hr h => ?_)
  case len => exact len_solved
  refine ⟨_, PSs.nox (pss_cons (ps_set (i := 1) sc_solved.nd rfl (by first | exact Or.inl rfl | exact Or.inr rfl) (pe_call (ok_plain_of T) (hr.mono (show 2 ≤ _ by decide)) (by rfl) T.g_plain_of (T.F 23 d_plain_of rfl).kp (b_plain_of T) .nil pass0 (pa_cons (pv 0) pa_nil)))
      (pss_cons (ps_asg (pe_call (ok_spread T) (hr.mono (show 1 ≤ _ by decide)) (by rfl) T.g_spread (T.F 25 d_spread rfl).kp (b_spread T) .nil pass0 (pa_cons (pv 1) pa_nil)) (pg_tupK (K := K) (n := 2) (by rfl) (pgs_cons (pg_name (i := 2) sc_solved.nd rfl (by first | exact Or.inl rfl | exact Or.inr rfl)) (pgs_cons (pg_name (i := 3) sc_solved.nd rfl (by first | exact Or.inl rfl | exact Or.inr rfl)) pgs_nil))))
      (pss_cons (ps_par (i := 4) (j := 5) (by rfl) sc_solved.nd rfl rfl (by decide) rfl rfl (pa_cons (pe_callB call_len (by rfl) T.n_len PySem.boot_len (pa_cons (pv 3) pa_nil)) (pa_cons (pe_callB call_len (by rfl) T.n_len PySem.boot_len (pa_cons (pv 2) pa_nil)) pa_nil)) (by rfl))
      (pss_cons (ps_set (i := 6) sc_solved.nd rfl (by first | exact Or.inl rfl | exact Or.inr rfl) (pe_make T.mkr (ok_g_init T) (hr.mono (show 2 ≤ _ by decide)) (by rfl) T.g_Grid (b_g_init T) .nil pass0 (pa_cons (pv 2) (pa_cons (pe_lc (own := [("row", 9)]) (by rfl) sc_solved.nd (pi_tup (pe_ix (ix_seqK (K := K)) (pv 1) pe_int (fun _ _ => rfl))) (blkOk_by (N := ["task", "told", "lines", "prices", "many", "high", "grid", "column", "plan", "row"]) (sc := defScope s_solved) (by decide +kernel)) (fun _ _ _ _ _ => (pg_name (i := 9) sc_solved.nd rfl (by first | exact Or.inl rfl | exact Or.inr rfl))) (fun _ _ _ _ _ => pts_nil) (fun _ _ _ _ _ => (pe_ix (ix_seqK (K := K)) (pv 9) pe_int (fun _ _ => rfl)))) (pa_cons (pv 4) pa_nil)))))
      (pss_cons (ps_expr (pe_meth (pv 6) T.cls T.m_price (ok_g_price T) (hr.mono (show 1 ≤ _ by decide)) (b_g_price T) .nil pass0 (pa_cons (pe_op op_cat (pe_op op_rep (pe_lst (pa_cons pe_int pa_nil)) (pv 4)) (pe_op op_rep (pe_lst (pa_cons pe_int pa_nil)) (pv 5))) pa_nil)))
      (pss_cons (ps_expr (pe_meth (pv 6) T.cls T.m_settle (ok_g_settle T) (hr.mono (show 3 ≤ _ by decide)) (b_g_settle T) .nil pass0 (pa_cons (pv 4) pa_nil)))
      (pss_cons (ps_if (pt_cmpR (op_neDK (K := K) hr.units) (pe_ix (ix_seqK (K := K)) (pe_fldK (K := K) (pv 6) rfl) (pe_un un_neg pe_int) (fun _ _ => rfl)) pe_int (nomark _)) (pss_one (ps_ret (pe_tup (pa_cons pe_str (pa_cons pe_non (pa_cons (pe_call (ok_signed T) (hr.mono (show 1 ≤ _ by decide)) (by rfl) T.g_signed (T.F 28 d_signed rfl).kp (b_signed T) .nil pass0 (pa_cons (pv 0) (pa_cons (pe_meth (pv 6) T.cls T.m_weights (ok_g_weights T) (hr.mono (show 3 ≤ _ by decide)) (b_g_weights T) .nil pass0 (pa_cons pe_int pa_nil)) pa_nil))) pa_nil)))))) pss_nil)
      (pss_cons (ps_expr (pe_meth0 (pv 6) T.cls T.m_drive_out (ok_g_drive_out T) (hr.mono (show 3 ≤ _ by decide)) (b_g_drive_out T) .nil pass0))
      (pss_cons (ps_expr (pe_meth (pv 6) T.cls T.m_price (ok_g_price T) (hr.mono (show 1 ≤ _ by decide)) (b_g_price T) .nil pass0 (pa_cons (pe_op op_cat (pv 3) (pe_op op_rep (pe_lst (pa_cons pe_int pa_nil)) (pv 5))) pa_nil)))
      (pss_cons (ps_set (i := 7) sc_solved.nd rfl (by first | exact Or.inl rfl | exact Or.inr rfl) (pe_meth (pv 6) T.cls T.m_settle (ok_g_settle T) (hr.mono (show 3 ≤ _ by decide)) (b_g_settle T) .nil pass0 (pa_cons (pv 4) pa_nil)))
      (pss_cons (ps_set (i := 8) sc_solved.nd rfl (by first | exact Or.inl rfl | exact Or.inr rfl) (pe_call (ok_gathered T) (hr.mono (show 4 ≤ _ by decide)) (by rfl) T.g_gathered (T.F 26 d_gathered rfl).kp (b_gathered T) .nil pass0 (pa_cons (pe_ix (ix_seqK (K := K)) (pv 1) pe_int (fun _ _ => rfl)) (pa_cons (pe_meth0 (pv 6) T.cls T.m_amounts (ok_g_amounts T) (hr.mono (show 3 ≤ _ by decide)) (b_g_amounts T) .nil pass0) pa_nil))))
      (pss_cons (ps_if (pt_cmpR op_notN (pv 7) pe_non (nomark _)) (pss_one (ps_ret (pe_tup (pa_cons pe_str (pa_cons (pv 8) (pa_cons (pe_call (ok_gathered T) (hr.mono (show 4 ≤ _ by decide)) (by rfl) T.g_gathered (T.F 26 d_gathered rfl).kp (b_gathered T) .nil pass0 (pa_cons (pe_ix (ix_seqK (K := K)) (pv 1) pe_int (fun _ _ => rfl)) (pa_cons (pe_meth (pv 6) T.cls T.m_way (ok_g_way T) (hr.mono (show 3 ≤ _ by decide)) (b_g_way T) .nil pass0 (pa_cons (pv 7) pa_nil)) pa_nil))) pa_nil)))))) pss_nil)
      (pss_one (ps_ret (pe_tup (pa_cons pe_str (pa_cons (pv 8) (pa_cons (pe_call (ok_signed T) (hr.mono (show 1 ≤ _ by decide)) (by rfl) T.g_signed (T.F 28 d_signed rfl).kp (b_signed T) .nil pass0 (pa_cons (pv 0) (pa_cons (pe_meth (pv 6) T.cls T.m_weights (ok_g_weights T) (hr.mono (show 3 ≤ _ by decide)) (b_g_weights T) .nil pass0 (pa_cons pe_int pa_nil)) pa_nil))) pa_nil)))))))))))))))))), ?_⟩
  refine body_pure (K := K) (C := gC K) h (fun ds d hp => by rw [len_solved ds d hp]; decide) (fun ds d hp F0 H0 => ?_)
  obtain ⟨T0, rfl, hB, hD⟩ := hp
  have hD := solv_inv hD
  show Sd _ _ [.d (tD T0), .no, .no, .no, .no, .no, .no, .no, .no, .no] _ _
  have hBp := hB.plain
  have hlr := plen T0
  have hm5 := hB.r5
  have hn17 := hBp.wid
  have hz1 := hBp.sz
  have hwl := hBp.wl
  have Rc := rect hwl
  have hpl := prices_len hwl
  have hA := hBp.abd
  have hprc := hBp.prc
  obtain ⟨hlb, hrb⟩ := hBp.rs.ibd
  have hpb : ibd 1000 (costs2 (pricesOf T0.plain) T0.rows.length) := fun a ha => by
    obtain ⟨j, hj, e⟩ := List.getElem_of_mem ha
    have := hprc j
    rw [hlr] at this
    have e2 : (costs2 (pricesOf T0.plain) T0.rows.length).getD j 0 = a := by
      unfold List.getD
      rw [List.getElem?_eq_getElem hj, e]; rfl
    rw [e2] at this
    exact lt_of_le2 this (by decide)
  have hrts : (T0.plain.rows.map fun r => PyData.int r.rt) = iD (rightsOf T0.plain) := by
    unfold iD rightsOf; rw [List.map_map]; rfl
  have hwid : wid T0.plain.ks ≤ widOf T0.plain := by unfold widOf; omega
  have hk6 : T0.ks.length ≤ 1000 := by have := hB.k6; omega
  rw [hlr] at Rc hA hprc
  refine s_seq1 (P' := [.d (tD T0), .d (tD T0.plain), .no, .no, .no, .no, .no, .no, .no, .no]) (s_set (g_call (a_cons (g_var rfl) a_nil) ⟨T0, rfl, hB.sz, rfl⟩) (by simp) rfl) ?_
  refine s_seq1 (P' := [.d (tD T0), .d (tD T0.plain), .d (.list ((linesOf T0.plain).map lD)), .d (lD (pricesOf T0.plain)), .no, .no, .no, .no, .no, .no]) (s_asg (g_call (a_cons (g_var rfl) a_nil) ⟨T0.plain, rfl, hz1, hwl, rfl⟩) (d_tup (ds_cons (d_name (by simp)) (ds_cons (d_name (by simp)) ds_nil)) rfl) rfl) ?_
  have hksr : T0.plain.ks = T0.ks := rfl
  have hgl : ∀ P : List Sl, ∀ c : Bc, P[1]? = some (.d (tD T0.plain)) → TEg c (tOp (rIx K) (tVar 1) (tC (.int 0))) P (.str (ksS T0.ks)) P := fun P c h => g_op (g_var h) g_int (o_ixqT atT0)
  have hrg : ∀ c : Bc, ∀ P : List Sl, P[1]? = some (.d (tD T0.plain)) → TEg c (tOp (rIx K) (tVar 1) (tC (.int 2))) P (.tuple (T0.plain.rows.map rwD)) P := fun c P h => g_op (g_var h) g_int (o_ixqT atT2)
  have hrl5 : T0.plain.rows.length ≤ 5 := by rw [hlr]; exact hm5
  generalize hU : tD T0.plain = dU at hgl hrg ⊢
  generalize T0.plain.rows = urows at hrg hrts hrl5 hlr
  generalize linesOf T0.plain = lines at *
  generalize rightsOf T0.plain = rights at *
  generalize hpr : pricesOf T0.plain = prices at *
  generalize widOf T0.plain = n at *
  generalize hmm : T0.rows.length = m at *
  obtain ⟨g2, p1, rest⟩ := hD
  have Z1 : ∀ g, GInv m n (A0 lines rights n) (cost1 m n) g → SzG m n g := fun g I => szg I hA (cost1_le m n) hm5 (by omega)
  have Z2 : ∀ g, GInv m n (A0 lines rights n) (fun j => (costs2 prices m).getD j 0) g → SzG m n g := fun g I => szg I hA hprc hm5 (by omega)
  have hlm : lines.length = m := Rc.many
  have hrm : rights.length = m := Rc.rights
  refine s_seq1 (P' := [.d (tD T0), .d dU, .d (.list (lines.map lD)), .d (lD prices), .d (.int n), .d (.int m), .no, .no, .no, .no]) (s_par (a_cons ((g_cb (a_cons (g_var rfl) a_nil) b_lenL).eq (d' := .int (n : Nat)) (by rw [iD_len, hpl])) (a_cons ((g_cb (a_cons (g_var rfl) a_nil) b_lenL).eq (d' := .int (m : Nat)) (by rw [List.length_map, hlm])) a_nil)) (by simp) (by simp) rfl) ?_
  refine s_seq (M := fun P' => ∃ p dx ar ai, P' = [.d (tD T0), .d dU, .d (.list (lines.map lD)), .d (lD prices), .d (.int n), .d (.int m), gO p dx ar ai (gridInit lines rights n), .no, .no, .no]) (s_make (a_cons (g_var rfl) (a_cons ((TEo.g (o_mapL (xs := urows) (r := rwD) (f := fun r => .int r.rt) rfl (i_tup (hrg _ _ rfl)) (by simp) (by omega) fun r hr => ⟨_, _, by simp, d_name (by simp [noAt]), rfl, g_op (g_var rfl) g_int (o_ixqT atT2)⟩)).eq (d' := lD rights) (by rw [hrts]; rfl)) (a_cons (g_var rfl) a_nil))) ⟨lines, rights, n, rfl, by omega, by omega, by omega, fun row hr => ⟨?_, hlb row hr⟩, hrb, rfl⟩ (by simp [noAt]) ?_) ?_
  · obtain ⟨i, hi, e⟩ := List.getElem_of_mem hr
    have := Rc.row i (by omega)
    unfold List.getD at this
    rw [List.getElem?_eq_getElem hi, e] at this
    have : row.length = n := this
    omega
  · rintro p dx fs ⟨ar, ai, rfl⟩
    exact ⟨p, dx, ar, ai, rfl⟩
  rintro _ ⟨p, dx, ar, ai, rfl⟩
  have I0 := init_inv Rc
  have c1len := costs1_len n m
  have c1b : ibd 1000 (costs1 n m) := fun a ha => by
    rcases List.mem_append.mp ha with z | z
    · rw [List.eq_of_mem_replicate z]; exact Nat.pow_pos (by decide)
    · rw [List.eq_of_mem_replicate z]; exact lt2_mono (n := 1) (by decide) (by decide)
  -- what price needs of a grid
  have prc : ∀ {A : Nat → Nat → Int} {g : G} {costs : List Int}, GInv0 m n A g → Abd m n A (2 ^ 212) → costs.length = n + m → ibd 1000 costs → costs.length ≤ 1000 ∧ ibd 1000 costs ∧ g.low.natAbs < 2 ^ 2000 ∧ (∀ row, row ∈ g.rows → row.length ≤ 1000 ∧ ibd 2000 row) ∧ g.inside.length = g.rows.length ∧ (∀ i, i < g.rows.length → g.inside.getD i 0 < costs.length) := fun {A g costs} I hA hc hb => by
    have D := detB_5 hm5
    refine ⟨by omega, hb, lt_of_le2 (Nat.le_trans (low_le I.inv hA) D) (by decide), fun row hr => ?_, by rw [I.inside, I.rows], fun i hi => ?_⟩
    · obtain ⟨i, hi, e⟩ := List.getElem_of_mem hr
      have him : i < m := by rw [← I.rows]; exact hi
      have er : rowAt g i = row := by
        unfold rowAt List.getD
        rw [List.getElem?_eq_getElem hi, e]; rfl
      have hl := I.row i him
      rw [er] at hl
      refine ⟨by omega, fun a ha => ?_⟩
      obtain ⟨j, hj, e2⟩ := List.getElem_of_mem ha
      have ea : (tab g).R i j = a := by
        show (rowAt g i).getD j 0 = a
        rw [er]
        unfold List.getD
        rw [List.getElem?_eq_getElem hj, e2]; rfl
      rw [← ea]
      exact lt_of_le2 (Nat.le_trans (R_le I.inv hA him (by omega)) D) (by decide)
    · have := I.inv.bN i (by rw [← I.rows]; exact hi)
      rw [hc]; exact this
  obtain ⟨q1, q2, q3, q4, q5, q6⟩ := prc I0 hA c1len c1b
  refine s_seq1 (P' := [.d (tD T0), .d dU, .d (.list (lines.map lD)), .d (lD prices), .d (.int n), .d (.int m), gO p dx ar ai (priceM (costs1 n m) (gridInit lines rights n)), .no, .no, .no]) (s_drop (g_methS (ta := tCons _ tNil) (t := gO p dx ar ai (priceM (costs1 n m) (gridInit lines rights n))) (a_cons ((g_op (g_op (g_lst (a_cons g_int a_nil) (by simp)) (g_var rfl) (o_rep1 (by omega) (by omega))) (g_op (g_lst (a_cons g_int a_nil) (by simp)) (g_var rfl) (o_rep1 (by omega) (by omega))) (o_cat (by simp; omega))).eq (rep_costs1 n m)) a_nil) rfl (k_none (by decide +kernel)) rfl ⟨p, dx, ar, ai, _, costs1 n m, rfl, rfl, rfl, q1, q2, q3, q4, q5, q6, rfl⟩ rfl rfl) rfl) ?_
  have G2 := ph1_good p1
  obtain ⟨k1, res1, R1⟩ := p1
  refine s_seq1 (P' := [.d (tD T0), .d dU, .d (.list (lines.map lD)), .d (lD prices), .d (.int n), .d (.int m), gO p dx ar ai g2, .no, .no, .no]) (s_drop (g_methS (t := gO p dx ar ai g2) (a_cons (g_var rfl) a_nil) rfl (k_none (by decide +kernel)) rfl ⟨p, dx, ar, ai, _, g2, m, n, n, k1, _, _, res1, rfl, rfl, rfl, Nat.le_refl _, fun g hg => Z1 g hg.1, R1, rfl⟩ rfl rfl) rfl) ?_
  have Zg2 := Z1 g2 G2.1
  have tl2 := Zg2.shp.top
  have sg2 : g2.signs = rights.map signOf := by rw [run_signs R1]; rfl
  have htest : ∀ F0 H0, TTg ⟨K, gC K, F0, H0⟩ (tTest (tOp (rNeD K) (tOp (rIx K) (tFld K (tVar 6) "top") (tUn (rU fun i => .int (-i)) (tC (.int 1)))) (tC (.int 0)))) [.d (tD T0), .d dU, .d (.list (lines.map lD)), .d (lD prices), .d (.int n), .d (.int m), gO p dx ar ai g2, .no, .no, .no] (!decide (g2.top.getLastD 0 = 0)) [.d (tD T0), .d dU, .d (.list (lines.map lD)), .d (lD prices), .d (.int n), .d (.int m), gO p dx ar ai g2, .no, .no, .no] := fun F0 H0 => t_neI (g_op (g_fld (x := lD g2.top) rfl k_top T.cls T.no_top) (g_un g_int o_neg) (o_ixqL (iD_last tl2))) g_int
  rcases rest with ⟨hz, rfl⟩ | ⟨hz, g5, res, k2, R2, rfl⟩
  · refine s_seq (M := fun _ => False) (s_if (b := true) ((htest _ _).eq (by rw [decide_eq_false hz]; rfl)) (fun _ => s_ret (g_tup (a_cons g_str (a_cons g_non (a_cons (g_call (a_cons (g_var rfl) (a_cons (g_methS (t := gO p dx ar ai g2) (a_cons g_int a_nil) rfl (k_none (by decide +kernel)) rfl ⟨p, dx, ar, ai, g2, m, n, 1, rfl, rfl, rfl, Zg2, by rw [sg2, List.length_map, hrm], by rw [sg2]; exact signs_2 _, by decide, rfl⟩ rfl rfl) a_nil)) ⟨T0, _, rfl, hB.sz, rfl⟩) a_nil))) (by simp)) rfl) fun z => nomatch z) fun _ z => z.elim
  · refine s_seq1 (P' := [.d (tD T0), .d dU, .d (.list (lines.map lD)), .d (lD prices), .d (.int n), .d (.int m), gO p dx ar ai g2, .no, .no, .no]) (s_if (b := false) ((htest _ _).eq (by rw [decide_eq_true hz]; rfl)) (fun z => nomatch z) fun _ => s_next rfl) ?_
    have D0 := ph1_drv (rows := lines) (rights := rights) ⟨k1, res1, R1⟩ hz
    have Dm := drv_all D0 m (Nat.le_refl _)
    have I3 := Dm.inv.to0
    have c2len := costs2_len (m := m) hpl
    obtain ⟨r1, r2, r3, r4, r5, r6⟩ := prc I3 hA c2len hpb
    refine s_seq1 (P' := [.d (tD T0), .d dU, .d (.list (lines.map lD)), .d (lD prices), .d (.int n), .d (.int m), gO p dx ar ai (driveM g2 m), .no, .no, .no]) (s_drop (g_methS (ta := tNil) (t := gO p dx ar ai (driveM g2 m)) a_nil rfl (k_none (by decide +kernel)) rfl ⟨p, dx, ar, ai, g2, m, n, _, _, rfl, rfl, rfl, Z1, D0, rfl⟩ rfl rfl) rfl) ?_
    refine s_seq1 (P' := [.d (tD T0), .d dU, .d (.list (lines.map lD)), .d (lD prices), .d (.int n), .d (.int m), gO p dx ar ai (priceM (costs2 prices m) (driveM g2 m)), .no, .no, .no]) (s_drop (g_methS (t := gO p dx ar ai (priceM (costs2 prices m) (driveM g2 m))) (a_cons ((g_op (g_var rfl) (g_op (g_lst (a_cons g_int a_nil) (by simp)) (g_var rfl) (o_rep1 (by omega) (by omega))) (o_cat (by rw [iD_len]; simp; omega))).eq (rep_costs2 prices m)) a_nil) rfl (k_none (by decide +kernel)) rfl ⟨p, dx, ar, ai, _, costs2 prices m, rfl, rfl, rfl, r1, r2, r3, r4, r5, r6, rfl⟩ rfl rfl) rfl) ?_
    have G5 := R2.last
    have Zg5 := Z2 g5 G5.1
    have sg5 : g5.signs = rights.map signOf := by
      rw [run_signs R2, ← sg2]
      exact drive_signs g2 m
    refine s_seq1 (P' := [.d (tD T0), .d dU, .d (.list (lines.map lD)), .d (lD prices), .d (.int n), .d (.int m), gO p dx ar ai g5, .d (colD res), .no, .no]) (s_set (g_methS (t := gO p dx ar ai g5) (a_cons (g_var rfl) a_nil) rfl (k_none (by decide +kernel)) rfl ⟨p, dx, ar, ai, _, g5, m, n, n, k2, _, _, res, rfl, rfl, rfl, Nat.le_refl _, fun g hg => Z2 g hg.1, R2, rfl⟩ rfl rfl) (by simp) rfl) ?_
    refine s_seq1 (P' := [.d (tD T0), .d dU, .d (.list (lines.map lD)), .d (lD prices), .d (.int n), .d (.int m), gO p dx ar ai g5, .d (colD res), .d (.tuple (qsD (gath T0.ks (amtL m n g5 m)))), .no]) (s_set (g_call (a_cons (hgl _ _ rfl) (a_cons (g_methS (ta := tNil) (t := gO p dx ar ai g5) a_nil rfl (k_none (by decide +kernel)) rfl ⟨p, dx, ar, ai, g5, m, n, _, rfl, rfl, rfl, Zg5, G5.1.inv, rfl⟩ rfl rfl) a_nil)) ⟨T0.ks, _, rfl, by rw [amtL_len]; exact hwid, hk6, amt_qb G5.1.inv hA hm5, rfl⟩) (by simp) rfl) ?_
    cases res with
    | none =>
      refine s_seq1 (P' := [.d (tD T0), .d dU, .d (.list (lines.map lD)), .d (lD prices), .d (.int n), .d (.int m), gO p dx ar ai g5, .d (colD none), .d (.tuple (qsD (gath T0.ks (amtL m n g5 m)))), .no]) (s_if (b := false) (t_cmp (g_op (g_var rfl) g_non o_notN)) (fun z => nomatch z) fun _ => s_next rfl) ?_
      exact s_ret (g_tup (a_cons g_str (a_cons (g_var rfl) (a_cons (g_call (a_cons (g_var rfl) (a_cons (g_methS (t := gO p dx ar ai g5) (a_cons g_int a_nil) rfl (k_none (by decide +kernel)) rfl ⟨p, dx, ar, ai, g5, m, n, 0, rfl, rfl, rfl, Zg5, by rw [sg5, List.length_map, hrm], by rw [sg5]; exact signs_2 _, by decide, rfl⟩ rfl rfl) a_nil)) ⟨T0, _, rfl, hB.sz, rfl⟩) a_nil))) (by simp)) rfl
    | some cc =>
      obtain ⟨cc1, _, _⟩ := (run_end (Nat.le_refl n) R2).2 cc rfl
      have D := detB_5 hm5
      refine s_seq (M := fun _ => False) (s_if (b := true) (t_cmp (g_op (g_var rfl) g_non o_notN)) (fun _ => s_ret (g_tup (a_cons g_str (a_cons (g_var rfl) (a_cons (g_call (a_cons (hgl _ _ rfl) (a_cons (g_methS (t := gO p dx ar ai g5) (a_cons (g_var rfl) a_nil) rfl (k_none (by decide +kernel)) rfl ⟨p, dx, ar, ai, g5, m, n, cc, rfl, rfl, rfl, Zg5, cc1, rfl⟩ rfl rfl) a_nil)) ⟨T0.ks, _, rfl, by rw [wayL_len]; exact hwid, hk6, wayL_qb (by decide) G5.1.inv.low (lt_of_le2 (Nat.le_trans (low_le G5.1.inv hA) D) (by decide)) (fun i hi => lt_of_le2 (Nat.le_trans (R_le G5.1.inv hA hi (by omega)) D) (by decide)) m (Nat.le_refl _), rfl⟩) a_nil))) (by simp)) rfl) fun z => nomatch z) fun _ z => z.elim
end
end Cp
end
/-! ## CSt -/
section
set_option Elab.async false
set_option linter.all false
set_option autoImplicit false
set_option maxRecDepth 100000
set_option maxHeartbeats 4000000
set_option exponentiation.threshold 100000
namespace Cp
variable [KFix]
open PySem PySem.Spec PyProof.Rows L2
def oD : Option Rat → PyData
  | none => .none
  | some v => qD v
def BestO (T : Tsk) : Option Rat → Prop
  | some v => BestV T v
  | none => ¬ ∃ v, BestV T v
theorem box_qb {x : List Rat} {m : Nat} (hm : m ≤ 5) (h : Box (detB m fun _ => 2 ^ 212) x) : ∀ v, v ∈ x → qb 1100 v := fun v hv => by
  have D := detB_5 hm
  obtain ⟨d, h0, h1, h2⟩ := h
  obtain ⟨p, hp, rfl⟩ := h2 v hv
  rw [← Rat.intCast_natCast]
  have h3 : p.natAbs ≤ 2 ^ 1068 := Nat.le_trans hp (by rw [show 2 ^ 1068 = 2 * 2 ^ 1067 by rw [Nat.pow_succ, Nat.mul_comm]]; omega)
  exact qb_ratio (by omega) (lt_of_le2 h3 (by decide)) (by rw [Int.natAbs_natCast]; exact lt_of_le2 (Nat.le_trans h1 D) (by decide))
theorem str_eq {a b : Str} (h : (a == b) = true) : PyData.eqv (.str a) (.str b) = true := h
theorem Big.csb {T : Tsk} (h : Big T) : ibd 1000 T.cs := fun a ha => lt_of_le2 (h.cs a ha) (by decide)
/-- the last number of a plan -/
def lastQ (z : List Rat) : Rat := z.getLastD 0
def LowJ (J : Tsk) : Option Rat → Prop
  | some l => (∃ z, Plan J z ∧ lastQ z = l) ∧ ∀ z, Plan J z → l ≤ lastQ z
  | none => ∀ b, ∃ z, Plan J z ∧ lastQ z < b
def HighJ (J : Tsk) : Option Rat → Prop
  | some l => (∃ z, Plan J z ∧ lastQ z = l) ∧ ∀ z, Plan J z → lastQ z ≤ l
  | none => ∀ b, ∃ z, Plan J z ∧ b < lastQ z
def SpanJ (J : Tsk) : Option (Option Rat × Option Rat) → Prop
  | none => ¬ ∃ z, Plan J z
  | some (l, h) => (∃ z, Plan J z) ∧ LowJ J l ∧ HighJ J h
def spanD : Option (Option Rat × Option Rat) → PyData
  | none => .none
  | some (l, h) => .tuple [oD l, oD h]
theorem low_one {J : Tsk} {a b : Option Rat} (ha : LowJ J a) (hb : LowJ J b) : a = b := by
  cases a with
  | none =>
    cases b with
    | none => rfl
    | some l =>
      obtain ⟨z, pz, lt⟩ := ha l
      have := hb.2 z pz
      grind
  | some k =>
    cases b with
    | none =>
      obtain ⟨z, pz, lt⟩ := hb k
      have := ha.2 z pz
      grind
    | some l =>
      obtain ⟨⟨z, pz, ez⟩, h1⟩ := ha
      obtain ⟨⟨y, py, ey⟩, h2⟩ := hb
      have a1 := h1 y py
      have a2 := h2 z pz
      congr 1
      grind
theorem high_one {J : Tsk} {a b : Option Rat} (ha : HighJ J a) (hb : HighJ J b) : a = b := by
  cases a with
  | none =>
    cases b with
    | none => rfl
    | some l =>
      obtain ⟨z, pz, lt⟩ := ha l
      have := hb.2 z pz
      grind
  | some k =>
    cases b with
    | none =>
      obtain ⟨z, pz, lt⟩ := hb k
      have := ha.2 z pz
      grind
    | some l =>
      obtain ⟨⟨z, pz, ez⟩, h1⟩ := ha
      obtain ⟨⟨y, py, ey⟩, h2⟩ := hb
      have a1 := h1 y py
      have a2 := h2 z pz
      congr 1
      grind
theorem unit_last : ∀ {n : Nat} {sg : Int} {z : List Rat}, z.length = n + 1 → dotR (unitI (n + 1) n sg) z = (sg : Rat) * lastQ z := by
  intro n sg z hz
  have e : z = z.dropLast ++ [lastQ z] := by
    unfold lastQ
    rw [List.getLastD_eq_getLast?]
    cases e : z.getLast? with
    | none => rw [List.getLast?_eq_none_iff] at e; subst e; simp at hz
    | some x =>
      obtain ⟨ys, rfl⟩ := List.getLast?_eq_some_iff.mp e
      simp
  have eu : unitI (n + 1) n sg = List.replicate n 0 ++ [sg] := by
    unfold unitI
    rw [List.range_succ, List.map_append]
    congr 1
    · refine List.ext_getElem? fun i => ?_
      rw [List.getElem?_map, List.getElem?_replicate]
      by_cases q : i < n
      · rw [List.getElem?_range q, if_pos q]
        show some (if i = n then sg else 0) = _
        rw [if_neg (by omega)]
      · rw [List.getElem?_eq_none (by simpa using q), if_neg q]; rfl
    · show [if n = n then sg else 0] = _
      rw [if_pos rfl]
  generalize lastQ z = l at e ⊢
  rw [e, eu, dot_app (by simp; omega), dot_zeros]
  grind
section
variable {Pg : Program} {w : World} {K : PySem.W.Frag} {mg : Str → Option Value} {base : Heap}
def pre_best_cost_of (ds : List PyData) (d : PyData) : Prop := ∃ (T : Tsk) (o : Option Rat), ds = [tD T] ∧ Big T ∧ BestO T o ∧ d = oD o
theorem len_best_cost_of : ∀ ds d, pre_best_cost_of ds d → ds.length = 1 := by rintro _ _ ⟨_, _, rfl, _⟩; rfl
theorem e_nb : PyData.eqv (.str ("none" : Str)) (.str ("best" : Str)) = false := by decide +kernel
theorem e_bb : PyData.eqv (.str ("best" : Str)) (.str ("best" : Str)) = true := by decide +kernel
theorem e_eb : PyData.eqv (.str ("endless" : Str)) (.str ("best" : Str)) = false := by decide +kernel
theorem e_nn : PyData.eqv (.str ("none" : Str)) (.str ("none" : Str)) = true := by decide +kernel
theorem e_bn : PyData.eqv (.str ("best" : Str)) (.str ("none" : Str)) = false := by decide +kernel
theorem e_en : PyData.eqv (.str ("endless" : Str)) (.str ("none" : Str)) = false := by decide +kernel
theorem ok_best_cost_of (T : Txt K mg) : FnOk Pg w K mg base CX0 6 (He.ga K "best_cost_of") (T.fd 29) ["task"] (spD pre_best_cost_of) := by
  refine (T.F 29 d_best_cost_of rfl).ok sc_best_cost_of (spD_len (n := 1) ?len) (fun cdv A outer s H vs Q E hr h => ?_)
  case len => exact len_best_cost_of
  refine ⟨_, PSs.nox (pss_cons (ps_set (i := 1) sc_best_cost_of.nd rfl (by first | exact Or.inl rfl | exact Or.inr rfl) (pe_call (ok_solved T) (hr.mono (show 5 ≤ _ by decide)) (by rfl) T.g_solved (T.F 27 d_solved rfl).kp (b_solved T) .nil pass0 (pa_cons (pv 0) pa_nil)))
      (pss_one (ps_ret (pe_ifExp (pt_cmpR (op_eqDK (K := K) hr.units) (pe_ix (ix_seqK (K := K)) (pv 1) pe_int (fun _ _ => rfl)) pe_str (nomark _)) (pe_call (ok_dot T) (hr.mono (show 3 ≤ _ by decide)) (by rfl) T.g_dot (T.F 7 d_dot rfl).kp (b_dot T) .nil pass0 (pa_cons (pe_ix (ix_seqK (K := K)) (pv 0) pe_int (fun _ _ => rfl)) (pa_cons (pe_ix (ix_seqK (K := K)) (pv 1) pe_int (fun _ _ => rfl)) pa_nil))) pe_non)))), ?_⟩
  refine body_pure (K := K) (C := gC K) h (fun ds d hp => by rw [len_best_cost_of ds d hp]; decide) (fun ds d hp F0 H0 => ?_)
  obtain ⟨U, o, rfl, hB, ho, rfl⟩ := hp
  show Sd _ _ [.d (tD U), .no] _ _
  obtain ⟨d0, hd⟩ := solv_ex hB.wl
  refine s_seq1 (P' := [.d (tD U), .d d0]) (s_set (g_call (a_cons (g_var rfl) a_nil) ⟨U, rfl, hB, hd⟩) (by simp) rfl) ?_
  rcases solv_f hB.wl hd with ⟨z, rfl, hno⟩ | ⟨x, z, rfl, px, hx, hbox⟩ | ⟨x, z, rfl, px, hx⟩
  · have : o = none := by
      cases o with
      | none => rfl
      | some v =>
        obtain ⟨⟨x, px, _⟩, _⟩ := ho
        exact absurd ⟨x, px⟩ hno
    subst this
    exact s_ret (g_if (b := false) ((t_cmp (g_op (g_op (g_var rfl) g_int (o_ixqT atT0)) g_str (o_eq (by decide +kernel) (by decide +kernel)))).eq e_nb) (fun z => nomatch z) fun _ => g_non) rfl
  · have hv : BestV U (dotR U.cs x) := ⟨⟨x, px, rfl⟩, hx⟩
    have : o = some (dotR U.cs x) := by
      cases o with
      | none => exact absurd ⟨_, hv⟩ ho
      | some v => rw [BestV.one ho hv]
    subst this
    exact s_ret (g_if (b := true) ((t_cmp (g_op (g_op (g_var rfl) g_int (o_ixqT atT0)) g_str (o_eq (by decide +kernel) (by decide +kernel)))).eq e_bb) (fun _ => g_call (a_cons (g_op (g_var rfl) g_int (o_ixqT atT1)) (a_cons (g_op (g_var rfl) g_int (o_ixqT atT1)) a_nil)) ⟨U.cs, x, rfl, hB.csb, box_qb hB.r5 (hbox _ Nat.one_le_two_pow hB.rs), by rw [px.pos.len]; exact hB.k6, rfl⟩) fun z => nomatch z) rfl
  · have : o = none := by
      cases o with
      | none => rfl
      | some v =>
        obtain ⟨_, hv⟩ := ho
        obtain ⟨y, py, lt⟩ := hx v
        have := hv y py
        exfalso; grind
    subst this
    exact s_ret (g_if (b := false) ((t_cmp (g_op (g_op (g_var rfl) g_int (o_ixqT atT0)) g_str (o_eq (by decide +kernel) (by decide +kernel)))).eq e_eb) (fun z => nomatch z) fun _ => g_non) rfl
def pre_best_cost (ds : List PyData) (d : PyData) : Prop := ∃ (T : Tsk) (o : Option Rat), ds = [tD T] ∧ Nd T ∧ Big T ∧ BestO T o ∧ d = oD o
theorem len_best_cost : ∀ ds d, pre_best_cost ds d → ds.length = 1 := by rintro _ _ ⟨_, _, rfl, _⟩; rfl
theorem ok_best_cost (T : Txt K mg) : FnOk Pg w K mg base CX0 7 (He.ga K "best_cost") (T.fd 30) ["task"] (spD pre_best_cost) := by
  refine (T.F 30 d_best_cost rfl).ok sc_best_cost (spD_len (n := 1) ?len) (fun cdv A outer s H vs Q E hr h => ?_)
  case len => exact len_best_cost
  refine ⟨_, PSs.nox (pss_cons (ps_expr (pe_call (ok_need_task T) (hr.mono (show 4 ≤ _ by decide)) (by rfl) T.g_need_task (T.F 21 d_need_task rfl).kp (b_need_task T) .nil pass0 (pa_cons (pv 0) pa_nil)))
      (pss_one (ps_ret (pe_call (ok_best_cost_of T) (hr.mono (show 6 ≤ _ by decide)) (by rfl) T.g_best_cost_of (T.F 29 d_best_cost_of rfl).kp (b_best_cost_of T) .nil pass0 (pa_cons (pv 0) pa_nil))))), ?_⟩
  refine body_pure (K := K) (C := gC K) h (fun ds d hp => by rw [len_best_cost ds d hp]; decide) (fun ds d hp F0 H0 => ?_)
  obtain ⟨U, o, rfl, hN, hB, ho, rfl⟩ := hp
  show Sd _ _ [.d (tD U)] _ _
  refine s_seq1 (P' := [.d (tD U)]) (s_drop (g_call (a_cons (g_var rfl) a_nil) ⟨U, rfl, hN, rfl⟩) rfl) ?_
  exact s_ret (g_call (a_cons (g_var rfl) a_nil) ⟨U, o, rfl, hB, ho, rfl⟩) rfl
theorem nat_q (q : Nat) : qD ((q : Nat) : Rat) = .tuple [.int q, .int 1] := by
  unfold qD
  simp
def pre_cost_at (ds : List PyData) (d : PyData) : Prop := ∃ (D : Tsk) (st : List Int) (t v : Rat), ds = [tD D, .list (iD st), qD t] ∧ Sz D ∧ ibd 1000 st ∧ (∀ r, r ∈ D.rows → r.rt.natAbs < 2 ^ 1000) ∧ qb 3999 t ∧ Big (moved D st t) ∧ BestV (moved D st t) v ∧ qb 4000 v ∧ d = qD (v / (t.den : Rat))
theorem len_cost_at : ∀ ds d, pre_cost_at ds d → ds.length = 3 := by rintro _ _ ⟨_, _, _, _, rfl, _⟩; rfl
theorem ok_cost_at (T : Txt K mg) : FnOk Pg w K mg base CX0 7 (He.ga K "cost_at") (T.fd 37) ["task", "steps", "time"] (spD pre_cost_at) := by
  refine (T.F 37 d_cost_at rfl).ok sc_cost_at (spD_len (n := 3) ?len) (fun cdv A outer s H vs Q E hr h => ?_)
  case len => exact len_cost_at
  refine ⟨_, PSs.nox (pss_cons (ps_set (i := 3) sc_cost_at.nd rfl (by first | exact Or.inl rfl | exact Or.inr rfl) (pe_call (ok_best_cost_of T) (hr.mono (show 6 ≤ _ by decide)) (by rfl) T.g_best_cost_of (T.F 29 d_best_cost_of rfl).kp (b_best_cost_of T) .nil pass0 (pa_cons (pe_call (ok_moved_rights T) (hr.mono (show 1 ≤ _ by decide)) (by rfl) T.g_moved_rights (T.F 36 d_moved_rights rfl).kp (b_moved_rights T) .nil pass0 (pa_cons (pv 0) (pa_cons (pv 1) (pa_cons (pv 2) pa_nil)))) pa_nil)))
      (pss_one (ps_ret (pe_ifExp (pt_cmpR op_notN (pv 3) pe_non (nomark _)) (pe_call (ok_over_of T) (hr.mono (show 3 ≤ _ by decide)) (by rfl) T.g_over_of (T.F 6 d_over_of rfl).kp (b_over_of T) .nil pass0 (pa_cons (pv 3) (pa_cons (pe_tup (pa_cons (pe_ix (ix_seqK (K := K)) (pv 2) pe_int (fun _ _ => rfl)) (pa_cons pe_int pa_nil))) pa_nil))) pe_non)))), ?_⟩
  refine body_pure (K := K) (C := gC K) h (fun ds d hp => by rw [len_cost_at ds d hp]; decide) (fun ds d hp F0 H0 => ?_)
  obtain ⟨D, st, t, v, rfl, hz, hs, hr', ht, hB, hv, hq, rfl⟩ := hp
  show Sd _ _ [.d (tD D), .d (.list (iD st)), .d (qD t), .no] _ _
  refine s_seq1 (P' := [.d (tD D), .d (.list (iD st)), .d (qD t), .d (qD v)]) (s_set (g_call (a_cons (g_call (a_cons (g_var rfl) (a_cons (g_var rfl) (a_cons (g_var rfl) a_nil))) ⟨D, st, t, rfl, hz, hs, hr', qb.mono (n := 3999) (m := 4000) ht (by decide), rfl⟩) a_nil) ⟨_, some v, rfl, hB, hv, rfl⟩) (by simp) rfl) ?_
  refine s_ret (g_if (b := true) (t_cmp (g_op (g_var rfl) g_non o_notN)) (fun _ => g_call (a_cons (g_var rfl) (a_cons ((g_tup (a_cons (g_q1 (g_var rfl) g_int) (a_cons g_int a_nil)) (by simp)).eq (nat_q t.den).symm) a_nil)) ⟨v, (t.den : Rat), rfl, hq, ⟨?_, ?_⟩, ?_, rfl⟩) fun z => nomatch z) rfl
  · show ((t.den : Rat)).num.natAbs < _
    simp
    exact lt2_mono (m := 4000) ht.2 (by decide)
  · show ((t.den : Rat)).den < _
    simp
  · show 0 < ((t.den : Rat)).num
    simp
    exact t.den_pos
theorem qs_last {z : List Rat} {n : Nat} (h : z.length = n + 1) : atI (qsD z) (-1) = some (qD (lastQ z)) := atI_last (by
  unfold qsD lastQ
  rw [List.getLast?_map, List.getLastD_eq_getLast?]
  cases e : z.getLast? with
  | none => rw [List.getLast?_eq_none_iff] at e; subst e; cases h
  | some x => rfl)
def pre_times_of_plans (ds : List PyData) (d : PyData) : Prop := ∃ (D : Tsk) (st : List Int) (o : Option (Option Rat × Option Rat)), ds = [tD D, .list (iD st)] ∧ Sz D ∧ D.ks.length ≤ 100 ∧ Big (joint D st) ∧ SpanJ (joint D st) o ∧ d = spanD o
theorem len_times_of_plans : ∀ ds d, pre_times_of_plans ds d → ds.length = 2 := by rintro _ _ ⟨_, _, _, rfl, _⟩; rfl
theorem ks_snoc (ks : List Bool) : ksS ks ++ ("*" : Str) = ksS (ks ++ [false]) := by
  have : ("*" : Str) = ⟨#[42]⟩ := by decide +kernel
  rw [this]
  show Str.append _ _ = _
  unfold Str.append ksS
  simp
theorem back_cs (J : Tsk) (n : Nat) (h : J.ks.length = n + 1) (hc : J.cs = unitI (n + 1) n 1) : Big J → Big (priced J (unitI (n + 1) n (-1))) := fun B => ⟨⟨by simp [priced, unitI, h], B.wl.row⟩, B.r5, B.k6, B.rs, fun a ha => by
  obtain ⟨i, _, rfl⟩ := List.mem_map.mp ha
  split
  · exact Nat.one_le_two_pow
  · exact Nat.zero_le _⟩
theorem ok_times_of_plans (T : Txt K mg) : FnOk Pg w K mg base CX0 6 (He.ga K "times_of_plans") (T.fd 38) ["task", "steps"] (spD pre_times_of_plans) := by
  refine (T.F 38 d_times_of_plans rfl).ok sc_times_of_plans (spD_len (n := 2) ?len) (fun cdv A outer s H vs Q E hr h => ?_)
  case len => exact len_times_of_plans
  refine ⟨_, PSs.nox (pss_cons (ps_set (i := 2) sc_times_of_plans.nd rfl (by first | exact Or.inl rfl | exact Or.inr rfl) (pe_lst pa_nil))
      (pss_cons (ps_for PassesOwn.never rfl (pi_z2Q (by rfl) T.n_zip (pa_cons (pe_ix (ix_seqK (K := K)) (pv 0) pe_int (fun _ _ => rfl)) (pa_cons (pv 1) pa_nil))) (pg_tupK (K := K) (n := 2) (by rfl) (pgs_cons (pg_name (i := 3) sc_times_of_plans.nd rfl (by first | exact Or.inl rfl | exact Or.inr rfl)) (pgs_cons (pg_name (i := 4) sc_times_of_plans.nd rfl (by first | exact Or.inl rfl | exact Or.inr rfl)) pgs_nil))) (pss_one (ps_expr (pe_bm PySem.F.plainAttrs_list PySem.F.slot_list_append PySem.F.type_list_append mt_append (pv 2) (pa_cons (pe_tup (pa_cons (pe_tup (StX.pa_star (pe_ix (ix_seqK (K := K)) (pv 3) pe_int (fun _ _ => rfl)) (pa_cons (pe_un un_neg (pv 4)) pa_nil))) (pa_cons (pe_ix (ix_seqK (K := K)) (pv 3) pe_int (fun _ _ => rfl)) (pa_cons (pe_ix (ix_seqK (K := K)) (pv 3) pe_int (fun _ _ => rfl)) pa_nil)))) pa_nil)))))
      (pss_cons (ps_set (i := 5) sc_times_of_plans.nd rfl (by first | exact Or.inl rfl | exact Or.inr rfl) (pe_op op_add (pe_callB call_len (by rfl) T.n_len PySem.boot_len (pa_cons (pe_ix (ix_seqK (K := K)) (pv 0) pe_int (fun _ _ => rfl)) pa_nil)) pe_int))
      (pss_cons (ps_set (i := 6) sc_times_of_plans.nd rfl (by first | exact Or.inl rfl | exact Or.inr rfl) (pe_tup (pa_cons (pe_op op_add_str (pe_ix (ix_seqK (K := K)) (pv 0) pe_int (fun _ _ => rfl)) pe_str) (pa_cons (pe_call (ok_unit T) (hr.mono (show 1 ≤ _ by decide)) (by rfl) T.g_unit (T.F 34 d_unit rfl).kp (b_unit T) .nil pass0 (pa_cons (pv 5) (pa_cons (pe_op op_sub (pv 5) pe_int) (pa_cons pe_int pa_nil)))) (pa_cons (pe_callTy call_tuple_of (by rfl) T.n_tuple (by decide +kernel) (pa_cons (pv 2) pa_nil)) pa_nil)))))
      (pss_cons (ps_set (i := 7) sc_times_of_plans.nd rfl (by first | exact Or.inl rfl | exact Or.inr rfl) (pe_call (ok_solved T) (hr.mono (show 5 ≤ _ by decide)) (by rfl) T.g_solved (T.F 27 d_solved rfl).kp (b_solved T) .nil pass0 (pa_cons (pv 6) pa_nil)))
      (pss_cons (ps_if (pt_cmpR (op_eqDK (K := K) hr.units) (pe_ix (ix_seqK (K := K)) (pv 7) pe_int (fun _ _ => rfl)) pe_str (nomark _)) (pss_one (ps_ret pe_non)) pss_nil)
      (pss_cons (ps_set (i := 8) sc_times_of_plans.nd rfl (by first | exact Or.inl rfl | exact Or.inr rfl) (pe_ifExp (pt_cmpR (op_eqDK (K := K) hr.units) (pe_ix (ix_seqK (K := K)) (pv 7) pe_int (fun _ _ => rfl)) pe_str (nomark _)) (pe_ix (ix_seqK (K := K)) (pe_ix (ix_seqK (K := K)) (pv 7) pe_int (fun _ _ => rfl)) (pe_un un_neg pe_int) (fun _ _ => rfl)) pe_non))
      (pss_cons (ps_set (i := 9) sc_times_of_plans.nd rfl (by first | exact Or.inl rfl | exact Or.inr rfl) (pe_call (ok_solved T) (hr.mono (show 5 ≤ _ by decide)) (by rfl) T.g_solved (T.F 27 d_solved rfl).kp (b_solved T) .nil pass0 (pa_cons (pe_call (ok_priced T) (hr.mono (show 1 ≤ _ by decide)) (by rfl) T.g_priced (T.F 33 d_priced rfl).kp (b_priced T) .nil pass0 (pa_cons (pv 6) (pa_cons (pe_call (ok_unit T) (hr.mono (show 1 ≤ _ by decide)) (by rfl) T.g_unit (T.F 34 d_unit rfl).kp (b_unit T) .nil pass0 (pa_cons (pv 5) (pa_cons (pe_op op_sub (pv 5) pe_int) (pa_cons (pe_un un_neg pe_int) pa_nil)))) pa_nil))) pa_nil)))
      (pss_one (ps_ret (pe_tup (pa_cons (pv 8) (pa_cons (pe_ifExp (pt_cmpR (op_eqDK (K := K) hr.units) (pe_ix (ix_seqK (K := K)) (pv 9) pe_int (fun _ _ => rfl)) pe_str (nomark _)) (pe_ix (ix_seqK (K := K)) (pe_ix (ix_seqK (K := K)) (pv 9) pe_int (fun _ _ => rfl)) (pe_un un_neg pe_int) (fun _ _ => rfl)) pe_non) pa_nil))))))))))))), ?_⟩
  refine body_pure (K := K) (C := gC K) h (fun ds d hp => by rw [len_times_of_plans ds d hp]; decide) (fun ds d hp F0 H0 => ?_)
  obtain ⟨D, st, o, rfl, hz, h100, hB, ho, rfl⟩ := hp
  show Sd _ _ [.d (tD D), .d (.list (iD st)), .no, .no, .no, .no, .no, .no, .no, .no] _ _
  have z3 := hz.rows
  refine s_seq (M := fun P' => ∃ a, P' = [.d (tD D), .d (.list (iD st)), .own a [], .no, .no, .no, .no, .no, .no, .no]) (s_nilOwn a_nil (by simp) (by simp) fun a => ⟨a, rfl⟩) ?_
  rintro _ ⟨a, rfl⟩
  have hJr : (joint D st).rows.map rwD = (D.rows.zip st).map fun p => rwD ⟨p.1.cs ++ [-p.2], p.1.sn, p.1.rt⟩ := by
    unfold joint
    rw [List.map_zipWith, List.zip, List.map_zipWith]
  refine s_seq (M := fun P' => ∃ a u v, P' = [.d (tD D), .d (.list (iD st)), .own a ((joint D st).rows.map rwD), u, v, .no, .no, .no, .no, .no]) (s_for (ds := z2D (D.rows.map rwD) (iD st)) (i_z2 (a_cons (g_op (g_var rfl) g_int (o_ixqT atT2)) (a_cons (g_var rfl) a_nil)) its_t its_l)
    (fun i P' => ∃ a u v, P' = [.d (tD D), .d (.list (iD st)), .own a (((D.rows.zip st).take i).map fun p => rwD ⟨p.1.cs ++ [-p.2], p.1.sn, p.1.rt⟩), u, v, .no, .no, .no, .no, .no]) ⟨a, _, _, rfl⟩ ?_ ?_) ?_
  · rintro i d P2 hd ⟨a, u, v, rfl⟩
    rw [show iD st = st.map PyData.int from rfl, z2_map, List.getElem?_map] at hd
    cases e : (D.rows.zip st)[i]? with
    | none => rw [e] at hd; cases hd
    | some p =>
      rw [e] at hd
      cases hd
      have hm := List.mem_of_getElem? e
      have hrl := hz.row p.1 (List.of_mem_zip hm).1
      have hl : (((D.rows.zip st).take i).map fun p => rwD ⟨p.1.cs ++ [-p.2], p.1.sn, p.1.rt⟩).length ≤ 10000 := by
        simp; omega
      have et : ((D.rows.zip st).take (i + 1)).map (fun p => rwD ⟨p.1.cs ++ [-p.2], p.1.sn, p.1.rt⟩) = ((D.rows.zip st).take i).map (fun p => rwD ⟨p.1.cs ++ [-p.2], p.1.sn, p.1.rt⟩) ++ [rwD ⟨p.1.cs ++ [-p.2], p.1.sn, p.1.rt⟩] := by
        rw [List.take_add_one, e]; simp
      rw [et]
      generalize (((D.rows.zip st).take i).map fun p => rwD ⟨p.1.cs ++ [-p.2], p.1.sn, p.1.rt⟩) = done at hl ⊢
      refine ⟨_, [.d (tD D), .d (.list (iD st)), .own a done, .d (rwD p.1), .d (.int p.2), .no, .no, .no, .no, .no], d_tup (ds_cons (d_name (by simp)) (ds_cons (d_name (by simp)) ds_nil)) rfl, ?_⟩
      refine s_append (d := rwD ⟨p.1.cs ++ [-p.2], p.1.sn, p.1.rt⟩) rfl ((g_tup (a_cons (g_tup (a_star (.inl (g_op (g_var rfl) g_int (o_ixqT atT0))) (a_cons (g_un (g_var rfl) o_neg) a_nil)) (by rw [List.length_append, iD_len]; simp; omega)) (a_cons (g_op (g_var rfl) g_int (o_ixqT atT1)) (a_cons (g_op (g_var rfl) g_int (o_ixqT atT2)) a_nil))) (by simp)).eq ?_) rfl hl ⟨a, .d (rwD p.1), .d (.int p.2), rfl⟩
      unfold rwD
      rw [iD_app]; rfl
  · rintro _ ⟨a, u, v, rfl⟩
    refine ⟨a, u, v, ?_⟩
    have : (z2D (D.rows.map rwD) (iD st)).length = (D.rows.zip st).length := by simp [z2D_len, iD]
    rw [this, List.take_length, hJr]
  rintro _ ⟨a, u, v, rfl⟩
  have hzk := hz.ks
  refine s_seq1 (P' := [.d (tD D), .d (.list (iD st)), .own a ((joint D st).rows.map rwD), u, v, .d (.int (D.ks.length + 1 : Nat)), .no, .no, .no, .no]) (s_set ((g_op (g_cb (a_cons (g_op (g_var rfl) g_int (o_ixqT atT0)) a_nil) (b_lenS (by rw [ks_len]; omega))) g_int o_add).eq (by rw [ks_len]; rfl)) (by simp) rfl) ?_
  have hcatl : (ksS D.ks).length + ("*" : Str).length ≤ 10000 := by
    have : ("*" : Str).length = 1 := by decide +kernel
    rw [this, ks_len]; omega
  have e1 : (((D.ks.length + 1 : Nat) : Int) - 1) = ((D.ks.length : Nat) : Int) := by omega
  refine s_seq1 (P' := [.d (tD D), .d (.list (iD st)), .d (.list ((joint D st).rows.map rwD)), u, v, .d (.int (D.ks.length + 1 : Nat)), .d (tD (joint D st)), .no, .no, .no]) ?_ ?_
  · refine s_set ((g_tup (a_cons (g_op (g_op (g_var rfl) g_int (o_ixqT atT0)) g_str (o_cats (i := ksS D.ks) hcatl)) (a_cons (g_call (a_cons (g_var rfl) (a_cons ((g_op (g_var rfl) g_int o_sub).eq (by rw [e1])) (a_cons g_int a_nil))) ⟨D.ks.length + 1, D.ks.length, 1, rfl, by omega, rfl⟩) (a_cons (g_cb (a_cons (g_own rfl) a_nil) b_tuple) a_nil))) (by simp)).eq ?_) (by simp) rfl
    unfold tD
    rw [ks_snoc]; rfl
  have hJk : (joint D st).ks.length = D.ks.length + 1 := by simp [joint]
  have hB2 := back_cs (joint D st) D.ks.length hJk rfl hB
  obtain ⟨d1, hd1⟩ := solv_ex hB.wl
  obtain ⟨d2, hd2⟩ := solv_ex hB2.wl
  refine s_seq1 (P' := [.d (tD D), .d (.list (iD st)), .d (.list ((joint D st).rows.map rwD)), u, v, .d (.int (D.ks.length + 1 : Nat)), .d (tD (joint D st)), .d d1, .no, .no]) (s_set (g_call (a_cons (g_var rfl) a_nil) ⟨_, rfl, hB, hd1⟩) (by simp) rfl) ?_
  -- what the two ends tell
  have c1 : ∀ z, Plan (joint D st) z → dotR (joint D st).cs z = lastQ z := fun z hz => by
    have := unit_last (n := D.ks.length) (sg := 1) (z := z) (by rw [hz.pos.len, hJk])
    show dotR (unitI (D.ks.length + 1) D.ks.length 1) z = _
    rw [this]
    have h1 : ((1 : Int) : Rat) = 1 := rfl
    rw [h1]; grind
  have c2 : ∀ z, Plan (joint D st) z → dotR (unitI (D.ks.length + 1) D.ks.length (-1)) z = - lastQ z := fun z hz => by
    have := unit_last (n := D.ks.length) (sg := -1) (z := z) (by rw [hz.pos.len, hJk])
    rw [this]
    have h1 : ((-1 : Int) : Rat) = -1 := rfl
    rw [h1]; grind
  have pp : ∀ z, Plan (priced (joint D st) (unitI (D.ks.length + 1) D.ks.length (-1))) z ↔ Plan (joint D st) z := fun z => ⟨fun h => ⟨h.pos, h.rows⟩, fun h => ⟨h.pos, h.rows⟩⟩
  rcases solv_f hB.wl hd1 with ⟨z, rfl, hno⟩ | hyes
  · have : o = none := by
      cases o with
      | none => rfl
      | some lh => exact absurd ho.1 hno
    subst this
    exact s_seq (M := fun _ => False) (s_if (b := true) ((t_cmp (g_op (g_op (g_var rfl) g_int (o_ixqT atT0)) g_str (o_eq (by decide +kernel) (by decide +kernel)))).eq e_nn) (fun _ => s_ret g_non rfl) fun z => nomatch z) fun _ z => z.elim
  · have key : ∃ l : Option Rat, LowJ (joint D st) l ∧ (∃ z, Plan (joint D st) z) ∧ (∀ c : Bc, c.K = K → ∀ P : List Sl, P[7]? = some (.d d1) → TTg c (tTest (tOp (rEqD K) (tOp (rIx K) (tVar 7) (tC (.int 0))) (tC (.str ("none" : Str))))) P false P ∧ TEg c (tIf (tTest (tOp (rEqD K) (tOp (rIx K) (tVar 7) (tC (.int 0))) (tC (.str ("best" : Str))))) (tOp (rIx K) (tOp (rIx K) (tVar 7) (tC (.int 1))) (tUn (rU fun i => .int (-i)) (tC (.int 1)))) (tC .non)) P (oD l) P) := by
      rcases hyes with ⟨x, z, rfl, px, hx, _⟩ | ⟨x, z, rfl, px, hx⟩
      · refine ⟨some (lastQ x), ⟨⟨x, px, rfl⟩, fun y py => by have := hx y py; rw [c1 x px, c1 y py] at this; exact this⟩, ⟨x, px⟩, fun c hc P h7 => ⟨(t_cmp (g_op (g_op (g_var h7) g_int (o_ixqT atT0)) g_str (o_eq (by decide +kernel) (by decide +kernel)))).eq e_bn, g_if (b := true) ((t_cmp (g_op (g_op (g_var h7) g_int (o_ixqT atT0)) g_str (o_eq (by decide +kernel) (by decide +kernel)))).eq e_bb) (fun _ => g_op (g_op (g_var h7) g_int (o_ixqT atT1)) (g_un g_int o_neg) (o_ixqT (qs_last (n := D.ks.length) (by rw [px.pos.len, hJk])))) fun z => nomatch z⟩⟩
      · refine ⟨none, fun b => ?_, ⟨x, px⟩, fun c hc P h7 => ⟨(t_cmp (g_op (g_op (g_var h7) g_int (o_ixqT atT0)) g_str (o_eq (by decide +kernel) (by decide +kernel)))).eq e_en, g_if (b := false) ((t_cmp (g_op (g_op (g_var h7) g_int (o_ixqT atT0)) g_str (o_eq (by decide +kernel) (by decide +kernel)))).eq e_eb) (fun z => nomatch z) fun _ => g_non⟩⟩
        obtain ⟨y, py, lt⟩ := hx b
        exact ⟨y, py, by rw [← c1 y py]; exact lt⟩
    obtain ⟨l, hl, hex, hrd⟩ := key
    have key2 : ∃ h : Option Rat, HighJ (joint D st) h ∧ (∀ c : Bc, c.K = K → ∀ P : List Sl, P[9]? = some (.d d2) → TEg c (tIf (tTest (tOp (rEqD K) (tOp (rIx K) (tVar 9) (tC (.int 0))) (tC (.str ("best" : Str))))) (tOp (rIx K) (tOp (rIx K) (tVar 9) (tC (.int 1))) (tUn (rU fun i => .int (-i)) (tC (.int 1)))) (tC .non)) P (oD h) P) := by
      rcases solv_f hB2.wl hd2 with ⟨z, rfl, hno⟩ | ⟨x, z, rfl, px, hx, _⟩ | ⟨x, z, rfl, px, hx⟩
      · obtain ⟨y, py⟩ := hex
        exact absurd ⟨y, (pp y).mpr py⟩ hno
      · have px' := (pp x).mp px
        refine ⟨some (lastQ x), ⟨⟨x, px', rfl⟩, fun y py => ?_⟩, fun c hc P h7 => g_if (b := true) ((t_cmp (g_op (g_op (g_var h7) g_int (o_ixqT atT0)) g_str (o_eq (by decide +kernel) (by decide +kernel)))).eq e_bb) (fun _ => g_op (g_op (g_var h7) g_int (o_ixqT atT1)) (g_un g_int o_neg) (o_ixqT (qs_last (n := D.ks.length) (by rw [px'.pos.len, hJk])))) fun z => nomatch z⟩
        have : dotR (unitI (D.ks.length + 1) D.ks.length (-1)) x ≤ dotR (unitI (D.ks.length + 1) D.ks.length (-1)) y := hx y ((pp y).mpr py)
        rw [c2 x px', c2 y py] at this
        grind
      · refine ⟨none, fun b => ?_, fun c hc P h7 => g_if (b := false) ((t_cmp (g_op (g_op (g_var h7) g_int (o_ixqT atT0)) g_str (o_eq (by decide +kernel) (by decide +kernel)))).eq e_eb) (fun z => nomatch z) fun _ => g_non⟩
        obtain ⟨y, py, lt⟩ := hx (-b)
        have py' := (pp y).mp py
        have lt : dotR (unitI (D.ks.length + 1) D.ks.length (-1)) y < -b := lt
        rw [c2 y py'] at lt
        exact ⟨y, py', by grind⟩
    obtain ⟨h, hh, hrd2⟩ := key2
    have : o = some (l, h) := by
      cases o with
      | none => exact absurd hex ho
      | some lh =>
        obtain ⟨l', h'⟩ := lh
        obtain ⟨_, q1, q2⟩ := ho
        rw [low_one q1 hl, high_one q2 hh]
    subst this
    refine s_seq1 (P' := [.d (tD D), .d (.list (iD st)), .d (.list ((joint D st).rows.map rwD)), u, v, .d (.int (D.ks.length + 1 : Nat)), .d (tD (joint D st)), .d d1, .no, .no]) (s_if (b := false) (hrd _ rfl _ rfl).1 (fun z => nomatch z) fun _ => s_next rfl) ?_
    refine s_seq1 (P' := [.d (tD D), .d (.list (iD st)), .d (.list ((joint D st).rows.map rwD)), u, v, .d (.int (D.ks.length + 1 : Nat)), .d (tD (joint D st)), .d d1, .d (oD l), .no]) (s_set (hrd _ rfl _ rfl).2 (by simp) rfl) ?_
    refine s_seq1 (P' := [.d (tD D), .d (.list (iD st)), .d (.list ((joint D st).rows.map rwD)), u, v, .d (.int (D.ks.length + 1 : Nat)), .d (tD (joint D st)), .d d1, .d (oD l), .d d2]) (s_set (g_call (a_cons (g_call (a_cons (g_var rfl) (a_cons (g_call (a_cons (g_var rfl) (a_cons ((g_op (g_var rfl) g_int o_sub).eq (by rw [e1])) (a_cons (g_un g_int o_neg) a_nil))) ⟨D.ks.length + 1, D.ks.length, -1, rfl, by omega, rfl⟩) a_nil)) ⟨joint D st, _, .inl rfl, rfl⟩) a_nil) ⟨_, rfl, hB2, hd2⟩) (by simp) rfl) ?_
    exact s_ret (g_tup (a_cons (g_var rfl) (a_cons (hrd2 _ rfl _ rfl) a_nil)) (by simp)) rfl
end
end Cp
end
/-! ## CSz -/
section
set_option Elab.async false
set_option linter.all false
set_option autoImplicit false
set_option maxRecDepth 100000
set_option maxHeartbeats 4000000
set_option exponentiation.threshold 100000
/-! sizes along a line -/
namespace Cp
variable [KFix]
open PySem PySem.Spec PyProof.Rows L2
structure Pr (P : Tsk) (s : List Int) : Prop where
  wl : Wl P
  pn : Pn P
  k3 : P.ks.length ≤ 3
  r4 : P.rows.length ≤ 4
  rs : Rsz P 64
  cs : ∀ a, a ∈ P.cs → a.natAbs ≤ 64
  sl : P.cs.length = s.length
  ss : ∀ a, a ∈ s → a.natAbs ≤ 64
theorem detB_64 {m : Nat} (hm : m ≤ 4) : (detB m fun _ => 64) ≤ 2 ^ 31 := by
  refine Nat.le_trans (detB_le (by decide) (by omega)) ?_
  have h1 : 64 ^ m ≤ 64 ^ 4 := Nat.pow_le_pow_right (by decide) hm
  calc 120 * 64 ^ m ≤ 2 ^ 7 * 64 ^ 4 := Nat.mul_le_mul (by decide) h1
    _ = 2 ^ 31 := by decide
theorem dot_frac {B C d : Nat} (hd : 0 < d) : ∀ {c : List Int} {x : List Rat}, (∀ v, v ∈ x → ∃ p : Int, p.natAbs ≤ 2 * B ∧ v = (p : Rat) / (d : Rat)) → (∀ a, a ∈ c → a.natAbs ≤ C) → ∃ N : Int, N.natAbs ≤ c.length * (C * (2 * B)) ∧ dotR c x = (N : Rat) / (d : Rat)
  | [], x, _, _ => ⟨0, by simp, by cases x <;> simp [dotR, Rat.div_def]⟩
  | c :: cs, [], _, _ => ⟨0, by simp, by simp [dotR, Rat.div_def]⟩
  | c :: cs, x :: xs, hx, hc => by
    obtain ⟨N, h1, h2⟩ := dot_frac hd (c := cs) (x := xs) (fun v hv => hx v (List.mem_cons_of_mem _ hv)) fun a ha => hc a (List.mem_cons_of_mem _ ha)
    obtain ⟨p, h3, rfl⟩ := hx x List.mem_cons_self
    have h4 := hc c List.mem_cons_self
    refine ⟨c * p + N, ?_, ?_⟩
    · have h5 : (c * p).natAbs ≤ C * (2 * B) := by rw [Int.natAbs_mul]; exact Nat.mul_le_mul h4 h3
      have h6 := Int.natAbs_add_le (c * p) N
      rw [List.length_cons, Nat.add_mul]; omega
    · show (c : Rat) * ((p : Rat) / (d : Rat)) + dotR cs xs = _
      rw [h2, Rat.intCast_add, Rat.intCast_mul, Rat.div_def, Rat.div_def, Rat.div_def]; grind
theorem dot_qb {B C k : Nat} {c : List Int} {x : List Rat} (h : Box B x) (hc : ∀ a, a ∈ c → a.natAbs ≤ C) (h1 : c.length * (C * (2 * B)) < 2 ^ k) (h2 : B < 2 ^ k) : qb k (dotR c x) := by
  obtain ⟨d, h0, h3, h4⟩ := h
  obtain ⟨N, h5, h6⟩ := dot_frac h0 h4 hc
  rw [h6, ← Rat.intCast_natCast]
  exact qb_ratio (by omega) (by omega) (by rw [Int.natAbs_natCast]; omega)
theorem qb_sub {k : Nat} {x y : Rat} (hx : qb k x) (hy : qb k y) : qb (2 * k + 1) (x - y) := by
  rw [sub_as]
  have a := mul_bits hx.1 (den_bits hy)
  have b := mul_bits hy.1 (den_bits hx)
  refine qb_ratio (Int.mul_pos (den_pos x) (den_pos y)) ?_ ?_
  · exact lt2_mono (sub_bits a b) (by omega)
  · exact lt2_mono (mul_bits (den_bits hx) (den_bits hy)) (by omega)
theorem qb_neg {k : Nat} {x : Rat} (h : qb k x) : qb k (-x) := ⟨by rw [Rat.neg_num, Int.natAbs_neg]; exact h.1, by rw [Rat.neg_den]; exact h.2⟩
theorem num_pos' {y : Rat} (h : 0 < y) : 0 < y.num := by
  have h1 : 0 ≤ y.num := Rat.num_nonneg.mpr (Rat.le_of_lt h)
  have h2 : y.num ≠ 0 := fun z => by
    have := Rat.num_eq_zero.mp z
    rw [this] at h; grind
  omega
theorem qb_div {k : Nat} {x y : Rat} (hx : qb k x) (hy : qb k y) (h : 0 < y) : qb (2 * k) (x / y) := by
  rw [div_as x y (num_pos' h)]
  refine qb_ratio (Int.mul_pos (den_pos x) (num_pos' h)) ?_ ?_
  · exact lt2_mono (mul_bits hx.1 (den_bits hy)) (by omega)
  · exact lt2_mono (mul_bits (den_bits hx) hy.1) (by omega)
section
variable {P : Tsk} {s : List Int}
theorem Pr.fan (h : Pr P s) (hp : ∃ x, Plan P x) : Fan (XT P s) ((boxL (detB P.rows.length fun _ => 64) P.ks.length).map (lnOf P s)) (cdT P s) :=
  fan_of h.wl h.pn h.sl hp (by have := h.k3; have := h.r4; omega) (by decide) h.rs
theorem Pr.kc (h : Pr P s) : P.cs.length ≤ 3 := by rw [h.wl.cs]; exact h.k3
theorem es_box (h : Pr P s) {v : Ln} (hv : Es (XT P s) v) : ∃ x, Box (detB P.rows.length fun _ => 64) x ∧ Plan P x ∧ v = lnOf P s x := by
  obtain ⟨t1, t2, lt, m1, m2⟩ := hv
  have hm := mn_conv m1 m2 (t := (t1 + t2) / 2) (by grind) (by grind)
  obtain ⟨x, y, px, ex, bx, _⟩ := best_box (P := Tmv P s ((t1 + t2) / 2)) (mv_wl h.wl h.sl _) h.pn (by decide) h.rs (best_mv h.sl hm)
  have px' := mv_plan.mp px
  refine ⟨x, bx, px', ?_⟩
  rw [dot_mv h.sl] at ex
  have dp := den_pos' ((t1 + t2) / 2)
  have e : at_ (lnOf P s x) ((t1 + t2) / 2) = at_ v ((t1 + t2) / 2) := by
    have h2 : (((t1 + t2) / 2).den : Rat) * (at_ (lnOf P s x) ((t1 + t2) / 2) - at_ v ((t1 + t2) / 2)) = 0 := by grind
    rcases Rat.mul_eq_zero.mp h2 with z | z <;> grind
  have a1 := m1.2 _ ⟨x, px', rfl⟩
  have a2 := m2.2 _ ⟨x, px', rfl⟩
  unfold at_ at e a1 a2
  have h3 : (t2 - t1) * ((lnOf P s x).2 - v.2) = 0 := by
    have b1 : 0 ≤ (t2 - t1) * ((lnOf P s x).2 - v.2) := by grind
    have b2 : (t2 - t1) * ((lnOf P s x).2 - v.2) ≤ 0 := by grind
    exact Rat.le_antisymm b2 b1
  have h4 : v.2 = (lnOf P s x).2 := by
    rcases Rat.mul_eq_zero.mp h3 with z | z <;> grind
  exact Prod.ext (by grind) h4
theorem es_qb (h : Pr P s) {v : Ln} (hv : Es (XT P s) v) : qb 40 v.1 ∧ qb 40 v.2 := by
  obtain ⟨x, bx, _, rfl⟩ := es_box h hv
  have D := detB_64 h.r4
  have k := h.kc
  have e1 : (3 : Nat) * (64 * (2 * 2 ^ 31)) < 2 ^ 40 := by decide
  refine ⟨dot_qb bx h.cs (Nat.lt_of_le_of_lt (Nat.mul_le_mul k (Nat.mul_le_mul_left _ (Nat.mul_le_mul_left _ D))) e1) (lt_of_le2 D (by decide)), dot_qb bx h.ss (Nat.lt_of_le_of_lt (Nat.mul_le_mul (by rw [← h.sl]; exact k) (Nat.mul_le_mul_left _ (Nat.mul_le_mul_left _ D))) e1) (lt_of_le2 D (by decide))⟩
theorem cross_eq (v w : Ln) : cross v w = (w.1 - v.1) / (v.2 - w.2) := by
  unfold cross
  by_cases h : v.2 - w.2 = 0
  · have : w.2 - v.2 = 0 := by grind
    rw [h, this]; simp [Rat.div_def]
  · have : w.2 - v.2 ≠ 0 := by grind
    grind
theorem cross_qb (h : Pr P s) {v w : Ln} (hv : Es (XT P s) v) (hw : Es (XT P s) w) (lt : w.2 < v.2) : qb 162 (cross v w) := by
  obtain ⟨a1, a2⟩ := es_qb h hv
  obtain ⟨b1, b2⟩ := es_qb h hw
  rw [cross_eq]
  exact qb_div (qb_sub b1 a1) (qb_sub a2 b2) (by grind)
/-- times that the program sees -/
theorem mix_le (h : Pr P s) {t : Rat} (ht : qb 162 t) : ∀ a, a ∈ mixC t.den t.num P.cs s → a.natAbs ≤ 2 ^ 169 := fun a ha => by
  obtain ⟨i, hi, e⟩ := List.getElem_of_mem ha
  have hl : P.cs.length = s.length := h.sl
  have e2 := mix_get (q := t.den) (p := t.num) hl i
  unfold List.getD at e2
  rw [List.getElem?_eq_getElem hi] at e2
  have e3 : (mixC t.den t.num P.cs s)[i] = P.cs.getD i 0 * t.den + s.getD i 0 * t.num := e2
  rw [e] at e3
  rw [e3]
  have c1 := getD_le h.cs i
  have c2 := getD_le h.ss i
  have b1 := den_bits ht
  have b2 := ht.1
  have m1 : (P.cs.getD i 0 * (t.den : Int)).natAbs ≤ 64 * 2 ^ 162 := by rw [Int.natAbs_mul]; exact Nat.mul_le_mul c1 (Nat.le_of_lt b1)
  have m2 : (s.getD i 0 * t.num).natAbs ≤ 64 * 2 ^ 162 := by rw [Int.natAbs_mul]; exact Nat.mul_le_mul c2 (Nat.le_of_lt b2)
  have m3 := Int.natAbs_add_le (P.cs.getD i 0 * (t.den : Int)) (s.getD i 0 * t.num)
  have e4 : 2 ^ 169 = 64 * 2 ^ 162 + 64 * 2 ^ 162 := by decide
  omega
theorem best_qb (h : Pr P s) {t : Rat} (ht : qb 162 t) {v : Rat} (hv : BestV (Tmv P s t) v) : qb 205 v ∧ v.den ≤ 2 ^ 31 := by
  obtain ⟨x, y, px, ex, bx, _⟩ := best_box (P := Tmv P s t) (mv_wl h.wl h.sl _) h.pn (by decide) h.rs hv
  have D := detB_64 h.r4
  have k := h.kc
  have hl : (mixC t.den t.num P.cs s).length ≤ 3 := by
    unfold mixC; rw [List.length_zipWith]; omega
  obtain ⟨d, h0, h3, h4⟩ := bx
  obtain ⟨N, h5, h6⟩ := dot_frac h0 h4 (mix_le h ht)
  have ex : dotR (mixC t.den t.num P.cs s) x = v := ex
  rw [ex] at h6
  have e1 : (3 : Nat) * (2 ^ 169 * (2 * 2 ^ 31)) < 2 ^ 205 := by decide
  have hN : N.natAbs < 2 ^ 205 := Nat.lt_of_le_of_lt (Nat.le_trans h5 (Nat.mul_le_mul hl (Nat.mul_le_mul_left _ (Nat.mul_le_mul_left _ D)))) e1
  have h3' : d ≤ 2 ^ 31 := Nat.le_trans h3 D
  rw [← Rat.intCast_natCast] at h6
  have hd : (0 : Int) < (d : Int) := by omega
  refine ⟨by rw [h6]; exact qb_ratio hd hN (by rw [Int.natAbs_natCast]; exact Nat.lt_of_le_of_lt h3' (by decide)), ?_⟩
  have := den_of (t := N) hd
  rw [← h6] at this
  have h7 : ((v.den : Nat) : Int).natAbs = ((d : Int) / (Int.gcd N (d : Int) : Int)).natAbs := by rw [this]
  rw [Int.natAbs_natCast] at h7
  have h8 := Int.natAbs_ediv_le_natAbs (d : Int) (Int.gcd N (d : Int) : Int)
  rw [Int.natAbs_natCast] at h8
  omega
theorem le64 {a : Nat} (h : a ≤ 64) : a ≤ 2 ^ 212 := Nat.le_trans h (by decide)
theorem Pr.rs' (h : Pr P s) : Rsz P (2 ^ 212) := fun r hr => ⟨fun a ha => le64 ((h.rs r hr).1 a ha), le64 (h.rs r hr).2⟩
theorem Pr.big (h : Pr P s) : Big P := ⟨h.wl, by have := h.r4; omega, by have := h.k3; omega, h.rs', fun a ha => le64 (h.cs a ha)⟩
theorem Pr.bigC (h : Pr P s) {c : List Int} (hc : c.length = P.cs.length) (hb : ∀ a, a ∈ c → a.natAbs ≤ 2 ^ 212) : Big (priced P c) := ⟨⟨by rw [show (priced P c).cs = c from rfl, hc, h.wl.cs]; rfl, h.wl.row⟩, by have := h.r4; exact (by omega : P.rows.length ≤ 5), by have := h.k3; exact (by omega : P.ks.length ≤ 6), h.rs', hb⟩
theorem Pr.bigM (h : Pr P s) {t : Rat} (ht : qb 162 t) : Big (Tmv P s t) := ⟨mv_wl h.wl h.sl t, by have := h.r4; exact (by omega : P.rows.length ≤ 5), by have := h.k3; exact (by omega : P.ks.length ≤ 6), h.rs', fun a ha => Nat.le_trans (mix_le h ht a ha) (by decide)⟩
/-- one row more, and other costs -/
theorem bigK {D : Tsk} {c : List Int} {v : Rat} (hw : Wl D) (hr : D.rows.length ≤ 4) (hk : D.ks.length ≤ 6) (hs : Rsz D (2 ^ 212)) (hcs : ∀ a, a ∈ D.cs → (a * (v.den : Int)).natAbs ≤ 2 ^ 212) (hv : v.num.natAbs ≤ 2 ^ 212) (hc : c.length = D.cs.length) (hb : ∀ a, a ∈ c → a.natAbs ≤ 2 ^ 212) : Big (priced (kept D v) c) := by
  refine ⟨⟨by rw [show (priced (kept D v) c).cs = c from rfl, hc, hw.cs]; rfl, fun r hr => ?_⟩, ?_, hk, fun r hr => ?_, hb⟩
  · rcases List.mem_append.mp hr with z | z
    · exact hw.row r z
    · rw [List.mem_singleton] at z
      subst z
      show (D.cs.map _).length = _
      rw [List.length_map]; exact hw.cs
  · show (D.rows ++ [_]).length ≤ 5
    rw [List.length_append]; simp; omega
  · rcases List.mem_append.mp hr with z | z
    · exact hs r z
    · rw [List.mem_singleton] at z
      subst z
      refine ⟨fun a ha => ?_, hv⟩
      obtain ⟨b, hb, rfl⟩ := List.mem_map.mp ha
      exact hcs b hb
theorem Pr.bigF (h : Pr P s) {t : Rat} (ht : qb 162 t) {v : Rat} (hv : BestV (Tmv P s t) v) {c : List Int} (hc : c.length = P.cs.length) (hb : ∀ a, a ∈ c → a.natAbs ≤ 64) : Big (priced (kept (Tmv P s t) v) c) := by
  obtain ⟨q1, q2⟩ := best_qb h ht hv
  have hw := mv_wl h.wl h.sl t
  refine bigK hw (by have := h.r4; exact this) (by have := h.k3; exact (by omega : P.ks.length ≤ 6)) h.rs' (fun a ha => ?_) ?_ (by rw [hc, hw.cs, h.wl.cs]; rfl) fun a ha => le64 (hb a ha)
  · have := mix_le h ht a ha
    rw [Int.natAbs_mul, Int.natAbs_natCast]
    refine Nat.le_trans (Nat.mul_le_mul this q2) (by decide)
  · exact Nat.le_trans (Nat.le_of_lt q1.1) (by decide)
theorem Pr.bigE (h : Pr P s) {v : Rat} (hv : qb 40 v) {c : List Int} (hc : c.length = P.cs.length) (hb : ∀ a, a ∈ c → a.natAbs ≤ 64) : Big (priced (kept (priced P c) v) P.cs) := by
  have hw : Wl (priced P c) := ⟨by rw [show (priced P c).cs = c from rfl, hc, h.wl.cs]; rfl, h.wl.row⟩
  refine bigK hw h.r4 (by have := h.k3; exact (by omega : P.ks.length ≤ 6)) h.rs' (fun a ha => ?_) (Nat.le_trans (Nat.le_of_lt hv.1) (by decide)) (by rw [show (priced P c).cs = c from rfl, hc]) fun a ha => le64 (h.cs a ha)
  have h1 := hb a ha
  rw [Int.natAbs_mul, Int.natAbs_natCast]
  exact Nat.le_trans (Nat.mul_le_mul h1 (Nat.le_of_lt hv.2)) (by decide)
theorem other_rsz {Q : Tsk} {E C : Nat} (hr : Rsz Q E) (hc : ∀ a, a ∈ Q.cs → a.natAbs ≤ C) (h : E ≤ C) : Rsz (other Q) C := fun r hr' => by
  obtain ⟨j, _, rfl⟩ := List.mem_map.mp hr'
  refine ⟨fun a ha => ?_, ?_⟩
  · obtain ⟨q, hq, rfl⟩ := List.mem_map.mp ha
    rw [Int.natAbs_neg]
    exact Nat.le_trans (getD_le (hr q hq).1 j) h
  · show (-(Q.cs.getD j 0)).natAbs ≤ C
    rw [Int.natAbs_neg]
    exact getD_le hc j
theorem Pr.bigO (h : Pr P s) {t : Rat} (ht : qb 162 t) : Big (other (Tmv P s t)) := by
  have hw := mv_wl h.wl h.sl t
  refine ⟨other_wl hw, ?_, ?_, other_rsz h.rs' (fun a ha => Nat.le_trans (mix_le h ht a ha) (by decide)) (Nat.le_refl _), fun a ha => ?_⟩
  · show ((List.range P.ks.length).map _).length ≤ 5
    have := h.k3
    simp; omega
  · show (P.rows.map _).length ≤ 6
    have := h.r4
    simp; omega
  · obtain ⟨r, hr, rfl⟩ := List.mem_map.mp ha
    rw [Int.natAbs_neg]; exact le64 (h.rs r hr).2
theorem Pr.oth (h : Pr P s) : Wl (other P) ∧ Sz (other P) ∧ Rsz (other P) 64 ∧ (∀ a, a ∈ (other P).cs → a.natAbs ≤ 64) ∧ (other P).ks.length ≤ 4 ∧ (other P).rows.length ≤ 3 := by
  have hw := other_wl h.wl
  have h1 : (other P).ks.length ≤ 4 := by show (P.rows.map _).length ≤ 4; rw [List.length_map]; exact h.r4
  have h2 : (other P).rows.length ≤ 3 := by show ((List.range P.ks.length).map _).length ≤ 3; simp; exact h.k3
  refine ⟨hw, ⟨by omega, by rw [hw.cs]; omega, by omega, fun r hr => by rw [hw.row r hr]; omega⟩, other_rsz h.rs h.cs (Nat.le_refl _), fun a ha => ?_, h1, h2⟩
  obtain ⟨r, hr, rfl⟩ := List.mem_map.mp ha
  rw [Int.natAbs_neg]; exact (h.rs r hr).2
theorem negs_le {s : List Int} {C : Nat} (h : ∀ a, a ∈ s → a.natAbs ≤ C) : ∀ a, a ∈ negs s → a.natAbs ≤ C := fun a ha => by
  obtain ⟨b, hb, rfl⟩ := List.mem_map.mp ha
  rw [Int.natAbs_neg]; exact h b hb
theorem joint_row {D : Tsk} {st : List Int} {r : Rw} (h : r ∈ (joint D st).rows) : ∃ q k, q ∈ D.rows ∧ k ∈ st ∧ r = ⟨q.cs ++ [-k], q.sn, q.rt⟩ := by
  obtain ⟨i, hi, e⟩ := List.getElem_of_mem h
  have h2 : (joint D st).rows[i]? = some r := by rw [List.getElem?_eq_getElem hi, e]
  have h3 : (List.zipWith (fun (r : Rw) (s : Int) => (⟨r.cs ++ [-s], r.sn, r.rt⟩ : Rw)) D.rows st)[i]? = some r := h2
  rw [List.getElem?_zipWith] at h3
  cases e1 : D.rows[i]? with
  | none => rw [e1] at h3; cases h3
  | some q =>
    rw [e1] at h3
    cases e2 : st[i]? with
    | none => rw [e2] at h3; cases h3
    | some k =>
      rw [e2] at h3
      exact ⟨q, k, List.mem_of_getElem? e1, List.mem_of_getElem? e2, (Option.some.inj h3).symm⟩
theorem Pr.jnt (h : Pr P s) : Wl (joint (other P) (negs s)) ∧ Pn (joint (other P) (negs s)) ∧ Rsz (joint (other P) (negs s)) 64 ∧ (joint (other P) (negs s)).rows.length ≤ 4 ∧ (joint (other P) (negs s)).ks.length ≤ 5 ∧ Big (joint (other P) (negs s)) := by
  obtain ⟨o1, o2, o3, o4, o5, o6⟩ := h.oth
  have k : (joint (other P) (negs s)).ks.length = (other P).ks.length + 1 := by simp [joint]
  have hw : Wl (joint (other P) (negs s)) := ⟨by rw [k]; simp [joint, unitI], fun r hr => by
    obtain ⟨q, kk, hq, _, rfl⟩ := joint_row hr
    rw [k, List.length_append, o1.row q hq]; rfl⟩
  have hr4 : (joint (other P) (negs s)).rows.length ≤ 4 := by
    show (List.zipWith _ _ _).length ≤ 4
    rw [List.length_zipWith]; omega
  have hrs : Rsz (joint (other P) (negs s)) 64 := fun r hr => by
    obtain ⟨q, kk, hq, hk, rfl⟩ := joint_row hr
    refine ⟨fun a ha => ?_, (o3 q hq).2⟩
    rcases List.mem_append.mp ha with z | z
    · exact (o3 q hq).1 a z
    · rw [List.mem_singleton] at z
      rw [z, Int.natAbs_neg]; exact negs_le h.ss kk hk
  refine ⟨hw, fun r hr => ?_, hrs, hr4, by omega, hw, by omega, by omega, fun r hr => ⟨fun a ha => le64 ((hrs r hr).1 a ha), le64 (hrs r hr).2⟩, fun a ha => ?_⟩
  · obtain ⟨q, kk, hq, _, rfl⟩ := joint_row hr
    exact other_pn q hq
  · obtain ⟨i, _, rfl⟩ := List.mem_map.mp ha
    split
    · exact Nat.one_le_two_pow
    · exact Nat.zero_le _
end
end Cp
end
/-! ## CLn -/
section
set_option Elab.async false
set_option linter.all false
set_option autoImplicit false
set_option maxRecDepth 100000
set_option maxHeartbeats 4000000
set_option exponentiation.threshold 100000
namespace Cp
variable [KFix]
open PySem PySem.Spec PyProof.Rows L2
def nlD (l : Ln) : PyData := .tuple [qD (-l.1), qD (-l.2)]
theorem qb_mul {k : Nat} {x y : Rat} (hx : qb k x) (hy : qb k y) : qb (2 * k) (x * y) := by
  rw [mul_as]
  exact qb_ratio (Int.mul_pos (den_pos x) (den_pos y)) (lt2_mono (mul_bits hx.1 hy.1) (by omega)) (lt2_mono (mul_bits (den_bits hx) (den_bits hy)) (by omega))
theorem qb_nat {k q : Nat} (hk : 1 ≤ k) (h : q < 2 ^ k) : qb k (q : Rat) := ⟨by simpa using h, by
  show ((q : Rat)).den < _
  simp
  omega⟩
theorem negs_negs (s : List Int) : negs (negs s) = s := by
  unfold negs
  rw [List.map_map]
  have : ((fun one : Int => -one) ∘ fun one => -one) = id := by funext x; simp
  rw [this, List.map_id]
theorem negs_len (s : List Int) : (negs s).length = s.length := by simp [negs]
/-- what the program multiplies the steps by -/
def sgC (sg : Int) (s : List Int) : List Int := (negs s).map fun x => -sg * x
theorem sgC_dot (sg : Int) (s : List Int) (x : List Rat) : dotR (sgC sg s) x = (sg : Rat) * dotR s x := by
  unfold sgC
  rw [dot_scale, dotR_negs, Rat.intCast_neg]; grind
theorem sgC_len (sg : Int) (s : List Int) : (sgC sg s).length = s.length := by simp [sgC, negs]
theorem sgC_le {sg : Int} {s : List Int} (h : sg = 1 ∨ sg = -1) (hs : ∀ a, a ∈ s → a.natAbs ≤ 64) : ∀ a, a ∈ sgC sg s → a.natAbs ≤ 64 := fun a ha => by
  obtain ⟨b, hb, rfl⟩ := List.mem_map.mp ha
  have := negs_le hs b hb
  rcases h with rfl | rfl <;> omega
theorem snd_zip {α : Type} {xs : List α} {ys : List Int} (h : ys.length ≤ xs.length) : (xs.zip ys).map (fun p => PyData.int p.2) = iD ys := by
  have : (xs.zip ys).map (fun p => PyData.int p.2) = ((xs.zip ys).map Prod.snd).map PyData.int := by rw [List.map_map]; rfl
  rw [this, List.map_snd_zip h]; rfl
section
variable {Pg : Program} {w : World} {K : PySem.W.Frag} {mg : Str → Option Value} {base : Heap}
theorem Pr.dd {P : Tsk} {s : List Int} (h : Pr P s) {t : Rat} : other (moved (other P) (negs s) t).plain = Tmv P s t := by
  rw [moved_other h.wl h.sl, plain_same other_pn]
  exact other_other (mv_wl h.wl h.sl t) h.pn
theorem Pr.ibs {P : Tsk} {s : List Int} (h : Pr P s) : ibd 1000 (negs s) := fun a ha => lt_of_le2 (k := 7) (Nat.le_trans (negs_le h.ss a ha) (by decide)) (by decide)
theorem Pr.rtb {P : Tsk} {s : List Int} (h : Pr P s) : ∀ r, r ∈ (other P).rows → r.rt.natAbs < 2 ^ 1000 := fun r hr => lt_of_le2 (k := 7) (Nat.le_trans (h.oth.2.2.1 r hr).2 (by decide)) (by decide)
/-- cost_at on the other side -/
theorem Pr.ca {P : Tsk} {s : List Int} (h : Pr P s) {t : Rat} (ht : qb 162 t) {l : Ln} (m : Mn (XT P s) t l) : pre_cost_at [tD (other P), .list (iD (negs s)), qD t] (qD (- at_ l t)) ∧ qb 500 (at_ l t) := by
  have hb := best_mv h.sl m
  obtain ⟨q1, q2⟩ := best_qb h ht hb
  have dp := den_pos' t
  have e : - ((t.den : Rat) * at_ l t) / (t.den : Rat) = - at_ l t := by
    have : (t.den : Rat) ≠ 0 := by grind
    grind
  have hd : qb 205 (t.den : Rat) := qb_nat (by decide) (lt2_mono ht.2 (by decide))
  refine ⟨⟨other P, negs s, t, -((t.den : Rat) * at_ l t), rfl, h.oth.2.1, h.ibs, h.rtb, ht.mono (by decide), ?_, ?_, (qb_neg q1).mono (by decide), by rw [e]⟩, ?_⟩
  · rw [moved_other h.wl h.sl]; exact h.bigO ht
  · rw [moved_other h.wl h.sl]
    exact best_other (mv_wl h.wl h.sl t) h.pn (by decide) h.rs hb
  · have := qb_div q1 hd dp
    have e2 : (t.den : Rat) * at_ l t / (t.den : Rat) = at_ l t := by
      have : (t.den : Rat) ≠ 0 := by grind
      grind
    rw [e2] at this
    exact this.mono (by decide)
def pre_line_at (ds : List PyData) (d : PyData) : Prop := ∃ (P : Tsk) (s : List Int) (t : Rat) (sg : Int) (l : Ln), ds = [tD (other P), .list (iD (negs s)), qD t, .int sg] ∧ Pr P s ∧ qb 162 t ∧ (sg = 1 ∧ RightL (XT P s) t l ∨ sg = -1 ∧ LeftL (XT P s) t l) ∧ d = nlD l
theorem len_line_at : ∀ ds d, pre_line_at ds d → ds.length = 4 := by rintro _ _ ⟨_, _, _, _, _, rfl, _⟩; rfl
theorem ok_line_at (T : Txt K mg) : FnOk Pg w K mg base CX0 8 (He.ga K "line_at") (T.fd 39) ["task", "steps", "time", "sign"] (spD pre_line_at) := by
  refine (T.F 39 d_line_at rfl).ok sc_line_at (spD_len (n := 4) ?len) (fun cdv A outer s H vs Q E hr h => ?_)
  case len => exact len_line_at
  refine ⟨_, PSs.nox (pss_cons (ps_set (i := 4) sc_line_at.nd rfl (by first | exact Or.inl rfl | exact Or.inr rfl) (pe_call (ok_other_of T) (hr.mono (show 3 ≤ _ by decide)) (by rfl) T.g_other_of (T.F 31 d_other_of rfl).kp (b_other_of T) .nil pass0 (pa_cons (pe_call (ok_moved_rights T) (hr.mono (show 1 ≤ _ by decide)) (by rfl) T.g_moved_rights (T.F 36 d_moved_rights rfl).kp (b_moved_rights T) .nil pass0 (pa_cons (pv 0) (pa_cons (pv 1) (pa_cons (pv 2) pa_nil)))) pa_nil)))
      (pss_cons (ps_set (i := 5) sc_line_at.nd rfl (by first | exact Or.inl rfl | exact Or.inr rfl) (pe_call (ok_kept T) (hr.mono (show 1 ≤ _ by decide)) (by rfl) T.g_kept (T.F 32 d_kept rfl).kp (b_kept T) .nil pass0 (pa_cons (pv 4) (pa_cons (pe_call (ok_best_cost_of T) (hr.mono (show 6 ≤ _ by decide)) (by rfl) T.g_best_cost_of (T.F 29 d_best_cost_of rfl).kp (b_best_cost_of T) .nil pass0 (pa_cons (pv 4) pa_nil)) pa_nil))))
      (pss_cons (ps_setLc (i := 6) (own := [("row", 9), ("step", 10)]) (by rfl) sc_line_at.nd rfl rfl (sw_true rfl rfl rfl (by decide +kernel)) (pi_z2Q (by rfl) T.n_zip (pa_cons (pe_ix (ix_seqK (K := K)) (pv 0) pe_int (fun _ _ => rfl)) (pa_cons (pv 1) pa_nil))) (blkOk_by (N := ["task", "steps", "time", "sign", "papers", "face", "signed", "value", "slope", "row", "step"]) (sc := defScope s_line_at) (by decide +kernel)) (fun _ _ _ _ _ => (pg_tupK (K := K) (n := 2) (by rfl) (pgs_cons (pg_name (i := 9) sc_line_at.nd rfl (by first | exact Or.inl rfl | exact Or.inr rfl)) (pgs_cons (pg_name (i := 10) sc_line_at.nd rfl (by first | exact Or.inl rfl | exact Or.inr rfl)) pgs_nil)))) (fun _ _ _ _ _ => pts_nil) (fun _ _ _ _ _ => (pe_ifExp (pt_cmpR (op_eqDK (K := K) hr.units) (pe_ix (ix_seqK (K := K)) (pv 9) pe_int (fun _ _ => rfl)) pe_str (nomark _)) (pe_un un_neg (pv 10)) (pv 10))))
      (pss_cons (ps_set (i := 7) sc_line_at.nd rfl (by first | exact Or.inl rfl | exact Or.inr rfl) (pe_call (ok_best_cost_of T) (hr.mono (show 6 ≤ _ by decide)) (by rfl) T.g_best_cost_of (T.F 29 d_best_cost_of rfl).kp (b_best_cost_of T) .nil pass0 (pa_cons (pe_call (ok_priced T) (hr.mono (show 1 ≤ _ by decide)) (by rfl) T.g_priced (T.F 33 d_priced rfl).kp (b_priced T) .nil pass0 (pa_cons (pv 5) (pa_cons (pe_lc (own := [("step", 10)]) (by rfl) sc_line_at.nd (pi_list (pv 6)) (blkOk_by (N := ["task", "steps", "time", "sign", "papers", "face", "signed", "value", "slope", "row", "step"]) (sc := defScope s_line_at) (by decide +kernel)) (fun _ _ _ _ _ => (pg_name (i := 10) sc_line_at.nd rfl (by first | exact Or.inl rfl | exact Or.inr rfl))) (fun _ _ _ _ _ => pts_nil) (fun _ _ _ _ _ => (pe_op op_mulW (pe_un un_neg (pv 3)) (pv 10)))) pa_nil))) pa_nil)))
      (pss_cons (ps_set (i := 8) sc_line_at.nd rfl (by first | exact Or.inl rfl | exact Or.inr rfl) (pe_tup (pa_cons (pe_op op_mulW (pe_un un_neg (pv 3)) (pe_ix (ix_seqK (K := K)) (pv 7) pe_int (fun _ _ => rfl))) (pa_cons (pe_ix (ix_seqK (K := K)) (pv 7) pe_int (fun _ _ => rfl)) pa_nil))))
      (pss_one (ps_ret (pe_tup (pa_cons (pe_call (ok_minus_of T) (hr.mono (show 3 ≤ _ by decide)) (by rfl) T.g_minus_of (T.F 4 d_minus_of rfl).kp (b_minus_of T) .nil pass0 (pa_cons (pe_call (ok_cost_at T) (hr.mono (show 7 ≤ _ by decide)) (by rfl) T.g_cost_at (T.F 37 d_cost_at rfl).kp (b_cost_at T) .nil pass0 (pa_cons (pv 0) (pa_cons (pv 1) (pa_cons (pv 2) pa_nil)))) (pa_cons (pe_call (ok_times_of T) (hr.mono (show 3 ≤ _ by decide)) (by rfl) T.g_times_of (T.F 5 d_times_of rfl).kp (b_times_of T) .nil pass0 (pa_cons (pv 8) (pa_cons (pv 2) pa_nil))) pa_nil))) (pa_cons (pv 8) pa_nil)))))))))), ?_⟩
  refine body_pure (K := K) (C := gC K) h (fun ds d hp => by rw [len_line_at ds d hp]; decide) (fun ds d hp F0 H0 => ?_)
  obtain ⟨P, s', t, sg, l, rfl, hP, ht, hl, rfl⟩ := hp
  show Sd _ _ [.d (tD (other P)), .d (.list (iD (negs s'))), .d (qD t), .d (.int sg), .no, .no, .no, .no, .no, .no, .no] _ _
  obtain ⟨o1, o2, o3, o4, o5, o6⟩ := hP.oth
  have hm : Mn (XT P s') t l := by rcases hl with ⟨_, h⟩ | ⟨_, h⟩ <;> exact h.1
  have hes : Es (XT P s') l := by
    rcases hl with ⟨_, h⟩ | ⟨_, h⟩
    · exact h.es
    · exact h.es
  have hsg : sg = 1 ∨ sg = -1 := by rcases hl with ⟨h, _⟩ | ⟨h, _⟩ <;> simp [h]
  have hv := best_mv hP.sl hm
  have hbM := hP.bigM ht
  obtain ⟨q1, q2⟩ := best_qb hP ht hv
  obtain ⟨ca, qat⟩ := hP.ca ht hm
  have lq := es_qb hP hes
  have hmo := moved_other hP.wl hP.sl t
  have hbO := hP.bigO ht
  have hclen : (sgC sg s').length = P.cs.length := by rw [sgC_len, hP.sl]
  have hbF := hP.bigF ht hv hclen (sgC_le hsg hP.ss)
  have hval : BestV (priced (kept (Tmv P s' t) ((t.den : Rat) * at_ l t)) (sgC sg s')) ((sg : Rat) * l.2) := by
    rcases hl with ⟨rfl, h⟩ | ⟨rfl, h⟩
    · have h1 : ((1 : Int) : Rat) = 1 := rfl
      have e : ((1 : Int) : Rat) * l.2 = l.2 := by rw [h1]; grind
      rw [e]
      exact right_best hP.sl h fun x _ => by rw [sgC_dot, h1]; grind
    · have h1 : ((-1 : Int) : Rat) = -1 := rfl
      have e : ((-1 : Int) : Rat) * l.2 = -l.2 := by rw [h1]; grind
      rw [e]
      exact left_best hP.sl h fun x _ => by rw [sgC_dot, h1]; grind
  have hslope : PyData.tuple [.int (-sg * ((sg : Rat) * l.2).num), .int ((sg : Rat) * l.2).den] = qD (-l.2) := by
    rcases hsg with rfl | rfl
    · have h1 : ((1 : Int) : Rat) = 1 := rfl
      have e : ((1 : Int) : Rat) * l.2 = l.2 := by rw [h1]; grind
      rw [e]
      unfold qD
      rw [Rat.neg_num, Rat.neg_den]
      have : (-1 : Int) * l.2.num = -l.2.num := by omega
      rw [this]
    · have h1 : ((-1 : Int) : Rat) = -1 := rfl
      have e : ((-1 : Int) : Rat) * l.2 = -l.2 := by rw [h1]; grind
      rw [e]
      unfold qD
      have : -(-1 : Int) * (-l.2).num = (-l.2).num := by omega
      rw [this]
  have hqv : qb 40 ((sg : Rat) * l.2) := by
    rcases hsg with rfl | rfl
    · have h1 : ((1 : Int) : Rat) = 1 := rfl
      have e : ((1 : Int) : Rat) * l.2 = l.2 := by rw [h1]; grind
      rw [e]; exact lq.2
    · have h1 : ((-1 : Int) : Rat) = -1 := rfl
      have e : ((-1 : Int) : Rat) * l.2 = -l.2 := by rw [h1]; grind
      rw [e]; exact qb_neg lq.2
  generalize hvv : (sg : Rat) * l.2 = val at *
  refine s_seq1 (P' := [.d (tD (other P)), .d (.list (iD (negs s'))), .d (qD t), .d (.int sg), .d (tD (Tmv P s' t)), .no, .no, .no, .no, .no, .no]) (s_set ((g_call (a_cons (g_call (a_cons (g_var rfl) (a_cons (g_var rfl) (a_cons (g_var rfl) a_nil))) ⟨other P, negs s', t, rfl, o2, hP.ibs, hP.rtb, ht.mono (by decide), rfl⟩) a_nil) ⟨moved (other P) (negs s') t, rfl, by rw [hmo]; exact hbO.sz, by rw [hmo]; exact hbO.wl, rfl⟩).eq (by rw [hP.dd])) (by simp) rfl) ?_
  refine s_seq1 (P' := [.d (tD (other P)), .d (.list (iD (negs s'))), .d (qD t), .d (.int sg), .d (tD (Tmv P s' t)), .d (tD (kept (Tmv P s' t) ((t.den : Rat) * at_ l t))), .no, .no, .no, .no, .no]) (s_set (g_call (a_cons (g_var rfl) (a_cons (g_call (a_cons (g_var rfl) a_nil) ⟨Tmv P s' t, some _, rfl, hbM, hv, rfl⟩) a_nil)) ⟨Tmv P s' t, _, rfl, hbM.sz, hbM.csb, q1.mono (by decide), rfl⟩) (by simp) rfl) ?_
  refine s_seq1 (P' := [.d (tD (other P)), .d (.list (iD (negs s'))), .d (qD t), .d (.int sg), .d (tD (Tmv P s' t)), .d (tD (kept (Tmv P s' t) ((t.den : Rat) * at_ l t))), .d (.list (iD (negs s'))), .no, .no, .no, .no]) ?_ ?_
  · refine s_set ((TEo.g (o_mapL (xs := (other P).rows.zip (negs s')) (f := fun p => .int p.2) (z2_map (r := rwD) (q := .int) (other P).rows (negs s')) (i_z2 (a_cons (g_op (g_var rfl) g_int (o_ixqT atT2)) (a_cons (g_var rfl) a_nil)) its_t its_l) (by simp) (by rw [List.length_zip]; omega) fun p hp => ?_)).eq ?_) (by simp [noAt]) rfl
    · have hpn := other_pn p.1 (List.of_mem_zip hp).1
      have hle : decide (p.1.sn = .le) = false := by rcases hpn with h | h <;> rw [h] <;> rfl
      refine ⟨_, [.d (tD (other P)), .d (.list (iD (negs s'))), .d (qD t), .d (.int sg), .d (tD (Tmv P s' t)), .d (tD (kept (Tmv P s' t) ((t.den : Rat) * at_ l t))), .no, .no, .no, .d (rwD p.1), .d (.int p.2)], ?_, d_tup (ds_cons (d_name (by simp [noAt])) (ds_cons (d_name (by simp [noAt])) ds_nil)) rfl, rfl, ?_⟩
      · simp
      · exact g_if (b := false) ((t_cmp (g_op (g_op (g_var rfl) g_int (o_ixqT atT1)) g_str (o_eq (shp_sg _) (by decide +kernel)))).eq ((sg_le _).trans hle)) (fun z => nomatch z) fun _ => g_var rfl
    · have : (other P).rows.length = P.ks.length := by show ((List.range P.ks.length).map _).length = _; simp
      rw [snd_zip (by rw [negs_len, ← hP.sl, hP.wl.cs, this]; exact Nat.le_refl _)]
  have hsl3 : (negs s').length ≤ 10000 := by rw [negs_len, ← hP.sl]; have := hP.kc; omega
  refine s_seq1 (P' := [.d (tD (other P)), .d (.list (iD (negs s'))), .d (qD t), .d (.int sg), .d (tD (Tmv P s' t)), .d (tD (kept (Tmv P s' t) ((t.den : Rat) * at_ l t))), .d (.list (iD (negs s'))), .d (qD val), .no, .no, .no]) ?_ ?_
  · have hsb : (-sg).natAbs < 2 ^ 1 := by rcases hsg with rfl | rfl <;> decide
    refine s_set (g_call (a_cons (g_call (a_cons (g_var rfl) (a_cons ((TEo.g (o_mapL (xs := negs s') (r := .int) (f := fun x => .int (-sg * x)) rfl (i_list (g_var rfl)) (by simp) hsl3 fun x hx => ⟨_, _, by simp, d_name (by simp [noAt]), rfl, g_op (g_un (g_var rfl) o_neg) (g_var rfl) (o_mul (cmul hsb (hP.ibs x hx)))⟩)).eq (d' := .list (iD (sgC sg s'))) (by unfold sgC iD; rw [List.map_map]; rfl)) a_nil)) ⟨kept (Tmv P s' t) ((t.den : Rat) * at_ l t), sgC sg s', .inr rfl, rfl⟩) a_nil) ⟨_, some val, rfl, hbF, hval, rfl⟩) (by simp [noAt]) rfl
  refine s_seq1 (P' := [.d (tD (other P)), .d (.list (iD (negs s'))), .d (qD t), .d (.int sg), .d (tD (Tmv P s' t)), .d (tD (kept (Tmv P s' t) ((t.den : Rat) * at_ l t))), .d (.list (iD (negs s'))), .d (qD val), .d (qD (-l.2)), .no, .no]) ?_ ?_
  · have hsb : (-sg).natAbs < 2 ^ 1 := by rcases hsg with rfl | rfl <;> decide
    exact s_set ((g_tup (a_cons (g_op (g_un (g_var rfl) o_neg) (g_q0 (g_var rfl) g_int) (o_mul (cmul hsb hqv.1))) (a_cons (g_q1 (g_var rfl) g_int) a_nil)) (by simp)).eq hslope) (by simp) rfl
  have e : - at_ l t - -l.2 * t = -l.1 := by unfold at_; grind
  refine s_ret (g_tup (a_cons ((g_call (a_cons (g_call (a_cons (g_var rfl) (a_cons (g_var rfl) (a_cons (g_var rfl) a_nil))) ca) (a_cons (g_call (a_cons (g_var rfl) (a_cons (g_var rfl) a_nil)) ⟨_, _, rfl, (qb_neg lq.2).mono (by decide), ht.mono (by decide), rfl⟩) a_nil)) ⟨_, _, rfl, (qb_neg qat).mono (by decide), (qb_mul ((qb_neg lq.2).mono (by decide : 40 ≤ 162)) ht).mono (by decide), rfl⟩).eq (by rw [e])) (a_cons (g_var rfl) a_nil)) (by simp)) rfl
def pre_end_line (ds : List PyData) (d : PyData) : Prop := ∃ (P : Tsk) (s : List Int) (sg : Int) (l : Ln), ds = [tD (other P), .list (iD (negs s)), .int sg] ∧ Pr P s ∧ (sg = 1 ∧ UpL (XT P s) l ∨ sg = -1 ∧ DownL (XT P s) l) ∧ d = nlD l
theorem len_end_line : ∀ ds d, pre_end_line ds d → ds.length = 3 := by rintro _ _ ⟨_, _, _, _, rfl, _⟩; rfl
theorem ok_end_line (T : Txt K mg) : FnOk Pg w K mg base CX0 7 (He.ga K "end_line") (T.fd 40) ["task", "steps", "sign"] (spD pre_end_line) := by
  refine (T.F 40 d_end_line rfl).ok sc_end_line (spD_len (n := 3) ?len) (fun cdv A outer s H vs Q E hr h => ?_)
  case len => exact len_end_line
  refine ⟨_, PSs.nox (pss_cons (ps_set (i := 3) sc_end_line.nd rfl (by first | exact Or.inl rfl | exact Or.inr rfl) (pe_call (ok_other_of T) (hr.mono (show 3 ≤ _ by decide)) (by rfl) T.g_other_of (T.F 31 d_other_of rfl).kp (b_other_of T) .nil pass0 (pa_cons (pv 0) pa_nil)))
      (pss_cons (ps_setLc (i := 4) (own := [("row", 8), ("step", 9)]) (by rfl) sc_end_line.nd rfl rfl (sw_true rfl rfl rfl (by decide +kernel)) (pi_z2Q (by rfl) T.n_zip (pa_cons (pe_ix (ix_seqK (K := K)) (pv 0) pe_int (fun _ _ => rfl)) (pa_cons (pv 1) pa_nil))) (blkOk_by (N := ["task", "steps", "sign", "papers", "signed", "value", "face", "base", "row", "step"]) (sc := defScope s_end_line) (by decide +kernel)) (fun _ _ _ _ _ => (pg_tupK (K := K) (n := 2) (by rfl) (pgs_cons (pg_name (i := 8) sc_end_line.nd rfl (by first | exact Or.inl rfl | exact Or.inr rfl)) (pgs_cons (pg_name (i := 9) sc_end_line.nd rfl (by first | exact Or.inl rfl | exact Or.inr rfl)) pgs_nil)))) (fun _ _ _ _ _ => pts_nil) (fun _ _ _ _ _ => (pe_ifExp (pt_cmpR (op_eqDK (K := K) hr.units) (pe_ix (ix_seqK (K := K)) (pv 8) pe_int (fun _ _ => rfl)) pe_str (nomark _)) (pe_un un_neg (pv 9)) (pv 9))))
      (pss_cons (ps_set (i := 5) sc_end_line.nd rfl (by first | exact Or.inl rfl | exact Or.inr rfl) (pe_call (ok_best_cost_of T) (hr.mono (show 6 ≤ _ by decide)) (by rfl) T.g_best_cost_of (T.F 29 d_best_cost_of rfl).kp (b_best_cost_of T) .nil pass0 (pa_cons (pe_call (ok_priced T) (hr.mono (show 1 ≤ _ by decide)) (by rfl) T.g_priced (T.F 33 d_priced rfl).kp (b_priced T) .nil pass0 (pa_cons (pv 3) (pa_cons (pe_lc (own := [("step", 9)]) (by rfl) sc_end_line.nd (pi_list (pv 4)) (blkOk_by (N := ["task", "steps", "sign", "papers", "signed", "value", "face", "base", "row", "step"]) (sc := defScope s_end_line) (by decide +kernel)) (fun _ _ _ _ _ => (pg_name (i := 9) sc_end_line.nd rfl (by first | exact Or.inl rfl | exact Or.inr rfl))) (fun _ _ _ _ _ => pts_nil) (fun _ _ _ _ _ => (pe_op op_mulW (pe_un un_neg (pv 2)) (pv 9)))) pa_nil))) pa_nil)))
      (pss_cons (ps_set (i := 6) sc_end_line.nd rfl (by first | exact Or.inl rfl | exact Or.inr rfl) (pe_call (ok_kept T) (hr.mono (show 1 ≤ _ by decide)) (by rfl) T.g_kept (T.F 32 d_kept rfl).kp (b_kept T) .nil pass0 (pa_cons (pe_call (ok_priced T) (hr.mono (show 1 ≤ _ by decide)) (by rfl) T.g_priced (T.F 33 d_priced rfl).kp (b_priced T) .nil pass0 (pa_cons (pv 3) (pa_cons (pe_lc (own := [("step", 9)]) (by rfl) sc_end_line.nd (pi_list (pv 4)) (blkOk_by (N := ["task", "steps", "sign", "papers", "signed", "value", "face", "base", "row", "step"]) (sc := defScope s_end_line) (by decide +kernel)) (fun _ _ _ _ _ => (pg_name (i := 9) sc_end_line.nd rfl (by first | exact Or.inl rfl | exact Or.inr rfl))) (fun _ _ _ _ _ => pts_nil) (fun _ _ _ _ _ => (pe_op op_mulW (pe_un un_neg (pv 2)) (pv 9)))) pa_nil))) (pa_cons (pv 5) pa_nil))))
      (pss_cons (ps_set (i := 7) sc_end_line.nd rfl (by first | exact Or.inl rfl | exact Or.inr rfl) (pe_call (ok_best_cost_of T) (hr.mono (show 6 ≤ _ by decide)) (by rfl) T.g_best_cost_of (T.F 29 d_best_cost_of rfl).kp (b_best_cost_of T) .nil pass0 (pa_cons (pe_call (ok_priced T) (hr.mono (show 1 ≤ _ by decide)) (by rfl) T.g_priced (T.F 33 d_priced rfl).kp (b_priced T) .nil pass0 (pa_cons (pv 6) (pa_cons (pe_ix (ix_seqK (K := K)) (pv 3) pe_int (fun _ _ => rfl)) pa_nil))) pa_nil)))
      (pss_one (ps_ret (pe_tup (pa_cons (pe_tup (pa_cons (pe_un un_neg (pe_ix (ix_seqK (K := K)) (pv 7) pe_int (fun _ _ => rfl))) (pa_cons (pe_ix (ix_seqK (K := K)) (pv 7) pe_int (fun _ _ => rfl)) pa_nil))) (pa_cons (pe_tup (pa_cons (pe_op op_mulW (pe_un un_neg (pv 2)) (pe_ix (ix_seqK (K := K)) (pv 5) pe_int (fun _ _ => rfl))) (pa_cons (pe_ix (ix_seqK (K := K)) (pv 5) pe_int (fun _ _ => rfl)) pa_nil))) pa_nil)))))))))), ?_⟩
  refine body_pure (K := K) (C := gC K) h (fun ds d hp => by rw [len_end_line ds d hp]; decide) (fun ds d hp F0 H0 => ?_)
  obtain ⟨P, s', sg, l, rfl, hP, hl, rfl⟩ := hp
  show Sd _ _ [.d (tD (other P)), .d (.list (iD (negs s'))), .d (.int sg), .no, .no, .no, .no, .no, .no, .no] _ _
  obtain ⟨o1, o2, o3, o4, o5, o6⟩ := hP.oth
  have hes : Es (XT P s') l := by
    rcases hl with ⟨_, h⟩ | ⟨_, h⟩
    · exact h.es
    · exact h.es
  have hsg : sg = 1 ∨ sg = -1 := by rcases hl with ⟨h, _⟩ | ⟨h, _⟩ <;> simp [h]
  have lq := es_qb hP hes
  have hclen : (sgC sg s').length = P.cs.length := by rw [sgC_len, hP.sl]
  have hcle := sgC_le hsg hP.ss
  have hval : BestV (priced P (sgC sg s')) ((sg : Rat) * l.2) ∧ BestV (priced (kept (priced P (sgC sg s')) ((sg : Rat) * l.2)) P.cs) l.1 := by
    rcases hl with ⟨rfl, h⟩ | ⟨rfl, h⟩
    · have h1 : ((1 : Int) : Rat) = 1 := rfl
      have e : ((1 : Int) : Rat) * l.2 = l.2 := by rw [h1]; grind
      rw [e]
      exact up_best h fun x _ => by rw [sgC_dot, h1]; grind
    · have h1 : ((-1 : Int) : Rat) = -1 := rfl
      have e : ((-1 : Int) : Rat) * l.2 = -l.2 := by rw [h1]; grind
      rw [e]
      exact down_best h fun x _ => by rw [sgC_dot, h1]; grind
  have hslope : PyData.tuple [.int (-sg * ((sg : Rat) * l.2).num), .int ((sg : Rat) * l.2).den] = qD (-l.2) := by
    rcases hsg with rfl | rfl
    · have h1 : ((1 : Int) : Rat) = 1 := rfl
      have e : ((1 : Int) : Rat) * l.2 = l.2 := by rw [h1]; grind
      rw [e]
      unfold qD
      rw [Rat.neg_num, Rat.neg_den]
      have : (-1 : Int) * l.2.num = -l.2.num := by omega
      rw [this]
    · have h1 : ((-1 : Int) : Rat) = -1 := rfl
      have e : ((-1 : Int) : Rat) * l.2 = -l.2 := by rw [h1]; grind
      rw [e]
      unfold qD
      have : -(-1 : Int) * (-l.2).num = (-l.2).num := by omega
      rw [this]
  have hqv : qb 40 ((sg : Rat) * l.2) := by
    rcases hsg with rfl | rfl
    · have h1 : ((1 : Int) : Rat) = 1 := rfl
      have e : ((1 : Int) : Rat) * l.2 = l.2 := by rw [h1]; grind
      rw [e]; exact lq.2
    · have h1 : ((-1 : Int) : Rat) = -1 := rfl
      have e : ((-1 : Int) : Rat) * l.2 = -l.2 := by rw [h1]; grind
      rw [e]; exact qb_neg lq.2
  generalize hvv : (sg : Rat) * l.2 = val at *
  obtain ⟨hv1, hv2⟩ := hval
  have hoo : other (other P).plain = P := by rw [plain_same other_pn]; exact other_other hP.wl hP.pn
  have hbC := hP.bigC hclen fun a ha => le64 (hcle a ha)
  have hbE := hP.bigE hqv hclen hcle
  have hsl3 : (negs s').length ≤ 10000 := by rw [negs_len, ← hP.sl]; have := hP.kc; omega
  have hsb : (-sg).natAbs < 2 ^ 1 := by rcases hsg with rfl | rfl <;> decide
  refine s_seq1 (P' := [.d (tD (other P)), .d (.list (iD (negs s'))), .d (.int sg), .d (tD P), .no, .no, .no, .no, .no, .no]) (s_set ((g_call (a_cons (g_var rfl) a_nil) ⟨other P, rfl, o2, o1, rfl⟩).eq (by rw [hoo])) (by simp) rfl) ?_
  refine s_seq1 (P' := [.d (tD (other P)), .d (.list (iD (negs s'))), .d (.int sg), .d (tD P), .d (.list (iD (negs s'))), .no, .no, .no, .no, .no]) ?_ ?_
  · refine s_set ((TEo.g (o_mapL (xs := (other P).rows.zip (negs s')) (f := fun p => .int p.2) (z2_map (r := rwD) (q := .int) (other P).rows (negs s')) (i_z2 (a_cons (g_op (g_var rfl) g_int (o_ixqT atT2)) (a_cons (g_var rfl) a_nil)) its_t its_l) (by simp) (by rw [List.length_zip]; omega) fun p hp => ?_)).eq ?_) (by simp [noAt]) rfl
    · have hpn := other_pn p.1 (List.of_mem_zip hp).1
      have hle : decide (p.1.sn = .le) = false := by rcases hpn with h | h <;> rw [h] <;> rfl
      refine ⟨_, [.d (tD (other P)), .d (.list (iD (negs s'))), .d (.int sg), .d (tD P), .no, .no, .no, .no, .d (rwD p.1), .d (.int p.2)], ?_, d_tup (ds_cons (d_name (by simp [noAt])) (ds_cons (d_name (by simp [noAt])) ds_nil)) rfl, rfl, ?_⟩
      · simp
      · exact g_if (b := false) ((t_cmp (g_op (g_op (g_var rfl) g_int (o_ixqT atT1)) g_str (o_eq (shp_sg _) (by decide +kernel)))).eq ((sg_le _).trans hle)) (fun z => nomatch z) fun _ => g_var rfl
    · have : (other P).rows.length = P.ks.length := by show ((List.range P.ks.length).map _).length = _; simp
      rw [snd_zip (by rw [negs_len, ← hP.sl, hP.wl.cs, this]; exact Nat.le_refl _)]
  refine s_seq1 (P' := [.d (tD (other P)), .d (.list (iD (negs s'))), .d (.int sg), .d (tD P), .d (.list (iD (negs s'))), .d (qD val), .no, .no, .no, .no]) (s_set (g_call (a_cons (g_call (a_cons (g_var rfl) (a_cons ((TEo.g (o_mapL (xs := negs s') (r := .int) (f := fun x => .int (-sg * x)) rfl (i_list (g_var rfl)) (by simp) hsl3 fun x hx => ⟨_, _, by simp, d_name (by simp [noAt]), rfl, g_op (g_un (g_var rfl) o_neg) (g_var rfl) (o_mul (cmul hsb (hP.ibs x hx)))⟩)).eq (d' := .list (iD (sgC sg s'))) (by unfold sgC iD; rw [List.map_map]; rfl)) a_nil)) ⟨P, sgC sg s', .inr rfl, rfl⟩) a_nil) ⟨_, some val, rfl, hbC, hv1, rfl⟩) (by simp [noAt]) rfl) ?_
  refine s_seq1 (P' := [.d (tD (other P)), .d (.list (iD (negs s'))), .d (.int sg), .d (tD P), .d (.list (iD (negs s'))), .d (qD val), .d (tD (kept (priced P (sgC sg s')) val)), .no, .no, .no]) (s_set (g_call (a_cons (g_call (a_cons (g_var rfl) (a_cons ((TEo.g (o_mapL (xs := negs s') (r := .int) (f := fun x => .int (-sg * x)) rfl (i_list (g_var rfl)) (by simp) hsl3 fun x hx => ⟨_, _, by simp, d_name (by simp [noAt]), rfl, g_op (g_un (g_var rfl) o_neg) (g_var rfl) (o_mul (cmul hsb (hP.ibs x hx)))⟩)).eq (d' := .list (iD (sgC sg s'))) (by unfold sgC iD; rw [List.map_map]; rfl)) a_nil)) ⟨P, sgC sg s', .inr rfl, rfl⟩) (a_cons (g_var rfl) a_nil)) ⟨priced P (sgC sg s'), val, rfl, hbC.sz, hbC.csb, hqv.mono (by decide), rfl⟩) (by simp [noAt]) rfl) ?_
  refine s_seq1 (P' := [.d (tD (other P)), .d (.list (iD (negs s'))), .d (.int sg), .d (tD P), .d (.list (iD (negs s'))), .d (qD val), .d (tD (kept (priced P (sgC sg s')) val)), .d (qD l.1), .no, .no]) (s_set (g_call (a_cons (g_call (a_cons (g_var rfl) (a_cons (g_op (g_var rfl) g_int (o_ixqT atT1)) a_nil)) ⟨kept (priced P (sgC sg s')) val, P.cs, .inl rfl, rfl⟩) a_nil) ⟨_, some l.1, rfl, hbE, hv2, rfl⟩) (by simp) rfl) ?_
  refine s_ret (g_tup (a_cons ((g_tup (a_cons (g_un (g_q0 (g_var rfl) g_int) o_neg) (a_cons (g_q1 (g_var rfl) g_int) a_nil)) (by simp)).eq (d' := qD (-l.1)) ?_) (a_cons ((g_tup (a_cons (g_op (g_un (g_var rfl) o_neg) (g_q0 (g_var rfl) g_int) (o_mul (cmul hsb hqv.1))) (a_cons (g_q1 (g_var rfl) g_int) a_nil)) (by simp)).eq hslope) a_nil)) (by simp)) rfl
  unfold qD
  rw [Rat.neg_num, Rat.neg_den]
end
end Cp
end
/-! ## CBr -/
section
set_option Elab.async false
set_option linter.all false
set_option autoImplicit false
set_option maxRecDepth 100000
set_option maxHeartbeats 4000000
set_option exponentiation.threshold 100000
namespace Cp
variable [KFix]
open PySem PySem.Spec PyProof.Rows L2
theorem qD_inj {x y : Rat} (h : qD x = qD y) : x = y := by
  unfold qD at h
  injection h with h
  injection h with h1 h2
  injection h1 with h1
  injection h2 with h2
  injection h2 with h2
  exact Rat.ext h1 (by omega)
theorem eqv_q (x y : Rat) : PyData.eqv (qD x) (qD y) = decide (x = y) := by
  show ((x.num == y.num) && (((x.den : Int) == (y.den : Int)) && true)) = _
  by_cases h : x = y
  · subst h; simp
  · rw [decide_eq_false h]
    by_cases h1 : x.num = y.num
    · by_cases h2 : x.den = y.den
      · exact absurd (Rat.ext h1 h2) h
      · have : ¬ ((x.den : Int) = (y.den : Int)) := by omega
        simp [this]
    · simp [h1]
theorem neg_inj' {x y : Rat} : (-x = -y) ↔ x = y := ⟨fun h => by grind, fun h => by rw [h]⟩
theorem eqv_nl (v w : Ln) : PyData.eqv (nlD v) (nlD w) = decide (v = w) := by
  show (PyData.eqv (qD _) (qD _) && (PyData.eqv (qD _) (qD _) && true)) = _
  rw [eqv_q, eqv_q]
  by_cases h : v = w
  · subst h; simp
  · rw [decide_eq_false h]
    by_cases h1 : v.1 = w.1
    · by_cases h2 : v.2 = w.2
      · exact absurd (Prod.ext h1 h2) h
      · have : ¬ (-v.2 = -w.2) := fun z => h2 (neg_inj'.mp z)
        simp [this]
    · have : ¬ (-v.1 = -w.1) := fun z => h1 (neg_inj'.mp z)
      simp [this]
theorem shp_nl (v : Ln) : SeqAt.shaped (nlD v) = true := by simp [nlD, qD, SeqAt.shaped, PyData.canLay0, PyData.canLayAll0, PyData.depth, PyData.depthAll]
section
variable {X : Ln → Prop} {V : List Ln} {cd : Ln → Nat}
theorem ch_all {v z : Ln} {L : List Ln} (c : Ch X v z L) : (∀ u, u ∈ L → Es X u) ∧ (∀ u, u ∈ L → u.2 ≤ v.2) := by
  induction c with
  | one e => exact ⟨fun u hu => by rw [List.mem_singleton.mp hu]; exact e, fun u hu => by rw [List.mem_singleton.mp hu]; exact Rat.le_refl⟩
  | cons e lt _ _ _ ih =>
    refine ⟨fun u hu => ?_, fun u hu => ?_⟩
    · rcases List.mem_cons.mp hu with rfl | hu
      · exact e
      · exact ih.1 u hu
    · rcases List.mem_cons.mp hu with rfl | hu
      · exact Rat.le_refl
      · have := ih.2 u hu; grind
theorem ch_fall {v z : Ln} {L : List Ln} (c : Ch X v z L) : ∀ i j, i < j → j < L.length → (L.getD j (0, 0)).2 < (L.getD i (0, 0)).2 := by
  induction c with
  | one e => intro i j h1 h2; simp at h2; omega
  | @cons v w z L e lt _ _ c ih =>
    intro i j h1 h2
    cases j with
    | zero => omega
    | succ j =>
      have hj : j < L.length := by simpa using h2
      cases i with
      | zero =>
        have hm : L.getD j (0, 0) ∈ L := by
          unfold List.getD
          rw [List.getElem?_eq_getElem hj]; exact List.getElem_mem hj
        have := (ch_all c).2 _ hm
        show (L.getD j (0, 0)).2 < v.2
        grind
      | succ i => exact ih i j (by omega) hj
theorem ch_len (F : Fan X V cd) {v z : Ln} {L : List Ln} (c : Ch X v z L) : L.length ≤ 128 := by
  refine Classical.byContradiction fun h => ?_
  obtain ⟨i, j, hij, hj, e⟩ := pigeon 128 (fun k => cd (L.getD k (0, 0))) fun k _ => F.lt _
  have f := ch_fall c i j hij (by omega)
  have mem : ∀ k, k < L.length → L.getD k (0, 0) ∈ L := fun k hk => by
    unfold List.getD
    rw [List.getElem?_eq_getElem hk]; exact List.getElem_mem hk
  have e1 := (ch_all c).1 _ (mem i (by omega))
  have e2 := (ch_all c).1 _ (mem j (by omega))
  obtain ⟨t1, t2, lt, m1, m2⟩ := e1
  obtain ⟨_, _, _, n1, _⟩ := e2
  have := F.inj _ _ t1 t2 lt m1 m2 n1.1 e
  rw [this] at f
  grind
end
section
variable {Pg : Program} {w : World} {K : PySem.W.Frag} {mg : Str → Option Value} {base : Heap}
def pre_breaks (n : Nat) (ds : List PyData) (d : PyData) : Prop := ∃ (P : Tsk) (s : List Int) (v u : Ln) (L : List Ln), ds = [tD (other P), .list (iD (negs s)), nlD v, nlD u] ∧ Pr P s ∧ (∃ x, Plan P x) ∧ Es (XT P s) v ∧ Es (XT P s) u ∧ (v = u ∨ u.2 < v.2) ∧ btw (XT P s) (cdT P s) v u ≤ n ∧ Brk (XT P s) v u L ∧ d = .list (L.map nlD)
theorem len_breaks (n : Nat) : ∀ ds d, pre_breaks n ds d → ds.length = 4 := by rintro _ _ ⟨_, _, _, _, _, rfl, _⟩; rfl
theorem breaks_step (T : Txt K mg) {k n : Nat} (hk : 8 ≤ k) {pre' : List PyData → PyData → Prop} (IH : FnOk Pg w K mg base CX0 k (He.ga K "breaks") (T.fd 41) ["task", "steps", "one", "other"] (spD pre'))
    (hrec : ∀ n' ds d, n' < n → pre_breaks n' ds d → pre' ds d) : FnOk Pg w K mg base CX0 (k + 1) (He.ga K "breaks") (T.fd 41) ["task", "steps", "one", "other"] (spD (pre_breaks n)) := by
  refine (T.F 41 d_breaks rfl).ok sc_breaks (spD_len (n := 4) (len_breaks n)) (fun cdv A outer s H vs Q E hr h => ?_)
  refine ⟨_, PSs.nox (pss_cons (ps_if (pt_cmpR (op_eqDK (K := K) hr.units) (pv 2) (pv 3) (nomark _)) (pss_one (ps_ret (pe_lst (pa_cons (pv 2) pa_nil)))) pss_nil)
      (pss_cons (ps_set (i := 4) sc_breaks.nd rfl (by first | exact Or.inl rfl | exact Or.inr rfl) (pe_call (ok_over_of T) (hr.mono (show 3 ≤ k by omega)) (by rfl) T.g_over_of (T.F 6 d_over_of rfl).kp (b_over_of T) .nil pass0 (pa_cons (pe_call (ok_minus_of T) (hr.mono (show 3 ≤ k by omega)) (by rfl) T.g_minus_of (T.F 4 d_minus_of rfl).kp (b_minus_of T) .nil pass0 (pa_cons (pe_ix (ix_seqK (K := K)) (pv 2) pe_int (fun _ _ => rfl)) (pa_cons (pe_ix (ix_seqK (K := K)) (pv 3) pe_int (fun _ _ => rfl)) pa_nil))) (pa_cons (pe_call (ok_minus_of T) (hr.mono (show 3 ≤ k by omega)) (by rfl) T.g_minus_of (T.F 4 d_minus_of rfl).kp (b_minus_of T) .nil pass0 (pa_cons (pe_ix (ix_seqK (K := K)) (pv 3) pe_int (fun _ _ => rfl)) (pa_cons (pe_ix (ix_seqK (K := K)) (pv 2) pe_int (fun _ _ => rfl)) pa_nil))) pa_nil))))
      (pss_cons (ps_set (i := 5) sc_breaks.nd rfl (by first | exact Or.inl rfl | exact Or.inr rfl) (pe_call (ok_plus_of T) (hr.mono (show 3 ≤ k by omega)) (by rfl) T.g_plus_of (T.F 3 d_plus_of rfl).kp (b_plus_of T) .nil pass0 (pa_cons (pe_ix (ix_seqK (K := K)) (pv 2) pe_int (fun _ _ => rfl)) (pa_cons (pe_call (ok_times_of T) (hr.mono (show 3 ≤ k by omega)) (by rfl) T.g_times_of (T.F 5 d_times_of rfl).kp (b_times_of T) .nil pass0 (pa_cons (pe_ix (ix_seqK (K := K)) (pv 2) pe_int (fun _ _ => rfl)) (pa_cons (pv 4) pa_nil))) pa_nil))))
      (pss_cons (ps_if (pt_cmpR (op_eqDK (K := K) hr.units) (pe_call (ok_cost_at T) (hr.mono (show 7 ≤ k by omega)) (by rfl) T.g_cost_at (T.F 37 d_cost_at rfl).kp (b_cost_at T) .nil pass0 (pa_cons (pv 0) (pa_cons (pv 1) (pa_cons (pv 4) pa_nil)))) (pv 5) (nomark _)) (pss_one (ps_ret (pe_lst (pa_cons (pv 2) (pa_cons (pv 3) pa_nil))))) pss_nil)
      (pss_cons (ps_set (i := 6) sc_breaks.nd rfl (by first | exact Or.inl rfl | exact Or.inr rfl) (pe_call IH hr (by rfl) T.g_breaks (T.F 41 d_breaks rfl).kp (b_breaks T) .nil pass0 (pa_cons (pv 0) (pa_cons (pv 1) (pa_cons (pv 2) (pa_cons (pe_call (ok_line_at T) (hr.mono (show 8 ≤ k by omega)) (by rfl) T.g_line_at (T.F 39 d_line_at rfl).kp (b_line_at T) .nil pass0 (pa_cons (pv 0) (pa_cons (pv 1) (pa_cons (pv 4) (pa_cons (pe_un un_neg pe_int) pa_nil))))) pa_nil))))))
      (pss_cons (ps_set (i := 7) sc_breaks.nd rfl (by first | exact Or.inl rfl | exact Or.inr rfl) (pe_call IH hr (by rfl) T.g_breaks (T.F 41 d_breaks rfl).kp (b_breaks T) .nil pass0 (pa_cons (pv 0) (pa_cons (pv 1) (pa_cons (pe_call (ok_line_at T) (hr.mono (show 8 ≤ k by omega)) (by rfl) T.g_line_at (T.F 39 d_line_at rfl).kp (b_line_at T) .nil pass0 (pa_cons (pv 0) (pa_cons (pv 1) (pa_cons (pv 4) (pa_cons pe_int pa_nil))))) (pa_cons (pv 3) pa_nil))))))
      (pss_one (ps_ret (pe_op op_cat (pv 6) (pe_slice sl_list (pv 7) (po_some (pe_ifExp (pt_cmpR (op_eqDK (K := K) hr.units) (pe_ix (ix_seqK (K := K)) (pv 6) (pe_un un_neg pe_int) (fun _ _ => rfl)) (pe_ix (ix_seqK (K := K)) (pv 7) pe_int (fun _ _ => rfl)) (nomark _)) pe_int pe_int)) po_none)))))))))), ?_⟩
  refine body_pure (K := K) (C := gC K) h (fun ds d hp => by rw [len_breaks n ds d hp]; decide) (fun ds d hp F0 H0 => ?_)
  obtain ⟨P, s', v, u, L, rfl, hP, hpl, ev, eu, ho, hn, hb, rfl⟩ := hp
  show Sd _ _ [.d (tD (other P)), .d (.list (iD (negs s'))), .d (nlD v), .d (nlD u), .no, .no, .no, .no] _ _
  have F := hP.fan hpl
  have hch := brk_ch F hb ev eu ho
  have vq := es_qb hP ev
  have uq := es_qb hP eu
  by_cases hvu : v = u
  · subst hvu
    have : L = [v] := hb.det (.same v)
    subst this
    exact s_seq (M := fun _ => False) (s_if (b := true) ((t_cmp (g_op (g_var rfl) (g_var rfl) (o_eq (shp_nl v) (shp_nl v)))).eq (by rw [eqv_nl]; simp)) (fun _ => s_ret (g_lst (a_cons (g_var rfl) a_nil) (by simp)) rfl) fun z => nomatch z) fun _ z => z.elim
  have lt := ho.resolve_left hvu
  refine s_seq1 (P' := [.d (tD (other P)), .d (.list (iD (negs s'))), .d (nlD v), .d (nlD u), .no, .no, .no, .no]) (s_if (b := false) ((t_cmp (g_op (g_var rfl) (g_var rfl) (o_eq (shp_nl v) (shp_nl u)))).eq (by rw [eqv_nl, decide_eq_false hvu])) (fun z => nomatch z) fun _ => s_next rfl) ?_
  have hcq := cross_qb hP ev eu lt
  have e1 : -v.1 - -u.1 = u.1 - v.1 := by grind
  have e2 : -u.2 - -v.2 = v.2 - u.2 := by grind
  have b1 : qb 81 (u.1 - v.1) := qb_sub uq.1 vq.1
  have b2 : qb 81 (v.2 - u.2) := qb_sub vq.2 uq.2
  refine s_seq1 (P' := [.d (tD (other P)), .d (.list (iD (negs s'))), .d (nlD v), .d (nlD u), .d (qD (cross v u)), .no, .no, .no]) (s_set ((g_call (a_cons ((g_call (a_cons (g_op (g_var rfl) g_int (o_ixqT at0)) (a_cons (g_op (g_var rfl) g_int (o_ixqT at0)) a_nil)) ⟨_, _, rfl, (qb_neg vq.1).mono (by decide), (qb_neg uq.1).mono (by decide), rfl⟩).eq (by rw [e1])) (a_cons ((g_call (a_cons (g_op (g_var rfl) g_int (o_ixqT at1)) (a_cons (g_op (g_var rfl) g_int (o_ixqT at1)) a_nil)) ⟨_, _, rfl, (qb_neg uq.2).mono (by decide), (qb_neg vq.2).mono (by decide), rfl⟩).eq (by rw [e2])) a_nil)) ⟨_, _, rfl, b1.mono (by decide), b2.mono (by decide), num_pos' (by grind), rfl⟩).eq (by rw [cross_eq])) (by simp) rfl) ?_
  have e3 : -v.1 + -v.2 * cross v u = - at_ v (cross v u) := by unfold at_; grind
  refine s_seq1 (P' := [.d (tD (other P)), .d (.list (iD (negs s'))), .d (nlD v), .d (nlD u), .d (qD (cross v u)), .d (qD (- at_ v (cross v u))), .no, .no]) (s_set ((g_call (a_cons (g_op (g_var rfl) g_int (o_ixqT at0)) (a_cons (g_call (a_cons (g_op (g_var rfl) g_int (o_ixqT at1)) (a_cons (g_var rfl) a_nil)) ⟨_, _, rfl, (qb_neg vq.2).mono (by decide), hcq.mono (by decide), rfl⟩) a_nil)) ⟨_, _, rfl, (qb_neg vq.1).mono (by decide), (qb_mul ((qb_neg vq.2).mono (by decide : 40 ≤ 162)) hcq).mono (by decide), rfl⟩).eq (by rw [e3])) (by simp) rfl) ?_
  by_cases hm : Mn (XT P s') (cross v u) v
  · have : L = [v, u] := hb.det (.two hvu hm)
    subst this
    obtain ⟨ca, _⟩ := hP.ca hcq hm
    exact s_seq (M := fun _ => False) (s_if (b := true) ((t_cmp (g_op (g_call (a_cons (g_var rfl) (a_cons (g_var rfl) (a_cons (g_var rfl) a_nil))) ca) (g_var rfl) (o_eq (shp_q _) (shp_q _)))).eq (by rw [eqv_q]; simp)) (fun _ => s_ret (g_lst (a_cons (g_var rfl) (a_cons (g_var rfl) a_nil)) (by simp)) rfl) fun z => nomatch z) fun _ z => z.elim
  obtain ⟨t1, t2, lt1, lt2, ms1, ms2, d1, d2, dc⟩ := split_at F ev eu lt hm
  obtain ⟨x, mx⟩ := dc
  obtain ⟨ca, _⟩ := hP.ca hcq mx
  have hne : ¬ (- at_ x (cross v u) = - at_ v (cross v u)) := fun z => hm (mn_eq mx ms1.1 (neg_inj'.mp z).symm)
  refine s_seq1 (P' := [.d (tD (other P)), .d (.list (iD (negs s'))), .d (nlD v), .d (nlD u), .d (qD (cross v u)), .d (qD (- at_ v (cross v u))), .no, .no]) (s_if (b := false) ((t_cmp (g_op (g_call (a_cons (g_var rfl) (a_cons (g_var rfl) (a_cons (g_var rfl) a_nil))) ca) (g_var rfl) (o_eq (shp_q _) (shp_q _)))).eq (by rw [eqv_q, decide_eq_false hne])) (fun z => nomatch z) fun _ => s_next rfl) ?_
  cases hb with
  | same => exact absurd rfl hvu
  | two _ m => exact absurd m hm
  | @split _ _ l r A' B _ _ hl hr2 hA hB =>
    have sl := split_left lt1 ms1 hm hl
    have sr := split_right lt ms1.1 lt2 ms2 hm hr2
    have lr := left_right hl hr2
    have bl := btw_left F (v := v) (w := u) hl.es (by grind) sl
    have br := btw_left F (v := v) (w := u) hr2.es sr (by grind)
    have cA := brk_ch F hA ev hl.es (.inr sl)
    have cB := brk_ch F hB hr2.es eu (.inr sr)
    have lA := ch_len F cA
    have lB := ch_len F cB
    refine s_seq1 (P' := [.d (tD (other P)), .d (.list (iD (negs s'))), .d (nlD v), .d (nlD u), .d (qD (cross v u)), .d (qD (- at_ v (cross v u))), .d (.list (A'.map nlD)), .no]) (s_set (g_call (a_cons (g_var rfl) (a_cons (g_var rfl) (a_cons (g_var rfl) (a_cons (g_call (a_cons (g_var rfl) (a_cons (g_var rfl) (a_cons (g_var rfl) (a_cons (g_un g_int o_neg) a_nil)))) ⟨P, s', _, -1, l, rfl, hP, hcq, .inr ⟨rfl, hl⟩, rfl⟩) a_nil)))) (hrec (n - 1) _ _ (by omega) ⟨P, s', v, l, A', rfl, hP, hpl, ev, hl.es, .inr sl, by omega, hA, rfl⟩)) (by simp) rfl) ?_
    refine s_seq1 (P' := [.d (tD (other P)), .d (.list (iD (negs s'))), .d (nlD v), .d (nlD u), .d (qD (cross v u)), .d (qD (- at_ v (cross v u))), .d (.list (A'.map nlD)), .d (.list (B.map nlD))]) (s_set (g_call (a_cons (g_var rfl) (a_cons (g_var rfl) (a_cons (g_call (a_cons (g_var rfl) (a_cons (g_var rfl) (a_cons (g_var rfl) (a_cons g_int a_nil)))) ⟨P, s', _, 1, r, rfl, hP, hcq, .inl ⟨rfl, hr2⟩, rfl⟩) (a_cons (g_var rfl) a_nil)))) (hrec (n - 1) _ _ (by omega) ⟨P, s', r, u, B, rfl, hP, hpl, hr2.es, eu, .inr sr, by omega, hB, rfl⟩)) (by simp) rfl) ?_
    have atA : atI (A'.map nlD) (-1) = some (nlD l) := atI_last (by rw [List.getLast?_map, cA.last]; rfl)
    have atB : atI (B.map nlD) 0 = some (nlD r) := by
      obtain ⟨R, rfl⟩ := cB.head
      exact atI_nat (i := 0) rfl
    refine s_ret (g_op (g_var rfl) (g_slice (k := if l = r then 1 else 0) (g_var rfl) (g_if (b := decide (l = r)) ((t_cmp (g_op (g_op (g_var rfl) (g_un g_int o_neg) (o_ixqL atA)) (g_op (g_var rfl) g_int (o_ixqL atB)) (o_eq (shp_nl l) (shp_nl r)))).eq (eqv_nl l r)) (fun z => g_int.eq (by rw [if_pos (of_decide_eq_true z)]; rfl)) (fun z => g_int.eq (by rw [if_neg (of_decide_eq_false z)]; rfl)))) (o_cat (by simp; omega))) ?_
    rw [List.map_append]
    by_cases q : l = r
    · rw [if_pos q, if_pos q, List.map_drop]
    · rw [if_neg q, if_neg q, List.drop_zero]
theorem ok_breaks_n (T : Txt K mg) : ∀ n, FnOk Pg w K mg base CX0 (8 + n + 1) (He.ga K "breaks") (T.fd 41) ["task", "steps", "one", "other"] (spD (pre_breaks n))
  | 0 => by
    have dummy : FnOk Pg w K mg base CX0 8 (He.ga K "breaks") (T.fd 41) ["task", "steps", "one", "other"] (spD fun _ _ => False) := by
      refine (T.F 41 d_breaks rfl).ok sc_breaks (spD_len (n := 4) (fun _ _ h => h.elim)) (fun cdv A outer s H vs Q E hr h => ?_)
      obtain ⟨_, _, _, _, _, z, _⟩ := h
      exact z.elim
    exact breaks_step T (Nat.le_refl _) dummy fun n' ds d h => by omega
  | n + 1 => breaks_step T (by omega) (ok_breaks_n T n) fun n' ds d h hp => by
    obtain ⟨P, s, v, u, L, a, b, c, d', e, f, g, i⟩ := hp
    exact ⟨P, s, v, u, L, a, b, c, d', e, f, by omega, i⟩
theorem ok_breaks (T : Txt K mg) : FnOk Pg w K mg base CX0 137 (He.ga K "breaks") (T.fd 41) ["task", "steps", "one", "other"] (spD (pre_breaks 128)) := ok_breaks_n T 128
end
end Cp
end
/-! ## CPm -/
section
set_option Elab.async false
set_option linter.all false
set_option autoImplicit false
set_option maxRecDepth 100000
set_option maxHeartbeats 4000000
set_option exponentiation.threshold 100000
/-! pieces of a task -/
namespace Cp
variable [KFix]
open PySem PySem.Spec PyProof.Rows L2
inductive PiecesR (X : Ln → Prop) : List Pc → Prop
  | none : (¬ ∃ t, Dom X t) → PiecesR X []
  | one {l : Rat} {w : Ln} : Spn X (some l) (some l) → Mn X l w → PiecesR X [⟨some l, some l, (at_ w l, 0)⟩]
  | many {low high : Option Rat} {v z : Ln} {L : List Ln} : Spn X low high → (∀ l r, low = some l → high = some r → l < r) → Lo X low v → Hi X high z → Brk X v z L → PiecesR X (mkP low high L)
section
variable {X : Ln → Prop} {V : List Ln} {cd : Ln → Nat}
theorem spn_low {low high low' high' : Option Rat} (S : Spn X low high) (S' : Spn X low' high') : low = low' := by
  have key : ∀ {a b c d : Option Rat}, Spn X a b → Spn X c d → ∀ l, c = some l → ∃ k, a = some k ∧ l ≤ k := fun {a b c d} S S' l e => by
    obtain ⟨t, ht⟩ := S.ne
    have h1 := (S.dom t).mp ht
    have h2 := (S'.dom t).mp ht
    rw [e] at h2
    cases a with
    | none =>
      have : Dom X (if t ≤ l - 1 then t else l - 1) := (S.dom _).mpr ⟨rfl, by
        cases b with
        | none => rfl
        | some r => exact decide_eq_true (by have : t ≤ r := of_decide_eq_true h1.2; split <;> grind)⟩
      have := ((S'.dom _).mp this).1
      rw [e] at this
      have : l ≤ (if t ≤ l - 1 then t else l - 1) := of_decide_eq_true this
      exfalso
      split at this <;> grind
    | some k =>
      refine ⟨k, rfl, ?_⟩
      have hk : Dom X k := (S.dom _).mpr ⟨decide_eq_true Rat.le_refl, by
        cases b with
        | none => rfl
        | some r => exact decide_eq_true (by have a1 : t ≤ r := of_decide_eq_true h1.2; have a2 : k ≤ t := of_decide_eq_true h1.1; grind)⟩
      have := ((S'.dom _).mp hk).1
      rw [e] at this
      exact of_decide_eq_true this
  cases low with
  | none =>
    cases low' with
    | none => rfl
    | some l =>
      obtain ⟨k, h, _⟩ := key S S' l rfl
      cases h
  | some k =>
    obtain ⟨l, h, h2⟩ := key S' S k rfl
    obtain ⟨k', h', h3⟩ := key S S' l h
    cases h'
    rw [h, Rat.le_antisymm h2 h3]
theorem spn_high {low high low' high' : Option Rat} (S : Spn X low high) (S' : Spn X low' high') : high = high' := by
  have key : ∀ {a b c d : Option Rat}, Spn X a b → Spn X c d → ∀ l, d = some l → ∃ k, b = some k ∧ k ≤ l := fun {a b c d} S S' l e => by
    obtain ⟨t, ht⟩ := S.ne
    have h1 := (S.dom t).mp ht
    have h2 := (S'.dom t).mp ht
    rw [e] at h2
    cases b with
    | none =>
      have : Dom X (if l + 1 ≤ t then t else l + 1) := (S.dom _).mpr ⟨by
        cases a with
        | none => rfl
        | some r => exact decide_eq_true (by have : r ≤ t := of_decide_eq_true h1.1; split <;> grind), rfl⟩
      have := ((S'.dom _).mp this).2
      rw [e] at this
      have : (if l + 1 ≤ t then t else l + 1) ≤ l := of_decide_eq_true this
      exfalso
      split at this <;> grind
    | some k =>
      refine ⟨k, rfl, ?_⟩
      have hk : Dom X k := (S.dom _).mpr ⟨by
        cases a with
        | none => rfl
        | some r => exact decide_eq_true (by have a1 : r ≤ t := of_decide_eq_true h1.1; have a2 : t ≤ k := of_decide_eq_true h1.2; grind), decide_eq_true Rat.le_refl⟩
      have := ((S'.dom _).mp hk).2
      rw [e] at this
      exact of_decide_eq_true this
  cases high with
  | none =>
    cases high' with
    | none => rfl
    | some l =>
      obtain ⟨k, h, _⟩ := key S S' l rfl
      cases h
  | some k =>
    obtain ⟨l, h, h2⟩ := key S' S k rfl
    obtain ⟨k', h', h3⟩ := key S S' l h
    cases h'
    rw [h, Rat.le_antisymm h3 h2]
theorem lo_one {low : Option Rat} {v w : Ln} (hv : Lo X low v) (hw : Lo X low w) : v = w := by
  cases low with
  | none => exact down_one hv hw
  | some l => exact right_one hv hw
theorem hi_one {low : Option Rat} {v w : Ln} (hv : Hi X low v) (hw : Hi X low w) : v = w := by
  cases low with
  | none => exact up_one hv hw
  | some l => exact left_one hv hw
theorem PiecesR.det {ps qs : List Pc} (h : PiecesR X ps) (k : PiecesR X qs) : ps = qs := by
  cases h with
  | none hn =>
    cases k with
    | none => rfl
    | one S _ => exact absurd S.ne hn
    | many S => exact absurd S.ne hn
  | @one l w S m =>
    cases k with
    | none hn => exact absurd S.ne hn
    | @one l' w' S' m' =>
      have := spn_low S S'
      cases this
      rw [mn_val m m']
    | @many low high v z L S' hlt =>
      have e1 := spn_low S S'
      have e2 := spn_high S S'
      have := hlt l l e1.symm e2.symm
      exfalso; grind
  | @many low high v z L S hlt hl hh hb =>
    cases k with
    | none hn => exact absurd S.ne hn
    | @one l w S' m =>
      have e1 := spn_low S S'
      have e2 := spn_high S S'
      have := hlt l l e1 e2
      exfalso; grind
    | @many low' high' v' z' L' S' hlt' hl' hh' hb' =>
      have e1 := spn_low S S'
      have e2 := spn_high S S'
      subst e1; subst e2
      have e3 := lo_one hl hl'
      have e4 := hi_one hh hh'
      subst e3; subst e4
      rw [hb.det hb']
theorem PiecesR.ok (F : Fan X V cd) {ps : List Pc} (h : PiecesR X ps) : PcsOK X ps := by
  cases h with
  | none hn => exact ⟨fun p hp => by simp at hp, fun t ht => absurd ⟨t, ht⟩ hn, trivial, fun t => by simp⟩
  | one S m => exact pcs_one S m
  | many S hlt hl hh hb => exact pcs_ok S (brk_ch F hb hl.es hh.es (lo_hi hlt hl hh)) hl hh
theorem brk_ex (F : Fan X V cd) : ∀ n v w, btw X cd v w ≤ n → Es X v → Es X w → (v = w ∨ w.2 < v.2) → ∃ L, Brk X v w L
  | n, v, w, hn, ev, ew, o => by
    by_cases hvw : v = w
    · subst hvw; exact ⟨_, .same v⟩
    have lt := o.resolve_left hvw
    by_cases hm : Mn X (cross v w) v
    · exact ⟨_, .two hvw hm⟩
    obtain ⟨t1, t2, lt1, lt2, ms1, ms2, d1, d2, dc⟩ := split_at F ev ew lt hm
    obtain ⟨l, hl⟩ := left_ex F dc d1 lt1
    obtain ⟨r, hr⟩ := right_ex F dc d2 lt2
    have sl := split_left lt1 ms1 hm hl
    have sr := split_right lt ms1.1 lt2 ms2 hm hr
    have lr := left_right hl hr
    have bl := btw_left F (v := v) (w := w) hl.es (by grind) sl
    have br := btw_left F (v := v) (w := w) hr.es sr (by grind)
    cases n with
    | zero => omega
    | succ n =>
      obtain ⟨A, hA⟩ := brk_ex F n v l (by omega) ev hl.es (.inr sl)
      obtain ⟨B, hB⟩ := brk_ex F n r w (by omega) hr.es ew (.inr sr)
      exact ⟨_, .split hvw hm hl hr hA hB⟩
theorem pieces_ex (F : Fan X V cd) (h : (¬ ∃ t, Dom X t) ∨ ∃ low high, Spn X low high) : ∃ ps, PiecesR X ps := by
  rcases h with h | ⟨low, high, S⟩
  · exact ⟨_, .none h⟩
  by_cases q : ∃ l, low = some l ∧ high = some l
  · obtain ⟨l, rfl, rfl⟩ := q
    have : Dom X l := (S.dom l).mpr ⟨decide_eq_true Rat.le_refl, decide_eq_true Rat.le_refl⟩
    obtain ⟨w, m⟩ := this
    exact ⟨_, .one S m⟩
  · have hlt : ∀ l r, low = some l → high = some r → l < r := fun l r e1 e2 => by
      subst e1; subst e2
      obtain ⟨t, ht⟩ := S.ne
      obtain ⟨a, b⟩ := (S.dom t).mp ht
      have a : l ≤ t := of_decide_eq_true a
      have b : t ≤ r := of_decide_eq_true b
      rcases ratLtEq (Rat.le_trans a b) with z | z
      · exact z
      · exact absurd ⟨l, rfl, by rw [z]⟩ q
    obtain ⟨v, hv⟩ := lo_ex F S hlt
    obtain ⟨z, hz⟩ := hi_ex F S hlt
    obtain ⟨L, hb⟩ := brk_ex F _ v z (Nat.le_refl _) hv.es hz.es (lo_hi hlt hv hz)
    exact ⟨_, .many S hlt hv hz hb⟩
end
/-! spans -/
section
variable {P : Tsk} {s : List Int}
theorem jlast {J : Tsk} {n : Nat} {z : List Rat} (hn : J.ks.length = n + 1) (h : Plan J z) : ∃ y, y.length = n ∧ z = y ++ [lastQ z] := by
  have hz : z.length = n + 1 := by rw [h.pos.len, hn]
  refine ⟨z.dropLast, by rw [List.length_dropLast, hz]; rfl, ?_⟩
  unfold lastQ
  rw [List.getLastD_eq_getLast?]
  cases e : z.getLast? with
  | none => rw [List.getLast?_eq_none_iff] at e; subst e; simp at hz
  | some x =>
    obtain ⟨ys, rfl⟩ := List.getLast?_eq_some_iff.mp e
    simp
theorem lastQ_app (y : List Rat) (t : Rat) : lastQ (y ++ [t]) = t := by unfold lastQ; simp
theorem Pr.jk (h : Pr P s) : (joint (other P) (negs s)).ks.length = P.rows.length + 1 := by
  show ((other P).ks ++ [false]).length = _
  rw [List.length_append]
  show (P.rows.map _).length + 1 = _
  rw [List.length_map]
theorem Pr.jd (h : Pr P s) (hp : ∃ x, Plan P x) {t : Rat} : Dom (XT P s) t ↔ ∃ z, Plan (joint (other P) (negs s)) z ∧ lastQ z = t := by
  rw [← joint_dom h.wl h.pn h.sl hp (by decide) h.rs]
  constructor
  · rintro ⟨y, _, py⟩
    exact ⟨_, py, lastQ_app y t⟩
  · rintro ⟨z, pz, rfl⟩
    obtain ⟨y, hy, e⟩ := jlast h.jk pz
    exact ⟨y, hy, by rw [← e]; exact pz⟩
theorem spn_of (h : Pr P s) (hp : ∃ x, Plan P x) {low high : Option Rat} (hs : SpanJ (joint (other P) (negs s)) (some (low, high))) : Spn (XT P s) low high := by
  obtain ⟨⟨z0, p0⟩, hl, hh⟩ := hs
  have F := h.fan hp
  refine ⟨fun t => ⟨fun ht => ?_, fun ⟨a, b⟩ => ?_⟩, ⟨lastQ z0, (h.jd hp).mpr ⟨z0, p0, rfl⟩⟩⟩
  · obtain ⟨z, pz, rfl⟩ := (h.jd hp).mp ht
    refine ⟨?_, ?_⟩
    · cases low with
      | none => rfl
      | some l => exact decide_eq_true (hl.2 z pz)
    · cases high with
      | none => rfl
      | some r => exact decide_eq_true (hh.2 z pz)
  · have h1 : ∃ k, k ≤ t ∧ Dom (XT P s) k := by
      cases low with
      | none =>
        obtain ⟨z, pz, lt⟩ := hl t
        exact ⟨_, Rat.le_of_lt lt, (h.jd hp).mpr ⟨z, pz, rfl⟩⟩
      | some l =>
        obtain ⟨⟨z, pz, e⟩, _⟩ := hl
        exact ⟨l, of_decide_eq_true a, (h.jd hp).mpr ⟨z, pz, e⟩⟩
    have h2 : ∃ k, t ≤ k ∧ Dom (XT P s) k := by
      cases high with
      | none =>
        obtain ⟨z, pz, lt⟩ := hh t
        exact ⟨_, Rat.le_of_lt lt, (h.jd hp).mpr ⟨z, pz, rfl⟩⟩
      | some l =>
        obtain ⟨⟨z, pz, e⟩, _⟩ := hh
        exact ⟨l, of_decide_eq_true b, (h.jd hp).mpr ⟨z, pz, e⟩⟩
    obtain ⟨k1, a1, b1⟩ := h1
    obtain ⟨k2, a2, b2⟩ := h2
    exact dom_conv F b1 b2 a1 a2
theorem no_dom (h : Pr P s) (hn : (¬ ∃ x, Plan P x) ∨ ¬ ∃ z, Plan (joint (other P) (negs s)) z) : ¬ ∃ t, Dom (XT P s) t := by
  rintro ⟨t, ht⟩
  have hp : ∃ x, Plan P x := by
    obtain ⟨v, ⟨x, px, _⟩, _⟩ := ht
    exact ⟨x, px⟩
  rcases hn with hn | hn
  · exact hn hp
  · obtain ⟨z, pz, _⟩ := (h.jd hp).mp ht
    exact hn ⟨z, pz⟩
theorem jcost {J : Tsk} {n : Nat} (hn : J.ks.length = n + 1) (sg : Int) {z : List Rat} (h : Plan J z) : dotR (unitI (n + 1) n sg) z = (sg : Rat) * lastQ z := unit_last (by rw [h.pos.len, hn])
theorem span_ex (h : Pr P s) : ∃ o, SpanJ (joint (other P) (negs s)) o := by
  have hB := h.jnt.2.2.2.2.2
  have hk : (joint (other P) (negs s)).ks.length = (other P).ks.length + 1 := by simp [joint]
  have hB2 := back_cs (joint (other P) (negs s)) (other P).ks.length hk rfl hB
  have one : ((1 : Int) : Rat) = 1 := rfl
  have mone : ((-1 : Int) : Rat) = -1 := rfl
  obtain ⟨d1, hd1⟩ := solv_ex hB.wl
  obtain ⟨d2, hd2⟩ := solv_ex hB2.wl
  have c1 : ∀ z, Plan (joint (other P) (negs s)) z → dotR (joint (other P) (negs s)).cs z = lastQ z := fun z hz => by
    have := jcost hk 1 hz
    rw [one] at this
    show dotR (unitI _ _ 1) z = _
    rw [this]; grind
  have c2 : ∀ z, Plan (joint (other P) (negs s)) z → dotR (unitI ((other P).ks.length + 1) (other P).ks.length (-1)) z = - lastQ z := fun z hz => by
    have := jcost hk (-1) hz
    rw [mone] at this
    rw [this]; grind
  have lowE : (¬ ∃ z, Plan (joint (other P) (negs s)) z) ∨ ((∃ z, Plan (joint (other P) (negs s)) z) ∧ ∃ l, LowJ (joint (other P) (negs s)) l) := by
    rcases solv_f hB.wl hd1 with ⟨z, _, hno⟩ | ⟨x, z, _, px, hx, _⟩ | ⟨x, z, _, px, hx⟩
    · exact .inl hno
    · exact .inr ⟨⟨x, px⟩, some (lastQ x), ⟨x, px, rfl⟩, fun y py => by have := hx y py; rw [c1 x px, c1 y py] at this; exact this⟩
    · refine .inr ⟨⟨x, px⟩, none, fun b => ?_⟩
      obtain ⟨y, py, lt⟩ := hx b
      exact ⟨y, py, by rw [← c1 y py]; exact lt⟩
  rcases lowE with hno | ⟨hex, l, hl⟩
  · exact ⟨none, hno⟩
  have pp : ∀ z, Plan (priced (joint (other P) (negs s)) (unitI ((other P).ks.length + 1) (other P).ks.length (-1))) z ↔ Plan (joint (other P) (negs s)) z := fun z => ⟨fun h => ⟨h.pos, h.rows⟩, fun h => ⟨h.pos, h.rows⟩⟩
  have highE : ∃ l, HighJ (joint (other P) (negs s)) l := by
    rcases solv_f hB2.wl hd2 with ⟨z, _, hno⟩ | ⟨x, z, _, px, hx, _⟩ | ⟨x, z, _, px, hx⟩
    · obtain ⟨y, py⟩ := hex
      exact absurd ⟨y, (pp y).mpr py⟩ hno
    · have px' := (pp x).mp px
      refine ⟨some (lastQ x), ⟨x, px', rfl⟩, fun y py => ?_⟩
      have : dotR (unitI ((other P).ks.length + 1) (other P).ks.length (-1)) x ≤ dotR (unitI ((other P).ks.length + 1) (other P).ks.length (-1)) y := hx y ((pp y).mpr py)
      rw [c2 x px', c2 y py] at this
      grind
    · refine ⟨none, fun b => ?_⟩
      obtain ⟨y, py, lt⟩ := hx (-b)
      have py' := (pp y).mp py
      have lt : dotR (unitI ((other P).ks.length + 1) (other P).ks.length (-1)) y < -b := lt
      rw [c2 y py'] at lt
      exact ⟨y, py', by grind⟩
  obtain ⟨r, hr⟩ := highE
  exact ⟨some (l, r), hex, hl, hr⟩
theorem unit_le (n a : Nat) (sg : Int) (h : sg = 1 ∨ sg = -1) : ∀ x, x ∈ unitI n a sg → x.natAbs ≤ 64 := fun x hx => by
  obtain ⟨i, _, rfl⟩ := List.mem_map.mp hx
  rcases h with rfl | rfl <;> split <;> decide
theorem low_qb (h : Pr P s) {l : Rat} (hl : LowJ (joint (other P) (negs s)) (some l)) : qb 162 l := by
  obtain ⟨j1, j2, j3, j4, j5, j6⟩ := h.jnt
  have hk : (joint (other P) (negs s)).ks.length = (other P).ks.length + 1 := by simp [joint]
  obtain ⟨⟨z, pz, e⟩, hm⟩ := hl
  have one : ((1 : Int) : Rat) = 1 := rfl
  have c1 : ∀ z, Plan (joint (other P) (negs s)) z → dotR (joint (other P) (negs s)).cs z = lastQ z := fun z hz => by
    have := jcost hk 1 hz
    rw [one] at this
    show dotR (unitI _ _ 1) z = _
    rw [this]; grind
  obtain ⟨x, y, px, ex, bx, _⟩ := best_box (P := joint (other P) (negs s)) j1 j2 (by decide) j3 (v := l) ⟨⟨z, pz, by rw [c1 z pz, e]⟩, fun y py => by rw [c1 y py]; exact hm y py⟩
  rw [← ex]
  have D := detB_64 j4
  have hl5 : (joint (other P) (negs s)).cs.length ≤ 5 := by rw [j1.cs]; exact j5
  exact dot_qb bx (unit_le _ _ 1 (.inl rfl)) (Nat.lt_of_le_of_lt (Nat.mul_le_mul hl5 (Nat.mul_le_mul_left _ (Nat.mul_le_mul_left _ D))) (by decide)) (lt_of_le2 D (by decide))
theorem high_qb (h : Pr P s) {l : Rat} (hl : HighJ (joint (other P) (negs s)) (some l)) : qb 162 l := by
  obtain ⟨j1, j2, j3, j4, j5, j6⟩ := h.jnt
  have hk : (joint (other P) (negs s)).ks.length = (other P).ks.length + 1 := by simp [joint]
  have hB2 := back_cs (joint (other P) (negs s)) (other P).ks.length hk rfl j6
  obtain ⟨⟨z, pz, e⟩, hm⟩ := hl
  have mone : ((-1 : Int) : Rat) = -1 := rfl
  have c2 : ∀ z, Plan (joint (other P) (negs s)) z → dotR (unitI ((other P).ks.length + 1) (other P).ks.length (-1)) z = - lastQ z := fun z hz => by
    have := jcost hk (-1) hz
    rw [mone] at this
    rw [this]; grind
  obtain ⟨x, y, px, ex, bx, _⟩ := best_box (P := priced (joint (other P) (negs s)) (unitI ((other P).ks.length + 1) (other P).ks.length (-1))) hB2.wl j2 (by decide) j3 (v := -l) ⟨⟨z, ⟨pz.pos, pz.rows⟩, by show dotR (unitI _ _ (-1)) z = _; rw [c2 z pz, e]⟩, fun y py => by
    show -l ≤ dotR (unitI _ _ (-1)) y
    have py' : Plan (joint (other P) (negs s)) y := ⟨py.pos, py.rows⟩
    rw [c2 y py']
    have := hm y py'
    grind⟩
  have D := detB_64 j4
  have hl5 : (unitI ((other P).ks.length + 1) (other P).ks.length (-1)).length ≤ 5 := by simp [unitI]; omega
  have : qb 162 (-l) := by
    rw [← ex]
    exact dot_qb bx (unit_le _ _ (-1) (.inr rfl)) (Nat.lt_of_le_of_lt (Nat.mul_le_mul hl5 (Nat.mul_le_mul_left _ (Nat.mul_le_mul_left _ D))) (by decide)) (lt_of_le2 D (by decide))
  have := qb_neg this
  rw [Rat.neg_neg] at this
  exact this
theorem Pr.pieces (h : Pr P s) : ∃ ps, PiecesR (XT P s) ps := by
  obtain ⟨o, ho⟩ := span_ex h
  by_cases hp : ∃ x, Plan P x
  · cases o with
    | none => exact pieces_ex (h.fan hp) (.inl (no_dom h (.inr ho)))
    | some lh => exact pieces_ex (h.fan hp) (.inr ⟨lh.1, lh.2, spn_of h hp ho⟩)
  · exact ⟨_, .none (no_dom h (.inl hp))⟩
end
/-! the program's lists -/
def crs (L : List Ln) : List Rat := (L.zip (L.drop 1)).map fun p => cross p.1 p.2
theorem crs_cons (v w : Ln) (L : List Ln) : crs (v :: w :: L) = cross v w :: crs (w :: L) := rfl
theorem mkP_zip : ∀ (low high : Option Rat) (L : List Ln), L ≠ [] → mkP low high L = ((low :: (crs L).map some).zip (((crs L).map some ++ [high]).zip L)).map fun p => Pc.mk p.1 p.2.1 p.2.2
  | low, high, [], h => absurd rfl h
  | low, high, [v], _ => rfl
  | low, high, v :: w :: L, _ => by
    have ih := mkP_zip (some (cross v w)) high (w :: L) (by simp)
    show Pc.mk low (some (cross v w)) v :: mkP (some (cross v w)) high (w :: L) = _
    rw [ih, crs_cons]
    rfl
theorem ch_zip {X : Ln → Prop} {v z : Ln} {L : List Ln} (c : Ch X v z L) : ∀ p, p ∈ L.zip (L.drop 1) → p.2.2 < p.1.2 ∧ Es X p.1 ∧ Es X p.2 := by
  induction c with
  | one e => intro p hp; simp at hp
  | @cons v w z L e lt _ _ c ih =>
    intro p hp
    obtain ⟨R, rfl⟩ := c.head
    have hp : p ∈ (v, w) :: (w :: R).zip R := hp
    rcases List.mem_cons.mp hp with rfl | hp
    · exact ⟨lt, e, c.es⟩
    · exact ih p hp
end Cp
end
/-! ## CPw -/
section
set_option Elab.async false
set_option linter.all false
set_option autoImplicit false
set_option maxRecDepth 100000
set_option maxHeartbeats 4000000
set_option exponentiation.threshold 100000
namespace Cp
variable [KFix]
open PySem PySem.Spec PyProof.Rows L2
def npD (p : Pc) : PyData := .tuple [oD p.lo, oD p.hi, qD (-p.ln.1), qD (-p.ln.2)]
def pD (p : Pc) : PyData := .tuple [oD p.lo, oD p.hi, qD p.ln.1, qD p.ln.2]
theorem pa_starK {X : Cx} {K : PySem.W.Frag} {e : Expr} {es : List Expr} {te : TE} {t : TA} {p : Pos} (he : PE X e te) (hr : PA X es t) (hs : starEach (.Starred e p :: es) X.env = (true, eval e X.env) :: starEach es X.env := by rfl) (eK : X.K = K := by rfl) : PA X (.Starred e p :: es) (StX.tStar K te t) := eK ▸ StX.pa_star he hr hs
theorem isN_o (o : Option Rat) : isNone (oD o) = o.isNone := by cases o <;> rfl
theorem shp_o (o : Option Rat) : SeqAt.shaped (oD o) = true := by
  cases o with
  | none => rfl
  | some v => exact shp_q v
theorem z3_map {α β γ : Type} {r : α → PyData} {q : β → PyData} {u : γ → PyData} (xs : List α) (ys : List β) (zs : List γ) : z3D (xs.map r) (ys.map q) (zs.map u) = (xs.zip (ys.zip zs)).map fun p => PyData.tuple [r p.1, q p.2.1, u p.2.2] := by
  unfold z3D
  rw [z2_map, List.zipWith_map, show xs.zip (ys.zip zs) = List.zipWith Prod.mk xs (ys.zip zs) from rfl, List.map_zipWith]
section
variable {Pg : Program} {w : World} {K : PySem.W.Frag} {mg : Str → Option Value} {base : Heap}
def pre_pieces_of (ds : List PyData) (d : PyData) : Prop := ∃ (P : Tsk) (s : List Int) (ps : List Pc), ds = [tD (other P), .list (iD (negs s))] ∧ Pr P s ∧ PiecesR (XT P s) ps ∧ d = .tuple (ps.map npD)
theorem len_pieces_of : ∀ ds d, pre_pieces_of ds d → ds.length = 2 := by rintro _ _ ⟨_, _, _, rfl, _⟩; rfl
theorem ok_pieces_of (T : Txt K mg) : FnOk Pg w K mg base CX0 138 (He.ga K "pieces_of") (T.fd 42) ["task", "steps"] (spD pre_pieces_of) := by
  refine (T.F 42 d_pieces_of rfl).ok sc_pieces_of (spD_len (n := 2) ?len) (fun cdv A outer s H vs Q E hr h => ?_)
  case len => exact len_pieces_of
  refine ⟨_, PSs.nox (pss_cons (ps_set (i := 2) sc_pieces_of.nd rfl (by first | exact Or.inl rfl | exact Or.inr rfl) (pe_call (ok_times_of_plans T) (hr.mono (show 6 ≤ _ by decide)) (by rfl) T.g_times_of_plans (T.F 38 d_times_of_plans rfl).kp (b_times_of_plans T) .nil pass0 (pa_cons (pv 0) (pa_cons (pv 1) pa_nil))))
      (pss_cons (ps_if (PW.pt (pw_or (pt_cmpR op_isN (pv 2) pe_non (nomark _)) (pw_or1 (pt_cmpR (op_eqDK (K := K) hr.units) (pe_ix (ix_seqK (K := K)) (pe_call (ok_solved T) (hr.mono (show 5 ≤ _ by decide)) (by rfl) T.g_solved (T.F 27 d_solved rfl).kp (b_solved T) .nil pass0 (pa_cons (pe_call (ok_other_of T) (hr.mono (show 3 ≤ _ by decide)) (by rfl) T.g_other_of (T.F 31 d_other_of rfl).kp (b_other_of T) .nil pass0 (pa_cons (pv 0) pa_nil)) pa_nil)) pe_int (fun _ _ => rfl)) pe_str (nomark _))))) (pss_one (ps_ret (pe_tup pa_nil))) pss_nil)
      (pss_cons (ps_asg (pv 2) (pg_tupK (K := K) (n := 2) (by rfl) (pgs_cons (pg_name (i := 3) sc_pieces_of.nd rfl (by first | exact Or.inl rfl | exact Or.inr rfl)) (pgs_cons (pg_name (i := 4) sc_pieces_of.nd rfl (by first | exact Or.inl rfl | exact Or.inr rfl)) pgs_nil))))
      (pss_cons (ps_if (PW.pt (pw_and (pt_cmpR op_notN (pv 3) pe_non (nomark _)) (pw_and1 (pt_cmpR (op_eqDK (K := K) hr.units) (pv 3) (pv 4) (nomark _))))) (pss_one (ps_ret (pe_tup (pa_cons (pe_tup (pa_cons (pv 3) (pa_cons (pv 4) (pa_cons (pe_call (ok_cost_at T) (hr.mono (show 7 ≤ _ by decide)) (by rfl) T.g_cost_at (T.F 37 d_cost_at rfl).kp (b_cost_at T) .nil pass0 (pa_cons (pv 0) (pa_cons (pv 1) (pa_cons (pv 3) pa_nil)))) (pa_cons (pe_tup (pa_cons pe_int (pa_cons pe_int pa_nil))) pa_nil))))) pa_nil)))) pss_nil)
      (pss_cons (ps_set (i := 5) sc_pieces_of.nd rfl (by first | exact Or.inl rfl | exact Or.inr rfl) (pe_ifExp (pt_cmpR op_notN (pv 3) pe_non (nomark _)) (pe_call (ok_line_at T) (hr.mono (show 8 ≤ _ by decide)) (by rfl) T.g_line_at (T.F 39 d_line_at rfl).kp (b_line_at T) .nil pass0 (pa_cons (pv 0) (pa_cons (pv 1) (pa_cons (pv 3) (pa_cons pe_int pa_nil))))) (pe_call (ok_end_line T) (hr.mono (show 7 ≤ _ by decide)) (by rfl) T.g_end_line (T.F 40 d_end_line rfl).kp (b_end_line T) .nil pass0 (pa_cons (pv 0) (pa_cons (pv 1) (pa_cons (pe_un un_neg pe_int) pa_nil))))))
      (pss_cons (ps_set (i := 6) sc_pieces_of.nd rfl (by first | exact Or.inl rfl | exact Or.inr rfl) (pe_ifExp (pt_cmpR op_notN (pv 4) pe_non (nomark _)) (pe_call (ok_line_at T) (hr.mono (show 8 ≤ _ by decide)) (by rfl) T.g_line_at (T.F 39 d_line_at rfl).kp (b_line_at T) .nil pass0 (pa_cons (pv 0) (pa_cons (pv 1) (pa_cons (pv 4) (pa_cons (pe_un un_neg pe_int) pa_nil))))) (pe_call (ok_end_line T) (hr.mono (show 7 ≤ _ by decide)) (by rfl) T.g_end_line (T.F 40 d_end_line rfl).kp (b_end_line T) .nil pass0 (pa_cons (pv 0) (pa_cons (pv 1) (pa_cons pe_int pa_nil))))))
      (pss_cons (ps_set (i := 7) sc_pieces_of.nd rfl (by first | exact Or.inl rfl | exact Or.inr rfl) (pe_call (ok_breaks T) (hr.mono (show 137 ≤ _ by decide)) (by rfl) T.g_breaks (T.F 41 d_breaks rfl).kp (b_breaks T) .nil pass0 (pa_cons (pv 0) (pa_cons (pv 1) (pa_cons (pv 5) (pa_cons (pv 6) pa_nil))))))
      (pss_cons (ps_setLc (i := 8) (own := [("a", 11), ("b", 12)]) (by rfl) sc_pieces_of.nd rfl rfl (sw_true rfl rfl rfl (by decide +kernel)) (pi_z2Q (by rfl) T.n_zip (pa_cons (pv 7) (pa_cons (pe_slice sl_list (pv 7) (po_some pe_int) po_none) pa_nil))) (blkOk_by (N := ["task", "steps", "span", "low", "high", "one", "other", "lines", "times", "starts", "ends", "a", "b", "start", "end", "line"]) (sc := defScope s_pieces_of) (by decide +kernel)) (fun _ _ _ _ _ => (pg_tupK (K := K) (n := 2) (by rfl) (pgs_cons (pg_name (i := 11) sc_pieces_of.nd rfl (by first | exact Or.inl rfl | exact Or.inr rfl)) (pgs_cons (pg_name (i := 12) sc_pieces_of.nd rfl (by first | exact Or.inl rfl | exact Or.inr rfl)) pgs_nil)))) (fun _ _ _ _ _ => pts_nil) (fun _ _ _ _ _ => (pe_call (ok_over_of T) (hr.mono (show 3 ≤ _ by decide)) (by rfl) T.g_over_of (T.F 6 d_over_of rfl).kp (b_over_of T) .nil pass0 (pa_cons (pe_call (ok_minus_of T) (hr.mono (show 3 ≤ _ by decide)) (by rfl) T.g_minus_of (T.F 4 d_minus_of rfl).kp (b_minus_of T) .nil pass0 (pa_cons (pe_ix (ix_seqK (K := K)) (pv 11) pe_int (fun _ _ => rfl)) (pa_cons (pe_ix (ix_seqK (K := K)) (pv 12) pe_int (fun _ _ => rfl)) pa_nil))) (pa_cons (pe_call (ok_minus_of T) (hr.mono (show 3 ≤ _ by decide)) (by rfl) T.g_minus_of (T.F 4 d_minus_of rfl).kp (b_minus_of T) .nil pass0 (pa_cons (pe_ix (ix_seqK (K := K)) (pv 12) pe_int (fun _ _ => rfl)) (pa_cons (pe_ix (ix_seqK (K := K)) (pv 11) pe_int (fun _ _ => rfl)) pa_nil))) pa_nil)))))
      (pss_cons (ps_par (i := 9) (j := 10) (by rfl) sc_pieces_of.nd rfl rfl (by decide) rfl rfl (pa_cons (pe_lst (pa_cons (pv 3) (StX.pa_star (pv 8) pa_nil))) (pa_cons (pe_lst (StX.pa_star (pv 8) (pa_cons (pv 4) pa_nil))) pa_nil)) (by rfl))
      (pss_one (ps_ret (pe_callTy call_tuple_of (by rfl) T.n_tuple (by decide +kernel) (pa_cons (pe_lc (own := [("start", 13), ("end", 14), ("line", 15)]) (by rfl) sc_pieces_of.nd (pi_z3Q (by rfl) T.n_zip (pa_cons (pv 9) (pa_cons (pv 10) (pa_cons (pv 7) pa_nil)))) (blkOk_by (N := ["task", "steps", "span", "low", "high", "one", "other", "lines", "times", "starts", "ends", "a", "b", "start", "end", "line"]) (sc := defScope s_pieces_of) (by decide +kernel)) (fun _ _ _ _ _ => (pg_tupK (K := K) (n := 3) (by rfl) (pgs_cons (pg_name (i := 13) sc_pieces_of.nd rfl (by first | exact Or.inl rfl | exact Or.inr rfl)) (pgs_cons (pg_name (i := 14) sc_pieces_of.nd rfl (by first | exact Or.inl rfl | exact Or.inr rfl)) (pgs_cons (pg_name (i := 15) sc_pieces_of.nd rfl (by first | exact Or.inl rfl | exact Or.inr rfl)) pgs_nil))))) (fun _ _ _ _ _ => pts_nil) (fun _ _ _ _ _ => (pe_tup (pa_cons (pv 13) (pa_cons (pv 14) (pa_starK (K := K) (pv 15) pa_nil)))))) pa_nil))))))))))))), ?_⟩
  refine body_pure (K := K) (C := gC K) h (fun ds d hp => by rw [len_pieces_of ds d hp]; decide) (fun ds d hp F0 H0 => ?_)
  obtain ⟨P, s', ps, rfl, hP, hps, rfl⟩ := hp
  show Sd _ _ [.d (tD (other P)), .d (.list (iD (negs s'))), .no, .no, .no, .no, .no, .no, .no, .no, .no, .no, .no, .no, .no, .no] _ _
  obtain ⟨o1, o2, o3, o4, o5, o6⟩ := hP.oth
  have hB := hP.jnt.2.2.2.2.2
  obtain ⟨o, ho⟩ := span_ex hP
  have hoo : other (other P).plain = P := by rw [plain_same other_pn]; exact other_other hP.wl hP.pn
  refine s_seq1 (P' := [.d (tD (other P)), .d (.list (iD (negs s'))), .d (spanD o), .no, .no, .no, .no, .no, .no, .no, .no, .no, .no, .no, .no, .no]) (s_set (g_call (a_cons (g_var rfl) (a_cons (g_var rfl) a_nil)) ⟨other P, negs s', o, rfl, o2, by omega, hB, ho, rfl⟩) (by simp) rfl) ?_
  cases o with
  | none =>
    have : ps = [] := hps.det (.none (no_dom hP (.inr ho)))
    subst this
    exact s_seq (M := fun _ => False) (s_if (b := true) (t_orT (t_cmp (g_op (g_var rfl) g_non o_isN))) (fun _ => s_ret (g_tup a_nil (by simp)) rfl) fun z => nomatch z) fun _ z => z.elim
  | some lh =>
    obtain ⟨low, high⟩ := lh
    obtain ⟨d1, hd1⟩ := solv_ex hP.big.wl
    have hcall : ∀ (E1 E2 : XK) F0 H0, TEg ⟨K, gC K, F0, H0⟩ (tCall (spD pre_solved) [] E1 (tCons (tCall (spD pre_other_of) [] E2 (tCons (tVar 0) tNil)) tNil)) [.d (tD (other P)), .d (.list (iD (negs s'))), .d (spanD (some (low, high))), .no, .no, .no, .no, .no, .no, .no, .no, .no, .no, .no, .no, .no] d1 [.d (tD (other P)), .d (.list (iD (negs s'))), .d (spanD (some (low, high))), .no, .no, .no, .no, .no, .no, .no, .no, .no, .no, .no, .no, .no] := fun E1 E2 F0 H0 => g_call (a_cons ((g_call (a_cons (g_var rfl) a_nil) ⟨other P, rfl, o2, o1, rfl⟩).eq (by rw [hoo])) a_nil) ⟨P, rfl, hP.big, hd1⟩
    rcases solv_f hP.big.wl hd1 with ⟨z, rfl, hno⟩ | hyes
    · have : ps = [] := hps.det (.none (no_dom hP (.inl hno)))
      subst this
      exact s_seq (M := fun _ => False) (s_if (b := true) (t_orF (t_cmp (g_op (g_var rfl) g_non o_isN)) ((t_cmp (g_op (g_op (hcall _ _ _ _) g_int (o_ixqT atT0)) g_str (o_eq (by decide +kernel) (by decide +kernel)))).eq e_nn)) (fun _ => s_ret (g_tup a_nil (by simp)) rfl) fun z => nomatch z) fun _ z => z.elim
    have hpl : ∃ x, Plan P x := by
      rcases hyes with ⟨x, z, _, px, _⟩ | ⟨x, z, _, px, _⟩ <;> exact ⟨x, px⟩
    have hno : ∀ (E1 E2 : XK) F0 H0, TTg ⟨K, gC K, F0, H0⟩ (tTest (tOp (rEqD K) (tOp (rIx K) (tCall (spD pre_solved) [] E1 (tCons (tCall (spD pre_other_of) [] E2 (tCons (tVar 0) tNil)) tNil)) (tC (.int 0))) (tC (.str ("none" : Str))))) [.d (tD (other P)), .d (.list (iD (negs s'))), .d (spanD (some (low, high))), .no, .no, .no, .no, .no, .no, .no, .no, .no, .no, .no, .no, .no] false [.d (tD (other P)), .d (.list (iD (negs s'))), .d (spanD (some (low, high))), .no, .no, .no, .no, .no, .no, .no, .no, .no, .no, .no, .no, .no] := fun E1 E2 F0 H0 => by
      rcases hyes with ⟨x, z, rfl, px, _⟩ | ⟨x, z, rfl, px, _⟩
      · exact (t_cmp (g_op (g_op (hcall _ _ _ _) g_int (o_ixqT atT0)) g_str (o_eq (by decide +kernel) (by decide +kernel)))).eq e_bn
      · exact (t_cmp (g_op (g_op (hcall _ _ _ _) g_int (o_ixqT atT0)) g_str (o_eq (by decide +kernel) (by decide +kernel)))).eq e_en
    refine s_seq1 (P' := [.d (tD (other P)), .d (.list (iD (negs s'))), .d (spanD (some (low, high))), .no, .no, .no, .no, .no, .no, .no, .no, .no, .no, .no, .no, .no]) (s_if (b := false) (t_orF (t_cmp (g_op (g_var rfl) g_non o_isN)) (hno _ _ _ _)) (fun z => nomatch z) fun _ => s_next rfl) ?_
    have F := hP.fan hpl
    have S := spn_of hP hpl ho
    obtain ⟨hex, hlow, hhigh⟩ := ho
    refine s_seq1 (P' := [.d (tD (other P)), .d (.list (iD (negs s'))), .d (spanD (some (low, high))), .d (oD low), .d (oD high), .no, .no, .no, .no, .no, .no, .no, .no, .no, .no, .no]) (s_asg (g_var rfl) (d_tup (ds_cons (d_name (by simp)) (ds_cons (d_name (by simp)) ds_nil)) rfl) rfl) ?_
    by_cases q : ∃ l, low = some l ∧ high = some l
    · obtain ⟨l, rfl, rfl⟩ := q
      have hD : Dom (XT P s') l := (S.dom l).mpr ⟨decide_eq_true Rat.le_refl, decide_eq_true Rat.le_refl⟩
      obtain ⟨x, m⟩ := hD
      have : ps = _ := hps.det (.one S m)
      subst this
      obtain ⟨ca, _⟩ := hP.ca (low_qb hP hlow) m
      refine s_seq (M := fun _ => False) (s_if (b := true) (t_andT (t_cmp (g_op (g_var rfl) g_non o_notN)) ((t_cmp (g_op (g_var rfl) (g_var rfl) (o_eq (shp_q l) (shp_q l)))).eq (by rw [eqv_q]; simp))) (fun _ => s_ret (g_tup (a_cons (g_tup (a_cons (g_var rfl) (a_cons (g_var rfl) (a_cons (g_call (a_cons (g_var rfl) (a_cons (g_var rfl) (a_cons (g_var rfl) a_nil))) ca) (a_cons (g_tup (a_cons g_int (a_cons g_int a_nil)) (by simp)) a_nil)))) (by simp)) a_nil) (by simp)) ?_) fun z => nomatch z) fun _ z => z.elim
      have z0 : (-(0 : Rat)) = 0 := by decide
      show _ = PyData.tuple [.tuple [qD l, qD l, qD (- at_ x l), qD (-0)]]
      rw [z0]; rfl
    · have hlt : ∀ l r, low = some l → high = some r → l < r := fun l r e1 e2 => by
        subst e1; subst e2
        obtain ⟨t, ht⟩ := S.ne
        obtain ⟨a, b⟩ := (S.dom t).mp ht
        have a : l ≤ t := of_decide_eq_true a
        have b : t ≤ r := of_decide_eq_true b
        rcases ratLtEq (Rat.le_trans a b) with z | z
        · exact z
        · exact absurd ⟨l, rfl, by rw [z]⟩ q
      obtain ⟨v, hv⟩ := lo_ex F S hlt
      obtain ⟨u, hu⟩ := hi_ex F S hlt
      have hord := lo_hi hlt hv hu
      obtain ⟨L, hb⟩ := brk_ex F _ v u (Nat.le_refl _) hv.es hu.es hord
      have : ps = _ := hps.det (.many S hlt hv hu hb)
      subst this
      have hch := brk_ch F hb hv.es hu.es hord
      have hlen := ch_len F hch
      have hz := ch_zip hch
      have hne : L ≠ [] := by obtain ⟨R, rfl⟩ := hch.head; simp
      refine s_seq1 (P' := [.d (tD (other P)), .d (.list (iD (negs s'))), .d (spanD (some (low, high))), .d (oD low), .d (oD high), .no, .no, .no, .no, .no, .no, .no, .no, .no, .no, .no]) ?_ ?_
      · refine s_if (b := false) ?_ (fun z => nomatch z) fun _ => s_next rfl
        cases low with
        | none => exact t_andF (t_cmp (g_op (g_var rfl) g_non o_notN))
        | some l =>
          cases high with
          | none => exact t_andT (t_cmp (g_op (g_var rfl) g_non o_notN)) ((t_cmp (g_op (g_var rfl) (g_var rfl) (o_eq (shp_q l) rfl))).eq rfl)
          | some r => exact t_andT (t_cmp (g_op (g_var rfl) g_non o_notN)) ((t_cmp (g_op (g_var rfl) (g_var rfl) (o_eq (shp_q l) (shp_q r)))).eq (by rw [eqv_q, decide_eq_false]; have := hlt l r rfl rfl; grind))
      refine s_seq1 (P' := [.d (tD (other P)), .d (.list (iD (negs s'))), .d (spanD (some (low, high))), .d (oD low), .d (oD high), .d (nlD v), .no, .no, .no, .no, .no, .no, .no, .no, .no, .no]) ?_ ?_
      · cases low with
        | none => exact s_set (g_if (b := false) (t_cmp (g_op (g_var rfl) g_non o_notN)) (fun z => nomatch z) fun _ => g_call (a_cons (g_var rfl) (a_cons (g_var rfl) (a_cons (g_un g_int o_neg) a_nil))) ⟨P, s', -1, v, rfl, hP, .inr ⟨rfl, hv⟩, rfl⟩) (by simp) rfl
        | some l => exact s_set (g_if (b := true) (t_cmp (g_op (g_var rfl) g_non o_notN)) (fun _ => g_call (a_cons (g_var rfl) (a_cons (g_var rfl) (a_cons (g_var rfl) (a_cons g_int a_nil)))) ⟨P, s', l, 1, v, rfl, hP, low_qb hP hlow, .inl ⟨rfl, hv⟩, rfl⟩) fun z => nomatch z) (by simp) rfl
      refine s_seq1 (P' := [.d (tD (other P)), .d (.list (iD (negs s'))), .d (spanD (some (low, high))), .d (oD low), .d (oD high), .d (nlD v), .d (nlD u), .no, .no, .no, .no, .no, .no, .no, .no, .no]) ?_ ?_
      · cases high with
        | none => exact s_set (g_if (b := false) (t_cmp (g_op (g_var rfl) g_non o_notN)) (fun z => nomatch z) fun _ => g_call (a_cons (g_var rfl) (a_cons (g_var rfl) (a_cons g_int a_nil))) ⟨P, s', 1, u, rfl, hP, .inl ⟨rfl, hu⟩, rfl⟩) (by simp) rfl
        | some l => exact s_set (g_if (b := true) (t_cmp (g_op (g_var rfl) g_non o_notN)) (fun _ => g_call (a_cons (g_var rfl) (a_cons (g_var rfl) (a_cons (g_var rfl) (a_cons (g_un g_int o_neg) a_nil)))) ⟨P, s', l, -1, u, rfl, hP, high_qb hP hhigh, .inr ⟨rfl, hu⟩, rfl⟩) fun z => nomatch z) (by simp) rfl
      refine s_seq1 (P' := [.d (tD (other P)), .d (.list (iD (negs s'))), .d (spanD (some (low, high))), .d (oD low), .d (oD high), .d (nlD v), .d (nlD u), .d (.list (L.map nlD)), .no, .no, .no, .no, .no, .no, .no, .no]) (s_set (g_call (a_cons (g_var rfl) (a_cons (g_var rfl) (a_cons (g_var rfl) (a_cons (g_var rfl) a_nil)))) ⟨P, s', v, u, L, rfl, hP, hpl, hv.es, hu.es, hord, btw_le v u, hb, rfl⟩) (by simp) rfl) ?_
      refine s_seq1 (P' := [.d (tD (other P)), .d (.list (iD (negs s'))), .d (spanD (some (low, high))), .d (oD low), .d (oD high), .d (nlD v), .d (nlD u), .d (.list (L.map nlD)), .d (.list (qsD (crs L))), .no, .no, .no, .no, .no, .no, .no]) ?_ ?_
      · refine s_set ((TEo.g (o_mapL (xs := L.zip (L.drop 1)) (f := fun p => qD (cross p.1 p.2)) (by rw [← List.map_drop] ; exact z2_map (r := nlD) (q := nlD) L (L.drop 1)) (i_z2 (a_cons (g_var rfl) (a_cons (g_slice (k := 1) (g_var rfl) g_int) a_nil)) its_l its_l) (by simp) (by rw [List.length_zip]; omega) fun p hp => ?_)).eq (by unfold qsD crs; rw [List.map_map]; rfl)) (by simp [noAt]) rfl
        obtain ⟨lt, e1, e2⟩ := hz p hp
        have vq := es_qb hP e1
        have uq := es_qb hP e2
        have f1 : -p.1.1 - -p.2.1 = p.2.1 - p.1.1 := by grind
        have f2 : -p.2.2 - -p.1.2 = p.1.2 - p.2.2 := by grind
        have b1 : qb 81 (p.2.1 - p.1.1) := qb_sub uq.1 vq.1
        have b2 : qb 81 (p.1.2 - p.2.2) := qb_sub vq.2 uq.2
        refine ⟨_, [.d (tD (other P)), .d (.list (iD (negs s'))), .d (spanD (some (low, high))), .d (oD low), .d (oD high), .d (nlD v), .d (nlD u), .d (.list (L.map nlD)), .no, .no, .no, .d (nlD p.1), .d (nlD p.2), .no, .no, .no], ?_, d_tup (ds_cons (d_name (by simp [noAt])) (ds_cons (d_name (by simp [noAt])) ds_nil)) rfl, rfl, ?_⟩
        · simp
        · exact (g_call (a_cons ((g_call (a_cons (g_op (g_var rfl) g_int (o_ixqT at0)) (a_cons (g_op (g_var rfl) g_int (o_ixqT at0)) a_nil)) ⟨_, _, rfl, (qb_neg vq.1).mono (by decide), (qb_neg uq.1).mono (by decide), rfl⟩).eq (by rw [f1])) (a_cons ((g_call (a_cons (g_op (g_var rfl) g_int (o_ixqT at1)) (a_cons (g_op (g_var rfl) g_int (o_ixqT at1)) a_nil)) ⟨_, _, rfl, (qb_neg uq.2).mono (by decide), (qb_neg vq.2).mono (by decide), rfl⟩).eq (by rw [f2])) a_nil)) ⟨_, _, rfl, b1.mono (by decide), b2.mono (by decide), num_pos' (by grind), rfl⟩).eq (by rw [cross_eq])
      have cl : (crs L).length ≤ 128 := by unfold crs; rw [List.length_map, List.length_zip]; omega
      have eS : (low :: (crs L).map some).map oD = oD low :: (qsD (crs L) ++ []) := by
        unfold qsD; rw [List.append_nil, List.map_cons, List.map_map]; rfl
      have eE : ((crs L).map some ++ [high]).map oD = qsD (crs L) ++ [oD high] := by
        unfold qsD; rw [List.map_append, List.map_map]; rfl
      refine s_seq1 (P' := [.d (tD (other P)), .d (.list (iD (negs s'))), .d (spanD (some (low, high))), .d (oD low), .d (oD high), .d (nlD v), .d (nlD u), .d (.list (L.map nlD)), .d (.list (qsD (crs L))), .d (.list ((low :: (crs L).map some).map oD)), .d (.list (((crs L).map some ++ [high]).map oD)), .no, .no, .no, .no, .no]) (s_par (a_cons ((g_lst (a_cons (g_var rfl) (a_star (.inr (g_var rfl)) a_nil)) (by simp [qsD]; omega)).eq (by rw [eS])) (a_cons ((g_lst (a_star (.inr (g_var rfl)) (a_cons (g_var rfl) a_nil)) (by simp [qsD]; omega)).eq (by rw [eE])) a_nil)) (by simp) (by simp) rfl) ?_
      refine s_ret (g_cb (a_cons (TEo.g (o_mapL (xs := (low :: (crs L).map some).zip (((crs L).map some ++ [high]).zip L)) (f := fun p => npD ⟨p.1, p.2.1, p.2.2⟩) (z3_map (r := oD) (q := oD) (u := nlD) _ _ _) (i_z3 (a_cons (g_var rfl) (a_cons (g_var rfl) (a_cons (g_var rfl) a_nil))) its_l its_l its_l) (by simp) (by simp; omega) fun p hp => ?_)) a_nil) b_tuple) ?_
      · refine ⟨_, [.d (tD (other P)), .d (.list (iD (negs s'))), .d (spanD (some (low, high))), .d (oD low), .d (oD high), .d (nlD v), .d (nlD u), .d (.list (L.map nlD)), .d (.list (qsD (crs L))), .d (.list ((low :: (crs L).map some).map oD)), .d (.list (((crs L).map some ++ [high]).map oD)), .no, .no, .d (oD p.1), .d (oD p.2.1), .d (nlD p.2.2)], ?_, d_tup (ds_cons (d_name (by simp [noAt])) (ds_cons (d_name (by simp [noAt])) (ds_cons (d_name (by simp [noAt])) ds_nil))) rfl, rfl, ?_⟩
        · simp
        · exact g_tup (a_cons (g_var rfl) (a_cons (g_var rfl) (a_star (es := [qD (-p.2.2.1), qD (-p.2.2.2)]) (.inl (g_var rfl)) a_nil))) (by simp)
      · rw [mkP_zip low high L hne, List.map_map]
        rfl
def pre_cost_pieces (ds : List PyData) (d : PyData) : Prop := ∃ (T : Tsk) (s : List Int) (ps : List Pc), ds = [tD T, .tuple (iD s)] ∧ Nd T ∧ s.length = T.ks.length ∧ (∀ a, a ∈ s → sml a) ∧ Pr T.plain s ∧ PiecesR (XT T.plain s) ps ∧ ps.length ≤ 1000 ∧ d = .tuple (ps.map pD)
theorem len_cost_pieces : ∀ ds d, pre_cost_pieces ds d → ds.length = 2 := by rintro _ _ ⟨_, _, _, rfl, _⟩; rfl
theorem ok_cost_pieces (T : Txt K mg) : FnOk Pg w K mg base CX0 139 (He.ga K "cost_pieces") (T.fd 43) ["task", "steps"] (spD pre_cost_pieces) := by
  refine (T.F 43 d_cost_pieces rfl).ok sc_cost_pieces (spD_len (n := 2) ?len) (fun cdv A outer s H vs Q E hr h => ?_)
  case len => exact len_cost_pieces
  refine ⟨_, PSs.nox (pss_cons (ps_expr (pe_call (ok_need_task T) (hr.mono (show 4 ≤ _ by decide)) (by rfl) T.g_need_task (T.F 21 d_need_task rfl).kp (b_need_task T) .nil pass0 (pa_cons (pv 0) pa_nil)))
      (pss_cons (ps_expr (pe_call (ok_need_steps T) (hr.mono (show 3 ≤ _ by decide)) (by rfl) T.g_need_steps (T.F 35 d_need_steps rfl).kp (b_need_steps T) .nil pass0 (pa_cons (pv 1) (pa_cons (pe_callB call_len (by rfl) T.n_len PySem.boot_len (pa_cons (pe_ix (ix_seqK (K := K)) (pv 0) pe_int (fun _ _ => rfl)) pa_nil)) pa_nil))))
      (pss_cons (ps_set (i := 2) sc_cost_pieces.nd rfl (by first | exact Or.inl rfl | exact Or.inr rfl) (pe_call (ok_pieces_of T) (hr.mono (show 138 ≤ _ by decide)) (by rfl) T.g_pieces_of (T.F 42 d_pieces_of rfl).kp (b_pieces_of T) .nil pass0 (pa_cons (pe_call (ok_other_of T) (hr.mono (show 3 ≤ _ by decide)) (by rfl) T.g_other_of (T.F 31 d_other_of rfl).kp (b_other_of T) .nil pass0 (pa_cons (pv 0) pa_nil)) (pa_cons (pe_lc (own := [("step", 8)]) (by rfl) sc_cost_pieces.nd (pi_tup (pv 1)) (blkOk_by (N := ["task", "steps", "told", "found", "low", "high", "base", "slope", "step"]) (sc := defScope s_cost_pieces) (by decide +kernel)) (fun _ _ _ _ _ => (pg_name (i := 8) sc_cost_pieces.nd rfl (by first | exact Or.inl rfl | exact Or.inr rfl))) (fun _ _ _ _ _ => pts_nil) (fun _ _ _ _ _ => (pe_un un_neg (pv 8)))) pa_nil))))
      (pss_cons (ps_set (i := 3) sc_cost_pieces.nd rfl (by first | exact Or.inl rfl | exact Or.inr rfl) (pe_lst pa_nil))
      (pss_cons (ps_for PassesOwn.never rfl (pi_tup (pv 2)) (pg_tupK (K := K) (n := 4) (by rfl) (pgs_cons (pg_name (i := 4) sc_cost_pieces.nd rfl (by first | exact Or.inl rfl | exact Or.inr rfl)) (pgs_cons (pg_name (i := 5) sc_cost_pieces.nd rfl (by first | exact Or.inl rfl | exact Or.inr rfl)) (pgs_cons (pg_name (i := 6) sc_cost_pieces.nd rfl (by first | exact Or.inl rfl | exact Or.inr rfl)) (pgs_cons (pg_name (i := 7) sc_cost_pieces.nd rfl (by first | exact Or.inl rfl | exact Or.inr rfl)) pgs_nil))))) (pss_one (ps_expr (pe_bm PySem.F.plainAttrs_list PySem.F.slot_list_append PySem.F.type_list_append mt_append (pv 3) (pa_cons (pe_tup (pa_cons (pv 4) (pa_cons (pv 5) (pa_cons (pe_tup (pa_cons (pe_un un_neg (pe_ix (ix_seqK (K := K)) (pv 6) pe_int (fun _ _ => rfl))) (pa_cons (pe_ix (ix_seqK (K := K)) (pv 6) pe_int (fun _ _ => rfl)) pa_nil))) (pa_cons (pe_tup (pa_cons (pe_un un_neg (pe_ix (ix_seqK (K := K)) (pv 7) pe_int (fun _ _ => rfl))) (pa_cons (pe_ix (ix_seqK (K := K)) (pv 7) pe_int (fun _ _ => rfl)) pa_nil))) pa_nil))))) pa_nil)))))
      (pss_one (ps_ret (pe_callTy call_tuple_of (by rfl) T.n_tuple (by decide +kernel) (pa_cons (pv 3) pa_nil))))))))), ?_⟩
  refine body_pure (K := K) (C := gC K) h (fun ds d hp => by rw [len_cost_pieces ds d hp]; decide) (fun ds d hp F0 H0 => ?_)
  obtain ⟨U, s', ps, rfl, hN, hs, hsm, hP, hps, hpl, rfl⟩ := hp
  show Sd _ _ [.d (tD U), .d (.tuple (iD s')), .no, .no, .no, .no, .no, .no, .no] _ _
  have h6 := hN.k6
  refine s_seq1 (P' := [.d (tD U), .d (.tuple (iD s')), .no, .no, .no, .no, .no, .no, .no]) (s_drop (g_call (a_cons (g_var rfl) a_nil) ⟨U, rfl, hN, rfl⟩) rfl) ?_
  refine s_seq1 (P' := [.d (tD U), .d (.tuple (iD s')), .no, .no, .no, .no, .no, .no, .no]) (s_drop (g_call (a_cons (g_var rfl) (a_cons ((g_cb (a_cons (g_op (g_var rfl) g_int (o_ixqT atT0)) a_nil) (b_lenS (by rw [ks_len]; omega))).eq (d' := .int (s'.length : Nat)) (by rw [ks_len, hs])) a_nil)) ⟨s', rfl, by omega, hsm, rfl⟩) rfl) ?_
  refine s_seq1 (P' := [.d (tD U), .d (.tuple (iD s')), .d (.tuple (ps.map npD)), .no, .no, .no, .no, .no, .no]) (s_set (g_call (a_cons (g_call (a_cons (g_var rfl) a_nil) ⟨U, rfl, hN.sz, hN.wl, rfl⟩) (a_cons ((TEo.g (o_mapL (xs := s') (r := .int) (f := fun x => .int (-x)) rfl (i_tup (g_var rfl)) (by simp) (by omega) fun x hx => ⟨_, _, by simp, d_name (by simp [noAt]), rfl, g_un (g_var rfl) o_neg⟩)).eq (d' := .list (iD (negs s'))) (by unfold negs iD; rw [List.map_map]; rfl)) a_nil)) ⟨U.plain, s', ps, rfl, hP, hps, rfl⟩) (by simp [noAt]) rfl) ?_
  refine s_seq (M := fun P' => ∃ a, P' = [.d (tD U), .d (.tuple (iD s')), .d (.tuple (ps.map npD)), .own a [], .no, .no, .no, .no, .no]) (s_nilOwn a_nil (by simp) (by simp) fun a => ⟨a, rfl⟩) ?_
  rintro _ ⟨a, rfl⟩
  refine s_seq (M := fun P' => ∃ a x1 x2 x3 x4, P' = [.d (tD U), .d (.tuple (iD s')), .d (.tuple (ps.map npD)), .own a (ps.map pD), x1, x2, x3, x4, .no]) (s_for (ds := ps.map npD) (i_tup (g_var rfl)) (fun i P' => ∃ a x1 x2 x3 x4, P' = [.d (tD U), .d (.tuple (iD s')), .d (.tuple (ps.map npD)), .own a ((ps.take i).map pD), x1, x2, x3, x4, .no]) ⟨a, _, _, _, _, rfl⟩ ?_ ?_) ?_
  · rintro i d P2 hd ⟨a, x1, x2, x3, x4, rfl⟩
    rw [List.getElem?_map] at hd
    cases e : ps[i]? with
    | none => rw [e] at hd; cases hd
    | some p =>
      rw [e] at hd
      cases hd
      have hl : ((ps.take i).map pD).length ≤ 10000 := by simp; omega
      have et : (ps.take (i + 1)).map pD = (ps.take i).map pD ++ [pD p] := by rw [List.take_add_one, e]; simp
      rw [et]
      generalize (ps.take i).map pD = done at hl ⊢
      refine ⟨_, [.d (tD U), .d (.tuple (iD s')), .d (.tuple (ps.map npD)), .own a done, .d (oD p.lo), .d (oD p.hi), .d (qD (-p.ln.1)), .d (qD (-p.ln.2)), .no], d_tup (ds_cons (d_name (by simp)) (ds_cons (d_name (by simp)) (ds_cons (d_name (by simp)) (ds_cons (d_name (by simp)) ds_nil)))) rfl, ?_⟩
      have ng : ∀ x : Rat, PyData.tuple [.int (-(-x).num), .int (-x).den] = qD x := fun x => by
        unfold qD
        rw [Rat.neg_num, Rat.neg_den, Int.neg_neg]
      exact s_append (d := pD p) rfl (g_tup (a_cons (g_var rfl) (a_cons (g_var rfl) (a_cons ((g_tup (a_cons (g_un (g_q0 (g_var rfl) g_int) o_neg) (a_cons (g_q1 (g_var rfl) g_int) a_nil)) (by simp)).eq (ng p.ln.1)) (a_cons ((g_tup (a_cons (g_un (g_q0 (g_var rfl) g_int) o_neg) (a_cons (g_q1 (g_var rfl) g_int) a_nil)) (by simp)).eq (ng p.ln.2)) a_nil)))) (by simp)) rfl hl ⟨a, .d (oD p.lo), .d (oD p.hi), .d (qD (-p.ln.1)), .d (qD (-p.ln.2)), rfl⟩
  · rintro _ ⟨a, x1, x2, x3, x4, rfl⟩
    refine ⟨a, x1, x2, x3, x4, ?_⟩
    rw [List.length_map, List.take_length]
  rintro _ ⟨a, x1, x2, x3, x4, rfl⟩
  exact s_ret (g_cb (a_cons (g_own rfl) a_nil) b_tuple) rfl
end
end Cp
end
/-! ## CSu -/
section
set_option Elab.async false
set_option linter.all false
set_option autoImplicit false
set_option maxRecDepth 100000
set_option maxHeartbeats 4000000
set_option exponentiation.threshold 100000
namespace Cp
variable [KFix]
open PySem PySem.Spec PyProof.Rows L2
theorem num_le0 (l : Rat) : decide (l.num ≤ 0) = decide (l ≤ 0) := by
  by_cases h : l ≤ 0
  · rw [decide_eq_true h, decide_eq_true]
    refine Int.not_lt.mp fun z => ?_
    have h1 : 0 ≤ l.num := by omega
    have h2 := Rat.num_nonneg.mp h1
    have : l = 0 := Rat.le_antisymm h h2
    rw [this] at z
    exact absurd z (by decide)
  · rw [decide_eq_false h, decide_eq_false]
    have := num_pos' (show 0 < l by grind)
    omega
theorem num_ge0 (l : Rat) : decide (0 ≤ l.num) = decide (0 ≤ l) := by
  by_cases h : 0 ≤ l
  · rw [decide_eq_true h, decide_eq_true (Rat.num_nonneg.mpr h)]
  · rw [decide_eq_false h, decide_eq_false fun z => h (Rat.num_nonneg.mp z)]
def untilD (ps : List Pc) : PyData := match ps.filter (inB 0) with
  | [] => .none
  | q :: r => .tuple [oD q.lo, oD ((q :: r).getLastD q).hi]
theorem at4_0 {a b c d : PyData} : atI [a, b, c, d] 0 = some a := rfl
theorem at4_1 {a b c d : PyData} : atI [a, b, c, d] 1 = some b := rfl
theorem at4_2 {a b c d : PyData} : atI [a, b, c, d] 2 = some c := rfl
theorem at4_3 {a b c d : PyData} : atI [a, b, c, d] 3 = some d := rfl
section
variable {Pg : Program} {w : World} {K : PySem.W.Frag} {mg : Str → Option Value} {base : Heap}
def pre_starts_to (ds : List PyData) (d : PyData) : Prop := ∃ (p : Pc), ds = [npD p] ∧ d = .bool (fromB p.lo 0)
theorem len_starts_to : ∀ ds d, pre_starts_to ds d → ds.length = 1 := by rintro _ _ ⟨_, rfl, _⟩; rfl
theorem ok_starts_to (T : Txt K mg) : FnOk Pg w K mg base CX0 1 (He.ga K "starts_to") (T.fd 44) ["piece"] (spD pre_starts_to) := by
  refine (T.F 44 d_starts_to rfl).ok sc_starts_to (spD_len (n := 1) ?len) (fun cdv A outer s H vs Q E hr h => ?_)
  case len => exact len_starts_to
  refine ⟨_, PSs.nox (pss_one (ps_ret (pe_or (pe_cmpR op_isN (pe_ix (ix_seqK (K := K)) (pv 0) pe_int (fun _ _ => rfl)) pe_non (nomark _)) (pe_one (pe_cmpR op_le (pe_ix (ix_seqK (K := K)) (pe_ix (ix_seqK (K := K)) (pv 0) pe_int (fun _ _ => rfl)) pe_int (fun _ _ => rfl)) pe_int (nomark _)))))), ?_⟩
  refine body_pure (K := K) (C := gC K) h (fun ds d hp => by rw [len_starts_to ds d hp]; decide) (fun ds d hp F0 H0 => ?_)
  obtain ⟨⟨lo, hi, ln⟩, rfl, rfl⟩ := hp
  show Sd _ _ [.d (npD ⟨lo, hi, ln⟩)] _ _
  cases lo with
  | none => exact s_ret (g_orV (a := true) (b := true) (g_op (g_op (g_var rfl) g_int (o_ixqT at4_0)) g_non o_isN) fun z => nomatch z) rfl
  | some l => exact s_ret (g_orV (a := false) (g_op (g_op (g_var rfl) g_int (o_ixqT at4_0)) g_non o_isN) fun _ => (g_op (g_q0 (g_op (g_var rfl) g_int (o_ixqT at4_0)) g_int) g_int o_le).eq (by rw [num_le0])) rfl
def pre_ends_from (ds : List PyData) (d : PyData) : Prop := ∃ (p : Pc), ds = [npD p] ∧ d = .bool (toB p.hi 0)
theorem len_ends_from : ∀ ds d, pre_ends_from ds d → ds.length = 1 := by rintro _ _ ⟨_, rfl, _⟩; rfl
theorem ok_ends_from (T : Txt K mg) : FnOk Pg w K mg base CX0 1 (He.ga K "ends_from") (T.fd 45) ["piece"] (spD pre_ends_from) := by
  refine (T.F 45 d_ends_from rfl).ok sc_ends_from (spD_len (n := 1) ?len) (fun cdv A outer s H vs Q E hr h => ?_)
  case len => exact len_ends_from
  refine ⟨_, PSs.nox (pss_one (ps_ret (pe_or (pe_cmpR op_isN (pe_ix (ix_seqK (K := K)) (pv 0) pe_int (fun _ _ => rfl)) pe_non (nomark _)) (pe_one (pe_cmpR op_ge (pe_ix (ix_seqK (K := K)) (pe_ix (ix_seqK (K := K)) (pv 0) pe_int (fun _ _ => rfl)) pe_int (fun _ _ => rfl)) pe_int (nomark _)))))), ?_⟩
  refine body_pure (K := K) (C := gC K) h (fun ds d hp => by rw [len_ends_from ds d hp]; decide) (fun ds d hp F0 H0 => ?_)
  obtain ⟨⟨lo, hi, ln⟩, rfl, rfl⟩ := hp
  show Sd _ _ [.d (npD ⟨lo, hi, ln⟩)] _ _
  cases hi with
  | none => exact s_ret (g_orV (a := true) (b := true) (g_op (g_op (g_var rfl) g_int (o_ixqT at4_1)) g_non o_isN) fun z => nomatch z) rfl
  | some l => exact s_ret (g_orV (a := false) (g_op (g_op (g_var rfl) g_int (o_ixqT at4_1)) g_non o_isN) fun _ => (g_op (g_q0 (g_op (g_var rfl) g_int (o_ixqT at4_1)) g_int) g_int o_ge).eq (by rw [num_ge0])) rfl
def pre_same_until (ds : List PyData) (d : PyData) : Prop := ∃ (T : Tsk) (c : Nat) (ps : List Pc), ds = [tD T, .int c] ∧ Nd T ∧ c < T.ks.length ∧ Pr T.plain (unitI T.ks.length c 1) ∧ PiecesR (XT T.plain (unitI T.ks.length c 1)) ps ∧ ps.length ≤ 1000 ∧ d = untilD ps
theorem len_same_until : ∀ ds d, pre_same_until ds d → ds.length = 2 := by rintro _ _ ⟨_, _, _, rfl, _⟩; rfl
theorem eqv_np_nil (L : List Pc) : PyData.eqv (.list (L.map npD)) (.list []) = L.isEmpty := by cases L <;> rfl
theorem shp_npl (L : List Pc) : SeqAt.shaped (.list (L.map npD)) = true := by
  have key : PyData.canLayAll0 (L.map npD) = true ∧ PyData.depthAll (L.map npD) ≤ 4 := by
    induction L with
    | nil => exact ⟨rfl, by simp [PyData.depthAll]⟩
    | cons p L ih =>
      have h1 : PyData.canLay0 (npD p) = true ∧ PyData.depth (npD p) ≤ 4 := by
        obtain ⟨lo, hi, ln⟩ := p
        cases lo <;> cases hi <;> simp [npD, oD, qD, PyData.canLay0, PyData.canLayAll0, PyData.depth, PyData.depthAll]
      refine ⟨?_, ?_⟩
      · show (PyData.canLay0 (npD p) && PyData.canLayAll0 (L.map npD)) = true
        rw [h1.1, ih.1]; rfl
      · show PyData.depthAll (npD p :: L.map npD) ≤ 4
        simp only [PyData.depthAll]
        omega
  unfold SeqAt.shaped
  rw [Bool.and_eq_true]
  refine ⟨key.1, decide_eq_true ?_⟩
  simp only [PyData.depth]
  omega
theorem ok_same_until (T : Txt K mg) : FnOk Pg w K mg base CX0 139 (He.ga K "same_until") (T.fd 46) ["task", "column"] (spD pre_same_until) := by
  refine (T.F 46 d_same_until rfl).ok sc_same_until (spD_len (n := 2) ?len) (fun cdv A outer s H vs Q E hr h => ?_)
  case len => exact len_same_until
  refine ⟨_, PSs.nox (pss_cons (ps_expr (pe_call (ok_need_task T) (hr.mono (show 4 ≤ _ by decide)) (by rfl) T.g_need_task (T.F 21 d_need_task rfl).kp (b_need_task T) .nil pass0 (pa_cons (pv 0) pa_nil)))
      (pss_cons (ps_expr (pe_call (ok_need_column T) (hr.mono (show 2 ≤ _ by decide)) (by rfl) T.g_need_column (T.F 24 d_need_column rfl).kp (b_need_column T) .nil pass0 (pa_cons (pv 0) (pa_cons (pv 1) pa_nil))))
      (pss_cons (ps_set (i := 2) sc_same_until.nd rfl (by first | exact Or.inl rfl | exact Or.inr rfl) (pe_call (ok_pieces_of T) (hr.mono (show 138 ≤ _ by decide)) (by rfl) T.g_pieces_of (T.F 42 d_pieces_of rfl).kp (b_pieces_of T) .nil pass0 (pa_cons (pe_call (ok_other_of T) (hr.mono (show 3 ≤ _ by decide)) (by rfl) T.g_other_of (T.F 31 d_other_of rfl).kp (b_other_of T) .nil pass0 (pa_cons (pv 0) pa_nil)) (pa_cons (pe_lc (own := [("one", 4)]) (by rfl) sc_same_until.nd (pi_tup (pe_call (ok_unit T) (hr.mono (show 1 ≤ _ by decide)) (by rfl) T.g_unit (T.F 34 d_unit rfl).kp (b_unit T) .nil pass0 (pa_cons (pe_callB call_len (by rfl) T.n_len PySem.boot_len (pa_cons (pe_ix (ix_seqK (K := K)) (pv 0) pe_int (fun _ _ => rfl)) pa_nil)) (pa_cons (pv 1) (pa_cons pe_int pa_nil))))) (blkOk_by (N := ["task", "column", "told", "some", "one", "piece"]) (sc := defScope s_same_until) (by decide +kernel)) (fun _ _ _ _ _ => (pg_name (i := 4) sc_same_until.nd rfl (by first | exact Or.inl rfl | exact Or.inr rfl))) (fun _ _ _ _ _ => pts_nil) (fun _ _ _ _ _ => (pe_un un_neg (pv 4)))) pa_nil))))
      (pss_cons (ps_setLc (i := 3) (own := [("piece", 5)]) (by rfl) sc_same_until.nd rfl rfl (sw_true rfl rfl rfl (by decide +kernel)) (pi_tup (pv 2)) (blkOk_by (N := ["task", "column", "told", "some", "one", "piece"]) (sc := defScope s_same_until) (by decide +kernel)) (fun _ _ _ _ _ => (pg_name (i := 5) sc_same_until.nd rfl (by first | exact Or.inl rfl | exact Or.inr rfl))) (fun _ _ _ _ _ => (pts_one (PW.pt (pw_and (pt_val (pe_call (ok_starts_to T) (hr.mono (show 1 ≤ _ by decide)) (by rfl) T.g_starts_to (T.F 44 d_starts_to rfl).kp (b_starts_to T) .nil pass0 (pa_cons (pv 5) pa_nil))) (pw_and1 (pt_val (pe_call (ok_ends_from T) (hr.mono (show 1 ≤ _ by decide)) (by rfl) T.g_ends_from (T.F 45 d_ends_from rfl).kp (b_ends_from T) .nil pass0 (pa_cons (pv 5) pa_nil)))))))) (fun _ _ _ _ _ => (pv 5)))
      (pss_one (ps_ret (pe_ifExp (pt_cmpR (op_neDK (K := K) hr.units) (pv 3) (pe_lst pa_nil) (nomark _)) (pe_tup (pa_cons (pe_ix (ix_seqK (K := K)) (pe_ix (ix_seqK (K := K)) (pv 3) pe_int (fun _ _ => rfl)) pe_int (fun _ _ => rfl)) (pa_cons (pe_ix (ix_seqK (K := K)) (pe_ix (ix_seqK (K := K)) (pv 3) (pe_un un_neg pe_int) (fun _ _ => rfl)) pe_int (fun _ _ => rfl)) pa_nil))) pe_non))))))), ?_⟩
  refine body_pure (K := K) (C := gC K) h (fun ds d hp => by rw [len_same_until ds d hp]; decide) (fun ds d hp F0 H0 => ?_)
  obtain ⟨U, c, ps, rfl, hN, hc, hP, hps, hpl, rfl⟩ := hp
  show Sd _ _ [.d (tD U), .d (.int c), .no, .no, .no, .no] _ _
  have h6 := hN.k6
  refine s_seq1 (P' := [.d (tD U), .d (.int c), .no, .no, .no, .no]) (s_drop (g_call (a_cons (g_var rfl) a_nil) ⟨U, rfl, hN, rfl⟩) rfl) ?_
  refine s_seq1 (P' := [.d (tD U), .d (.int c), .no, .no, .no, .no]) (s_drop (g_call (a_cons (g_var rfl) (a_cons (g_var rfl) a_nil)) ⟨U, c, rfl, hc, h6, rfl⟩) rfl) ?_
  refine s_seq1 (P' := [.d (tD U), .d (.int c), .d (.tuple (ps.map npD)), .no, .no, .no]) (s_set (g_call (a_cons (g_call (a_cons (g_var rfl) a_nil) ⟨U, rfl, hN.sz, hN.wl, rfl⟩) (a_cons ((TEo.g (o_mapL (xs := unitI U.ks.length c 1) (r := .int) (f := fun x => .int (-x)) rfl (i_tup (g_call (a_cons ((g_cb (a_cons (g_op (g_var rfl) g_int (o_ixqT atT0)) a_nil) (b_lenS (by rw [ks_len]; omega))).eq (by rw [ks_len])) (a_cons (g_var rfl) (a_cons g_int a_nil))) ⟨U.ks.length, c, 1, rfl, by omega, rfl⟩)) (by simp) (by simp [unitI]; omega) fun x hx => ⟨_, _, by simp, d_name (by simp [noAt]), rfl, g_un (g_var rfl) o_neg⟩)).eq (d' := .list (iD (negs (unitI U.ks.length c 1)))) (by unfold negs iD; rw [List.map_map]; rfl)) a_nil)) ⟨U.plain, _, ps, rfl, hP, hps, rfl⟩) (by simp [noAt]) rfl) ?_
  refine s_seq1 (P' := [.d (tD U), .d (.int c), .d (.tuple (ps.map npD)), .d (.list ((ps.filter (inB 0)).map npD)), .no, .no]) ?_ ?_
  · refine s_set (TEo.g (o_filterL (xs := ps) (r := npD) (f := npD) (inB 0) rfl (i_tup (g_var rfl)) (by simp) (by omega) fun p hp => ⟨_, _, by simp, d_name (by simp [noAt]), rfl, t_and (t_val (g_call (a_cons (g_var rfl) a_nil) ⟨p, rfl, rfl⟩)) fun _ => t_val (g_call (a_cons (g_var rfl) a_nil) ⟨p, rfl, rfl⟩), fun _ => g_var rfl⟩)) (by simp [noAt]) rfl
  unfold untilD
  cases e : ps.filter (inB 0) with
  | nil => exact s_ret (g_if (b := false) ((t_cmp (g_op (g_var rfl) (g_lst a_nil (by simp)) (o_ne (shp_npl []) (shp_npl [])))).eq rfl) (fun z => nomatch z) fun _ => g_non) rfl
  | cons q r =>
    have a0 : atI ((q :: r).map npD) 0 = some (npD q) := atI_nat (i := 0) rfl
    have al : atI ((q :: r).map npD) (-1) = some (npD ((q :: r).getLastD q)) := atI_last (by
      rw [List.getLast?_map, List.getLastD_eq_getLast?]
      cases e : (q :: r).getLast? with
      | none => simp at e
      | some x => rfl)
    exact s_ret (g_if (b := true) ((t_cmp (g_op (g_var rfl) (g_lst a_nil (by simp)) (o_ne (shp_npl (q :: r)) (shp_npl [])))).eq rfl) (fun _ => g_tup (a_cons (g_op (g_op (g_var rfl) g_int (o_ixqL a0)) g_int (o_ixqT at4_0)) (a_cons (g_op (g_op (g_var rfl) (g_un g_int o_neg) (o_ixqL al)) g_int (o_ixqT at4_1)) a_nil)) (by simp)) fun z => nomatch z) rfl
end
end Cp
end
/-! ## CL1 -/
section
set_option Elab.async false
set_option linter.all false
set_option autoImplicit false
set_option maxRecDepth 100000
set_option maxHeartbeats 4000000
set_option exponentiation.threshold 100000
namespace Cp
variable [KFix]
open PySem PySem.Spec PyProof.Rows L2
def gapI (x y : Rat) : Int := x.num * y.den - y.num * x.den
theorem gap_le (x y : Rat) : decide (gapI x y ≤ 0) = decide (x ≤ y) := by
  unfold gapI
  have h := Rat.le_iff (a := x) (b := y)
  by_cases q : x ≤ y
  · rw [decide_eq_true q, decide_eq_true]
    have := h.mp q
    omega
  · rw [decide_eq_false q, decide_eq_false]
    intro z
    exact q (h.mpr (by omega))
section
variable {Pg : Program} {w : World} {K : PySem.W.Frag} {mg : Str → Option Value} {base : Heap}
def pre_l_ratio (ds : List PyData) (d : PyData) : Prop := ∃ t l : Int, ds = [.int t, .int l] ∧ 0 < l ∧ l.natAbs < 2 ^ 8999 ∧ d = qD ((t : Rat) / (l : Rat))
theorem len_l_ratio : ∀ ds d, pre_l_ratio ds d → ds.length = 2 := by rintro _ _ ⟨_, _, rfl, _⟩; rfl
theorem ok_l_ratio (T : Txt K mg) : FnOk Pg w K mg base CX0 1 (He.ga K "_law_ratio") (T.fd 49) ["_law_top", "_law_low"] (spD pre_l_ratio) := by
  refine (T.F 49 d_law_ratio rfl).ok sc_l_ratio (spD_len (n := 2) ?len) (fun cdv A outer s H vs Q E hr h => ?_)
  case len => exact len_l_ratio
  refine ⟨_, PSs.nox (pss_cons (ps_par (i := 2) (j := 3) (by rfl) sc_l_ratio.nd rfl rfl (by decide) rfl rfl (pa_cons (pe_callB (call_max2 (by rfl)) (by rfl) T.n_max (by decide +kernel) (pa_cons (pv 1) (pa_cons (pe_op op_sub pe_int (pv 1)) pa_nil))) (pa_cons (pe_callB (call_max2 (by rfl)) (by rfl) T.n_max (by decide +kernel) (pa_cons (pv 0) (pa_cons (pe_op op_sub pe_int (pv 0)) pa_nil))) pa_nil)) (by rfl))
      (pss_cons (ps_while PassesOwn.never (pt_cmpR (op_neDK (K := K) hr.units) (pv 3) pe_int (nomark _)) (pss_one (ps_par (i := 2) (j := 3) (by rfl) sc_l_ratio.nd rfl rfl (by decide) rfl rfl (pa_cons (pv 3) (pa_cons (pe_op op_mod (pv 2) (pv 3)) pa_nil)) (by rfl))))
      (pss_cons (ps_set (i := 2) sc_l_ratio.nd rfl (by first | exact Or.inl rfl | exact Or.inr rfl) (pe_ifExp (pt_cmpR op_gt (pv 1) pe_int (nomark _)) (pv 2) (pe_op op_sub pe_int (pv 2))))
      (pss_one (ps_ret (pe_tup (pa_cons (pe_op op_fdivW (pe_callTy call_int1 (by rfl) T.n_int (by decide +kernel) (pa_cons (pv 0) pa_nil)) (pv 2)) (pa_cons (pe_op op_fdivW (pe_callTy call_int1 (by rfl) T.n_int (by decide +kernel) (pa_cons (pv 1) pa_nil)) (pv 2)) pa_nil)))))))), ?_⟩
  refine body_pure (K := K) (C := gC K) h (fun ds d hp => by rw [len_l_ratio ds d hp]; decide) (fun ds d hp F0 H0 => ?_)
  obtain ⟨t, l, rfl, h0, hl, rfl⟩ := hp
  show Sd _ _ [.d (.int t), .d (.int l), .no, .no] _ _
  have hg := gcd_pos (t := t) h0
  have hg2 : ((Int.gcd t l : Nat) : Int).natAbs < 2 ^ 8999 := Nat.lt_of_le_of_lt (by have := gcd_le (t := t) h0; omega) hl
  refine s_seq1 (P' := [.d (.int t), .d (.int l), .d (.int l), .d (.int t.natAbs)]) (s_par (a_cons ((g_cb (a_cons (g_var rfl) (a_cons (g_op g_int (g_var rfl) o_sub) a_nil)) b_max).eq (d' := .int l) (by rw [if_neg (by omega)])) (a_cons ((g_cb (a_cons (g_var rfl) (a_cons (g_op g_int (g_var rfl) o_sub) a_nil)) b_max).eq (d' := .int (t.natAbs : Nat)) (by congr 1; split <;> omega)) a_nil)) (by simp) (by simp) rfl) ?_
  refine s_seq (M := fun P' => ∃ a : Int, P' = [.d (.int t), .d (.int l), .d (.int a), .d (.int 0)] ∧ a = Int.gcd t l) ?_ ?_
  · refine s_while (n0 := t.natAbs) (fun n P' => ∃ a b : Int, P' = [.d (.int t), .d (.int l), .d (.int a), .d (.int b)] ∧ 0 ≤ a ∧ 0 ≤ b ∧ b.toNat = n ∧ Int.gcd a b = Int.gcd t l) ⟨_, _, rfl, by omega, by omega, by omega, ?_⟩ ?_
    · rw [Int.gcd_comm]
      show Nat.gcd _ _ = Nat.gcd _ _
      rw [Int.natAbs_natCast]
    · rintro n _ ⟨a, b, rfl, ha, hb, rfl, hg⟩
      refine ⟨decide (b ≠ 0), _, (t_neI (g_var rfl) g_int).eq (by by_cases h : b = 0 <;> simp [h]), fun hb0 => ?_, fun hb0 => ?_⟩
      · have hb0 : b ≠ 0 := by simpa using hb0
        refine s_par (a_cons (g_var rfl) (a_cons (g_op (g_var rfl) (g_var rfl) (o_mod (by omega))) a_nil)) (by simp) (by simp) ⟨(a % b).toNat, ?_, b, a % b, rfl, hb, Int.emod_nonneg _ hb0, rfl, ?_⟩
        · have := Int.emod_lt_of_pos a (show 0 < b by omega)
          have := Int.emod_nonneg a hb0
          omega
        · rw [gcd_step ha (by omega)]; exact hg
      · have hb0 : b = 0 := by simpa using hb0
        subst hb0
        refine ⟨a, rfl, ?_⟩
        rw [← hg, Int.gcd_zero_right]
        omega
  · rintro _ ⟨a, rfl, rfl⟩
    refine s_seq1 (P' := [.d (.int t), .d (.int l), .d (.int (Int.gcd t l)), .d (.int 0)]) (s_set (g_if (b := true) ((t_cmp (g_op (g_var rfl) g_int o_gt)).eq (decide_eq_true h0)) (fun _ => g_var rfl) fun z => nomatch z) (by simp) rfl) ?_
    refine s_ret (g_tup (a_cons (g_op (g_cb (a_cons (g_var rfl) a_nil) b_int) (g_var rfl) (o_div (cdiv hg hg2))) (a_cons (g_op (g_cb (a_cons (g_var rfl) a_nil) b_int) (g_var rfl) (o_div (cdiv hg hg2))) a_nil)) (by simp)) ?_
    unfold qD
    rw [num_of h0, den_of h0]
def pre_l_plus (ds : List PyData) (d : PyData) : Prop := ∃ x y : Rat, ds = [qD x, qD y] ∧ qb 4000 x ∧ qb 4000 y ∧ d = qD (x + y)
theorem len_l_plus : ∀ ds d, pre_l_plus ds d → ds.length = 2 := by rintro _ _ ⟨_, _, rfl, _⟩; rfl
theorem ok_l_plus (T : Txt K mg) : FnOk Pg w K mg base CX0 2 (He.ga K "_law_plus") (T.fd 50) ["_law_one", "_law_other"] (spD pre_l_plus) := by
  refine (T.F 50 d_law_plus rfl).ok sc_l_plus (spD_len (n := 2) ?len) (fun cdv A outer s H vs Q E hr h => ?_)
  case len => exact len_l_plus
  refine ⟨_, PSs.nox (pss_one (ps_ret (pe_call (ok_l_ratio T) (hr.mono (show 1 ≤ _ by decide)) (by rfl) T.g__law_ratio (T.F 49 d_law_ratio rfl).kp (b_l_ratio T) .nil pass0 (pa_cons (pe_op op_add (pe_op op_mulW (pe_ix (ix_seqK (K := K)) (pv 0) pe_int (fun _ _ => rfl)) (pe_ix (ix_seqK (K := K)) (pv 1) pe_int (fun _ _ => rfl))) (pe_op op_mulW (pe_ix (ix_seqK (K := K)) (pv 1) pe_int (fun _ _ => rfl)) (pe_ix (ix_seqK (K := K)) (pv 0) pe_int (fun _ _ => rfl)))) (pa_cons (pe_op op_mulW (pe_ix (ix_seqK (K := K)) (pv 0) pe_int (fun _ _ => rfl)) (pe_ix (ix_seqK (K := K)) (pv 1) pe_int (fun _ _ => rfl))) pa_nil))))), ?_⟩
  refine body_pure (K := K) (C := gC K) h (fun ds d hp => by rw [len_l_plus ds d hp]; decide) (fun ds d hp F0 H0 => ?_)
  obtain ⟨x, y, rfl, hx, hy, rfl⟩ := hp
  show Sd _ _ [.d (qD x), .d (qD y)] _ _
  refine s_ret (g_call (a_cons (g_op (g_op (g_q0 (g_var rfl) g_int) (g_q1 (g_var rfl) g_int) (o_mul (cmul hx.1 (den_bits hy)))) (g_op (g_q0 (g_var rfl) g_int) (g_q1 (g_var rfl) g_int) (o_mul (cmul hy.1 (den_bits hx)))) o_add) (a_cons (g_op (g_q1 (g_var rfl) g_int) (g_q1 (g_var rfl) g_int) (o_mul (cmul (den_bits hx) (den_bits hy)))) a_nil)) ⟨_, _, rfl, Int.mul_pos (den_pos x) (den_pos y), lt2_mono (mul_bits (den_bits hx) (den_bits hy)) (by decide), ?_⟩) rfl
  rw [add_as x y]
def pre_l_times (ds : List PyData) (d : PyData) : Prop := ∃ x y : Rat, ds = [qD x, qD y] ∧ qb 4000 x ∧ qb 4000 y ∧ d = qD (x * y)
theorem len_l_times : ∀ ds d, pre_l_times ds d → ds.length = 2 := by rintro _ _ ⟨_, _, rfl, _⟩; rfl
theorem ok_l_times (T : Txt K mg) : FnOk Pg w K mg base CX0 2 (He.ga K "_law_times") (T.fd 51) ["_law_one", "_law_other"] (spD pre_l_times) := by
  refine (T.F 51 d_law_times rfl).ok sc_l_times (spD_len (n := 2) ?len) (fun cdv A outer s H vs Q E hr h => ?_)
  case len => exact len_l_times
  refine ⟨_, PSs.nox (pss_one (ps_ret (pe_call (ok_l_ratio T) (hr.mono (show 1 ≤ _ by decide)) (by rfl) T.g__law_ratio (T.F 49 d_law_ratio rfl).kp (b_l_ratio T) .nil pass0 (pa_cons (pe_op op_mulW (pe_ix (ix_seqK (K := K)) (pv 0) pe_int (fun _ _ => rfl)) (pe_ix (ix_seqK (K := K)) (pv 1) pe_int (fun _ _ => rfl))) (pa_cons (pe_op op_mulW (pe_ix (ix_seqK (K := K)) (pv 0) pe_int (fun _ _ => rfl)) (pe_ix (ix_seqK (K := K)) (pv 1) pe_int (fun _ _ => rfl))) pa_nil))))), ?_⟩
  refine body_pure (K := K) (C := gC K) h (fun ds d hp => by rw [len_l_times ds d hp]; decide) (fun ds d hp F0 H0 => ?_)
  obtain ⟨x, y, rfl, hx, hy, rfl⟩ := hp
  show Sd _ _ [.d (qD x), .d (qD y)] _ _
  refine s_ret (g_call (a_cons (g_op (g_q0 (g_var rfl) g_int) (g_q0 (g_var rfl) g_int) (o_mul (cmul hx.1 hy.1))) (a_cons (g_op (g_q1 (g_var rfl) g_int) (g_q1 (g_var rfl) g_int) (o_mul (cmul (den_bits hx) (den_bits hy)))) a_nil)) ⟨_, _, rfl, Int.mul_pos (den_pos x) (den_pos y), lt2_mono (mul_bits (den_bits hx) (den_bits hy)) (by decide), ?_⟩) rfl
  rw [mul_as x y]
def pre_l_gap (ds : List PyData) (d : PyData) : Prop := ∃ x y : Rat, ds = [qD x, qD y] ∧ qb 4000 x ∧ qb 4000 y ∧ d = .int (gapI x y)
theorem len_l_gap : ∀ ds d, pre_l_gap ds d → ds.length = 2 := by rintro _ _ ⟨_, _, rfl, _⟩; rfl
theorem ok_l_gap (T : Txt K mg) : FnOk Pg w K mg base CX0 1 (He.ga K "_law_gap") (T.fd 52) ["_law_one", "_law_other"] (spD pre_l_gap) := by
  refine (T.F 52 d_law_gap rfl).ok sc_l_gap (spD_len (n := 2) ?len) (fun cdv A outer s H vs Q E hr h => ?_)
  case len => exact len_l_gap
  refine ⟨_, PSs.nox (pss_one (ps_ret (pe_op op_sub (pe_op op_mulW (pe_ix (ix_seqK (K := K)) (pv 0) pe_int (fun _ _ => rfl)) (pe_ix (ix_seqK (K := K)) (pv 1) pe_int (fun _ _ => rfl))) (pe_op op_mulW (pe_ix (ix_seqK (K := K)) (pv 1) pe_int (fun _ _ => rfl)) (pe_ix (ix_seqK (K := K)) (pv 0) pe_int (fun _ _ => rfl)))))), ?_⟩
  refine body_pure (K := K) (C := gC K) h (fun ds d hp => by rw [len_l_gap ds d hp]; decide) (fun ds d hp F0 H0 => ?_)
  obtain ⟨x, y, rfl, hx, hy, rfl⟩ := hp
  show Sd _ _ [.d (qD x), .d (qD y)] _ _
  exact s_ret (g_op (g_op (g_q0 (g_var rfl) g_int) (g_q1 (g_var rfl) g_int) (o_mul (cmul hx.1 (den_bits hy)))) (g_op (g_q0 (g_var rfl) g_int) (g_q1 (g_var rfl) g_int) (o_mul (cmul hy.1 (den_bits hx)))) o_sub) rfl
/-- data that the law compares -/
def AlkD : Nat → PyData → Prop
  | 0, d => d = .none ∨ ∃ i, d = .int i
  | n + 1, d => AlkD n d ∨ ∃ es, d = .tuple es ∧ es.length ≤ 100 ∧ ∀ e, e ∈ es → AlkD n e
def pre_l_alike (n : Nat) (ds : List PyData) (d : PyData) : Prop := ∃ e, ds = [e, e] ∧ AlkD n e ∧ d = .bool true
theorem len_l_alike (n : Nat) : ∀ ds d, pre_l_alike n ds d → ds.length = 2 := by rintro _ _ ⟨_, rfl, _⟩; rfl
theorem alike_step (T : Txt K mg) {k n : Nat} {pre' : List PyData → PyData → Prop} (IH : FnOk Pg w K mg base CX0 k (He.ga K "_law_alike") (T.fd 48) ["_law_found", "_law_due"] (spD pre'))
    (hrec : ∀ ds d n', n' < n → pre_l_alike n' ds d → pre' ds d) : FnOk Pg w K mg base CX0 (k + 1) (He.ga K "_law_alike") (T.fd 48) ["_law_found", "_law_due"] (spD (pre_l_alike n)) := by
  refine (T.F 48 d_law_alike rfl).ok sc_l_alike (spD_len (n := 2) (len_l_alike n)) (fun cdv A outer s H vs Q E hr h => ?_)
  refine ⟨_, PSs.nox (pss_cons (ps_if (pt_val (pe_callB call_isiT (by rfl) T.n_isinstance (by decide +kernel) (pa_cons (pv 1) (pa_cons (pe_tup (pa_cons (pe_bltn (v := .ty "tuple") (by rfl) T.n_tuple (by decide +kernel) rfl) (pa_cons (pe_bltn (v := .ty "list") (by rfl) T.n_list (by decide +kernel) rfl) pa_nil))) pa_nil)))) (pss_cons (ps_if (PW.pt (pw_or (pt_not (pt_val (pe_callB call_isiT (by rfl) T.n_isinstance (by decide +kernel) (pa_cons (pv 0) (pa_cons (pe_tup (pa_cons (pe_bltn (v := .ty "tuple") (by rfl) T.n_tuple (by decide +kernel) rfl) (pa_cons (pe_bltn (v := .ty "list") (by rfl) T.n_list (by decide +kernel) rfl) pa_nil))) pa_nil))))) (pw_or1 (pt_cmpR (op_neDK (K := K) hr.units) (pe_callB call_isi (by rfl) T.n_isinstance (by decide +kernel) (pa_cons (pv 0) (pa_cons (pe_bltn (v := .ty "list") (by rfl) T.n_list (by decide +kernel) rfl) pa_nil))) (pe_callB call_isi (by rfl) T.n_isinstance (by decide +kernel) (pa_cons (pv 1) (pa_cons (pe_bltn (v := .ty "list") (by rfl) T.n_list (by decide +kernel) rfl) pa_nil))) (nomark _))))) (pss_one (ps_ret pe_bl)) pss_nil)
      (pss_cons (ps_if (pt_cmpR (op_neDK (K := K) hr.units) (pe_callB call_len (by rfl) T.n_len PySem.boot_len (pa_cons (pv 0) pa_nil)) (pe_callB call_len (by rfl) T.n_len PySem.boot_len (pa_cons (pv 1) pa_nil)) (nomark _)) (pss_one (ps_ret pe_bl)) pss_nil)
      (pss_one (ps_ret (pe_cmpR (op_eqDK (K := K) hr.units) (pe_lc (own := [("_law_k", 2)]) (by rfl) sc_l_alike.nd (pi_range1 (by rfl) T.n_range (pa_cons (pe_callB call_len (by rfl) T.n_len PySem.boot_len (pa_cons (pv 1) pa_nil)) pa_nil)) (blkOk_by (N := ["_law_found", "_law_due", "_law_k"]) (sc := defScope s_law_alike) (by decide +kernel)) (fun _ _ _ _ _ => (pg_name (i := 2) sc_l_alike.nd rfl (by first | exact Or.inl rfl | exact Or.inr rfl))) (fun _ _ _ _ _ => (pts_one (pt_not (pt_val (pe_call IH hr (by rfl) T.g__law_alike (T.F 48 d_law_alike rfl).kp (b_l_alike T) .nil pass0 (pa_cons (pe_ix (ix_seqK (K := K)) (pv 0) (pv 2) (fun _ _ => rfl)) (pa_cons (pe_ix (ix_seqK (K := K)) (pv 1) (pv 2) (fun _ _ => rfl)) pa_nil))))))) (fun _ _ _ _ _ => (pv 2))) (pe_lst pa_nil) (nomark _)))))) pss_nil)
      (pss_cons (ps_if (PW.pt (pw_or (pt_cmpR op_isN (pv 1) pe_non (nomark _)) (pw_or1 (pt_val (pe_callB call_isi (by rfl) T.n_isinstance (by decide +kernel) (pa_cons (pv 1) (pa_cons (pe_bltn (v := .ty "str") (by rfl) T.n_str (by decide +kernel) rfl) pa_nil))))))) (pss_one (ps_ret (pe_and (pe_cmpR (op_eqDK (K := K) hr.units) (pv 0) (pv 1) (nomark _)) (pe_one (pe_cmpR (op_eqDK (K := K) hr.units) (pe_callB call_isi (by rfl) T.n_isinstance (by decide +kernel) (pa_cons (pv 0) (pa_cons (pe_bltn (v := .ty "str") (by rfl) T.n_str (by decide +kernel) rfl) pa_nil))) (pe_callB call_isi (by rfl) T.n_isinstance (by decide +kernel) (pa_cons (pv 1) (pa_cons (pe_bltn (v := .ty "str") (by rfl) T.n_str (by decide +kernel) rfl) pa_nil))) (nomark _)))))) pss_nil)
      (pss_one (ps_ret (pe_and (pe_callB call_isi (by rfl) T.n_isinstance (by decide +kernel) (pa_cons (pv 0) (pa_cons (pe_bltn (v := .ty "int") (by rfl) T.n_int (by decide +kernel) rfl) pa_nil))) (pe_and (pe_cmpR (op_eqDK (K := K) hr.units) (pe_callB call_isi (by rfl) T.n_isinstance (by decide +kernel) (pa_cons (pv 0) (pa_cons (pe_bltn (v := .ty "bool") (by rfl) T.n_bool (by decide +kernel) rfl) pa_nil))) (pe_callB call_isi (by rfl) T.n_isinstance (by decide +kernel) (pa_cons (pv 1) (pa_cons (pe_bltn (v := .ty "bool") (by rfl) T.n_bool (by decide +kernel) rfl) pa_nil))) (nomark _)) (pe_one (pe_cmpR (op_eqDK (K := K) hr.units) (pv 0) (pv 1) (nomark _))))))))), ?_⟩
  refine body_pure (K := K) (C := gC K) h (fun ds d hp => by rw [len_l_alike n ds d hp]; decide) (fun ds d hp F0 H0 => ?_)
  obtain ⟨e, rfl, he, rfl⟩ := hp
  show Sd _ _ [.d e, .d e, .no] _ _
  have leaf : (e = .none ∨ ∃ i, e = .int i) ∨ (∃ es m, e = .tuple es ∧ es.length ≤ 100 ∧ m < n ∧ ∀ x, x ∈ es → AlkD m x) := by
    clear hrec h
    induction n with
    | zero => exact .inl he
    | succ n ih =>
      rcases he with he | ⟨es, rfl, h1, h2⟩
      · rcases ih he with z | ⟨es, m, a, b, c, d⟩
        · exact .inl z
        · exact .inr ⟨es, m, a, b, by omega, d⟩
      · exact .inr ⟨es, n, rfl, h1, by omega, h2⟩
  rcases leaf with (rfl | ⟨i, rfl⟩) | ⟨es, m, rfl, hl, hm, hes⟩
  · refine s_seq1 (P' := [.d .none, .d .none, .no]) (s_if (b := false) ((t_val (g_isi2 (b1 := false) (b2 := false) (g_var rfl) (by decide +kernel) (by decide +kernel))).eq rfl) (fun z => nomatch z) fun _ => s_next rfl) ?_
    exact s_seq (M := fun _ => False) (s_if (b := true) (t_orT ((t_cmp (g_op (g_var rfl) g_non o_isN)).eq rfl)) (fun _ => s_ret (g_andV (a := true) (b := true) ((g_op (g_var rfl) (g_var rfl) (o_eq rfl rfl)).eq rfl) fun _ => (g_op (g_isi (b := false) (g_var rfl) (by decide +kernel)) (g_isi (b := false) (g_var rfl) (by decide +kernel)) (o_eq rfl rfl)).eq rfl) rfl) fun z => nomatch z) fun _ z => z.elim
  · refine s_seq1 (P' := [.d (.int i), .d (.int i), .no]) (s_if (b := false) ((t_val (g_isi2 (d := .int i) (T := "tuple") (U := "list") (b1 := false) (b2 := false) (g_var rfl) (show kitB "int" "tuple" = some false by decide +kernel) (show kitB "int" "list" = some false by decide +kernel))).eq rfl) (fun z => nomatch z) fun _ => s_next rfl) ?_
    refine s_seq1 (P' := [.d (.int i), .d (.int i), .no]) (s_if (b := false) (t_orF ((t_cmp (g_op (g_var rfl) g_non o_isN)).eq rfl) (t_val (g_isi (d := .int i) (T := "str") (b := false) (g_var rfl) (show kitB "int" "str" = some false by decide +kernel)))) (fun z => nomatch z) fun _ => s_next rfl) ?_
    exact s_ret (g_andV (a := true) (b := true) (g_isi (d := .int i) (T := "int") (g_var rfl) (show kitB "int" "int" = some true by decide +kernel)) fun _ => g_andV (a := true) (b := true) ((g_op (g_isi (d := .int i) (T := "bool") (b := false) (g_var rfl) (show kitB "int" "bool" = some false by decide +kernel)) (g_isi (d := .int i) (T := "bool") (b := false) (g_var rfl) (show kitB "int" "bool" = some false by decide +kernel)) (o_eq rfl rfl)).eq rfl) fun _ => (g_op (g_var rfl) (g_var rfl) (o_eq rfl rfl)).eq (by show PyData.bool (i == i) = _; simp)) rfl
  · have kt : kitB "tuple" "tuple" = some true := by decide +kernel
    have kl : kitB "tuple" "list" = some false := by decide +kernel
    refine s_seq (M := fun _ => False) (s_if (b := true) ((t_val (g_isi2 (d := .tuple es) (T := "tuple") (U := "list") (b1 := true) (b2 := false) (g_var rfl) kt kl)).eq rfl) (fun _ => ?_) fun z => nomatch z) fun _ z => z.elim
    refine s_seq1 (P' := [.d (.tuple es), .d (.tuple es), .no]) (s_if (b := false) (t_orF ((t_not (t_val (g_isi2 (d := .tuple es) (T := "tuple") (U := "list") (b1 := true) (b2 := false) (g_var rfl) kt kl))).eq rfl) ((t_cmp (g_op (g_isi (d := .tuple es) (T := "list") (b := false) (g_var rfl) kl) (g_isi (d := .tuple es) (T := "list") (b := false) (g_var rfl) kl) (o_ne rfl rfl))).eq rfl)) (fun z => nomatch z) fun _ => s_next rfl) ?_
    refine s_seq1 (P' := [.d (.tuple es), .d (.tuple es), .no]) (s_if (b := false) ((t_neI (g_cb (a_cons (g_var rfl) a_nil) b_lenT) (g_cb (a_cons (g_var rfl) a_nil) b_lenT)).eq (by simp)) (fun z => nomatch z) fun _ => s_next rfl) ?_
    refine s_ret ((g_op ((TEo.g (o_filterL (xs := List.range es.length) (f := fun (i : Nat) => .int (i : Int)) (fun _ => false) (rng_map es.length) (i_rng (a_cons (g_cb (a_cons (g_var rfl) a_nil) b_lenT) a_nil) (by omega)) (by simp) (by simp; omega) fun x hx => ⟨_, _, by simp, d_name (by simp [noAt]), rfl, ?_, fun z => nomatch z⟩)).eq (d' := .list (iD [])) (by simp [iD])) (g_lst a_nil (by simp)) (o_eq (shp_il []) (shp_il []))).eq (by rw [eqv_nil]; rfl)) rfl
    have hx' : x < es.length := List.mem_range.mp hx
    have hat : atI es (x : Int) = some es[x] := atI_nat (List.getElem?_eq_getElem hx')
    exact (t_not (t_val (g_call (a_cons (g_op (g_var rfl) (g_var rfl) (o_ixqT hat)) (a_cons (g_op (g_var rfl) (g_var rfl) (o_ixqT hat)) a_nil)) (hrec _ _ m hm ⟨_, rfl, hes _ (List.getElem_mem hx'), rfl⟩)))).eq rfl
theorem ok_alike_n (T : Txt K mg) : ∀ n, FnOk Pg w K mg base CX0 (n + 2) (He.ga K "_law_alike") (T.fd 48) ["_law_found", "_law_due"] (spD (pre_l_alike n))
  | 0 => by
    have dummy : FnOk Pg w K mg base CX0 1 (He.ga K "_law_alike") (T.fd 48) ["_law_found", "_law_due"] (spD fun _ _ => False) := by
      refine (T.F 48 d_law_alike rfl).ok sc_l_alike (spD_len (n := 2) (fun _ _ h => h.elim)) (fun cdv A outer s H vs Q E hr h => ?_)
      obtain ⟨_, _, _, _, _, z, _⟩ := h
      exact z.elim
    exact alike_step T dummy fun ds d n' h => by omega
  | n + 1 => alike_step T (ok_alike_n T n) fun ds d n' h ⟨e, a, b, c⟩ => ⟨e, a, by
    have up : ∀ k, AlkD n' e → AlkD (n' + k) e := fun k hk => by
      induction k with
      | zero => exact hk
      | succ k ih => exact .inl ih
    have := up (n - n') b
    rw [show n' + (n - n') = n by omega] at this
    exact this, c⟩
theorem ok_l_alike (T : Txt K mg) : FnOk Pg w K mg base CX0 5 (He.ga K "_law_alike") (T.fd 48) ["_law_found", "_law_due"] (spD (pre_l_alike 3)) := ok_alike_n T 3
end
end Cp
end
/-! ## CL2 -/
section
set_option Elab.async false
set_option linter.all false
set_option autoImplicit false
set_option maxRecDepth 100000
set_option maxHeartbeats 4000000
set_option exponentiation.threshold 100000
namespace Cp
variable [KFix]
open PySem PySem.Spec PyProof.Rows L2
def PsB (ps : List Pc) : Prop := ps.length ≤ 1000 ∧ ∀ p, p ∈ ps → (∀ l, p.lo = some l → qb 1000 l) ∧ (∀ l, p.hi = some l → qb 1000 l) ∧ qb 1000 p.ln.1 ∧ qb 1000 p.ln.2
/-- the value that the pieces at a time tell -/
def AtO (ps : List Pc) (t : Rat) (o : Option Rat) : Prop := (∀ p, p ∈ ps → inB t p = true → o = some (at_ p.ln t)) ∧ (∀ z, o = some z → ∃ p, p ∈ ps ∧ inB t p = true)
theorem shp_qs (xs : List Rat) : SeqAt.shaped (.list (qsD xs)) = true := by
  have key : PyData.canLayAll0 (qsD xs) = true ∧ PyData.depthAll (qsD xs) ≤ 4 := by
    induction xs with
    | nil => exact ⟨rfl, by simp [qsD, PyData.depthAll]⟩
    | cons x xs ih =>
      have h1 : PyData.canLay0 (qD x) = true ∧ PyData.depth (qD x) ≤ 4 := by simp [qD, PyData.canLay0, PyData.canLayAll0, PyData.depth, PyData.depthAll]
      refine ⟨?_, ?_⟩
      · show (PyData.canLay0 (qD x) && PyData.canLayAll0 (qsD xs)) = true
        rw [h1.1, ih.1]; rfl
      · show PyData.depthAll (qD x :: qsD xs) ≤ 4
        simp only [PyData.depthAll]
        omega
  unfold SeqAt.shaped
  rw [Bool.and_eq_true]
  refine ⟨key.1, decide_eq_true ?_⟩
  simp only [PyData.depth]
  omega
theorem eqv_qs (xs : List Rat) : PyData.eqv (.list (qsD xs)) (.list (qsD xs)) = true := by
  show PyData.eqvAll (qsD xs) (qsD xs) = true
  induction xs with
  | nil => rfl
  | cons x xs ih =>
    show (PyData.eqv (qD x) (qD x) && PyData.eqvAll (qsD xs) (qsD xs)) = true
    rw [ih, eqv_q]; simp
theorem eqv_qs_nil (xs : List Rat) : PyData.eqv (.list (qsD xs)) (.list []) = xs.isEmpty := by cases xs <;> rfl
section
variable {Pg : Program} {w : World} {K : PySem.W.Frag} {mg : Str → Option Value} {base : Heap}
def pre_l_at (ds : List PyData) (d : PyData) : Prop := ∃ (ps : List Pc) (t : Rat) (o : Option Rat), ds = [.tuple (ps.map pD), qD t] ∧ PsB ps ∧ qb 1000 t ∧ AtO ps t o ∧ d = oD o
theorem len_l_at : ∀ ds d, pre_l_at ds d → ds.length = 2 := by rintro _ _ ⟨_, _, _, rfl, _⟩; rfl
theorem ok_l_at (T : Txt K mg) : FnOk Pg w K mg base CX0 3 (He.ga K "_law_at") (T.fd 54) ["_law_pieces", "_law_time"] (spD pre_l_at) := by
  refine (T.F 54 d_law_at rfl).ok sc_l_at (spD_len (n := 2) ?len) (fun cdv A outer s H vs Q E hr h => ?_)
  case len => exact len_l_at
  refine ⟨_, PSs.nox (pss_cons (ps_set (i := 2) sc_l_at.nd rfl (by first | exact Or.inl rfl | exact Or.inr rfl) (pe_lst pa_nil))
      (pss_cons (ps_for PassesOwn.never rfl (pi_tup (pv 0)) (pg_tupK (K := K) (n := 4) (by rfl) (pgs_cons (pg_name (i := 3) sc_l_at.nd rfl (by first | exact Or.inl rfl | exact Or.inr rfl)) (pgs_cons (pg_name (i := 4) sc_l_at.nd rfl (by first | exact Or.inl rfl | exact Or.inr rfl)) (pgs_cons (pg_name (i := 5) sc_l_at.nd rfl (by first | exact Or.inl rfl | exact Or.inr rfl)) (pgs_cons (pg_name (i := 6) sc_l_at.nd rfl (by first | exact Or.inl rfl | exact Or.inr rfl)) pgs_nil))))) (pss_one (ps_if (PW.pt (pw_and (PW.pt (pw_or (pt_cmpR op_isN (pv 3) pe_non (nomark _)) (pw_or1 (pt_cmpR op_le (pe_call (ok_l_gap T) (hr.mono (show 1 ≤ _ by decide)) (by rfl) T.g__law_gap (T.F 52 d_law_gap rfl).kp (b_l_gap T) .nil pass0 (pa_cons (pv 3) (pa_cons (pv 1) pa_nil))) pe_int (nomark _))))) (pw_and1 (PW.pt (pw_or (pt_cmpR op_isN (pv 4) pe_non (nomark _)) (pw_or1 (pt_cmpR op_le (pe_call (ok_l_gap T) (hr.mono (show 1 ≤ _ by decide)) (by rfl) T.g__law_gap (T.F 52 d_law_gap rfl).kp (b_l_gap T) .nil pass0 (pa_cons (pv 1) (pa_cons (pv 4) pa_nil))) pe_int (nomark _)))))))) (pss_one (ps_expr (pe_bm PySem.F.plainAttrs_list PySem.F.slot_list_append PySem.F.type_list_append mt_append (pv 2) (pa_cons (pe_call (ok_l_plus T) (hr.mono (show 2 ≤ _ by decide)) (by rfl) T.g__law_plus (T.F 50 d_law_plus rfl).kp (b_l_plus T) .nil pass0 (pa_cons (pv 5) (pa_cons (pe_call (ok_l_times T) (hr.mono (show 2 ≤ _ by decide)) (by rfl) T.g__law_times (T.F 51 d_law_times rfl).kp (b_l_times T) .nil pass0 (pa_cons (pv 6) (pa_cons (pv 1) pa_nil))) pa_nil))) pa_nil)))) pss_nil)))
      (pss_one (ps_ret (pe_ifExp (pt_cmpR (op_neDK (K := K) hr.units) (pv 2) (pe_lst pa_nil) (nomark _)) (pe_ifExp (pt_cmpR (op_eqDK (K := K) hr.units) (pv 2) (pe_op op_rep (pe_lst (pa_cons (pe_ix (ix_seqK (K := K)) (pv 2) pe_int (fun _ _ => rfl)) pa_nil)) (pe_callB call_len (by rfl) T.n_len PySem.boot_len (pa_cons (pv 2) pa_nil))) (nomark _)) (pe_ix (ix_seqK (K := K)) (pv 2) pe_int (fun _ _ => rfl)) pe_str) pe_non))))), ?_⟩
  refine body_pure (K := K) (C := gC K) h (fun ds d hp => by rw [len_l_at ds d hp]; decide) (fun ds d hp F0 H0 => ?_)
  obtain ⟨ps, t, o, rfl, hB, ht, ho, rfl⟩ := hp
  show Sd _ _ [.d (.tuple (ps.map pD)), .d (qD t), .no, .no, .no, .no, .no] _ _
  refine s_seq (M := fun P' => ∃ a, P' = [.d (.tuple (ps.map pD)), .d (qD t), .own a [], .no, .no, .no, .no]) (s_nilOwn a_nil (by simp) (by simp) fun a => ⟨a, rfl⟩) ?_
  rintro _ ⟨a, rfl⟩
  refine s_seq (M := fun P' => ∃ a x1 x2 x3 x4, P' = [.d (.tuple (ps.map pD)), .d (qD t), .own a (qsD ((ps.filter (inB t)).map fun p => at_ p.ln t)), x1, x2, x3, x4]) (s_for (ds := ps.map pD) (i_tup (g_var rfl)) (fun i P' => ∃ a x1 x2 x3 x4, P' = [.d (.tuple (ps.map pD)), .d (qD t), .own a (qsD (((ps.take i).filter (inB t)).map fun p => at_ p.ln t)), x1, x2, x3, x4]) ⟨a, _, _, _, _, rfl⟩ ?_ ?_) ?_
  · rintro i d P2 hd ⟨a, x1, x2, x3, x4, rfl⟩
    rw [List.getElem?_map] at hd
    cases e : ps[i]? with
    | none => rw [e] at hd; cases hd
    | some p =>
      rw [e] at hd
      cases hd
      obtain ⟨b1, b2, b3, b4⟩ := hB.2 p (List.mem_of_getElem? e)
      have hl : (qsD (((ps.take i).filter (inB t)).map fun p => at_ p.ln t)).length ≤ 10000 := by
        have h1 := List.length_filter_le (inB t) (ps.take i)
        have h2 := hB.1
        simp [qsD]
        rw [List.length_take] at h1
        omega
      have et : ((ps.take (i + 1)).filter (inB t)).map (fun p => at_ p.ln t) = ((ps.take i).filter (inB t)).map (fun p => at_ p.ln t) ++ (if inB t p = true then [at_ p.ln t] else []) := by
        rw [List.take_add_one, e, List.filter_append, List.map_append]
        congr 1
        by_cases q : inB t p = true
        · rw [if_pos q]; simp [q]
        · rw [if_neg q]; simp [q]
      rw [et]
      generalize ((ps.take i).filter (inB t)).map (fun p => at_ p.ln t) = done at hl ⊢
      refine ⟨_, [.d (.tuple (ps.map pD)), .d (qD t), .own a (qsD done), .d (oD p.lo), .d (oD p.hi), .d (qD p.ln.1), .d (qD p.ln.2)], d_tup (ds_cons (d_name (by simp)) (ds_cons (d_name (by simp)) (ds_cons (d_name (by simp)) (ds_cons (d_name (by simp)) ds_nil)))) rfl, ?_⟩
      refine s_if (P1 := [.d (.tuple (ps.map pD)), .d (qD t), .own a (qsD done), .d (oD p.lo), .d (oD p.hi), .d (qD p.ln.1), .d (qD p.ln.2)]) (b := inB t p) ?_ (fun h => ?_) fun h => s_next ⟨a, .d (oD p.lo), .d (oD p.hi), .d (qD p.ln.1), .d (qD p.ln.2), ?_⟩
      · refine t_and (a := fromB p.lo t) (b := toB p.hi t) ?_ fun _ => ?_
        · cases hlo : p.lo with
          | none => exact t_orT (t_cmp (g_op (g_var rfl) g_non o_isN))
          | some l => exact t_orF (t_cmp (g_op (g_var rfl) g_non o_isN)) ((t_cmp (g_op (g_call (a_cons (g_var rfl) (a_cons (g_var rfl) a_nil)) ⟨l, t, rfl, (b1 l hlo).mono (by decide), ht.mono (by decide), rfl⟩) g_int o_le)).eq (gap_le l t))
        · cases hhi : p.hi with
          | none => exact t_orT (t_cmp (g_op (g_var rfl) g_non o_isN))
          | some l => exact t_orF (t_cmp (g_op (g_var rfl) g_non o_isN)) ((t_cmp (g_op (g_call (a_cons (g_var rfl) (a_cons (g_var rfl) a_nil)) ⟨t, l, rfl, ht.mono (by decide), (b2 l hhi).mono (by decide), rfl⟩) g_int o_le)).eq (gap_le t l))
      · rw [if_pos h]
        have ea : p.ln.1 + p.ln.2 * t = at_ p.ln t := by unfold at_; grind
        refine s_append (d := qD (at_ p.ln t)) rfl ((g_call (a_cons (g_var rfl) (a_cons (g_call (a_cons (g_var rfl) (a_cons (g_var rfl) a_nil)) ⟨_, _, rfl, b4.mono (by decide), ht.mono (by decide), rfl⟩) a_nil)) ⟨_, _, rfl, b3.mono (by decide), (qb_mul b4 ht).mono (by decide), rfl⟩).eq (by rw [ea])) rfl hl ⟨a, .d (oD p.lo), .d (oD p.hi), .d (qD p.ln.1), .d (qD p.ln.2), ?_⟩
        unfold qsD
        rw [List.map_append]; rfl
      · rw [if_neg (by rw [h]; decide), List.append_nil]
  · rintro _ ⟨a, x1, x2, x3, x4, rfl⟩
    refine ⟨a, x1, x2, x3, x4, ?_⟩
    rw [List.length_map, List.take_length]
  rintro _ ⟨a, x1, x2, x3, x4, rfl⟩
  cases ef : ps.filter (inB t) with
  | nil =>
    have : o = none := by
      cases o with
      | none => rfl
      | some z =>
        obtain ⟨p, hp, hi⟩ := ho.2 z rfl
        have : p ∈ ps.filter (inB t) := List.mem_filter.mpr ⟨hp, hi⟩
        rw [ef] at this
        simp at this
    subst this
    exact s_ret (g_if (b := false) ((t_cmp (g_op (g_own rfl) (g_lst a_nil (by simp)) (o_ne (shp_qs []) (shp_qs [])))).eq rfl) (fun z => nomatch z) fun _ => g_non) rfl
  | cons p r =>
    have all : ∀ q, q ∈ p :: r → o = some (at_ q.ln t) := fun q hq => by
      rw [← ef] at hq
      obtain ⟨h1, h2⟩ := List.mem_filter.mp hq
      exact ho.1 q h1 h2
    have hz := all p List.mem_cons_self
    subst hz
    have erep : (p :: r).map (fun p => at_ p.ln t) = List.replicate (r.length + 1) (at_ p.ln t) := by
      refine List.eq_replicate_iff.mpr ⟨by simp, fun b hb => ?_⟩
      obtain ⟨q, hq, rfl⟩ := List.mem_map.mp hb
      exact (Option.some.inj (all q hq)).symm
    have hr1 : r.length + 1 ≤ 1000 := by
      have h1 := List.length_filter_le (inB t) ps
      rw [ef] at h1
      have h2 := hB.1
      simp at h1
      omega
    rw [erep]
    have eq1 : qsD (List.replicate (r.length + 1) (at_ p.ln t)) = List.replicate (r.length + 1) (qD (at_ p.ln t)) := by unfold qsD; rw [List.map_replicate]
    have at0' : atI (qsD (List.replicate (r.length + 1) (at_ p.ln t))) 0 = some (qD (at_ p.ln t)) := atI_nat (i := 0) (by rw [eq1]; rfl)
    refine s_ret (g_if (b := true) ((t_cmp (g_op (g_own rfl) (g_lst a_nil (by simp)) (o_ne (shp_qs _) (shp_qs [])))).eq (by rw [eqv_qs_nil]; rfl)) (fun _ => g_if (b := true) ((t_cmp (g_op (g_var rfl) ((g_op (g_lst (a_cons (g_op (g_var rfl) g_int (o_ixqL at0')) a_nil) (by simp)) (g_cb (a_cons (g_var rfl) a_nil) b_lenL) (o_rep1 (by simp [qsD]; omega) (by omega))).eq (d' := .list (qsD (List.replicate (r.length + 1) (at_ p.ln t)))) (by rw [eq1]; simp)) (o_eq (shp_qs _) (shp_qs _)))).eq (eqv_qs _)) (fun _ => g_op (g_var rfl) g_int (o_ixqL at0')) fun z => nomatch z) fun z => nomatch z) rfl
/-- the costs are far -/
def farB (cs : List Int) : Bool := !(cs.filter fun one => decide (1000 < one) || decide (one < -1000)).isEmpty
def pre_l_then (ds : List PyData) (d : PyData) : Prop := ∃ (T : Tsk) (s : List Int) (t : Rat) (o : Option Rat), ds = [tD T, .tuple (iD s), qD t] ∧ T.cs.length = s.length ∧ s.length ≤ 1000 ∧ ibd 1000 T.cs ∧ ibd 1000 s ∧ qb 1000 t ∧
  (farB (mixC t.den t.num T.cs s) = false → Nd (Tmv T s t) ∧ Big (Tmv T s t) ∧ BestO (Tmv T s t) o ∧ ∀ v, o = some v → qb 4000 v) ∧
  d = if farB (mixC t.den t.num T.cs s) = true then .str "far" else oD (o.map fun v => v / (t.den : Rat))
theorem len_l_then : ∀ ds d, pre_l_then ds d → ds.length = 3 := by rintro _ _ ⟨_, _, _, _, rfl, _⟩; rfl
theorem ok_l_then (T : Txt K mg) : FnOk Pg w K mg base CX0 8 (He.ga K "_law_then") (T.fd 55) ["_law_task_here", "_law_steps", "_law_time"] (spD pre_l_then) := by
  refine (T.F 55 d_law_then rfl).ok sc_l_then (spD_len (n := 3) ?len) (fun cdv A outer s H vs Q E hr h => ?_)
  case len => exact len_l_then
  refine ⟨_, PSs.nox (pss_cons (ps_set (i := 3) sc_l_then.nd rfl (by first | exact Or.inl rfl | exact Or.inr rfl) (pe_callTy call_tuple_of (by rfl) T.n_tuple (by decide +kernel) (pa_cons (pe_lc (own := [("_law_at_here", 5)]) (by rfl) sc_l_then.nd (pi_range1 (by rfl) T.n_range (pa_cons (pe_callB call_len (by rfl) T.n_len PySem.boot_len (pa_cons (pv 1) pa_nil)) pa_nil)) (blkOk_by (N := ["_law_task_here", "_law_steps", "_law_time", "_law_costs", "_law_value", "_law_at_here", "_law_one"]) (sc := defScope s_law_then) (by decide +kernel)) (fun _ _ _ _ _ => (pg_name (i := 5) sc_l_then.nd rfl (by first | exact Or.inl rfl | exact Or.inr rfl))) (fun _ _ _ _ _ => pts_nil) (fun _ _ _ _ _ => (pe_op op_add (pe_op op_mulW (pe_ix (ix_seqK (K := K)) (pe_ix (ix_seqK (K := K)) (pv 0) pe_int (fun _ _ => rfl)) (pv 5) (fun _ _ => rfl)) (pe_ix (ix_seqK (K := K)) (pv 2) pe_int (fun _ _ => rfl))) (pe_op op_mulW (pe_ix (ix_seqK (K := K)) (pv 1) (pv 5) (fun _ _ => rfl)) (pe_ix (ix_seqK (K := K)) (pv 2) pe_int (fun _ _ => rfl)))))) pa_nil)))
      (pss_cons (ps_if (pt_cmpR (op_neDK (K := K) hr.units) (pe_lc (own := [("_law_one", 6)]) (by rfl) sc_l_then.nd (pi_tup (pv 3)) (blkOk_by (N := ["_law_task_here", "_law_steps", "_law_time", "_law_costs", "_law_value", "_law_at_here", "_law_one"]) (sc := defScope s_law_then) (by decide +kernel)) (fun _ _ _ _ _ => (pg_name (i := 6) sc_l_then.nd rfl (by first | exact Or.inl rfl | exact Or.inr rfl))) (fun _ _ _ _ _ => (pts_one (PW.pt (pw_or (pt_cmpR op_gt (pv 6) pe_int (nomark _)) (pw_or1 (pt_cmpR op_lt (pv 6) (pe_un un_neg pe_int) (nomark _))))))) (fun _ _ _ _ _ => (pv 6))) (pe_lst pa_nil) (nomark _)) (pss_one (ps_ret pe_str)) pss_nil)
      (pss_cons (ps_set (i := 4) sc_l_then.nd rfl (by first | exact Or.inl rfl | exact Or.inr rfl) (pe_call (ok_best_cost T) (hr.mono (show 7 ≤ _ by decide)) (by rfl) T.g_best_cost (T.F 30 d_best_cost rfl).kp (b_best_cost T) .nil pass0 (pa_cons (pe_tup (pa_cons (pe_ix (ix_seqK (K := K)) (pv 0) pe_int (fun _ _ => rfl)) (pa_cons (pv 3) (pa_cons (pe_ix (ix_seqK (K := K)) (pv 0) pe_int (fun _ _ => rfl)) pa_nil)))) pa_nil)))
      (pss_one (ps_ret (pe_ifExp (pt_cmpR op_notN (pv 4) pe_non (nomark _)) (pe_call (ok_l_ratio T) (hr.mono (show 1 ≤ _ by decide)) (by rfl) T.g__law_ratio (T.F 49 d_law_ratio rfl).kp (b_l_ratio T) .nil pass0 (pa_cons (pe_ix (ix_seqK (K := K)) (pv 4) pe_int (fun _ _ => rfl)) (pa_cons (pe_op op_mulW (pe_ix (ix_seqK (K := K)) (pv 4) pe_int (fun _ _ => rfl)) (pe_ix (ix_seqK (K := K)) (pv 2) pe_int (fun _ _ => rfl))) pa_nil))) pe_non)))))), ?_⟩
  refine body_pure (K := K) (C := gC K) h (fun ds d hp => by rw [len_l_then ds d hp]; decide) (fun ds d hp F0 H0 => ?_)
  obtain ⟨U, s', t, o, rfl, hl, h1000, hc, hs, ht, hnf, rfl⟩ := hp
  show Sd _ _ [.d (tD U), .d (.tuple (iD s')), .d (qD t), .no, .no, .no, .no] _ _
  have emix : (List.range s'.length).map (fun j => U.cs.getD j 0 * (t.den : Int) + s'.getD j 0 * t.num) = mixC t.den t.num U.cs s' := by
    have := range_map_getD (xs := mixC t.den t.num U.cs s') (d := 0) (n := s'.length) (by unfold mixC; rw [List.length_zipWith, hl, Nat.min_self])
    rw [← this]
    exact List.map_congr_left fun j _ => (mix_get hl j).symm
  refine s_seq1 (P' := [.d (tD U), .d (.tuple (iD s')), .d (qD t), .d (.tuple (iD (mixC t.den t.num U.cs s'))), .no, .no, .no]) ?_ ?_
  · refine s_set ((g_cb (a_cons (TEo.g (o_mapL (xs := List.range s'.length) (f := fun j => .int (U.cs.getD j 0 * (t.den : Int) + s'.getD j 0 * t.num)) (rng_map _) (i_rng (a_cons ((g_cb (a_cons (g_var rfl) a_nil) b_lenT).eq (by rw [iD_len])) a_nil) (by omega)) (by simp) (by simp; omega) fun j hj => ?_)) a_nil) b_tuple).eq ?_) (by simp [noAt]) rfl
    · have hj' : j < s'.length := List.mem_range.mp hj
      exact ⟨_, _, by simp, d_name (by simp [noAt]), rfl, g_op (g_op (g_op (g_op (g_var rfl) g_int (o_ixqT atT1)) (g_var rfl) (o_ixqT (iD_at (by omega)))) (g_q1 (g_var rfl) g_int) (o_mul (cmul (ibd_get hc j) (den_bits ht)))) (g_op (g_op (g_var rfl) (g_var rfl) (o_ixqT (iD_at hj'))) (g_q0 (g_var rfl) g_int) (o_mul (cmul (ibd_get hs j) ht.1))) o_add⟩
    · rw [← emix]
      unfold iD
      rw [List.map_map]; rfl
  have hml : (mixC t.den t.num U.cs s').length ≤ 1000 := by unfold mixC; rw [List.length_zipWith]; omega
  generalize hmix : mixC t.den t.num U.cs s' = cs at *
  have tst : ∀ x, x ∈ cs → ∃ ts Pa, (∀ j ∈ ts, j ∈ List.map (fun x : Str × Nat => x.2) [("_law_one", 6)]) ∧ TGd (gName 6) ⟨K, gC K, F0, H0⟩ ts (PyData.int x) (noAt (List.map (fun x : Str × Nat => x.2) [("_law_one", 6)]) [.d (tD U), .d (.tuple (iD s')), .d (qD t), .d (.tuple (iD cs)), .no, .no, .no]) Pa ∧ noAt (List.map (fun x : Str × Nat => x.2) [("_law_one", 6)]) Pa = noAt (List.map (fun x : Str × Nat => x.2) [("_law_one", 6)]) [.d (tD U), .d (.tuple (iD s')), .d (qD t), .d (.tuple (iD cs)), .no, .no, .no] ∧ TTg ⟨K, gC K, F0, H0⟩ (tOr (tTest (tOp (rI0 fun i j => .bl (decide (j < i))) (tVar 6) (tC (.int 1000)))) (tTest (tOp (rI0 fun i j => .bl (decide (i < j))) (tVar 6) (tUn (rU fun i => .int (-i)) (tC (.int 1000)))))) Pa (decide (1000 < x) || decide (x < -1000)) Pa ∧ ((decide (1000 < x) || decide (x < -1000)) = true → TEg ⟨K, gC K, F0, H0⟩ (tVar 6) Pa (PyData.int x) Pa) := fun x hx =>
    ⟨_, _, by simp, d_name (by simp [noAt]), rfl, t_or (t_cmp (g_op (g_var rfl) g_int o_gt)) fun _ => t_cmp (g_op (g_var rfl) (g_un g_int o_neg) o_lt), fun _ => g_var rfl⟩
  by_cases hf : farB cs = true
  · rw [if_pos hf]
    refine s_seq (M := fun _ => False) (s_if (b := true) ((t_cmp (g_op ((TEo.g (o_filterL (xs := cs) (r := .int) (f := .int) (fun one => decide (1000 < one) || decide (one < -1000)) rfl (i_tup (g_var rfl)) (by simp) (by omega) tst)).eq (d' := .list (iD (cs.filter fun one => decide (1000 < one) || decide (one < -1000)))) rfl) (g_lst a_nil (by simp)) (o_ne (shp_il _) (shp_il [])))).eq (by rw [eqv_nil]; exact hf)) (fun _ => s_ret g_str rfl) fun z => nomatch z) fun _ z => z.elim
  · have hf : farB cs = false := by simpa using hf
    rw [if_neg (by rw [hf]; decide)]
    obtain ⟨n1, n2, n3, n4⟩ := hnf hf
    refine s_seq1 (P' := [.d (tD U), .d (.tuple (iD s')), .d (qD t), .d (.tuple (iD cs)), .no, .no, .no]) (s_if (b := false) ((t_cmp (g_op ((TEo.g (o_filterL (xs := cs) (r := .int) (f := .int) (fun one => decide (1000 < one) || decide (one < -1000)) rfl (i_tup (g_var rfl)) (by simp) (by omega) tst)).eq (d' := .list (iD (cs.filter fun one => decide (1000 < one) || decide (one < -1000)))) rfl) (g_lst a_nil (by simp)) (o_ne (shp_il _) (shp_il [])))).eq (by rw [eqv_nil]; exact hf)) (fun z => nomatch z) fun _ => s_next rfl) ?_
    have etm : tD (Tmv U s' t) = .tuple [.str (ksS U.ks), .tuple (iD cs), .tuple (U.rows.map rwD)] := by
      unfold tD Tmv
      rw [hmix]
    refine s_seq1 (P' := [.d (tD U), .d (.tuple (iD s')), .d (qD t), .d (.tuple (iD cs)), .d (oD o), .no, .no]) (s_set (g_call (a_cons ((g_tup (a_cons (g_op (g_var rfl) g_int (o_ixqT atT0)) (a_cons (g_var rfl) (a_cons (g_op (g_var rfl) g_int (o_ixqT atT2)) a_nil))) (by simp)).eq etm.symm) a_nil) ⟨Tmv U s' t, o, rfl, n1, n2, n3, rfl⟩) (by simp) rfl) ?_
    cases o with
    | none => exact s_ret (g_if (b := false) (t_cmp (g_op (g_var rfl) g_non o_notN)) (fun z => nomatch z) fun _ => g_non) rfl
    | some v =>
      have vq := n4 v rfl
      refine s_ret (g_if (b := true) (t_cmp (g_op (g_var rfl) g_non o_notN)) (fun _ => (g_call (a_cons (g_q0 (x := v) (g_var rfl) g_int) (a_cons (g_op (g_q1 (x := v) (g_var rfl) g_int) (g_q1 (g_var rfl) g_int) (o_mul (cmul (den_bits vq) (den_bits ht)))) a_nil)) ⟨_, _, rfl, Int.mul_pos (den_pos v) (den_pos t), lt2_mono (mul_bits (den_bits vq) (den_bits ht)) (by decide), rfl⟩).eq ?_) fun z => nomatch z) rfl
      have : ((v.num : Int) : Rat) / (((v.den : Int) * (t.den : Int) : Int) : Rat) = v / (t.den : Rat) := by
        have h1 := rat_self v
        have h2 := den_ne v
        have h3 := den_ne t
        rw [Rat.intCast_mul, Rat.intCast_natCast, Rat.intCast_natCast]
        generalize hv : (v.num : Rat) = n at *
        generalize hd : ((v.den : Nat) : Rat) = d at *
        rw [← h1]
        grind
      rw [this]; rfl
end
end Cp
end
/-! ## CL3 -/
section
set_option Elab.async false
set_option linter.all false
set_option autoImplicit false
set_option maxRecDepth 100000
set_option maxHeartbeats 4000000
set_option exponentiation.threshold 100000
namespace Cp
variable [KFix]
open PySem PySem.Spec PyProof.Rows L2
structure RS where
  cells : List Int
  pos : Nat
  seed : Int
  rest : Int
def RS.ok (S : RS) : Prop := 0 ≤ S.seed ∧ S.seed < 2147483647
/-- whole numbers as a datum that is only read -/
def encI (ns : List Int) : List (PyData × PyData) := ns.map fun i => (.int i, .none)
theorem dec_enc (ns : List Int) : decI (encI ns) = ns := by
  induction ns with
  | nil => rfl
  | cons n ns ih =>
    show n :: decI (encI ns) = n :: ns
    rw [ih]
def scD (ns : List Int) : PyData := .dict (encI ns)
def rsD (S : RS) : List PyData := [scD S.cells, .int S.pos, .int S.seed, .int S.rest]
/-- the objects of the module are those that are fixed -/
class KIs (K : PySem.W.Frag) : Prop where
  eq : KFix.K = K
theorem scr_inv {F : Hp} {v : V} {ns : List Int} (r : Rp F v (scD ns)) : ∃ a, v = .ref a ∧ SqL KFix.K F a (ns.map V.int) := by
  cases r with
  | scr q =>
    rw [dec_enc] at q
    exact ⟨_, rfl, q⟩
theorem b_lenScr {K : PySem.W.Frag} [hK : KIs K] {ns : List Int} : ON (fun xs H Q => ∃ x n, xs = [x] ∧ LenV K x H n ∧ Q (.int n) H) [scD ns] (.int ns.length) := fun F H xs Q s r q => by
  cases r with
  | cons r1 r =>
    cases r
    obtain ⟨a, rfl, q1⟩ := scr_inv r1
    rw [hK.eq] at q1
    exact ⟨_, _, rfl, .inl ⟨_, sqlSame s q1, by simp⟩, q _ F H (Ex.refl s) (.int _)⟩
theorem o_ixScr {K : PySem.W.Frag} [hK : KIs K] {ns : List Int} {i n : Int} (h : atI (iD ns) i = some (.int n)) : O2 (rIx K) (scD ns) (.int i) (.int n) := fun F H x y Q s r1 r2 q => by
  obtain ⟨a, rfl, q1⟩ := scr_inv r1
  rw [hK.eq] at q1
  cases r2
  obtain ⟨v, hv, r⟩ := atI_rp (RpL.ints (F := F) ns) h
  exact .inl ⟨_, _, i, v, rfl, rfl, sqlSame s q1, hv, q v F H (Ex.refl s) r⟩
def takenM (S : RS) (many : Int) : Int × RS :=
  if 0 < S.rest then (S.rest % many, { S with rest := S.rest / many })
  else if S.cells.length < S.pos + 1 then
    ((S.seed * 48271 + 11) % 2147483647 / 7 % many, { S with pos := S.pos + 1, seed := (S.seed * 48271 + 11) % 2147483647 })
  else (S.cells.getD S.pos 0 % many, { S with pos := S.pos + 1, seed := (S.seed * 48271 + S.cells.getD S.pos 0 + 11) % 2147483647, rest := if 10 ^ 18 ≤ S.cells.getD S.pos 0 then S.cells.getD S.pos 0 / many else S.rest })
theorem taken_ok {S : RS} (h : S.ok) (many : Int) : (takenM S many).2.ok := by
  unfold takenM
  split
  · exact h
  split
  · exact ⟨Int.emod_nonneg _ (by decide), Int.emod_lt_of_pos _ (by decide)⟩
  · exact ⟨Int.emod_nonneg _ (by decide), Int.emod_lt_of_pos _ (by decide)⟩
theorem taken_rng (S : RS) {many : Int} (h : 0 < many) : 0 ≤ (takenM S many).1 ∧ (takenM S many).1 < many := by
  unfold takenM
  split
  · exact ⟨Int.emod_nonneg _ (by omega), Int.emod_lt_of_pos _ h⟩
  split
  · exact ⟨Int.emod_nonneg _ (by omega), Int.emod_lt_of_pos _ h⟩
  · exact ⟨Int.emod_nonneg _ (by omega), Int.emod_lt_of_pos _ h⟩
section
variable {c : Bc} {P P1 P2 : List Sl}
/-- l[k], an owned list -/
theorem g_ownIx {K : PySem.W.Frag} {i : Nat} {a : Addr} {ds : List PyData} {tk : TE} {k : Int} {d : PyData} (h : P[i]? = some (.own a ds)) (hk : TEg c tk P (.int k) P) (hd : atI ds k = some d) : TEg c (tOp (rIx K) (tVar i) tk) P d P := by
  refine ⟨rfl, fun T σ F H Q S hl q => ?_⟩
  have e := S.val i _ (get_app h) (by rw [hl]; exact lt_of_get h)
  refine ⟨.ref a, e, hk.run T σ F H _ S hl fun y F2 H2 S2 m2 r2 => ?_⟩
  cases r2
  obtain ⟨vs, hH, rl⟩ := S2.hold i _ (get_app h)
  obtain ⟨u, hu, ru⟩ := atI_rp rl hd
  exact .inl ⟨a, vs, k, u, rfl, rfl, SqL.of hH, hu, q u F2 H2 S2 m2 ru⟩
end
section
variable {Pg : Program} {w : World} {K : PySem.W.Frag} {mg : Str → Option Value} {base : Heap} [KIs K]
def pre_l_taken (s : Sl) (ds : List PyData) (d : PyData) (t : Sl) : Prop := ∃ (a : Addr) (S : RS) (many : Int), s = .own a (rsD S) ∧ S.ok ∧ ds = [.int many] ∧ 0 < many ∧ many.natAbs < 2 ^ 60 ∧ d = .int (takenM S many).1 ∧ t = .own a (rsD (takenM S many).2)
theorem len_l_taken : ∀ s ds d t, pre_l_taken s ds d t → ds.length + 1 = 2 := by rintro _ _ _ _ ⟨_, _, _, rfl, _, rfl, _⟩; rfl
theorem ix4 {x0 x1 x2 x3 : PyData} : ixN [x0, x1, x2, x3].length 3 = some 3 ∧ ixN [x0, x1, x2, x3].length 2 = some 2 ∧ ixN [x0, x1, x2, x3].length 1 = some 1 := ⟨rfl, rfl, rfl⟩
theorem ok_l_taken (T : Txt K mg) : FnOk Pg w K mg base CX0 1 (He.ga K "_law_taken") (T.fd 47) ["_law_row", "_law_many"] (spS (gC K) pre_l_taken) := by
  refine (T.F 47 d_law_taken rfl).ok sc_l_taken (spS_len (n := 2) ?len) (fun cdv A outer s H vs Q E hr h => ?_)
  case len => exact len_l_taken
  refine ⟨_, PSs.nox (pss_cons (ps_if (pt_cmpR op_gt (pe_ix (ix_seqK (K := K)) (pv 0) pe_int (fun _ _ => rfl)) pe_int (nomark _)) (pss_cons (ps_set (i := 2) sc_l_taken.nd rfl (by first | exact Or.inl rfl | exact Or.inr rfl) (pe_op op_mod (pe_callTy call_int1 (by rfl) T.n_int (by decide +kernel) (pa_cons (pe_ix (ix_seqK (K := K)) (pv 0) pe_int (fun _ _ => rfl)) pa_nil)) (pv 1)))
      (pss_cons (ps_asg (pe_op op_fdivW (pe_ix (ix_seqK (K := K)) (pv 0) pe_int (fun _ _ => rfl)) (pv 1)) (pg_sub (pv 0) pe_int set_list))
      (pss_one (ps_ret (pv 2))))) pss_nil)
      (pss_cons (ps_asg (pe_op op_add (pe_ix (ix_seqK (K := K)) (pv 0) pe_int (fun _ _ => rfl)) pe_int) (pg_sub (pv 0) pe_int set_list))
      (pss_cons (ps_if (pt_cmpR op_gt (pe_ix (ix_seqK (K := K)) (pv 0) pe_int (fun _ _ => rfl)) (pe_callB call_len (by rfl) T.n_len PySem.boot_len (pa_cons (pe_ix (ix_seqK (K := K)) (pv 0) pe_int (fun _ _ => rfl)) pa_nil)) (nomark _)) (pss_cons (ps_asg (pe_op op_mod (pe_callTy call_int1 (by rfl) T.n_int (by decide +kernel) (pa_cons (pe_op op_add (pe_op op_mulW (pe_ix (ix_seqK (K := K)) (pv 0) pe_int (fun _ _ => rfl)) pe_int) pe_int) pa_nil)) pe_int) (pg_sub (pv 0) pe_int set_list))
      (pss_one (ps_ret (pe_op op_mod (pe_callTy call_int1 (by rfl) T.n_int (by decide +kernel) (pa_cons (pe_op op_fdivW (pe_ix (ix_seqK (K := K)) (pv 0) pe_int (fun _ _ => rfl)) pe_int) pa_nil)) (pv 1))))) pss_nil)
      (pss_cons (ps_set (i := 3) sc_l_taken.nd rfl (by first | exact Or.inl rfl | exact Or.inr rfl) (pe_ix (ix_seqK (K := K)) (pe_ix (ix_seqK (K := K)) (pv 0) pe_int (fun _ _ => rfl)) (pe_op op_sub (pe_ix (ix_seqK (K := K)) (pv 0) pe_int (fun _ _ => rfl)) pe_int) (fun _ _ => rfl)))
      (pss_cons (ps_asg (pe_op op_mod (pe_callTy call_int1 (by rfl) T.n_int (by decide +kernel) (pa_cons (pe_op op_add (pe_op op_add (pe_op op_mulW (pe_ix (ix_seqK (K := K)) (pv 0) pe_int (fun _ _ => rfl)) pe_int) (pv 3)) pe_int) pa_nil)) pe_int) (pg_sub (pv 0) pe_int set_list))
      (pss_cons (ps_if (pt_cmpR op_ge (pv 3) (pe_op op_pow pe_int pe_int) (nomark _)) (pss_one (ps_asg (pe_op op_fdivW (pv 3) (pv 1)) (pg_sub (pv 0) pe_int set_list))) pss_nil)
      (pss_one (ps_ret (pe_op op_mod (pe_callTy call_int1 (by rfl) T.n_int (by decide +kernel) (pa_cons (pv 3) pa_nil)) (pv 1)))))))))), ?_⟩
  refine body_own (K := K) (C := gC K) h (fun s ds d t hp => by rw [len_l_taken s ds d t hp]; decide) (fun s ds d t hp F0 H0 => ?_)
  obtain ⟨a, S, many, rfl, hS, rfl, hm0, hmb, rfl, rfl⟩ := hp
  show Sd _ _ [.own a (rsD S), .d (.int many), .no, .no] _ _
  obtain ⟨cells, pos, seed, rest⟩ := S
  have sb : seed.natAbs < 2 ^ 31 := by have h1 := hS.1; have h2 := hS.2; simp only at h1 h2; omega
  have b1 : (48271 : Int).natAbs < 2 ^ 31 := by decide
  by_cases hr0 : 0 < rest
  · have et : takenM ⟨cells, pos, seed, rest⟩ many = (rest % many, ⟨cells, pos, seed, rest / many⟩) := by unfold takenM; rw [if_pos hr0]
    rw [et]
    refine s_seq (M := fun _ => False) (s_if (b := true) ((t_cmp (g_op (g_ownIx rfl g_int at4_3) g_int o_gt)).eq (decide_eq_true hr0)) (fun _ => ?_) fun z => nomatch z) fun _ z => z.elim
    refine s_seq1 (P' := [.own a (rsD ⟨cells, pos, seed, rest⟩), .d (.int many), .d (.int (rest % many)), .no]) (s_set (g_op (g_cb (a_cons (g_ownIx rfl g_int at4_3) a_nil) b_int) (g_var rfl) (o_mod hm0)) (by simp) rfl) ?_
    refine s_seq1 (P' := [.own a (rsD ⟨cells, pos, seed, rest / many⟩), .d (.int many), .d (.int (rest % many)), .no]) (s_setOwn (j := 3) (g_op (g_ownIx rfl g_int at4_3) (g_var rfl) (o_div (cdiv hm0 hmb))) rfl g_int rfl rfl) ?_
    exact s_ret (g_var rfl) ⟨rfl, rfl⟩
  refine s_seq1 (P' := [.own a (rsD ⟨cells, pos, seed, rest⟩), .d (.int many), .no, .no]) (s_if (b := false) ((t_cmp (g_op (g_ownIx rfl g_int at4_3) g_int o_gt)).eq (decide_eq_false hr0)) (fun z => nomatch z) fun _ => s_next rfl) ?_
  refine s_seq1 (P' := [.own a (rsD ⟨cells, pos + 1, seed, rest⟩), .d (.int many), .no, .no]) (s_setOwn (j := 1) (d := .int (pos + 1 : Nat)) (g_op (g_ownIx rfl g_int at4_1) g_int o_add) rfl g_int rfl rfl) ?_
  by_cases hc : cells.length < pos + 1
  · have et : takenM ⟨cells, pos, seed, rest⟩ many = ((seed * 48271 + 11) % 2147483647 / 7 % many, ⟨cells, pos + 1, (seed * 48271 + 11) % 2147483647, rest⟩) := by unfold takenM; rw [if_neg hr0, if_pos hc]
    rw [et]
    refine s_seq (M := fun _ => False) (s_if (b := true) ((t_cmp (g_op (g_ownIx rfl g_int at4_1) (g_cb (a_cons (g_ownIx rfl g_int at4_0) a_nil) (b_lenScr (K := K))) o_gt)).eq (by show decide ((cells.length : Int) < ((pos + 1 : Nat) : Int)) = true; exact decide_eq_true (by omega))) (fun _ => ?_) fun z => nomatch z) fun _ z => z.elim
    refine s_seq1 (P' := [.own a (rsD ⟨cells, pos + 1, (seed * 48271 + 11) % 2147483647, rest⟩), .d (.int many), .no, .no]) (s_setOwn (j := 2) (g_op (g_cb (a_cons (g_op (g_op (g_ownIx rfl g_int at4_2) g_int (o_mul (cmul sb b1))) g_int o_add) a_nil) b_int) g_int (o_mod (by decide))) rfl g_int rfl rfl) ?_
    exact s_ret (g_op (g_cb (a_cons (g_op (g_ownIx rfl g_int at4_2) g_int (o_div (cdiv (n := 5) (by decide) (by decide)))) a_nil) b_int) (g_var rfl) (o_mod hm0)) ⟨rfl, rfl⟩
  · have hp0 : pos < cells.length := by omega
    have et : takenM ⟨cells, pos, seed, rest⟩ many = (cells.getD pos 0 % many, ⟨cells, pos + 1, (seed * 48271 + cells.getD pos 0 + 11) % 2147483647, if 10 ^ 18 ≤ cells.getD pos 0 then cells.getD pos 0 / many else rest⟩) := by unfold takenM; rw [if_neg hr0, if_neg hc]
    rw [et]
    have hat : atI (iD cells) (((pos + 1 : Nat) : Int) - 1) = some (.int (cells.getD pos 0)) := by
      have : ((pos + 1 : Nat) : Int) - 1 = (pos : Int) := by omega
      rw [this]; exact iD_at hp0
    generalize cells.getD pos 0 = cell at *
    refine s_seq1 (P' := [.own a (rsD ⟨cells, pos + 1, seed, rest⟩), .d (.int many), .no, .no]) (s_if (b := false) ((t_cmp (g_op (g_ownIx rfl g_int at4_1) (g_cb (a_cons (g_ownIx rfl g_int at4_0) a_nil) (b_lenScr (K := K))) o_gt)).eq (by show decide ((cells.length : Int) < ((pos + 1 : Nat) : Int)) = false; exact decide_eq_false (by omega))) (fun z => nomatch z) fun _ => s_next rfl) ?_
    refine s_seq1 (P' := [.own a (rsD ⟨cells, pos + 1, seed, rest⟩), .d (.int many), .no, .d (.int cell)]) (s_set (g_op (g_ownIx (d := scD cells) rfl g_int at4_0) (g_op (g_ownIx rfl g_int at4_1) g_int o_sub) (o_ixScr (K := K) hat)) (by simp) rfl) ?_
    refine s_seq1 (P' := [.own a (rsD ⟨cells, pos + 1, (seed * 48271 + cell + 11) % 2147483647, rest⟩), .d (.int many), .no, .d (.int cell)]) (s_setOwn (j := 2) (g_op (g_cb (a_cons (g_op (g_op (g_op (g_ownIx rfl g_int at4_2) g_int (o_mul (cmul sb b1))) (g_var rfl) o_add) g_int o_add) a_nil) b_int) g_int (o_mod (by decide))) rfl g_int rfl rfl) ?_
    refine s_seq1 (P' := [.own a (rsD ⟨cells, pos + 1, (seed * 48271 + cell + 11) % 2147483647, if 10 ^ 18 ≤ cell then cell / many else rest⟩), .d (.int many), .no, .d (.int cell)]) ?_ ?_
    · have e18 : ((10 : Int) ^ (18 : Int).toNat) = 10 ^ 18 := rfl
      refine s_if (b := decide ((10 : Int) ^ 18 ≤ cell)) ((t_cmp (g_op (g_var rfl) (g_op g_int g_int (o_pow (i := 10) (j := 18) ⟨by decide, by decide, by decide⟩)) o_ge)).eq (by rw [e18])) (fun h => ?_) fun h => s_next ?_
      · rw [if_pos (of_decide_eq_true h)]
        exact s_setOwn (j := 3) (g_op (g_var rfl) (g_var rfl) (o_div (cdiv hm0 hmb))) rfl g_int rfl rfl
      · rw [if_neg (of_decide_eq_false h)]
    exact s_ret (g_op (g_cb (a_cons (g_var rfl) a_nil) b_int) (g_var rfl) (o_mod hm0)) ⟨rfl, rfl⟩
end
end Cp
end
/-! ## CPp -/
section
set_option Elab.async false
set_option linter.all false
set_option autoImplicit false
set_option maxRecDepth 100000
set_option maxHeartbeats 4000000
/-! a promise of what comes behind -/
namespace Cp
variable [KFix]
open PySem PySem.Spec PyProof.Rows L2
def spP (C : Addr) (pre : Sl → List PyData → (PyData → Sl → Prop) → Prop) : Sp := fun vs H Q _ => ∃ (F : Hp) (s : Sl) (sv : V) (ws : List V) (ds : List PyData) (post : PyData → Sl → Prop), vs = sv :: ws ∧ Same F H ∧ SlV F (some (some sv)) s ∧ SlO C F H s ∧ (∀ a ∈ s.as, F a = none) ∧ RpL F ws ds ∧ pre s ds post ∧ s.isO = true ∧
  ∀ d t v F' H', post d t → t.as = s.as → t.isO = true → ExW s.as F H F' H' → SlO C F' H' t → SlV F' (some (some sv)) t → Rp F' v d → Q v H'
theorem spP_len {C : Addr} {pre : Sl → List PyData → (PyData → Sl → Prop) → Prop} {n : Nat} (h : ∀ s ds post, pre s ds post → ds.length + 1 = n) : ∀ vs H Q E, spP C pre vs H Q E → vs.length = n := fun vs H Q E ⟨F, s, sv, ws, ds, post, e, _, _, _, _, r, p, _⟩ => by
  rw [e, List.length_cons, r.len]; exact h s ds post p
/-- x = f(o, ..) -/
theorem s_callP {c : Bc} {P P1 : List Sl} {N : List Sl → Prop} {R : PyData → List Sl → Prop} {pre : Sl → List PyData → (PyData → Sl → Prop) → Prop} {post : PyData → Sl → Prop} {E : XK} {i j : Nat} {s : Sl} {ta : TA} {ds : List PyData} (hs : s.isO = true) (ha : TAg c ta P ds P1) (h0 : P[i]? = some s) (h1 : P1[i]? = some s) (hp : pre s ds post) (hj : j < P1.length)
    (hn : ∀ d t, post d t → N ((P1.set i t).set j (.d d))) : Sd c (tAsg (tCall (spP c.C pre) [] E (tCons (tVar i) ta)) (gName j)) P N R := by
  intro T σ F H D S hl n r
  obtain ⟨sv, hsv⟩ : ∃ sv, σ[i]? = some (some sv) := by
    have e := S.slot hl h0
    cases s with
    | no => cases hs
    | d x => cases hs
    | own a l => exact ⟨_, e⟩
    | obj p dx fs => exact ⟨_, e⟩
  refine ⟨sv, hsv, ha.run T σ F H _ S hl fun vs F1 H1 S1 m1 r1 => ?_⟩
  have hl1 : σ.length = P1.length := hl.trans ha.len.symm
  have e1 := S1.slot hl1 h1
  refine ⟨F1, s, sv, vs, ds, post, by rw [List.append_nil], S1.sub, by rw [← hsv]; exact e1, S1.hold i s (get_app h1), fun a q => (S1.free i s a (get_app h1) q).1, r1, hp, hs, fun d t v F' H' hpost has ht0 ex ht hv rv => ?_⟩
  have S2 := S1.exw (get_app h1) (fun _ => by rw [hsv]; exact hv) ex ht has
  rw [set_app (lt_of_get h1)] at S2
  have S3 := S2.store (i := j) (v := v) (t := .d d) (by rw [hl1]; exact hj) ⟨v, rfl, rv⟩ rfl trivial
  rw [set_app (by simpa using hj)] at S3
  exact n _ _ F' H' (hn d t hpost) S3 (by simp [hl1]) (m1.trans ex.f)
theorem body_ownP {K : PySem.W.Frag} {C : Addr} {N : List Str} {tt : TS} {pre : Sl → List PyData → (PyData → Sl → Prop) → Prop} {vs : List V} {H : Hp} {Q : VK} {E : XK} (h : spP C pre vs H Q E)
    (hn : ∀ s ds post, pre s ds post → ds.length + 1 ≤ N.length)
    (hb : ∀ s ds post, pre s ds post → ∀ F0 H0, Sd ⟨K, C, F0, H0⟩ tt (stS s ds N.length) (fun _ => False) (fun d' P' => ∃ t, P'[0]? = some t ∧ post d' t ∧ t.as = s.as ∧ t.isO = true)) : tt { nx := fun _ H' => Q .non H', rt := Q } (L2.start N vs) H := by
  obtain ⟨F, s0, sv, ws, ds, post, rfl, sm, hv, ho, hfr, r, pp, hso, q⟩ := h
  have hl := r.len
  have hN := hn s0 ds post pp
  let H0 : Hp := fun b => if b ∈ s0.as then none else H b
  have key : ∀ (i : Nat) s, (stS s0 ds N.length)[i]? = some s → (i = 0 ∧ s = s0) ∨ (∃ j x, i = j + 1 ∧ s = .d x ∧ ds[j]? = some x) ∨ s = .no := fun i s e => by
    unfold stS at e
    cases i with
    | zero => exact .inl ⟨rfl, by simpa using e.symm⟩
    | succ i =>
      rw [List.cons_append, List.getElem?_cons_succ] at e
      rcases Nat.lt_or_ge i ds.length with h1 | h1
      · rw [List.getElem?_append_left (by simpa using h1), List.getElem?_map] at e
        cases q : ds[i]? with
        | none => rw [q] at e; cases e
        | some x => rw [q] at e; exact .inr (.inl ⟨i, x, rfl, (Option.some.inj e).symm, q⟩)
      · rw [List.getElem?_append_right (by simpa using h1)] at e
        exact .inr (.inr (List.eq_of_mem_replicate (List.mem_of_getElem? e)))
  have S : Stt ⟨K, C, F, H0⟩ (stS s0 ds N.length ++ []) (L2.start N (sv :: ws)) F H := by
    rw [List.append_nil]
    refine ⟨⟨Same.refl _, fun b o e => ?_, sm, fun b o e => .inl e⟩, ?_, fun i s e hi => ?_, fun i s e => ?_, fun i s a e ha => ?_, fun i j s u a e1 e2 q1 q2 => ?_⟩
    · show H b = some o
      have e' : (if b ∈ s0.as then none else H b) = some o := e
      by_cases hb : b ∈ s0.as
      · rw [if_pos hb] at e'; cases e'
      · rw [if_neg hb] at e'; exact e'
    · unfold L2.start stS
      simp [hl]
    · rcases key i s e with ⟨rfl, rfl⟩ | ⟨j, x, rfl, rfl, hx⟩ | rfl
      · unfold L2.start
        exact hv
      · obtain ⟨v, hv', rv⟩ := r.get hx
        refine ⟨v, ?_, rv⟩
        unfold L2.start
        rw [List.map_cons, List.cons_append, List.getElem?_cons_succ, List.getElem?_append_left (by simpa using (List.getElem?_eq_some_iff.mp hv').1), List.getElem?_map, hv']
        rfl
      · trivial
    · rcases key i s e with ⟨rfl, rfl⟩ | ⟨j, x, rfl, rfl, hx⟩ | rfl
      · exact ho
      · trivial
      · trivial
    · rcases key i s e with ⟨rfl, rfl⟩ | ⟨j, x, rfl, rfl, hx⟩ | rfl
      · exact ⟨hfr a ha, if_pos ha⟩
      · cases ha
      · cases ha
    · rcases key i s e1 with ⟨rfl, rfl⟩ | ⟨j', x, rfl, rfl, hx⟩ | rfl
      · rcases key j u e2 with ⟨rfl, rfl⟩ | ⟨j', x, rfl, rfl, hx⟩ | rfl
        · rfl
        · cases q2
        · cases q2
      · cases q1
      · cases q1
  have fin : ∀ (P' : List Sl) (σ' : L2.St) (F' H' : Hp) (v : V) (d : PyData) (t : Sl), P'[0]? = some t → post d t → t.as = s0.as → t.isO = true → Stt ⟨K, C, F, H0⟩ (P' ++ []) σ' F' H' → Rp F' v d → Q v H' := fun P' σ' F' H' v d t e hpost has hto S' rv => by
    rw [List.append_nil] at S'
    have ht := S'.hold 0 t e
    refine q d t v F' H' hpost has hto ⟨S'.ex.f, fun b o hb e1 => S'.ex.h b o (by show (if b ∈ s0.as then none else H b) = some o; rw [if_neg hb]; exact e1), S'.ex.s, fun b o e1 => ?_⟩ ht ?_ rv
    · rcases S'.ex.n b o e1 with z | z
      · exact .inl z
      · by_cases hb : b ∈ s0.as
        · exfalso
          rw [(S'.free 0 t b e (by rw [has]; exact hb)).1] at e1
          cases e1
        · have z' : (if b ∈ s0.as then none else H b) = none := z
          rw [if_neg hb] at z'
          exact .inr ⟨z', hb⟩
    · cases t with
      | no => trivial
      | d x => cases hto
      | own a l =>
        cases s0 with
        | no => cases has
        | d y => cases has
        | own a' l' =>
          have e' : [a] = [a'] := has
          cases e'
          exact hv
        | obj p dx fs => exact absurd (congrArg List.length has) (by simp [Sl.as])
      | obj p dx fs =>
        cases s0 with
        | no => cases has
        | d y => cases has
        | own a' l' => exact absurd (congrArg List.length has) (by simp [Sl.as])
        | obj p' dx' fs' =>
          have e' : p :: dx :: fAs fs = p' :: dx' :: fAs fs' := has
          have e2 : p = p' := (List.cons.inj e').1
          subst e2
          exact hv
  refine hb s0 ds post pp F H0 [] (L2.start N (sv :: ws)) F H _ S (by unfold L2.start stS; simp [hl]) (fun P' σ' F' H' e S' _ m => e.elim) fun d' P' v σ' F' H' e S' m rv => ?_
  obtain ⟨t, e, h1, h2, h3⟩ := e
  exact fin P' σ' F' H' v d' t e h1 h2 h3 S' rv
end Cp
end
/-! ## CL4 -/
section
set_option Elab.async false
set_option linter.all false
set_option autoImplicit false
set_option maxRecDepth 100000
set_option maxHeartbeats 4000000
set_option exponentiation.threshold 100000
namespace Cp
variable [KFix]
open PySem PySem.Spec PyProof.Rows L2
def itS (nxt : RS → RS) (S : RS) : Nat → RS
  | 0 => S
  | i + 1 => nxt (itS nxt S i)
theorem it_ok {nxt : RS → RS} (h : ∀ S, S.ok → (nxt S).ok) {S : RS} (hS : S.ok) : ∀ i, (itS nxt S i).ok
  | 0 => hS
  | i + 1 => h _ (it_ok h hS i)
/-- draws in a comprehension -/
theorem o_draw {c : Bc} {ta : TA} {te : TE} {v n : Nat} {a : Addr} {S : RS} {rest : List Sl} {nxt : RS → RS} {f : RS → PyData} (hS : S.ok) (hnx : ∀ S, S.ok → (nxt S).ok) (hv : 1 ≤ v) (hno : rest[v - 1]? = some .no) (hn : n ≤ 1000)
    (hr : TAg c ta (.own a (rsD S) :: rest) [.int (n : Nat)] (.own a (rsD S) :: rest))
    (hs : ∀ (S : RS) (i : Nat), S.ok → i < n → TEg c te ((Sl.own a (rsD S) :: rest).set v (.d (.int (i : Nat)))) (f S) ((Sl.own a (rsD (nxt S)) :: rest).set v (.d (.int (i : Nat))))) :
    TEo c (tLc (iRng1 ta) (gName v) tYes te [v]) (.own a (rsD S) :: rest) ((List.range n).map fun i => f (itS nxt S i)) (.own a (rsD (itS nxt S n)) :: rest) := by
  obtain ⟨v, rfl⟩ : ∃ k, v = k + 1 := ⟨v - 1, by omega⟩
  have hno : rest[v]? = some .no := hno
  have hvl : v < rest.length := (List.getElem?_eq_some_iff.mp hno).1
  have self : ∀ x, (Sl.own a (rsD x) :: rest).set (v + 1) .no = Sl.own a (rsD x) :: rest := fun x => by
    rw [List.set_cons_succ, set_self hno]
  have h := o_lc (te := te) (tt := tYes) (g := gName (v + 1)) (vs := [v + 1]) (i_rng hr (n := n) (by omega)) (by simp; exact hvl) (fun i => Sl.own a (rsD (itS nxt S i)) :: rest) (fun i => (List.range i).map fun i => f (itS nxt S i)) (self S).symm rfl (by rw [rngD_len]; omega) (fun i d hd => by
    have hi : i < n := by have := (List.getElem?_eq_some_iff.mp hd).1; rw [rngD_len] at this; exact this
    rw [rngD_get hi] at hd
    cases hd
    refine ⟨[v + 1], (Sl.own a (rsD (itS nxt S i)) :: rest).set (v + 1) (.d (.int (i : Nat))), true, _, by simp, d_name (by simp; exact hvl), ⟨rfl, fun T σ F H Q S hl q => q F H S (Same.refl _)⟩, fun _ => ⟨_, _, hs _ i (it_ok hnx hS i) hi, ?_, ?_⟩, fun z => nomatch z⟩
    · rw [List.range_succ, List.map_append]; rfl
    · show _ = List.set (List.set _ _ _) _ _
      rw [List.set_set, self]; rfl)
  rw [rngD_len] at h
  exact h
theorem tk4 (S : RS) : (takenM S 4).2 = (takenM S 4).2 := rfl
/-- a task as it is drawn -/
structure Drawn (T : Tsk) : Prop where
  k1 : 1 ≤ T.ks.length
  k3 : T.ks.length ≤ 3
  cs : T.cs.length = T.ks.length
  csb : ∀ a, a ∈ T.cs → a.natAbs ≤ 60
  r4 : T.rows.length ≤ 4
  row : ∀ r, r ∈ T.rows → r.cs.length = T.ks.length ∧ (∀ a, a ∈ r.cs → a.natAbs ≤ 60) ∧ r.rt.natAbs ≤ 64
section
variable {Pg : Program} {w : World} {K : PySem.W.Frag} {mg : Str → Option Value} {base : Heap} [KIs K]
/-- one draw -/
theorem g_take {c : Bc} {P P1 : List Sl} {E : XK} {ta : TA} {a : Addr} {S : RS} {many : Int} (hS : S.ok) (hm : 0 < many) (hb : many.natAbs < 2 ^ 60) {i : Nat} (ha : TAg c ta P [.int many] P1) (h0 : P[i]? = some (.own a (rsD S))) (h1 : P1[i]? = some (.own a (rsD S))) :
    TEg c (tCall (spS c.C pre_l_taken) [] E (tCons (tVar i) ta)) P (.int (takenM S many).1) (P1.set i (.own a (rsD (takenM S many).2))) :=
  g_callS rfl rfl ha h0 h1 ⟨a, S, many, rfl, hS, rfl, hm, hb, rfl, rfl⟩ rfl
def pre_l_task (s : Sl) (ds : List PyData) (post : PyData → Sl → Prop) : Prop := ∃ (a : Addr) (S : RS), s = .own a (rsD S) ∧ S.ok ∧ ds = [.int 3, .int 4, .int 4] ∧ post = fun d t => ∃ (T : Tsk) (S' : RS), d = tD T ∧ t = .own a (rsD S') ∧ S'.ok ∧ Drawn T
theorem len_l_task : ∀ s ds post, pre_l_task s ds post → ds.length + 1 = 4 := by rintro _ _ _ ⟨_, _, rfl, _, rfl, _⟩; rfl
theorem ok_l_task (T : Txt K mg) : FnOk Pg w K mg base CX0 2 (He.ga K "_law_task") (T.fd 53) ["_law_row", "_law_columns", "_law_rows", "_law_value"] (spP (gC K) pre_l_task) := by
  refine (T.F 53 d_law_task rfl).ok sc_l_task (spP_len (n := 4) ?len) (fun cdv A outer s H vs Q E hr h => ?_)
  case len => exact len_l_task
  refine ⟨_, PSs.nox (pss_cons (ps_set (i := 4) sc_l_task.nd rfl (by first | exact Or.inl rfl | exact Or.inr rfl) (pe_op op_add pe_int (pe_call (ok_l_taken T) (hr.mono (show 1 ≤ _ by decide)) (by rfl) T.g__law_taken (T.F 47 d_law_taken rfl).kp (b_l_taken T) .nil pass0 (pa_cons (pv 0) (pa_cons (pv 1) pa_nil)))))
      (pss_cons (ps_set (i := 5) sc_l_task.nd rfl (by first | exact Or.inl rfl | exact Or.inr rfl) (pe_join pe_str (pe_lc (own := [("_law_turn", 9)]) (by rfl) sc_l_task.nd (pi_range1 (by rfl) T.n_range (pa_cons (pv 4) pa_nil)) (blkOk_by (N := ["_law_row", "_law_columns", "_law_rows", "_law_value", "_law_many", "_law_kinds", "_law_costs", "_law_start", "_law_found", "_law_turn", "_law_numbers", "_law_near", "_law_way", "_law_right", "_law_at_here"]) (sc := defScope s_law_task) (by decide +kernel)) (fun _ _ _ _ _ => (pg_name (i := 9) sc_l_task.nd rfl (by first | exact Or.inl rfl | exact Or.inr rfl))) (fun _ _ _ _ _ => pts_nil) (fun _ _ _ _ _ => (pe_ifExp (pt_cmpR (op_eqDK (K := K) hr.units) (pe_call (ok_l_taken T) (hr.mono (show 1 ≤ _ by decide)) (by rfl) T.g__law_taken (T.F 47 d_law_taken rfl).kp (b_l_taken T) .nil pass0 (pa_cons (pv 0) (pa_cons pe_int pa_nil))) pe_int (nomark _)) pe_str pe_str)))))
      (pss_cons (ps_set (i := 6) sc_l_task.nd rfl (by first | exact Or.inl rfl | exact Or.inr rfl) (pe_callTy call_tuple_of (by rfl) T.n_tuple (by decide +kernel) (pa_cons (pe_lc (own := [("_law_turn", 9)]) (by rfl) sc_l_task.nd (pi_range1 (by rfl) T.n_range (pa_cons (pv 4) pa_nil)) (blkOk_by (N := ["_law_row", "_law_columns", "_law_rows", "_law_value", "_law_many", "_law_kinds", "_law_costs", "_law_start", "_law_found", "_law_turn", "_law_numbers", "_law_near", "_law_way", "_law_right", "_law_at_here"]) (sc := defScope s_law_task) (by decide +kernel)) (fun _ _ _ _ _ => (pg_name (i := 9) sc_l_task.nd rfl (by first | exact Or.inl rfl | exact Or.inr rfl))) (fun _ _ _ _ _ => pts_nil) (fun _ _ _ _ _ => (pe_op op_add (pe_op op_sub (pe_call (ok_l_taken T) (hr.mono (show 1 ≤ _ by decide)) (by rfl) T.g__law_taken (T.F 47 d_law_taken rfl).kp (b_l_taken T) .nil pass0 (pa_cons (pv 0) (pa_cons (pe_op op_add (pe_op op_mulW pe_int (pv 3)) pe_int) pa_nil))) (pv 3)) (pe_op op_mulW pe_int (pe_call (ok_l_taken T) (hr.mono (show 1 ≤ _ by decide)) (by rfl) T.g__law_taken (T.F 47 d_law_taken rfl).kp (b_l_taken T) .nil pass0 (pa_cons (pv 0) (pa_cons pe_int pa_nil))))))) pa_nil)))
      (pss_cons (ps_asg (pe_tup (pa_cons (pe_lc (own := [("_law_turn", 9)]) (by rfl) sc_l_task.nd (pi_range1 (by rfl) T.n_range (pa_cons (pv 4) pa_nil)) (blkOk_by (N := ["_law_row", "_law_columns", "_law_rows", "_law_value", "_law_many", "_law_kinds", "_law_costs", "_law_start", "_law_found", "_law_turn", "_law_numbers", "_law_near", "_law_way", "_law_right", "_law_at_here"]) (sc := defScope s_law_task) (by decide +kernel)) (fun _ _ _ _ _ => (pg_name (i := 9) sc_l_task.nd rfl (by first | exact Or.inl rfl | exact Or.inr rfl))) (fun _ _ _ _ _ => pts_nil) (fun _ _ _ _ _ => (pe_call (ok_l_taken T) (hr.mono (show 1 ≤ _ by decide)) (by rfl) T.g__law_taken (T.F 47 d_law_taken rfl).kp (b_l_taken T) .nil pass0 (pa_cons (pv 0) (pa_cons pe_int pa_nil))))) (pa_cons (pe_lst pa_nil) pa_nil))) (pg_tupK (K := K) (n := 2) (by rfl) (pgs_cons (pg_name (i := 7) sc_l_task.nd rfl (by first | exact Or.inl rfl | exact Or.inr rfl)) (pgs_cons (pg_name (i := 8) sc_l_task.nd rfl (by first | exact Or.inl rfl | exact Or.inr rfl)) pgs_nil))))
      (pss_cons (ps_for PassesOwn.never rfl (pi_range1 (by rfl) T.n_range (pa_cons (pe_call (ok_l_taken T) (hr.mono (show 1 ≤ _ by decide)) (by rfl) T.g__law_taken (T.F 47 d_law_taken rfl).kp (b_l_taken T) .nil pass0 (pa_cons (pv 0) (pa_cons (pe_op op_add (pv 2) pe_int) pa_nil))) pa_nil)) (pg_name (i := 9) sc_l_task.nd rfl (by first | exact Or.inl rfl | exact Or.inr rfl)) (pss_cons (ps_set (i := 10) sc_l_task.nd rfl (by first | exact Or.inl rfl | exact Or.inr rfl) (pe_lc (own := [("_law_at_here", 14)]) (by rfl) sc_l_task.nd (pi_range1 (by rfl) T.n_range (pa_cons (pv 4) pa_nil)) (blkOk_by (N := ["_law_row", "_law_columns", "_law_rows", "_law_value", "_law_many", "_law_kinds", "_law_costs", "_law_start", "_law_found", "_law_turn", "_law_numbers", "_law_near", "_law_way", "_law_right", "_law_at_here"]) (sc := defScope s_law_task) (by decide +kernel)) (fun _ _ _ _ _ => (pg_name (i := 14) sc_l_task.nd rfl (by first | exact Or.inl rfl | exact Or.inr rfl))) (fun _ _ _ _ _ => pts_nil) (fun _ _ _ _ _ => (pe_op op_sub (pe_call (ok_l_taken T) (hr.mono (show 1 ≤ _ by decide)) (by rfl) T.g__law_taken (T.F 47 d_law_taken rfl).kp (b_l_taken T) .nil pass0 (pa_cons (pv 0) (pa_cons (pe_op op_add (pe_op op_mulW pe_int (pv 3)) pe_int) pa_nil))) (pv 3)))))
      (pss_cons (ps_par (i := 11) (j := 12) (by rfl) sc_l_task.nd rfl rfl (by decide) rfl rfl (pa_cons (pe_callB (cr_sum (by rfl)) (by rfl) T.n_sum (by decide +kernel) (pa_cons (pe_lc (own := [("_law_at_here", 14)]) (by rfl) sc_l_task.nd (pi_range1 (by rfl) T.n_range (pa_cons (pv 4) pa_nil)) (blkOk_by (N := ["_law_row", "_law_columns", "_law_rows", "_law_value", "_law_many", "_law_kinds", "_law_costs", "_law_start", "_law_found", "_law_turn", "_law_numbers", "_law_near", "_law_way", "_law_right", "_law_at_here"]) (sc := defScope s_law_task) (by decide +kernel)) (fun _ _ _ _ _ => (pg_name (i := 14) sc_l_task.nd rfl (by first | exact Or.inl rfl | exact Or.inr rfl))) (fun _ _ _ _ _ => pts_nil) (fun _ _ _ _ _ => (pe_op op_mulW (pe_ix (ix_seqK (K := K)) (pv 10) (pv 14) (fun _ _ => rfl)) (pe_ix (ix_seqK (K := K)) (pv 7) (pv 14) (fun _ _ => rfl))))) pa_nil)) (pa_cons (pe_call (ok_l_taken T) (hr.mono (show 1 ≤ _ by decide)) (by rfl) T.g__law_taken (T.F 47 d_law_taken rfl).kp (b_l_taken T) .nil pass0 (pa_cons (pv 0) (pa_cons pe_int pa_nil))) pa_nil)) (by rfl))
      (pss_cons (ps_set (i := 13) sc_l_task.nd rfl (by first | exact Or.inl rfl | exact Or.inr rfl) (pe_ifExp (pt_cmpR (op_eqDK (K := K) hr.units) (pv 12) pe_int (nomark _)) (pv 11) (pe_ifExp (pt_cmpR op_lt (pv 12) pe_int (nomark _)) (pe_op op_sub (pv 11) (pe_call (ok_l_taken T) (hr.mono (show 1 ≤ _ by decide)) (by rfl) T.g__law_taken (T.F 47 d_law_taken rfl).kp (b_l_taken T) .nil pass0 (pa_cons (pv 0) (pa_cons pe_int pa_nil)))) (pe_op op_add (pv 11) (pe_call (ok_l_taken T) (hr.mono (show 1 ≤ _ by decide)) (by rfl) T.g__law_taken (T.F 47 d_law_taken rfl).kp (b_l_taken T) .nil pass0 (pa_cons (pv 0) (pa_cons pe_int pa_nil)))))))
      (pss_cons (ps_set (i := 13) sc_l_task.nd rfl (by first | exact Or.inl rfl | exact Or.inr rfl) (pe_op op_add (pv 13) (pe_ifExp (pt_cmpR (op_eqDK (K := K) hr.units) (pe_call (ok_l_taken T) (hr.mono (show 1 ≤ _ by decide)) (by rfl) T.g__law_taken (T.F 47 d_law_taken rfl).kp (b_l_taken T) .nil pass0 (pa_cons (pv 0) (pa_cons pe_int pa_nil))) pe_int (nomark _)) pe_int pe_int)))
      (pss_one (ps_expr (pe_bm PySem.F.plainAttrs_list PySem.F.slot_list_append PySem.F.type_list_append mt_append (pv 8) (pa_cons (pe_tup (pa_cons (pe_callTy call_tuple_of (by rfl) T.n_tuple (by decide +kernel) (pa_cons (pv 10) pa_nil)) (pa_cons (pe_ifExp (pt_cmpR (op_eqDK (K := K) hr.units) (pv 12) pe_int (nomark _)) pe_str (pe_ifExp (pt_cmpR op_lt (pv 12) pe_int (nomark _)) pe_str pe_str)) (pa_cons (pv 13) pa_nil)))) pa_nil)))))))))
      (pss_one (ps_ret (pe_tup (pa_cons (pv 5) (pa_cons (pv 6) (pa_cons (pe_callTy call_tuple_of (by rfl) T.n_tuple (by decide +kernel) (pa_cons (pv 8) pa_nil)) pa_nil))))))))))), ?_⟩
  refine body_ownP (K := K) (C := gC K) h (fun s ds post hp => by rw [len_l_task s ds post hp]; decide) (fun s ds post hp F0 H0 => ?_)
  obtain ⟨a, S, rfl, hS, rfl, rfl⟩ := hp
  show Sd _ _ [.own a (rsD S), .d (.int 3), .d (.int 4), .d (.int 4), .no, .no, .no, .no, .no, .no, .no, .no, .no, .no, .no] _ _
  have r3 := taken_rng S (many := 3) (by decide)
  obtain ⟨n, hn1, hn3, hn⟩ : ∃ n : Nat, 1 ≤ n ∧ n ≤ 3 ∧ 1 + (takenM S 3).1 = (n : Int) := ⟨(1 + (takenM S 3).1).toNat, by omega, by omega, by omega⟩
  have hS1 := taken_ok hS 3
  refine s_seq1 (P' := [.own a (rsD (takenM S 3).2), .d (.int 3), .d (.int 4), .d (.int 4), .d (.int n), .no, .no, .no, .no, .no, .no, .no, .no, .no, .no]) (s_set ((g_op g_int (g_take hS (by decide) (by decide) (a_cons (g_var rfl) a_nil) rfl rfl) o_add).eq (by rw [hn])) (by simp) rfl) ?_
  generalize (takenM S 3).2 = S at hS1
  clear r3 hn hS
  have tk := fun (m : Int) (S : RS) (h : S.ok) => taken_ok h m
  -- kinds
  obtain ⟨ks, hks⟩ : ∃ ks : List Bool, ks = (List.range n).map fun i => decide ((takenM (itS (fun S => (takenM S 4).2) S i) 4).1 ≠ 0) := ⟨_, rfl⟩
  have hkl : ks.length = n := by rw [hks]; simp
  have hS2 := it_ok (nxt := fun S => (takenM S 4).2) (fun S h => taken_ok h 4) hS1 n
  refine s_seq1 (P' := [.own a (rsD (itS (fun S => (takenM S 4).2) S n)), .d (.int 3), .d (.int 4), .d (.int 4), .d (.int n), .d (.str (ksS ks)), .no, .no, .no, .no, .no, .no, .no, .no, .no]) ?_ ?_
  · refine s_set ((g_join (a := "") (ys := ks.map ckS) g_str ((TEo.g (o_draw (v := 9) (n := n) (nxt := fun S => (takenM S 4).2) (f := fun S => .str (ckS (decide ((takenM S 4).1 ≠ 0)))) hS1 (fun S h => taken_ok h 4) (by decide) rfl (by omega) (a_cons (g_var rfl) a_nil) fun S i hS hi => ?_)).eq (by rw [hks, List.map_map, List.map_map]; rfl)) ?_).eq (by rw [join_ks])) (by simp) rfl
    · refine g_if (b := decide ((takenM S 4).1 = 0)) (t_eqI (g_take hS (by decide) (by decide) (a_cons g_int a_nil) rfl rfl) g_int) (fun h => (g_str.eq ?_).eqP rfl) (fun h => (g_str.eq ?_).eqP rfl)
      · have h := of_decide_eq_true h
        rw [h]; exact (ck_lit false).symm
      · have h := of_decide_eq_false h
        rw [decide_eq_true h]; exact (ck_lit true).symm
    · have e1 : ((ks.map ckS).map (·.length)).sum = ks.length := by
        clear hks hkl
        induction ks with
        | nil => rfl
        | cons k ks ih => rw [List.map_cons, List.map_cons, List.sum_cons, ih, List.length_cons]; show 1 + _ = _; omega
      have e2 : ("" : Str).length = 0 := by decide +kernel
      rw [e1, e2, hkl]; omega
  clear hks
  generalize itS (fun S => (takenM S 4).2) S n = S at hS2
  -- costs
  obtain ⟨cs, hcs⟩ : ∃ cs : List Int, cs = (List.range n).map fun i => (takenM (itS (fun S => (takenM (takenM S 9).2 2).2) S i) 9).1 - 4 + 2 * (takenM (takenM (itS (fun S => (takenM (takenM S 9).2 2).2) S i) 9).2 2).1 := ⟨_, rfl⟩
  have hcl : cs.length = ks.length := by rw [hcs, hkl]; simp
  have hcb : ∀ x, x ∈ cs → x.natAbs ≤ 60 := fun x hx => by
    rw [hcs] at hx
    obtain ⟨i, _, rfl⟩ := List.mem_map.mp hx
    have h1 := taken_rng (itS (fun S => (takenM (takenM S 9).2 2).2) S i) (many := 9) (by decide)
    have h2 := taken_rng (takenM (itS (fun S => (takenM (takenM S 9).2 2).2) S i) 9).2 (many := 2) (by decide)
    omega
  have hS3 := it_ok (nxt := fun S => (takenM (takenM S 9).2 2).2) (fun S h => taken_ok (taken_ok h 9) 2) hS2 n
  refine s_seq1 (P' := [.own a (rsD (itS (fun S => (takenM (takenM S 9).2 2).2) S n)), .d (.int 3), .d (.int 4), .d (.int 4), .d (.int n), .d (.str (ksS ks)), .d (.tuple (iD cs)), .no, .no, .no, .no, .no, .no, .no, .no]) ?_ ?_
  · refine s_set ((g_cb (a_cons (TEo.g (o_draw (v := 9) (n := n) (nxt := fun S => (takenM (takenM S 9).2 2).2) (f := fun S => .int ((takenM S 9).1 - 4 + 2 * (takenM (takenM S 9).2 2).1)) hS2 (fun S h => taken_ok (taken_ok h 9) 2) (by decide) rfl (by omega) (a_cons (g_var rfl) a_nil) fun S i hS hi => ?_)) a_nil) b_tuple).eq (by rw [hcs]; unfold iD; rw [List.map_map]; rfl)) (by simp) rfl
    have h2 := taken_rng (takenM S 9).2 (many := 2) (by decide)
    exact (g_op (g_op (g_take hS (by decide) (by decide) (a_cons (g_op (g_op g_int (g_var rfl) (o_mul (i := 2) (j := 4) (cmul (n := 3) (m := 3) (by decide) (by decide)))) g_int o_add) a_nil) rfl rfl) (g_var rfl) o_sub) (g_op g_int (g_take (taken_ok hS 9) (by decide) (by decide) (a_cons g_int a_nil) rfl rfl) (o_mul (cmul (n := 3) (m := 3) (by decide) (by omega)))) o_add).eqP rfl
  clear hcs
  generalize itS (fun S => (takenM (takenM S 9).2 2).2) S n = S at hS3
  -- start, found
  obtain ⟨st, hst⟩ : ∃ st : List Int, st = (List.range n).map fun i => (takenM (itS (fun S => (takenM S 5).2) S i) 5).1 := ⟨_, rfl⟩
  have hsl : st.length = n := by rw [hst]; simp
  have hsb : ∀ x, x ∈ st → 0 ≤ x ∧ x < 5 := fun x hx => by
    rw [hst] at hx
    obtain ⟨i, _, rfl⟩ := List.mem_map.mp hx
    exact taken_rng _ (by decide)
  have hS4 := it_ok (nxt := fun S => (takenM S 5).2) (fun S h => taken_ok h 5) hS3 n
  refine s_seq (M := fun P' => ∃ fa, P' = [.own a (rsD (itS (fun S => (takenM S 5).2) S n)), .d (.int 3), .d (.int 4), .d (.int 4), .d (.int n), .d (.str (ksS ks)), .d (.tuple (iD cs)), .d (lD st), .own fa [], .no, .no, .no, .no, .no, .no]) ?_ ?_
  · refine s_tupDO ((TEo.g (o_draw (v := 9) (n := n) (nxt := fun S => (takenM S 5).2) (f := fun S => .int (takenM S 5).1) hS3 (fun S h => taken_ok h 5) (by decide) rfl (by omega) (a_cons (g_var rfl) a_nil) fun S i hS hi => (g_take hS (by decide) (by decide) (a_cons g_int a_nil) rfl rfl).eqP rfl)).eq (d' := lD st) (by rw [hst]; unfold lD iD; rw [List.map_map]; rfl)) (o_lst a_nil (by simp)) (by simp) (by simp) (by decide) fun fa => ⟨fa, rfl⟩
  clear hst
  generalize itS (fun S => (takenM S 5).2) S n = S at hS4
  rintro _ ⟨fa, rfl⟩
  -- rows
  have r5 := taken_rng S (many := 5) (by decide)
  obtain ⟨R, hR4, hR⟩ : ∃ R : Nat, R ≤ 4 ∧ (takenM S 5).1 = (R : Int) := ⟨(takenM S 5).1.toNat, by omega, by omega⟩
  have hS5 := taken_ok hS4 5
  refine s_seq (M := fun P' => ∃ (S' : RS) (fa : Addr) (rows : List Rw) (x9 x10 x11 x12 x13 : Sl), S'.ok ∧ rows.length = R ∧ (∀ r, r ∈ rows → r.cs.length = ks.length ∧ (∀ a, a ∈ r.cs → a.natAbs ≤ 60) ∧ r.rt.natAbs ≤ 64) ∧ P' = [.own a (rsD S'), .d (.int 3), .d (.int 4), .d (.int 4), .d (.int n), .d (.str (ksS ks)), .d (.tuple (iD cs)), .d (lD st), .own fa (rows.map rwD), x9, x10, x11, x12, x13, .no])
    (s_for (ds := rngD R) (P1 := [.own a (rsD (takenM S 5).2), .d (.int 3), .d (.int 4), .d (.int 4), .d (.int n), .d (.str (ksS ks)), .d (.tuple (iD cs)), .d (lD st), .own fa [], .no, .no, .no, .no, .no, .no]) (i_rng (a_cons ((g_take hS4 (by decide) (by decide) (a_cons (g_op (g_var rfl) g_int o_add) a_nil) rfl rfl).eq (by show PyData.int (takenM S 5).1 = _; rw [hR])) a_nil) (by omega))
    (fun i P' => ∃ (S' : RS) (fa : Addr) (rows : List Rw) (x9 x10 x11 x12 x13 : Sl), S'.ok ∧ rows.length = i ∧ (∀ r, r ∈ rows → r.cs.length = ks.length ∧ (∀ a, a ∈ r.cs → a.natAbs ≤ 60) ∧ r.rt.natAbs ≤ 64) ∧ P' = [.own a (rsD S'), .d (.int 3), .d (.int 4), .d (.int 4), .d (.int n), .d (.str (ksS ks)), .d (.tuple (iD cs)), .d (lD st), .own fa (rows.map rwD), x9, x10, x11, x12, x13, .no]) ⟨_, fa, [], _, _, _, _, _, hS5, rfl, fun r hr => by simp at hr, rfl⟩ ?_ ?_) ?_
  · rintro i d P2 hd ⟨S', fa, rows, x9, x10, x11, x12, x13, hS', hrl, hrr, rfl⟩
    have hi : i < R := by have := (List.getElem?_eq_some_iff.mp hd).1; rw [rngD_len] at this; exact this
    rw [rngD_get hi] at hd
    cases hd
    refine ⟨_, [.own a (rsD S'), .d (.int 3), .d (.int 4), .d (.int 4), .d (.int n), .d (.str (ksS ks)), .d (.tuple (iD cs)), .d (lD st), .own fa (rows.map rwD), .d (.int i), x10, x11, x12, x13, .no], d_name (by simp), ?_⟩
    -- numbers
    obtain ⟨nm, hnm⟩ : ∃ nm : List Int, nm = (List.range n).map fun i => (takenM (itS (fun S => (takenM S 9).2) S' i) 9).1 - 4 := ⟨_, rfl⟩
    have hnl : nm.length = n := by rw [hnm]; simp
    have hnb : ∀ x, x ∈ nm → -4 ≤ x ∧ x ≤ 4 := fun x hx => by
      rw [hnm] at hx
      obtain ⟨i, _, rfl⟩ := List.mem_map.mp hx
      have := taken_rng (itS (fun S => (takenM S 9).2) S' i) (many := 9) (by decide)
      omega
    have hS6 := it_ok (nxt := fun S => (takenM S 9).2) (fun S h => taken_ok h 9) hS' n
    refine s_seq1 (P' := [.own a (rsD (itS (fun S => (takenM S 9).2) S' n)), .d (.int 3), .d (.int 4), .d (.int 4), .d (.int n), .d (.str (ksS ks)), .d (.tuple (iD cs)), .d (lD st), .own fa (rows.map rwD), .d (.int i), .d (lD nm), x11, x12, x13, .no]) ?_ ?_
    · refine s_set ((TEo.g (o_draw (v := 14) (n := n) (nxt := fun S => (takenM S 9).2) (f := fun S => .int ((takenM S 9).1 - 4)) hS' (fun S h => taken_ok h 9) (by decide) rfl (by omega) (a_cons (g_var rfl) a_nil) fun S i hS hi => ?_)).eq (d' := lD nm) (by rw [hnm]; unfold lD iD; rw [List.map_map]; rfl)) (by simp) rfl
      exact (g_op (g_take hS (by decide) (by decide) (a_cons (g_op (g_op g_int (g_var rfl) (o_mul (i := 2) (j := 4) (cmul (n := 3) (m := 3) (by decide) (by decide)))) g_int o_add) a_nil) rfl rfl) (g_var rfl) o_sub).eqP rfl
    clear hnm
    generalize itS (fun S => (takenM S 9).2) S' n = S6 at hS6
    have near : ∃ z : Int, z = ((List.range n).map fun k => nm.getD k 0 * st.getD k 0).sum ∧ z.natAbs ≤ 48 := by
      refine ⟨_, rfl, ?_⟩
      have gb : ∀ k, (nm.getD k 0 * st.getD k 0).natAbs ≤ 16 := fun k => by
        have h1 := getD_le (xs := nm) (E := 4) (fun x hx => by have := hnb x hx; omega) k
        have h2 := getD_le (xs := st) (E := 4) (fun x hx => by have := hsb x hx; omega) k
        rw [Int.natAbs_mul]
        exact Nat.mul_le_mul h1 h2
      have key : ∀ l : List Nat, ((l.map fun k => nm.getD k 0 * st.getD k 0).sum).natAbs ≤ 16 * l.length := fun l => by
        induction l with
        | nil => simp
        | cons k l ih =>
          rw [List.map_cons, List.sum_cons, List.length_cons]
          have := gb k
          omega
      have := key (List.range n)
      rw [List.length_range] at this
      omega
    obtain ⟨z, hz, hz48⟩ := near
    have r7 := taken_rng S6 (many := 7) (by decide)
    have hS7 := taken_ok hS6 7
    refine s_seq1 (P' := [.own a (rsD (takenM S6 7).2), .d (.int 3), .d (.int 4), .d (.int 4), .d (.int n), .d (.str (ksS ks)), .d (.tuple (iD cs)), .d (lD st), .own fa (rows.map rwD), .d (.int i), .d (lD nm), .d (.int z), .d (.int (takenM S6 7).1), x13, .no]) ?_ ?_
    · refine s_par (a_cons ((g_cb (a_cons ((TEo.g (o_mapL (xs := List.range n) (f := fun k => .int (nm.getD k 0 * st.getD k 0)) (rng_map n) (i_rng (a_cons (g_var rfl) a_nil) (by omega)) (by simp) (by simp; omega) fun k hk => ⟨_, _, by simp, d_name (by simp [noAt]), rfl, g_op (g_op (g_var rfl) (g_var rfl) (o_ixqL (iD_at (by have := List.mem_range.mp hk; omega)))) (g_op (g_var rfl) (g_var rfl) (o_ixqL (iD_at (by have := List.mem_range.mp hk; omega)))) (o_mul (cmul (n := 4) (m := 4) ?_ ?_))⟩)).eq (d' := dInts ((List.range n).map fun k => nm.getD k 0 * st.getD k 0)) (by unfold dInts; rw [List.map_map]; rfl)) a_nil) b_sum).eq (by rw [← hz])) (a_cons (g_take (P1 := [.own a (rsD S6), .d (.int 3), .d (.int 4), .d (.int 4), .d (.int n), .d (.str (ksS ks)), .d (.tuple (iD cs)), .d (lD st), .own fa (rows.map rwD), .d (.int i), .d (lD nm), x11, x12, x13, .no]) hS6 (by decide) (by decide) (a_cons g_int a_nil) rfl rfl) a_nil)) (by simp) (by simp) rfl
      · have := getD_le (xs := nm) (E := 4) (fun x hx => by have := hnb x hx; omega) k
        exact Nat.lt_of_le_of_lt this (by decide)
      · have := getD_le (xs := st) (E := 4) (fun x hx => by have := hsb x hx; omega) k
        exact Nat.lt_of_le_of_lt this (by decide)
    generalize (takenM S6 7).1 = way at r7
    generalize (takenM S6 7).2 = S7 at hS7
    refine s_seq (M := fun P' => ∃ (S8 : RS) (r : Int), S8.ok ∧ r.natAbs ≤ 52 ∧ P' = [.own a (rsD S8), .d (.int 3), .d (.int 4), .d (.int 4), .d (.int n), .d (.str (ksS ks)), .d (.tuple (iD cs)), .d (lD st), .own fa (rows.map rwD), .d (.int i), .d (lD nm), .d (.int z), .d (.int way), .d (.int r), .no]) ?_ ?_
    · have r5' := taken_rng S7 (many := 5) (by decide)
      by_cases w6 : way = 6
      · exact s_set (d := .int z) (g_if (b := true) ((t_eqI (g_var rfl) g_int).eq (decide_eq_true w6)) (fun _ => g_var rfl) fun q => nomatch q) (by simp) ⟨S7, z, hS7, by omega, rfl⟩
      · by_cases w3 : way < 3
        · exact s_set (g_if (b := false) ((t_eqI (g_var rfl) g_int).eq (decide_eq_false w6)) (fun q => nomatch q) fun _ => g_if (b := true) ((t_cmp (g_op (g_var rfl) g_int o_lt)).eq (decide_eq_true w3)) (fun _ => g_op (g_var rfl) (g_take hS7 (by decide) (by decide) (a_cons g_int a_nil) rfl rfl) o_sub) fun q => nomatch q) (by simp) ⟨(takenM S7 5).2, z - (takenM S7 5).1, taken_ok hS7 5, by omega, rfl⟩
        · exact s_set (g_if (b := false) ((t_eqI (g_var rfl) g_int).eq (decide_eq_false w6)) (fun q => nomatch q) fun _ => g_if (b := false) ((t_cmp (g_op (g_var rfl) g_int o_lt)).eq (decide_eq_false w3)) (fun q => nomatch q) fun _ => g_op (g_var rfl) (g_take hS7 (by decide) (by decide) (a_cons g_int a_nil) rfl rfl) o_add) (by simp) ⟨(takenM S7 5).2, z + (takenM S7 5).1, taken_ok hS7 5, by omega, rfl⟩
    rintro _ ⟨S8, r, hS8, hr52, rfl⟩
    have hS9 := taken_ok hS8 9
    refine s_seq (M := fun P' => ∃ r2 : Int, r2.natAbs ≤ 56 ∧ P' = [.own a (rsD (takenM S8 9).2), .d (.int 3), .d (.int 4), .d (.int 4), .d (.int n), .d (.str (ksS ks)), .d (.tuple (iD cs)), .d (lD st), .own fa (rows.map rwD), .d (.int i), .d (lD nm), .d (.int z), .d (.int way), .d (.int r2), .no]) ?_ ?_
    · by_cases w0 : (takenM S8 9).1 = 0
      · exact s_set (d := .int (r + 4)) (g_op (g_var rfl) (g_if (b := true) ((t_eqI (g_take hS8 (by decide) (by decide) (a_cons g_int a_nil) rfl rfl) g_int).eq (decide_eq_true w0)) (fun _ => g_int) fun q => nomatch q) o_add) (by simp) ⟨r + 4, by omega, rfl⟩
      · exact s_set (d := .int (r + 0)) (g_op (g_var rfl) (g_if (b := false) ((t_eqI (g_take hS8 (by decide) (by decide) (a_cons g_int a_nil) rfl rfl) g_int).eq (decide_eq_false w0)) (fun q => nomatch q) fun _ => g_int) o_add) (by simp) ⟨r + 0, by omega, rfl⟩
    rintro _ ⟨r2, hr56, rfl⟩
    have fin : ∀ sn : Sn, TEg ⟨K, gC K, F0, H0⟩ (tIf (tTest (tOp (rEqD K) (tVar 12) (tC (.int 6)))) (tC (.str ("=" : Str))) (tIf (tTest (tOp (rI0 fun i j => .bl (decide (i < j))) (tVar 12) (tC (.int 3)))) (tC (.str (">=" : Str))) (tC (.str ("<=" : Str))))) [.own a (rsD (takenM S8 9).2), .d (.int 3), .d (.int 4), .d (.int 4), .d (.int n), .d (.str (ksS ks)), .d (.tuple (iD cs)), .d (lD st), .own fa (rows.map rwD), .d (.int i), .d (lD nm), .d (.int z), .d (.int way), .d (.int r2), .no] (.str (sgS (if way = 6 then .eq else if way < 3 then .ge else .le))) [.own a (rsD (takenM S8 9).2), .d (.int 3), .d (.int 4), .d (.int 4), .d (.int n), .d (.str (ksS ks)), .d (.tuple (iD cs)), .d (lD st), .own fa (rows.map rwD), .d (.int i), .d (lD nm), .d (.int z), .d (.int way), .d (.int r2), .no] := fun _ => by
      by_cases w6 : way = 6
      · rw [if_pos w6]
        exact g_if (b := true) ((t_eqI (g_var rfl) g_int).eq (decide_eq_true w6)) (fun _ => g_str) fun q => nomatch q
      · rw [if_neg w6]
        refine g_if (b := false) ((t_eqI (g_var rfl) g_int).eq (decide_eq_false w6)) (fun q => nomatch q) fun _ => ?_
        by_cases w3 : way < 3
        · rw [if_pos w3]
          exact g_if (b := true) ((t_cmp (g_op (g_var rfl) g_int o_lt)).eq (decide_eq_true w3)) (fun _ => g_str) fun q => nomatch q
        · rw [if_neg w3]
          exact g_if (b := false) ((t_cmp (g_op (g_var rfl) g_int o_lt)).eq (decide_eq_false w3)) (fun q => nomatch q) fun _ => g_str
    refine s_append (d := rwD ⟨nm, if way = 6 then .eq else if way < 3 then .ge else .le, r2⟩) rfl (g_tup (a_cons (g_cb (a_cons (g_var rfl) a_nil) b_tuple) (a_cons (fin .ge) (a_cons (g_var rfl) a_nil))) (by simp)) rfl (by rw [List.length_map]; omega) ⟨(takenM S8 9).2, fa, rows ++ [⟨nm, if way = 6 then .eq else if way < 3 then .ge else .le, r2⟩], .d (.int i), .d (lD nm), .d (.int z), .d (.int way), .d (.int r2), hS9, by rw [List.length_append, hrl]; rfl, fun q hq => ?_, by rw [List.map_append]; rfl⟩
    rcases List.mem_append.mp hq with q1 | q1
    · exact hrr q q1
    · rw [List.mem_singleton] at q1
      subst q1
      exact ⟨by show nm.length = _; omega, fun x hx => by have := hnb x hx; omega, by show r2.natAbs ≤ 64; omega⟩
  · rintro _ ⟨S', fa, rows, x9, x10, x11, x12, x13, hS', hrl, hrr, rfl⟩
    rw [rngD_len] at hrl
    exact ⟨S', fa, rows, x9, x10, x11, x12, x13, hS', hrl, hrr, rfl⟩
  rintro _ ⟨S', fa, rows, x9, x10, x11, x12, x13, hS', hrl, hrr, rfl⟩
  refine s_ret (d := tD ⟨ks, cs, rows⟩) (g_tup (a_cons (g_var rfl) (a_cons (g_var rfl) (a_cons (g_cb (a_cons (g_own rfl) a_nil) b_tuple) a_nil))) (by simp)) ⟨_, rfl, ⟨⟨ks, cs, rows⟩, S', rfl, rfl, hS', ⟨by simp only; omega, by simp only; omega, hcl, hcb, by simp only; omega, hrr⟩⟩, rfl, rfl⟩
end
end Cp
end
/-! ## CLm -/
section
set_option Elab.async false
set_option linter.all false
set_option autoImplicit false
set_option maxRecDepth 100000
set_option maxHeartbeats 4000000
set_option exponentiation.threshold 100000
/-! what the law asks of pieces -/
namespace Cp
variable [KFix]
open PySem PySem.Spec PyProof.Rows L2
theorem sml_of {a : Int} (h : a.natAbs ≤ 64) : sml a := by unfold sml; omega
theorem Drawn.nd {T : Tsk} (h : Drawn T) : Nd T := ⟨h.k1, by have := h.k3; omega, h.cs, fun a ha => sml_of (by have := h.csb a ha; omega), by have := h.r4; omega, fun r hr => ⟨(h.row r hr).1, fun a ha => sml_of (by have := (h.row r hr).2.1 a ha; omega), sml_of (h.row r hr).2.2⟩⟩
theorem Drawn.rsz {T : Tsk} (h : Drawn T) : Rsz T 64 := fun r hr => ⟨fun a ha => by have := (h.row r hr).2.1 a ha; omega, (h.row r hr).2.2⟩
theorem Drawn.pr {T : Tsk} (h : Drawn T) {s : List Int} (hs : s.length = T.ks.length) (hb : ∀ a, a ∈ s → a.natAbs ≤ 64) : Pr T.plain s :=
  ⟨plain_wl h.nd.wl, plain_pn T, h.k3, by rw [plen]; exact h.r4, plain_rsz h.rsz, fun a ha => by have := h.csb a ha; omega, by show T.cs.length = _; rw [h.cs, hs], hb⟩
theorem Tmv_plain (T : Tsk) (s : List Int) (t : Rat) : (Tmv T s t).plain = Tmv T.plain s t := rfl
theorem bestV_plain {T : Tsk} {v : Rat} : BestV T.plain v ↔ BestV T v := by
  constructor
  · rintro ⟨⟨x, px, e⟩, h⟩
    exact ⟨⟨x, (plain_plan T x).mp px, e⟩, fun y py => h y ((plain_plan T y).mpr py)⟩
  · rintro ⟨⟨x, px, e⟩, h⟩
    exact ⟨⟨x, (plain_plan T x).mpr px, e⟩, fun y py => h y ((plain_plan T y).mp py)⟩
/-- the value at a time, as an option -/
theorem val_ex {P : Tsk} {s : List Int} (h : Pr P s) {ps : List Pc} (hp : PcsOK (XT P s) ps) (t : Rat) : ∃ o : Option Rat, AtO ps t o ∧ BestO (Tmv P s t) (o.map fun z => (t.den : Rat) * z) := by
  by_cases hd : Dom (XT P s) t
  · obtain ⟨v, m⟩ := hd
    refine ⟨some (at_ v t), ⟨fun p hpp hi => ?_, fun z hz => hp.cov t ⟨v, m⟩⟩, best_mv h.sl m⟩
    obtain ⟨w, mw, e⟩ := hp.val p hpp t hi
    rw [e, mn_val m mw]
  · refine ⟨none, ⟨fun p hpp hi => ?_, fun z hz => by cases hz⟩, fun ⟨v, hv⟩ => ?_⟩
    · obtain ⟨w, mw, _⟩ := hp.val p hpp t hi
      exact absurd ⟨w, mw⟩ hd
    · obtain ⟨w, mw, _⟩ := mn_best h.sl hv
      exact hd ⟨w, mw⟩
theorem spn_qb {P : Tsk} {s : List Int} (h : Pr P s) {low high : Option Rat} (S : Spn (XT P s) low high) : (∀ l, low = some l → qb 162 l) ∧ (∀ l, high = some l → qb 162 l) := by
  obtain ⟨t, v, m⟩ := S.ne
  obtain ⟨x, px, _⟩ := m.1
  obtain ⟨o, ho⟩ := span_ex h
  cases o with
  | none => exact absurd ⟨t, v, m⟩ (no_dom h (.inr ho))
  | some lh =>
    obtain ⟨l', r'⟩ := lh
    have S' := spn_of h ⟨x, px⟩ ho
    have e1 := spn_low S S'
    have e2 := spn_high S S'
    subst e1; subst e2
    obtain ⟨_, hl, hh⟩ := ho
    exact ⟨fun l e => by subst e; exact low_qb h hl, fun l e => by subst e; exact high_qb h hh⟩
theorem mkP_len : ∀ (low high : Option Rat) (L : List Ln), (mkP low high L).length = L.length
  | low, high, [] => rfl
  | low, high, [v] => rfl
  | low, high, v :: w :: L => by
    show (Pc.mk low (some (cross v w)) v :: mkP (some (cross v w)) high (w :: L)).length = _
    rw [List.length_cons, mkP_len]; rfl
theorem mkP_qb {P : Tsk} {s : List Int} (h : Pr P s) {v z : Ln} {L : List Ln} (c : Ch (XT P s) v z L) {high : Option Rat} (hh : ∀ l, high = some l → qb 162 l) : ∀ {low : Option Rat}, (∀ l, low = some l → qb 162 l) →
    ∀ p, p ∈ mkP low high L → (∀ l, p.lo = some l → qb 162 l) ∧ (∀ l, p.hi = some l → qb 162 l) ∧ qb 500 p.ln.1 ∧ qb 500 p.ln.2 := by
  induction c with
  | @one v e =>
    intro low hl p hp
    have hp : p ∈ [Pc.mk low high v] := hp
    rw [List.mem_singleton] at hp
    subst hp
    have q := es_qb h e
    exact ⟨hl, hh, q.1.mono (by decide), q.2.mono (by decide)⟩
  | @cons v w z L e lt m1 m2 c ih =>
    intro low hl p hp
    obtain ⟨R, rfl⟩ := c.head
    have hp : p ∈ Pc.mk low (some (cross v w)) v :: mkP (some (cross v w)) high (w :: R) := hp
    have cq := cross_qb h e c.es lt
    rcases List.mem_cons.mp hp with rfl | hp
    · have q := es_qb h e
      exact ⟨hl, fun l e => by cases e; exact cq, q.1.mono (by decide), q.2.mono (by decide)⟩
    · exact ih (fun l e => by cases e; exact cq) p hp
theorem psb {P : Tsk} {s : List Int} (h : Pr P s) {ps : List Pc} (hp : PiecesR (XT P s) ps) : ps.length ≤ 128 ∧ ∀ p, p ∈ ps → (∀ l, p.lo = some l → qb 162 l) ∧ (∀ l, p.hi = some l → qb 162 l) ∧ qb 500 p.ln.1 ∧ qb 500 p.ln.2 := by
  cases hp with
  | none hn => exact ⟨by simp, fun p hp => by simp at hp⟩
  | @one l w S m =>
    obtain ⟨a, b⟩ := spn_qb h S
    refine ⟨by simp, fun p hp => ?_⟩
    rw [List.mem_singleton] at hp
    subst hp
    exact ⟨a, b, (h.ca (a l rfl) m).2, (show qb 500 0 from ⟨by decide, by decide⟩)⟩
  | @many low high v z L S hlt hl hh hb =>
    obtain ⟨a, b⟩ := spn_qb h S
    obtain ⟨t, u, m⟩ := S.ne
    obtain ⟨x, px, _⟩ := m.1
    have F := h.fan ⟨x, px⟩
    have hch := brk_ch F hb hl.es hh.es (lo_hi hlt hl hh)
    exact ⟨by rw [mkP_len]; exact ch_len F hch, mkP_qb h hch b a⟩
theorem psB {P : Tsk} {s : List Int} (h : Pr P s) {ps : List Pc} (hp : PiecesR (XT P s) ps) : PsB ps := by
  obtain ⟨a, b⟩ := psb h hp
  refine ⟨by omega, fun p hpp => ?_⟩
  obtain ⟨b1, b2, b3, b4⟩ := b p hpp
  exact ⟨fun l e => (b1 l e).mono (by decide), fun l e => (b2 l e).mono (by decide), b3.mono (by decide), b4.mono (by decide)⟩
/-- what stands of pieces -/
theorem pcs_of {P : Tsk} {s : List Int} (h : Pr P s) {ps : List Pc} (hp : PiecesR (XT P s) ps) : PcsOK (XT P s) ps := by
  by_cases q : ∃ x, Plan P x
  · exact hp.ok (h.fan q)
  · have : ps = [] := hp.det (.none (no_dom h (.inl q)))
    subst this
    exact ⟨fun p hp => by simp at hp, fun t ht => absurd ⟨t, ht⟩ (no_dom h (.inl q)), trivial, fun t => by simp⟩
theorem fol_get : ∀ {ps : List Pc} {i : Nat} {p q : Pc}, Fol ps → ps[i]? = some p → ps[i + 1]? = some q → p.hi = q.lo ∧ p.hi ≠ none ∧ q.ln.2 < p.ln.2
  | [], i, p, q, _, e, _ => by simp at e
  | [a], i, p, q, _, _, e => by simp at e
  | a :: b :: L, 0, p, q, h, e1, e2 => by
    have e1 : a = p := by simpa using e1
    have e2 : b = q := by simpa using e2
    subst e1; subst e2
    exact ⟨h.1, h.2.1, h.2.2.1⟩
  | a :: b :: L, i + 1, p, q, h, e1, e2 => fol_get (ps := b :: L) (i := i) h.2.2.2 (by simpa using e1) (by simpa using e2)
theorem gap_pos {x y : Rat} (h : y < x) : decide (gapI x y ≤ 0) = false := by
  rw [gap_le]
  exact decide_eq_false (by grind)
theorem far_sml {cs : List Int} (h : farB cs = false) : ∀ a, a ∈ cs → sml a := fun a ha => by
  unfold farB at h
  refine Classical.byContradiction fun z => ?_
  have : a ∈ cs.filter fun one => decide (1000 < one) || decide (one < -1000) := by
    refine List.mem_filter.mpr ⟨ha, ?_⟩
    unfold sml at z
    rw [Bool.or_eq_true, decide_eq_true_iff, decide_eq_true_iff]
    omega
  cases e : cs.filter fun one => decide (1000 < one) || decide (one < -1000) with
  | nil => rw [e] at this; simp at this
  | cons x r => rw [e] at h; simp at h
theorem Nd.big {T : Tsk} (h : Nd T) (h4 : T.rows.length ≤ 4) : Big T := ⟨h.wl, by omega, h.k6, fun r hr => ⟨fun a ha => by
    have := (h.row r hr).2.1 a ha
    unfold sml at this
    exact Nat.le_trans (show a.natAbs ≤ 1000 by omega) (by decide), by
    have := (h.row r hr).2.2
    unfold sml at this
    exact Nat.le_trans (show r.rt.natAbs ≤ 1000 by omega) (by decide)⟩, fun a ha => by
    have := h.csm a ha
    unfold sml at this
    exact Nat.le_trans (show a.natAbs ≤ 1000 by omega) (by decide)⟩
theorem mix_len {q p : Int} {c s : List Int} (h : c.length = s.length) : (mixC q p c s).length = c.length := by
  unfold mixC
  rw [List.length_zipWith, h, Nat.min_self]
theorem Drawn.then_ {T : Tsk} (h : Drawn T) {s : List Int} (hs : s.length = T.ks.length) {t : Rat} (hf : farB (mixC t.den t.num T.cs s) = false) : Nd (Tmv T s t) ∧ Big (Tmv T s t) ∧ ∀ v, BestV (Tmv T s t) v → qb 4000 v := by
  have hl : T.cs.length = s.length := by rw [h.cs, hs]
  have N : Nd (Tmv T s t) := ⟨h.k1, h.nd.k6, by show (mixC _ _ T.cs s).length = _; rw [mix_len hl]; exact h.cs, far_sml hf, h.nd.r8, h.nd.row⟩
  refine ⟨N, N.big h.r4, fun v hv => ?_⟩
  obtain ⟨x, y, px, ex, bx, _⟩ := best_box (P := (Tmv T s t).plain) (plain_wl N.wl) (plain_pn _) (E := 64) (by decide) (plain_rsz h.rsz) (bestV_plain.mpr hv)
  have hr : (Tmv T s t).plain.rows.length ≤ 4 := by rw [plen]; exact h.r4
  have D := detB_64 hr
  rw [← ex]
  have hk : (Tmv T s t).plain.cs.length ≤ 3 := by
    show (mixC _ _ T.cs s).length ≤ 3
    rw [mix_len hl, h.cs]; exact h.k3
  refine dot_qb (C := 1000) bx (fun a ha => ?_) (Nat.lt_of_le_of_lt (Nat.mul_le_mul hk (Nat.mul_le_mul_left _ (Nat.mul_le_mul_left _ D))) (show 3 * (1000 * (2 * 2 ^ 31)) < 2 ^ 4000 from Nat.lt_of_lt_of_le (by decide : 3 * (1000 * (2 * 2 ^ 31)) < 2 ^ 50) (Nat.pow_le_pow_right (by decide) (by decide)))) (lt_of_le2 D (by decide))
  have := far_sml hf a ha
  unfold sml at this
  omega
theorem mv_zero (T : Tsk) {s : List Int} (hl : T.cs.length = s.length) : Tmv T s 0 = T := by
  have key : ∀ c s : List Int, c.length = s.length → mixC 1 0 c s = c := fun c => by
    induction c with
    | nil => intro s _; rfl
    | cons a c ih =>
      intro s h
      cases s with
      | nil => simp at h
      | cons b s =>
        show (a * 1 + b * 0) :: mixC 1 0 c s = _
        rw [ih s (by simpa using h)]
        congr 1
        omega
  show Tsk.mk T.ks (mixC (1 : Nat) 0 T.cs s) T.rows = T
  have : mixC ((1 : Nat) : Int) 0 T.cs s = T.cs := key _ _ hl
  rw [this]
/-- the value at a time -/
theorem Drawn.val {T : Tsk} (h : Drawn T) {s : List Int} (hP : Pr T.plain s) {ps : List Pc} (hp : PiecesR (XT T.plain s) ps) (t : Rat) : ∃ o : Option Rat, AtO ps t o ∧ BestO (Tmv T s t) (o.map fun z => (t.den : Rat) * z) := by
  obtain ⟨o, h1, h2⟩ := val_ex hP (pcs_of hP hp) t
  refine ⟨o, h1, ?_⟩
  rw [← Tmv_plain] at h2
  cases o with
  | none => exact fun ⟨v, hv⟩ => h2 ⟨v, bestV_plain.mpr hv⟩
  | some z => exact bestV_plain.mp h2
theorem unit_pr {T : Tsk} (h : Drawn T) {c : Nat} : Pr T.plain (unitI T.ks.length c 1) := h.pr (by simp [unitI]) (unit_le _ _ 1 (.inl rfl))
theorem unit_sml (n c : Nat) : ∀ a, a ∈ unitI n c 1 → sml a := fun a ha => sml_of (unit_le _ _ 1 (.inl rfl) a ha)
theorem o_cancel (t : Rat) (o : Option Rat) : ((o.map fun z => (t.den : Rat) * z).map fun v => v / (t.den : Rat)) = o := by
  cases o with
  | none => rfl
  | some z =>
    have := den_pos' t
    have h2 : (t.den : Rat) ≠ 0 := by grind
    show some ((t.den : Rat) * z / (t.den : Rat)) = some z
    congr 1
    grind
/-- now: none of the pieces, or a least cost -/
theorem until_none {ps : List Pc} {o : Option Rat} (h : AtO ps 0 o) : isNone (untilD ps) = o.isNone := by
  unfold untilD
  cases e : ps.filter (inB 0) with
  | nil =>
    cases o with
    | none => rfl
    | some z =>
      obtain ⟨p, hp, hi⟩ := h.2 z rfl
      have : p ∈ ps.filter (inB 0) := List.mem_filter.mpr ⟨hp, hi⟩
      rw [e] at this
      simp at this
  | cons q r =>
    have : q ∈ ps.filter (inB 0) := by rw [e]; exact List.mem_cons_self
    obtain ⟨h1, h2⟩ := List.mem_filter.mp this
    have := h.1 q h1 h2
    subst this
    rfl
end Cp
end
/-! ## CLp -/
section
set_option Elab.async false
set_option linter.all false
set_option autoImplicit false
set_option maxRecDepth 100000
set_option maxHeartbeats 4000000
set_option exponentiation.threshold 100000
/-! rules for the law's own body -/
namespace Cp
variable [KFix]
open PySem PySem.Spec PyProof.Rows L2
section
variable {c : Bc} {P P1 P2 : List Sl} {N : List Sl → Prop} {R : PyData → List Sl → Prop}
/-- a, b = data, a new list -/
theorem s_parDO {i j : Nat} {ta tb : TE} {es : List PyData} {d : PyData} (h : TEg c ta P d P1) (h2 : TEo c tb P1 es P2) (hi : i < P2.length) (hj : j < P2.length) (hn : ∀ a, N ((P2.set i (.d d)).set j (.own a es))) :
    Sd c (tPar i j (tCons ta (tCons tb tNil))) P N R := by
  intro T σ F H D S hl n r
  refine h.run T σ F H _ S hl fun v F1 H1 S1 m1 rv => ?_
  refine h2.run T σ F1 H1 _ S1 (hl.trans h.len.symm) fun a F2 H2 S2 m2 => ?_
  have hl2 : σ.length = P2.length := (hl.trans h.len.symm).trans h2.len.symm
  refine ⟨v, .ref a, rfl, ?_⟩
  have S4 := S2.store (i := i) (v := v) (t := .d d) (by rw [hl2]; exact hi) ⟨v, rfl, rv.mono m2⟩ rfl trivial
  rw [set_app hi, ← List.append_assoc] at S4
  have S5 := S4.take (i := j) (by simp [hl2]; exact hj) (by simp [hl2])
  rw [set_app (by simpa using hj)] at S5
  exact n _ _ _ _ (hn a) S5 (by simp [hl2]) (m1.trans m2)
/-- a list in a slot, owned or not -/
def Sl.lis (s : Sl) (ds : List PyData) : Prop := (∃ a, s = .own a ds) ∨ s = .d (.list ds)
theorem g_lis {i : Nat} {s : Sl} {ds : List PyData} (h : P[i]? = some s) (hs : s.lis ds) : TEg c (tVar i) P (.list ds) (P.set i (.d (.list ds))) := by
  rcases hs with ⟨a, rfl⟩ | rfl
  · exact g_own h
  · exact (g_var h).eqP (by
      refine List.ext_getElem? fun j => ?_
      by_cases hj : i = j
      · subst hj
        rw [List.getElem?_set_self (lt_of_get h), h]
      · rw [List.getElem?_set_ne hj])
/-- range of a number that may be below 0 -/
theorem i_rngZ {ta : TA} {k : Int} (h : TAg c ta P [.int k] P1) (h1 : k < 2 ^ 62) (h2 : -(2 ^ 62) < k) : TId c (iRng1 ta) P (rngD k.toNat) P1 := by
  refine ⟨h.len, fun T σ F H R S hl q => ?_⟩
  refine h.run T σ F H _ S hl fun vs F1 H1 S1 m1 r1 => ?_
  cases r1 with
  | cons r1 r =>
    cases r
    cases r1
    refine ⟨k, rfl, by omega, by omega, q _ F1 H1 S1 m1 fun F2 H2 m2 s2 => ⟨by rw [rngD_len]; exact Nat.le_refl _, fun i hi => ?_⟩⟩
    rw [rngD_len] at hi
    refine ⟨hi, fun v H3 yv => ?_⟩
    obtain ⟨rfl, rfl⟩ := yv
    exact ⟨F2, .int (i : Int), rngD_get hi, Ex.refl s2, by rw [Int.zero_add]; exact .int _⟩
/-- draws in a comprehension over any walk -/
theorem o_drawG {wi : TI} {g : TG} {te : TE} {vs : List Nat} {ds : List PyData} {PS : RS → List Sl} {nxt : RS → RS} {f : RS → PyData} {S : RS} (hS : S.ok) (hnx : ∀ S, S.ok → (nxt S).ok) (hw : TId c wi (PS S) ds (PS S)) (hvs : ∀ v ∈ vs, v < (PS S).length) (hno : ∀ S, noAt vs (PS S) = PS S) (hz : ds.length ≤ 10000)
    (hs : ∀ (S : RS) (d : PyData), S.ok → d ∈ ds → ∃ ts Pa Pc, (∀ j ∈ ts, j ∈ vs) ∧ TGd g c ts d (PS S) Pa ∧ TEg c te Pa (f S) Pc ∧ PS (nxt S) = noAt vs Pc) :
    TEo c (tLc wi g tYes te vs) (PS S) ((List.range ds.length).map fun i => f (itS nxt S i)) (PS (itS nxt S ds.length)) :=
  o_lc (te := te) (tt := tYes) (g := g) hw hvs (fun i => PS (itS nxt S i)) (fun i => (List.range i).map fun i => f (itS nxt S i)) (hno S).symm rfl hz (fun i d hd => by
    obtain ⟨ts, Pa, Pc, h1, h2, h3, h4⟩ := hs (itS nxt S i) d (it_ok hnx hS i) (List.mem_of_getElem? hd)
    exact ⟨ts, Pa, true, Pa, h1, h2, ⟨rfl, fun T σ F H Q S hl q => q F H S (Same.refl _)⟩, fun _ => ⟨_, Pc, h3, by rw [List.range_succ, List.map_append]; rfl, h4⟩, fun z => nomatch z⟩)
end
theorem q_int (i : Int) : PyData.tuple [.int i, .int 1] = qD (i : Rat) := by
  unfold qD
  rw [Rat.num_intCast, Rat.den_intCast]; rfl
theorem q_97 : PyData.tuple [.int 1, .int 97] = qD (1 / 97) := by
  unfold qD
  have h1 : (1 / 97 : Rat).num = 1 := by decide +kernel
  have h2 : (1 / 97 : Rat).den = 97 := by decide +kernel
  rw [h1, h2]; rfl
theorem q_m97 : PyData.tuple [.int (-1), .int 97] = qD (-1 / 97) := by
  unfold qD
  have h1 : (-1 / 97 : Rat).num = -1 := by decide +kernel
  have h2 : (-1 / 97 : Rat).den = 97 := by decide +kernel
  rw [h1, h2]; rfl
theorem qb_97 : qb 8 (1 / 97) ∧ qb 8 (-1 / 97) := by unfold qb; decide +kernel
theorem qb_add {k : Nat} {x y : Rat} (hx : qb k x) (hy : qb k y) : qb (2 * k + 1) (x + y) := by
  have := qb_sub hx (qb_neg hy)
  have e : x - -y = x + y := by grind
  rw [e] at this
  exact this
/-- now: from when to when -/
def nwD (p : Pc) : PyData := .tuple [oD p.lo, oD p.hi]
theorem shp_nwl (L : List Pc) : SeqAt.shaped (.list (L.map nwD)) = true := by
  have key : PyData.canLayAll0 (L.map nwD) = true ∧ PyData.depthAll (L.map nwD) ≤ 4 := by
    induction L with
    | nil => exact ⟨rfl, by simp [PyData.depthAll]⟩
    | cons p L ih =>
      have h1 : PyData.canLay0 (nwD p) = true ∧ PyData.depth (nwD p) ≤ 4 := by
        obtain ⟨lo, hi, ln⟩ := p
        cases lo <;> cases hi <;> simp [nwD, oD, qD, PyData.canLay0, PyData.canLayAll0, PyData.depth, PyData.depthAll]
      refine ⟨?_, ?_⟩
      · show (PyData.canLay0 (nwD p) && PyData.canLayAll0 (L.map nwD)) = true
        rw [h1.1, ih.1]; rfl
      · show PyData.depthAll (nwD p :: L.map nwD) ≤ 4
        simp only [PyData.depthAll]
        omega
  unfold SeqAt.shaped
  rw [Bool.and_eq_true]
  refine ⟨key.1, decide_eq_true ?_⟩
  simp only [PyData.depth]
  omega
theorem alk_q {n : Nat} (x : Rat) : AlkD (n + 1) (qD x) := by
  refine .inr ⟨_, rfl, by simp, fun e he => ?_⟩
  have up : ∀ n, AlkD 0 e → AlkD n e := fun n h => by
    induction n with
    | zero => exact h
    | succ n ih => exact .inl ih
  refine up n (.inr ?_)
  rcases List.mem_cons.mp he with rfl | he
  · exact ⟨_, rfl⟩
  rcases List.mem_cons.mp he with rfl | he
  · exact ⟨_, rfl⟩
  · simp at he
theorem alk_o {n : Nat} (o : Option Rat) : AlkD (n + 1) (oD o) := by
  cases o with
  | none =>
    have up : ∀ n, AlkD n .none := fun n => by
      induction n with
      | zero => exact .inl rfl
      | succ n ih => exact .inl ih
    exact up _
  | some x => exact alk_q x
theorem alk_until (ps : List Pc) : AlkD 3 (untilD ps) := by
  unfold untilD
  split
  · exact alk_o (n := 2) none
  · refine .inr ⟨_, rfl, by simp, fun e he => ?_⟩
    rcases List.mem_cons.mp he with rfl | he
    · exact alk_o _
    rcases List.mem_cons.mp he with rfl | he
    · exact alk_o _
    · simp at he
theorem far_o (o : Option Rat) : PyData.eqv (oD o) (.str ("far" : Str)) = false := by cases o <;> rfl
theorem shp_far : SeqAt.shaped (.str ("far" : Str)) = true := by decide +kernel
theorem far_s : PyData.eqv (.str ("far" : Str)) (.str ("far" : Str)) = true := by decide +kernel
theorem eqv_oo (o : Option Rat) : PyData.eqv (oD o) (oD o) = true := by
  cases o with
  | none => rfl
  | some x => show PyData.eqv (qD x) (qD x) = true; rw [eqv_q]; simp
theorem q_zero : PyData.tuple [.int 0, .int 1] = qD 0 := rfl
theorem qb_zero : qb 1000 0 := ⟨Nat.lt_of_lt_of_le (show 0 < 2 ^ 1 by decide) (Nat.pow_le_pow_right (by decide) (by decide)), Nat.lt_of_lt_of_le (show 1 < 2 ^ 1 by decide) (Nat.pow_le_pow_right (by decide) (by decide))⟩
/-- the value now -/
theorem Drawn.now {T : Tsk} (h : Drawn T) {s : List Int} (hs : s.length = T.ks.length) (hP : Pr T.plain s) {ps : List Pc} (hp : PiecesR (XT T.plain s) ps) : ∃ o : Option Rat, AtO ps 0 o ∧ BestO T o := by
  obtain ⟨o, h1, h2⟩ := h.val hP hp 0
  rw [mv_zero T (by rw [h.cs, hs])] at h2
  refine ⟨o, h1, ?_⟩
  have e : (o.map fun z => (((0 : Rat).den : Nat) : Rat) * z) = o := by
    cases o with
    | none => rfl
    | some z =>
      show some ((((0 : Rat).den : Nat) : Rat) * z) = some z
      have : (((0 : Rat).den : Nat) : Rat) = 1 := rfl
      rw [this, Rat.one_mul]
  rw [e] at h2
  exact h2
theorem eqv_bb (b : Bool) : PyData.eqv (.bool b) (.bool b) = true := by cases b <;> rfl
theorem atI_succ {α : Type} {xs : List α} {i : Nat} {x : α} (h : xs[i + 1]? = some x) : atI xs ((i : Int) + 1) = some x := atI_nat (i := i + 1) h
end Cp
end
/-! ## CL5 -/
section
set_option Elab.async false
set_option linter.all false
set_option autoImplicit false
set_option maxRecDepth 100000
set_option maxHeartbeats 4000000
set_option exponentiation.threshold 100000
/-! the law itself -/
namespace Cp
variable [KFix]
open PySem PySem.Spec PyProof.Rows L2
section
variable {Pg : Program} {w : World} {K : PySem.W.Frag} {mg : Str → Option Value} {base : Heap} [KIs K]
def pre_law (ds : List PyData) (d : PyData) : Prop := ∃ ns : List Int, ds = [scD ns] ∧ d = .bool true
theorem len_law : ∀ ds d, pre_law ds d → ds.length = 1 := by rintro _ _ ⟨_, rfl, _⟩; rfl
theorem ok_law (T : Txt K mg) : FnOk Pg w K mg base CX0 140 (He.ga K "law") (T.fd 56) ["_law_script"] (spD pre_law) := by
  refine (T.F 56 d_law rfl).ok sc_law (spD_len (n := 1) ?len) (fun cdv A outer s H vs Q E hr h => ?_)
  case len => exact len_law
  refine ⟨_, PSs.nox (pss_cons (ps_set (i := 1) sc_law.nd rfl (by first | exact Or.inl rfl | exact Or.inr rfl) (pe_lst (pa_cons (pv 0) (pa_cons pe_int (pa_cons pe_int (pa_cons pe_int pa_nil))))))
      (pss_cons (ps_set (i := 2) sc_law.nd rfl (by first | exact Or.inl rfl | exact Or.inr rfl) (pe_call (ok_l_task T) (hr.mono (show 2 ≤ _ by decide)) (by rfl) T.g__law_task (T.F 53 d_law_task rfl).kp (b_l_task T) .nil pass0 (pa_cons (pv 1) (pa_cons pe_int (pa_cons pe_int (pa_cons pe_int pa_nil))))))
      (pss_cons (ps_asg (pv 2) (pg_tupK (K := K) (n := 3) (by rfl) (pgs_cons (pg_name (i := 3) sc_law.nd rfl (by first | exact Or.inl rfl | exact Or.inr rfl)) (pgs_cons (pg_name (i := 4) sc_law.nd rfl (by first | exact Or.inl rfl | exact Or.inr rfl)) (pgs_cons (pg_name (i := 5) sc_law.nd rfl (by first | exact Or.inl rfl | exact Or.inr rfl)) pgs_nil)))))
      (pss_cons (ps_set (i := 6) sc_law.nd rfl (by first | exact Or.inl rfl | exact Or.inr rfl) (pe_callTy call_tuple_of (by rfl) T.n_tuple (by decide +kernel) (pa_cons (pe_lc (own := [("_law_one", 20)]) (by rfl) sc_law.nd (pi_str (pv 3)) (blkOk_by (N := ["_law_script", "_law_row", "_law_task_here", "_law_kinds", "_law_costs", "_law_rows", "_law_steps", "_law_told", "_law_times_here", "_law_turn", "_law_low", "_law_high", "_law_base", "_law_slope", "_law_end", "_law_time", "_law_due", "_law_at_here", "_law_step", "_law_now", "_law_one"]) (sc := defScope s_law) (by decide +kernel)) (fun _ _ _ _ _ => (pg_name (i := 20) sc_law.nd rfl (by first | exact Or.inl rfl | exact Or.inr rfl))) (fun _ _ _ _ _ => pts_nil) (fun _ _ _ _ _ => (pe_op op_sub (pe_call (ok_l_taken T) (hr.mono (show 1 ≤ _ by decide)) (by rfl) T.g__law_taken (T.F 47 d_law_taken rfl).kp (b_l_taken T) .nil pass0 (pa_cons (pv 1) (pa_cons pe_int pa_nil))) pe_int))) pa_nil)))
      (pss_cons (ps_par (i := 7) (j := 8) (by rfl) sc_law.nd rfl rfl (by decide) rfl rfl (pa_cons (pe_call (ok_cost_pieces T) (hr.mono (show 139 ≤ _ by decide)) (by rfl) T.g_cost_pieces (T.F 43 d_cost_pieces rfl).kp (b_cost_pieces T) .nil pass0 (pa_cons (pv 2) (pa_cons (pv 6) pa_nil))) (pa_cons (pe_lst (pa_cons (pe_tup (pa_cons pe_int (pa_cons pe_int pa_nil))) (pa_cons (pe_tup (pa_cons pe_int (pa_cons pe_int pa_nil))) (pa_cons (pe_tup (pa_cons (pe_un un_neg pe_int) (pa_cons pe_int pa_nil))) (pa_cons (pe_tup (pa_cons pe_int (pa_cons pe_int pa_nil))) (pa_cons (pe_tup (pa_cons (pe_un un_neg pe_int) (pa_cons pe_int pa_nil))) pa_nil)))))) pa_nil)) (by rfl))
      (pss_cons (ps_for PassesOwn.never rfl (pi_range1 (by rfl) T.n_range (pa_cons pe_int pa_nil)) (pg_name (i := 9) sc_law.nd rfl (by first | exact Or.inl rfl | exact Or.inr rfl)) (pss_one (ps_expr (pe_bm PySem.F.plainAttrs_list PySem.F.slot_list_append PySem.F.type_list_append mt_append (pv 8) (pa_cons (pe_call (ok_l_ratio T) (hr.mono (show 1 ≤ _ by decide)) (by rfl) T.g__law_ratio (T.F 49 d_law_ratio rfl).kp (b_l_ratio T) .nil pass0 (pa_cons (pe_op op_sub (pe_call (ok_l_taken T) (hr.mono (show 1 ≤ _ by decide)) (by rfl) T.g__law_taken (T.F 47 d_law_taken rfl).kp (b_l_taken T) .nil pass0 (pa_cons (pv 1) (pa_cons pe_int pa_nil))) pe_int) (pa_cons (pe_op op_add pe_int (pe_call (ok_l_taken T) (hr.mono (show 1 ≤ _ by decide)) (by rfl) T.g__law_taken (T.F 47 d_law_taken rfl).kp (b_l_taken T) .nil pass0 (pa_cons (pv 1) (pa_cons pe_int pa_nil)))) pa_nil))) pa_nil)))))
      (pss_cons (ps_for PassesOwn.never rfl (pi_tup (pv 7)) (pg_tupK (K := K) (n := 4) (by rfl) (pgs_cons (pg_name (i := 10) sc_law.nd rfl (by first | exact Or.inl rfl | exact Or.inr rfl)) (pgs_cons (pg_name (i := 11) sc_law.nd rfl (by first | exact Or.inl rfl | exact Or.inr rfl)) (pgs_cons (pg_name (i := 12) sc_law.nd rfl (by first | exact Or.inl rfl | exact Or.inr rfl)) (pgs_cons (pg_name (i := 13) sc_law.nd rfl (by first | exact Or.inl rfl | exact Or.inr rfl)) pgs_nil))))) (pss_one (ps_for PassesOwn.never rfl (pi_list (pe_lc (own := [("_law_one", 20)]) (by rfl) sc_law.nd (pi_list (pe_lst (pa_cons (pv 10) (pa_cons (pv 11) pa_nil)))) (blkOk_by (N := ["_law_script", "_law_row", "_law_task_here", "_law_kinds", "_law_costs", "_law_rows", "_law_steps", "_law_told", "_law_times_here", "_law_turn", "_law_low", "_law_high", "_law_base", "_law_slope", "_law_end", "_law_time", "_law_due", "_law_at_here", "_law_step", "_law_now", "_law_one"]) (sc := defScope s_law) (by decide +kernel)) (fun _ _ _ _ _ => (pg_name (i := 20) sc_law.nd rfl (by first | exact Or.inl rfl | exact Or.inr rfl))) (fun _ _ _ _ _ => (pts_one (pt_cmpR op_notN (pv 20) pe_non (nomark _)))) (fun _ _ _ _ _ => (pv 20)))) (pg_name (i := 14) sc_law.nd rfl (by first | exact Or.inl rfl | exact Or.inr rfl)) (pss_one (ps_set (i := 8) sc_law.nd rfl (by first | exact Or.inl rfl | exact Or.inr rfl) (pe_op op_cat (pv 8) (pe_lst (pa_cons (pv 14) (pa_cons (pe_call (ok_l_plus T) (hr.mono (show 2 ≤ _ by decide)) (by rfl) T.g__law_plus (T.F 50 d_law_plus rfl).kp (b_l_plus T) .nil pass0 (pa_cons (pv 14) (pa_cons (pe_tup (pa_cons pe_int (pa_cons pe_int pa_nil))) pa_nil))) (pa_cons (pe_call (ok_l_plus T) (hr.mono (show 2 ≤ _ by decide)) (by rfl) T.g__law_plus (T.F 50 d_law_plus rfl).kp (b_l_plus T) .nil pass0 (pa_cons (pv 14) (pa_cons (pe_tup (pa_cons (pe_un un_neg pe_int) (pa_cons pe_int pa_nil))) pa_nil))) pa_nil))))))))))
      (pss_cons (ps_for PassesOwn.never rfl (pi_list (pv 8)) (pg_name (i := 15) sc_law.nd rfl (by first | exact Or.inl rfl | exact Or.inr rfl)) (pss_cons (ps_set (i := 16) sc_law.nd rfl (by first | exact Or.inl rfl | exact Or.inr rfl) (pe_call (ok_l_then T) (hr.mono (show 8 ≤ _ by decide)) (by rfl) T.g__law_then (T.F 55 d_law_then rfl).kp (b_l_then T) .nil pass0 (pa_cons (pv 2) (pa_cons (pv 6) (pa_cons (pv 15) pa_nil)))))
      (pss_one (ps_if (PW.pt (pw_and (pt_cmpR (op_neDK (K := K) hr.units) (pv 16) pe_str (nomark _)) (pw_and1 (pt_not (pt_val (pe_call (ok_l_alike T) (hr.mono (show 5 ≤ _ by decide)) (by rfl) T.g__law_alike (T.F 48 d_law_alike rfl).kp (b_l_alike T) .nil pass0 (pa_cons (pe_call (ok_l_at T) (hr.mono (show 3 ≤ _ by decide)) (by rfl) T.g__law_at (T.F 54 d_law_at rfl).kp (b_l_at T) .nil pass0 (pa_cons (pv 7) (pa_cons (pv 15) pa_nil))) (pa_cons (pv 16) pa_nil)))))))) (pss_one (ps_ret pe_bl)) pss_nil))))
      (pss_cons (ps_for PassesOwn.never rfl (pi_range1 (by rfl) T.n_range (pa_cons (pe_op op_sub (pe_callB call_len (by rfl) T.n_len PySem.boot_len (pa_cons (pv 7) pa_nil)) pe_int) pa_nil)) (pg_name (i := 17) sc_law.nd rfl (by first | exact Or.inl rfl | exact Or.inr rfl)) (pss_one (ps_if (PW.pt (pw_or (pt_cmpR (op_neDK (K := K) hr.units) (pe_ix (ix_seqK (K := K)) (pe_ix (ix_seqK (K := K)) (pv 7) (pv 17) (fun _ _ => rfl)) pe_int (fun _ _ => rfl)) (pe_ix (ix_seqK (K := K)) (pe_ix (ix_seqK (K := K)) (pv 7) (pe_op op_add (pv 17) pe_int) (fun _ _ => rfl)) pe_int (fun _ _ => rfl)) (nomark _)) (pw_or (pt_cmpR op_le (pe_call (ok_l_gap T) (hr.mono (show 1 ≤ _ by decide)) (by rfl) T.g__law_gap (T.F 52 d_law_gap rfl).kp (b_l_gap T) .nil pass0 (pa_cons (pe_ix (ix_seqK (K := K)) (pe_ix (ix_seqK (K := K)) (pv 7) (pv 17) (fun _ _ => rfl)) pe_int (fun _ _ => rfl)) (pa_cons (pe_ix (ix_seqK (K := K)) (pe_ix (ix_seqK (K := K)) (pv 7) (pe_op op_add (pv 17) pe_int) (fun _ _ => rfl)) pe_int (fun _ _ => rfl)) pa_nil))) pe_int (nomark _)) (pw_or1 (pt_cmpR op_isN (pe_ix (ix_seqK (K := K)) (pe_ix (ix_seqK (K := K)) (pv 7) (pv 17) (fun _ _ => rfl)) pe_int (fun _ _ => rfl)) pe_non (nomark _)))))) (pss_one (ps_ret pe_bl)) pss_nil)))
      (pss_cons (ps_set (i := 17) sc_law.nd rfl (by first | exact Or.inl rfl | exact Or.inr rfl) (pe_call (ok_l_taken T) (hr.mono (show 1 ≤ _ by decide)) (by rfl) T.g__law_taken (T.F 47 d_law_taken rfl).kp (b_l_taken T) .nil pass0 (pa_cons (pv 1) (pa_cons (pe_callB call_len (by rfl) T.n_len PySem.boot_len (pa_cons (pv 3) pa_nil)) pa_nil))))
      (pss_cons (ps_set (i := 18) sc_law.nd rfl (by first | exact Or.inl rfl | exact Or.inr rfl) (pe_callTy call_tuple_of (by rfl) T.n_tuple (by decide +kernel) (pa_cons (pe_lc (own := [("_law_one", 20)]) (by rfl) sc_law.nd (pi_range1 (by rfl) T.n_range (pa_cons (pe_callB call_len (by rfl) T.n_len PySem.boot_len (pa_cons (pv 3) pa_nil)) pa_nil)) (blkOk_by (N := ["_law_script", "_law_row", "_law_task_here", "_law_kinds", "_law_costs", "_law_rows", "_law_steps", "_law_told", "_law_times_here", "_law_turn", "_law_low", "_law_high", "_law_base", "_law_slope", "_law_end", "_law_time", "_law_due", "_law_at_here", "_law_step", "_law_now", "_law_one"]) (sc := defScope s_law) (by decide +kernel)) (fun _ _ _ _ _ => (pg_name (i := 20) sc_law.nd rfl (by first | exact Or.inl rfl | exact Or.inr rfl))) (fun _ _ _ _ _ => pts_nil) (fun _ _ _ _ _ => (pe_ifExp (pt_cmpR (op_eqDK (K := K) hr.units) (pv 20) (pv 17) (nomark _)) pe_int pe_int))) pa_nil)))
      (pss_cons (ps_set (i := 19) sc_law.nd rfl (by first | exact Or.inl rfl | exact Or.inr rfl) (pe_lst pa_nil))
      (pss_cons (ps_for PassesOwn.never rfl (pi_tup (pe_call (ok_cost_pieces T) (hr.mono (show 139 ≤ _ by decide)) (by rfl) T.g_cost_pieces (T.F 43 d_cost_pieces rfl).kp (b_cost_pieces T) .nil pass0 (pa_cons (pv 2) (pa_cons (pv 18) pa_nil)))) (pg_tupK (K := K) (n := 4) (by rfl) (pgs_cons (pg_name (i := 10) sc_law.nd rfl (by first | exact Or.inl rfl | exact Or.inr rfl)) (pgs_cons (pg_name (i := 11) sc_law.nd rfl (by first | exact Or.inl rfl | exact Or.inr rfl)) (pgs_cons (pg_name (i := 12) sc_law.nd rfl (by first | exact Or.inl rfl | exact Or.inr rfl)) (pgs_cons (pg_name (i := 13) sc_law.nd rfl (by first | exact Or.inl rfl | exact Or.inr rfl)) pgs_nil))))) (pss_one (ps_if (PW.pt (pw_and (PW.pt (pw_or (pt_cmpR op_isN (pv 10) pe_non (nomark _)) (pw_or1 (pt_cmpR op_le (pe_ix (ix_seqK (K := K)) (pv 10) pe_int (fun _ _ => rfl)) pe_int (nomark _))))) (pw_and1 (PW.pt (pw_or (pt_cmpR op_isN (pv 11) pe_non (nomark _)) (pw_or1 (pt_cmpR op_ge (pe_ix (ix_seqK (K := K)) (pv 11) pe_int (fun _ _ => rfl)) pe_int (nomark _)))))))) (pss_one (ps_expr (pe_bm PySem.F.plainAttrs_list PySem.F.slot_list_append PySem.F.type_list_append mt_append (pv 19) (pa_cons (pe_tup (pa_cons (pv 10) (pa_cons (pv 11) pa_nil))) pa_nil)))) pss_nil)))
      (pss_cons (ps_set (i := 16) sc_law.nd rfl (by first | exact Or.inl rfl | exact Or.inr rfl) (pe_ifExp (pt_cmpR (op_neDK (K := K) hr.units) (pv 19) (pe_lst pa_nil) (nomark _)) (pe_tup (pa_cons (pe_ix (ix_seqK (K := K)) (pe_ix (ix_seqK (K := K)) (pv 19) pe_int (fun _ _ => rfl)) pe_int (fun _ _ => rfl)) (pa_cons (pe_ix (ix_seqK (K := K)) (pe_ix (ix_seqK (K := K)) (pv 19) (pe_un un_neg pe_int) (fun _ _ => rfl)) pe_int (fun _ _ => rfl)) pa_nil))) pe_non))
      (pss_cons (ps_if (PW.pt (pw_or (pt_not (pt_val (pe_call (ok_l_alike T) (hr.mono (show 5 ≤ _ by decide)) (by rfl) T.g__law_alike (T.F 48 d_law_alike rfl).kp (b_l_alike T) .nil pass0 (pa_cons (pe_call (ok_same_until T) (hr.mono (show 139 ≤ _ by decide)) (by rfl) T.g_same_until (T.F 46 d_same_until rfl).kp (b_same_until T) .nil pass0 (pa_cons (pv 2) (pa_cons (pv 17) pa_nil))) (pa_cons (pv 16) pa_nil))))) (pw_or1 (pt_cmpR (op_neDK (K := K) hr.units) (pe_cmpR op_isN (pv 16) pe_non (nomark _)) (pe_cmpR op_isN (pe_call (ok_best_cost T) (hr.mono (show 7 ≤ _ by decide)) (by rfl) T.g_best_cost (T.F 30 d_best_cost rfl).kp (b_best_cost T) .nil pass0 (pa_cons (pv 2) pa_nil)) pe_non (nomark _)) (nomark _))))) (pss_one (ps_ret pe_bl)) pss_nil)
      (pss_one (ps_ret (pe_and (pe_call (ok_l_alike T) (hr.mono (show 5 ≤ _ by decide)) (by rfl) T.g__law_alike (T.F 48 d_law_alike rfl).kp (b_l_alike T) .nil pass0 (pa_cons (pe_call (ok_l_at T) (hr.mono (show 3 ≤ _ by decide)) (by rfl) T.g__law_at (T.F 54 d_law_at rfl).kp (b_l_at T) .nil pass0 (pa_cons (pv 7) (pa_cons (pe_tup (pa_cons pe_int (pa_cons pe_int pa_nil))) pa_nil))) (pa_cons (pe_call (ok_best_cost T) (hr.mono (show 7 ≤ _ by decide)) (by rfl) T.g_best_cost (T.F 30 d_best_cost rfl).kp (b_best_cost T) .nil pass0 (pa_cons (pv 2) pa_nil)) pa_nil))) (pe_one (pe_cmpR op_lt (pe_callB call_len (by rfl) T.n_len PySem.boot_len (pa_cons (pv 19) pa_nil)) pe_int (nomark _))))))))))))))))))))), ?_⟩
  refine body_pure (K := K) (C := gC K) h (fun ds d hp => by rw [len_law ds d hp]; decide) (fun ds d hp F0 H0 => ?_)
  obtain ⟨ns, rfl, rfl⟩ := hp
  show Sd _ _ [.d (scD ns), .no, .no, .no, .no, .no, .no, .no, .no, .no, .no, .no, .no, .no, .no, .no, .no, .no, .no, .no, .no] _ _
  -- row
  refine s_seq (M := fun P' => ∃ a, P' = [.d (scD ns), .own a (rsD ⟨ns, 0, 5308, 0⟩), .no, .no, .no, .no, .no, .no, .no, .no, .no, .no, .no, .no, .no, .no, .no, .no, .no, .no, .no]) (s_nilOwn (a_cons (g_var rfl) (a_cons g_int (a_cons g_int (a_cons g_int a_nil)))) (by simp) (by simp) fun a => ⟨a, rfl⟩) ?_
  rintro _ ⟨a, rfl⟩
  have hS : RS.ok ⟨ns, 0, 5308, 0⟩ := ⟨(by decide : (0 : Int) ≤ 5308), (by decide : (5308 : Int) < 2147483647)⟩
  generalize (⟨ns, 0, 5308, 0⟩ : RS) = S at hS
  generalize scD ns = sc
  -- task
  refine s_seq (M := fun P' => ∃ (U : Tsk) (S : RS), S.ok ∧ Drawn U ∧ P' = [.d sc, .own a (rsD S), .d (tD U), .no, .no, .no, .no, .no, .no, .no, .no, .no, .no, .no, .no, .no, .no, .no, .no, .no, .no]) (s_callP rfl (a_cons g_int (a_cons g_int (a_cons g_int a_nil))) rfl rfl ⟨a, S, rfl, hS, rfl, rfl⟩ (by simp) ?_) ?_
  · rintro d t ⟨U, S', rfl, rfl, hS', hD⟩
    exact ⟨U, S', hS', hD, rfl⟩
  clear hS S
  rintro _ ⟨U, S, hS, hD, rfl⟩
  have hk1 := hD.k1
  have hk3 := hD.k3
  refine s_seq1 (P' := [.d sc, .own a (rsD S), .d (tD U), .d (.str (ksS U.ks)), .d (.tuple (iD U.cs)), .d (.tuple (U.rows.map rwD)), .no, .no, .no, .no, .no, .no, .no, .no, .no, .no, .no, .no, .no, .no, .no]) (s_asg (g_var rfl) (d_tup (ds_cons (d_name (by simp)) (ds_cons (d_name (by simp)) (ds_cons (d_name (by simp)) ds_nil))) rfl) rfl) ?_
  -- steps
  have hch : (chD (ksS U.ks)).length = U.ks.length := by rw [ch_ks, List.length_map]
  obtain ⟨st, hst⟩ : ∃ st : List Int, st = (List.range (chD (ksS U.ks)).length).map fun i => (takenM (itS (fun S => (takenM S 7).2) S i) 7).1 - 3 := ⟨_, rfl⟩
  have hsl : st.length = U.ks.length := by rw [hst, List.length_map, List.length_range, hch]
  have hsb : ∀ x, x ∈ st → x.natAbs ≤ 64 := fun x hx => by
    rw [hst] at hx
    obtain ⟨i, _, rfl⟩ := List.mem_map.mp hx
    have := taken_rng (itS (fun S => (takenM S 7).2) S i) (many := 7) (by decide)
    omega
  have hS1 := it_ok (nxt := fun S => (takenM S 7).2) (fun S h => taken_ok h 7) hS (chD (ksS U.ks)).length
  refine s_seq1 (P' := [.d sc, .own a (rsD (itS (fun S => (takenM S 7).2) S (chD (ksS U.ks)).length)), .d (tD U), .d (.str (ksS U.ks)), .d (.tuple (iD U.cs)), .d (.tuple (U.rows.map rwD)), .d (.tuple (iD st)), .no, .no, .no, .no, .no, .no, .no, .no, .no, .no, .no, .no, .no, .no]) ?_ ?_
  · refine s_set ((g_cb (a_cons (TEo.g (o_drawG (PS := fun S => [.d sc, .own a (rsD S), .d (tD U), .d (.str (ksS U.ks)), .d (.tuple (iD U.cs)), .d (.tuple (U.rows.map rwD)), .no, .no, .no, .no, .no, .no, .no, .no, .no, .no, .no, .no, .no, .no, .no]) (nxt := fun S => (takenM S 7).2) (f := fun S => .int ((takenM S 7).1 - 3)) hS (fun S h => taken_ok h 7) (i_str (g_var rfl)) (by simp) (fun S => rfl) (by rw [hch]; omega) fun S d hS hd => ⟨_, _, _, ?_, d_name (by simp), g_op (g_take hS (by decide) (by decide) (a_cons g_int a_nil) rfl rfl) g_int o_sub, rfl⟩)) a_nil) b_tuple).eq ?_) (by simp) rfl
    · simp
    · rw [hst]; unfold iD; rw [List.map_map]; rfl
  clear hst
  generalize itS (fun S => (takenM S 7).2) S (chD (ksS U.ks)).length = S1 at hS1
  clear hS S hch
  have hP := hD.pr hsl hsb
  obtain ⟨ps, hps⟩ := hP.pieces
  obtain ⟨pl, pq⟩ := psb hP hps
  have hB := psB hP hps
  have hok := pcs_of hP hps
  have hsm : ∀ a, a ∈ st → sml a := fun a ha => sml_of (hsb a ha)
  -- told, times
  refine s_seq (M := fun P' => ∃ b, P' = [.d sc, .own a (rsD S1), .d (tD U), .d (.str (ksS U.ks)), .d (.tuple (iD U.cs)), .d (.tuple (U.rows.map rwD)), .d (.tuple (iD st)), .d (.tuple (ps.map pD)), .own b (qsD [((0 : Int) : Rat), ((150 : Int) : Rat), ((-150 : Int) : Rat), ((1 : Int) : Rat), ((-1 : Int) : Rat)]), .no, .no, .no, .no, .no, .no, .no, .no, .no, .no, .no, .no]) ?_ ?_
  · have tq : ∀ (i : Int) {c : Bc} {P P1 : List Sl} {ta : TE}, TEg c ta P (.int i) P1 → TEg c (tTup (tCons ta (tCons (tC (.int 1)) tNil))) P (qD (i : Rat)) P1 := fun i _ _ _ _ h => (g_tup (a_cons h (a_cons g_int a_nil)) (by simp)).eq (q_int i)
    exact s_parDO (g_call (a_cons (g_var rfl) (a_cons (g_var rfl) a_nil)) ⟨U, st, ps, rfl, hD.nd, hsl, hsm, hP, hps, by omega, rfl⟩) (o_lst (a_cons (tq 0 g_int) (a_cons (tq 150 g_int) (a_cons (tq (-150) (g_un g_int o_neg)) (a_cons (tq 1 g_int) (a_cons (tq (-1) (g_un g_int o_neg)) a_nil))))) (by simp)) (by simp) (by simp) fun b => ⟨b, rfl⟩
  have t0 : ∀ t, t ∈ [((0 : Int) : Rat), ((150 : Int) : Rat), ((-150 : Int) : Rat), ((1 : Int) : Rat), ((-1 : Int) : Rat)] → qb 400 t := fun t ht => by
    have key : ∀ i : Int, i.natAbs ≤ 150 → qb 400 (i : Rat) := fun i hi => by
      refine qb.mono (n := 8) ⟨?_, ?_⟩ (by decide)
      · rw [Rat.num_intCast]; omega
      · rw [Rat.den_intCast]; decide
    simp only [List.mem_cons, List.not_mem_nil, or_false] at ht
    rcases ht with rfl | rfl | rfl | rfl | rfl <;> exact key _ (by decide)
  rintro _ ⟨b, rfl⟩
  have l0 : [((0 : Int) : Rat), ((150 : Int) : Rat), ((-150 : Int) : Rat), ((1 : Int) : Rat), ((-1 : Int) : Rat)].length = 5 := rfl
  generalize [((0 : Int) : Rat), ((150 : Int) : Rat), ((-150 : Int) : Rat), ((1 : Int) : Rat), ((-1 : Int) : Rat)] = ts0 at t0 l0
  -- drawn times
  refine s_seq (M := fun P' => ∃ (S : RS) (ts : List Rat) (x9 : Sl), S.ok ∧ ts.length = 11 ∧ (∀ t, t ∈ ts → qb 400 t) ∧ P' = [.d sc, .own a (rsD S), .d (tD U), .d (.str (ksS U.ks)), .d (.tuple (iD U.cs)), .d (.tuple (U.rows.map rwD)), .d (.tuple (iD st)), .d (.tuple (ps.map pD)), .own b (qsD ts), x9, .no, .no, .no, .no, .no, .no, .no, .no, .no, .no, .no]) ?_ ?_
  · refine s_for (ds := rngD 6) (i_rng (n := 6) (a_cons g_int a_nil) (by decide)) (fun i P' => ∃ (S : RS) (ts : List Rat) (x9 : Sl), S.ok ∧ ts.length = 5 + i ∧ (∀ t, t ∈ ts → qb 400 t) ∧ P' = [.d sc, .own a (rsD S), .d (tD U), .d (.str (ksS U.ks)), .d (.tuple (iD U.cs)), .d (.tuple (U.rows.map rwD)), .d (.tuple (iD st)), .d (.tuple (ps.map pD)), .own b (qsD ts), x9, .no, .no, .no, .no, .no, .no, .no, .no, .no, .no, .no]) ⟨S1, ts0, _, hS1, l0, t0, rfl⟩ ?_ ?_
    · rintro i d P2 hd ⟨S, ts, x9, hS, hl, hq, rfl⟩
      have hi : i < 6 := by have := (List.getElem?_eq_some_iff.mp hd).1; rw [rngD_len] at this; exact this
      have r1 := taken_rng S (many := 60) (by decide)
      have r2 := taken_rng (takenM S 60).2 (many := 4) (by decide)
      have q1 : qb 400 ((((takenM S 60).1 - 30 : Int) : Rat) / ((1 + (takenM (takenM S 60).2 4).1 : Int) : Rat)) := qb.mono (n := 8) (qb_ratio (by omega) (by omega) (by omega)) (by decide)
      refine ⟨_, [.d sc, .own a (rsD S), .d (tD U), .d (.str (ksS U.ks)), .d (.tuple (iD U.cs)), .d (.tuple (U.rows.map rwD)), .d (.tuple (iD st)), .d (.tuple (ps.map pD)), .own b (qsD ts), .d d, .no, .no, .no, .no, .no, .no, .no, .no, .no, .no, .no], d_name (by simp), ?_⟩
      refine s_append rfl (g_call (a_cons (g_op (g_take hS (by decide) (by decide) (a_cons g_int a_nil) rfl rfl) g_int o_sub) (a_cons (g_op g_int (g_take (taken_ok hS 60) (by decide) (by decide) (a_cons g_int a_nil) rfl rfl) o_add) a_nil)) ⟨_, _, rfl, by omega, Nat.lt_of_lt_of_le (show _ < 2 ^ 8 by omega) (Nat.pow_le_pow_right (by decide) (by decide)), rfl⟩) rfl (by simp [qsD]; omega) ⟨(takenM (takenM S 60).2 4).2, ts ++ [_], .d d, taken_ok (taken_ok hS 60) 4, by rw [List.length_append, hl]; simp; omega, fun t ht => ?_, by unfold qsD; rw [List.map_append]; rfl⟩
      rcases List.mem_append.mp ht with z | z
      · exact hq t z
      · rw [List.mem_singleton] at z
        subst z
        exact q1
    · rintro _ ⟨S, ts, x9, hS, hl, hq, rfl⟩
      rw [rngD_len] at hl
      exact ⟨S, ts, x9, hS, hl, hq, rfl⟩
  clear hS1 S1 t0 l0 ts0
  rintro _ ⟨S, ts, x9, hS, hl, hq, rfl⟩
  -- the ends of the pieces
  refine s_seq (M := fun P' => ∃ (ts : List Rat) (s8 x9 x10 x11 x12 x13 x14 : Sl), s8.lis (qsD ts) ∧ ts.length ≤ 1000 ∧ (∀ t, t ∈ ts → qb 400 t) ∧ P' = [.d sc, .own a (rsD S), .d (tD U), .d (.str (ksS U.ks)), .d (.tuple (iD U.cs)), .d (.tuple (U.rows.map rwD)), .d (.tuple (iD st)), .d (.tuple (ps.map pD)), s8, x9, x10, x11, x12, x13, x14, .no, .no, .no, .no, .no, .no]) ?_ ?_
  · refine s_for (ds := ps.map pD) (i_tup (g_var rfl)) (fun i P' => ∃ (ts : List Rat) (s8 x9 x10 x11 x12 x13 x14 : Sl), s8.lis (qsD ts) ∧ ts.length ≤ 11 + 6 * i ∧ (∀ t, t ∈ ts → qb 400 t) ∧ P' = [.d sc, .own a (rsD S), .d (tD U), .d (.str (ksS U.ks)), .d (.tuple (iD U.cs)), .d (.tuple (U.rows.map rwD)), .d (.tuple (iD st)), .d (.tuple (ps.map pD)), s8, x9, x10, x11, x12, x13, x14, .no, .no, .no, .no, .no, .no]) ⟨ts, _, _, _, _, _, _, _, .inl ⟨b, rfl⟩, by omega, hq, rfl⟩ ?_ ?_
    · clear hl hq ts x9
      rintro i d P2 hd ⟨ts, s8, x9, x10, x11, x12, x13, x14, h8, hl, hq, rfl⟩
      rw [List.getElem?_map] at hd
      have hi : i < ps.length := by
        refine Nat.lt_of_not_le fun z => ?_
        rw [List.getElem?_eq_none z] at hd
        cases hd
      cases e : ps[i]? with
      | none => rw [e] at hd; cases hd
      | some p =>
        rw [e] at hd
        cases hd
        obtain ⟨b1, b2, _, _⟩ := pq p (List.mem_of_getElem? e)
        have hend : ∀ o, o ∈ [p.lo, p.hi].filter Option.isSome → ∃ l, o = some l ∧ qb 162 l := fun o ho => by
          obtain ⟨h1, h2⟩ := List.mem_filter.mp ho
          cases o with
          | none => cases h2
          | some l =>
            refine ⟨l, rfl, ?_⟩
            simp only [List.mem_cons, List.not_mem_nil, or_false] at h1
            rcases h1 with z | z
            · exact b1 l z.symm
            · exact b2 l z.symm
        have hlen : ([p.lo, p.hi].filter Option.isSome).length ≤ 2 := List.length_filter_le _ _
        refine ⟨_, [.d sc, .own a (rsD S), .d (tD U), .d (.str (ksS U.ks)), .d (.tuple (iD U.cs)), .d (.tuple (U.rows.map rwD)), .d (.tuple (iD st)), .d (.tuple (ps.map pD)), s8, x9, .d (oD p.lo), .d (oD p.hi), .d (qD p.ln.1), .d (qD p.ln.2), x14, .no, .no, .no, .no, .no, .no], d_tup (ds_cons (d_name (by simp)) (ds_cons (d_name (by simp)) (ds_cons (d_name (by simp)) (ds_cons (d_name (by simp)) ds_nil)))) rfl, ?_⟩
        refine s_for (ds := ([p.lo, p.hi].filter Option.isSome).map oD) (P1 := [.d sc, .own a (rsD S), .d (tD U), .d (.str (ksS U.ks)), .d (.tuple (iD U.cs)), .d (.tuple (U.rows.map rwD)), .d (.tuple (iD st)), .d (.tuple (ps.map pD)), s8, x9, .d (oD p.lo), .d (oD p.hi), .d (qD p.ln.1), .d (qD p.ln.2), x14, .no, .no, .no, .no, .no, .no]) (i_list (TEo.g (o_filterL (xs := [p.lo, p.hi]) (r := oD) (f := oD) Option.isSome rfl (i_list (g_lst (a_cons (g_var rfl) (a_cons (g_var rfl) a_nil)) (by simp))) (by simp) (by simp) fun o ho => ⟨_, _, by simp, d_name (by simp [noAt]), rfl, (t_cmp (g_op (g_var rfl) g_non o_notN)).eq (by rw [isN_o]; cases o <;> rfl), fun _ => g_var rfl⟩)))
          (fun j P' => ∃ (ts : List Rat) (s8 x14 : Sl), s8.lis (qsD ts) ∧ ts.length ≤ 11 + 6 * i + 3 * j ∧ (∀ t, t ∈ ts → qb 400 t) ∧ P' = [.d sc, .own a (rsD S), .d (tD U), .d (.str (ksS U.ks)), .d (.tuple (iD U.cs)), .d (.tuple (U.rows.map rwD)), .d (.tuple (iD st)), .d (.tuple (ps.map pD)), s8, x9, .d (oD p.lo), .d (oD p.hi), .d (qD p.ln.1), .d (qD p.ln.2), x14, .no, .no, .no, .no, .no, .no]) ⟨ts, s8, x14, h8, hl, hq, rfl⟩ ?_ ?_
        · clear hl hq h8 ts s8 x14
          rintro j d P2 hd ⟨ts, s8, x14, h8, hl, hq, rfl⟩
          have hj : j < 2 := by
            have := (List.getElem?_eq_some_iff.mp hd).1
            rw [List.length_map] at this
            omega
          obtain ⟨o, ho, rfl⟩ := List.mem_map.mp (List.mem_of_getElem? hd)
          obtain ⟨l, rfl, ql⟩ := hend o ho
          have ql2 : qb 162 (1 / 97) ∧ qb 162 (-1 / 97) := ⟨qb_97.1.mono (by decide), qb_97.2.mono (by decide)⟩
          refine ⟨_, [.d sc, .own a (rsD S), .d (tD U), .d (.str (ksS U.ks)), .d (.tuple (iD U.cs)), .d (.tuple (U.rows.map rwD)), .d (.tuple (iD st)), .d (.tuple (ps.map pD)), s8, x9, .d (oD p.lo), .d (oD p.hi), .d (qD p.ln.1), .d (qD p.ln.2), .d (qD l), .no, .no, .no, .no, .no, .no], d_name (by simp), ?_⟩
          refine s_set (g_op (g_lis rfl h8) (g_lst (a_cons (g_var rfl) (a_cons (g_call (a_cons (g_var rfl) (a_cons ((g_tup (a_cons g_int (a_cons g_int a_nil)) (by simp)).eq q_97) a_nil)) ⟨l, 1 / 97, rfl, ql.mono (by decide), ql2.1.mono (by decide), rfl⟩) (a_cons (g_call (a_cons (g_var rfl) (a_cons ((g_tup (a_cons (g_un g_int o_neg) (a_cons g_int a_nil)) (by simp)).eq q_m97) a_nil)) ⟨l, -1 / 97, rfl, ql.mono (by decide), ql2.2.mono (by decide), rfl⟩) a_nil))) (by simp)) (o_cat (by simp [qsD]; omega))) (by simp) ⟨ts ++ [l, l + 1 / 97, l + -1 / 97], _, _, .inr (by unfold qsD; rw [List.map_append]; rfl), by rw [List.length_append]; show ts.length + 3 ≤ _; omega, fun t ht => ?_, rfl⟩
          rcases List.mem_append.mp ht with z | z
          · exact hq t z
          · simp only [List.mem_cons, List.not_mem_nil, or_false] at z
            rcases z with rfl | rfl | rfl
            · exact ql.mono (by decide)
            · exact (qb_add ql ql2.1).mono (by decide)
            · exact (qb_add ql ql2.2).mono (by decide)
        · rintro _ ⟨ts, s8, x14, h8, hl, hq, rfl⟩
          rw [List.length_map] at hl
          exact ⟨ts, s8, _, _, _, _, _, _, h8, by omega, hq, rfl⟩
    · rintro _ ⟨ts, s8, x9, x10, x11, x12, x13, x14, h8, hl, hq, rfl⟩
      rw [List.length_map] at hl
      exact ⟨ts, s8, _, _, _, _, _, _, h8, by omega, hq, rfl⟩
  clear hl hq ts x9
  rintro _ ⟨ts, s8, x9, x10, x11, x12, x13, x14, h8, hl, hq, rfl⟩
  -- the values at the times
  refine s_seq (M := fun P' => ∃ (x15 x16 : Sl), P' = [.d sc, .own a (rsD S), .d (tD U), .d (.str (ksS U.ks)), .d (.tuple (iD U.cs)), .d (.tuple (U.rows.map rwD)), .d (.tuple (iD st)), .d (.tuple (ps.map pD)), .d (.list (qsD ts)), x9, x10, x11, x12, x13, x14, x15, x16, .no, .no, .no, .no]) ?_ ?_
  · refine s_for (ds := qsD ts) (i_list (g_lis rfl h8)) (fun i P' => ∃ (x15 x16 : Sl), P' = [.d sc, .own a (rsD S), .d (tD U), .d (.str (ksS U.ks)), .d (.tuple (iD U.cs)), .d (.tuple (U.rows.map rwD)), .d (.tuple (iD st)), .d (.tuple (ps.map pD)), .d (.list (qsD ts)), x9, x10, x11, x12, x13, x14, x15, x16, .no, .no, .no, .no]) ⟨_, _, rfl⟩ ?_ fun _ q => q
    rintro i d P2 hd ⟨x15, x16, rfl⟩
    obtain ⟨t, ht, rfl⟩ := List.mem_map.mp (List.mem_of_getElem? hd)
    have qt := hq t ht
    obtain ⟨o, ho, hbo⟩ := hD.val hP hps t
    refine ⟨_, [.d sc, .own a (rsD S), .d (tD U), .d (.str (ksS U.ks)), .d (.tuple (iD U.cs)), .d (.tuple (U.rows.map rwD)), .d (.tuple (iD st)), .d (.tuple (ps.map pD)), .d (.list (qsD ts)), x9, x10, x11, x12, x13, x14, .d (qD t), x16, .no, .no, .no, .no], d_name (by simp), ?_⟩
    have hfar : farB (mixC t.den t.num U.cs st) = false → Nd (Tmv U st t) ∧ Big (Tmv U st t) ∧ BestO (Tmv U st t) (o.map fun z => (t.den : Rat) * z) ∧ ∀ v, (o.map fun z => (t.den : Rat) * z) = some v → qb 4000 v := fun hf => by
      obtain ⟨n1, n2, n3⟩ := hD.then_ hsl hf
      refine ⟨n1, n2, hbo, fun v hv => n3 v ?_⟩
      rw [hv] at hbo
      exact hbo
    have hib : ∀ xs : List Int, (∀ x, x ∈ xs → x.natAbs ≤ 64) → ibd 1000 xs := fun xs h x hx => Nat.lt_of_le_of_lt (h x hx) (Nat.lt_of_lt_of_le (show 64 < 2 ^ 7 by decide) (Nat.pow_le_pow_right (by decide) (by decide)))
    have hcs : ibd 1000 U.cs := hib _ fun x hx => by have := hD.csb x hx; omega
    refine s_seq1 (P' := [.d sc, .own a (rsD S), .d (tD U), .d (.str (ksS U.ks)), .d (.tuple (iD U.cs)), .d (.tuple (U.rows.map rwD)), .d (.tuple (iD st)), .d (.tuple (ps.map pD)), .d (.list (qsD ts)), x9, x10, x11, x12, x13, x14, .d (qD t), .d (if farB (mixC t.den t.num U.cs st) = true then .str "far" else oD o), .no, .no, .no, .no]) (s_set (g_call (a_cons (g_var rfl) (a_cons (g_var rfl) (a_cons (g_var rfl) a_nil))) ⟨U, st, t, _, rfl, by rw [hD.cs, hsl], by omega, hcs, hib _ hsb, qt.mono (by decide), hfar, by rw [o_cancel]⟩) (by simp) rfl) ?_
    cases hf : farB (mixC t.den t.num U.cs st) with
    | true =>
      rw [if_pos rfl]
      refine s_if (b := false) (t_andF ((t_cmp (g_op (g_var rfl) g_str (o_ne shp_far shp_far))).eq ?_)) (fun z => nomatch z) fun _ => s_next ⟨_, _, rfl⟩
      rw [far_s]; rfl
    | false =>
      rw [if_neg Bool.false_ne_true]
      refine s_if (b := false) (t_andT ((t_cmp (g_op (g_var rfl) g_str (o_ne (shp_o o) shp_far))).eq ?_) ((t_not (t_val (g_call (a_cons (g_call (a_cons (g_var rfl) (a_cons (g_var rfl) a_nil)) ⟨ps, t, o, rfl, hB, qt.mono (by decide), ho, rfl⟩) (a_cons (g_var rfl) a_nil)) ⟨oD o, rfl, alk_o o, rfl⟩))).eq rfl)) (fun z => nomatch z) fun _ => s_next ⟨_, _, rfl⟩
      rw [far_o]; rfl
  rintro _ ⟨x15, x16, rfl⟩
  -- the neighbours
  refine s_seq (M := fun P' => ∃ (x17 : Sl), P' = [.d sc, .own a (rsD S), .d (tD U), .d (.str (ksS U.ks)), .d (.tuple (iD U.cs)), .d (.tuple (U.rows.map rwD)), .d (.tuple (iD st)), .d (.tuple (ps.map pD)), .d (.list (qsD ts)), x9, x10, x11, x12, x13, x14, x15, x16, x17, .no, .no, .no]) ?_ ?_
  · refine s_for (ds := rngD (((ps.map pD).length : Int) - 1).toNat) (i_rngZ (a_cons (g_op (g_cb (a_cons (g_var rfl) a_nil) b_lenT) g_int o_sub) a_nil) (by rw [List.length_map]; omega) (by rw [List.length_map]; omega)) (fun i P' => ∃ (x17 : Sl), P' = [.d sc, .own a (rsD S), .d (tD U), .d (.str (ksS U.ks)), .d (.tuple (iD U.cs)), .d (.tuple (U.rows.map rwD)), .d (.tuple (iD st)), .d (.tuple (ps.map pD)), .d (.list (qsD ts)), x9, x10, x11, x12, x13, x14, x15, x16, x17, .no, .no, .no]) ⟨_, rfl⟩ ?_ fun _ q => q
    rintro i d P2 hd ⟨x17, rfl⟩
    have hi : i + 1 < ps.length := by
      have := (List.getElem?_eq_some_iff.mp hd).1
      rw [rngD_len, List.length_map] at this
      omega
    rw [rngD_get (by rw [List.length_map]; omega)] at hd
    cases hd
    have e1 : ps[i]? = some (ps[i]'(by omega)) := List.getElem?_eq_getElem (by omega)
    have e2 : ps[i + 1]? = some (ps[i + 1]'hi) := List.getElem?_eq_getElem hi
    generalize ps[i]'(by omega) = p at e1
    generalize ps[i + 1]'hi = q at e2
    obtain ⟨f1, f2, f3⟩ := fol_get hok.fol e1 e2
    obtain ⟨_, _, _, b4⟩ := pq p (List.mem_of_getElem? e1)
    obtain ⟨_, _, _, b5⟩ := pq q (List.mem_of_getElem? e2)
    have a1 : atI (ps.map pD) (i : Int) = some (pD p) := atI_nat (by rw [List.getElem?_map, e1]; rfl)
    have a2 : atI (ps.map pD) ((i : Int) + 1) = some (pD q) := atI_succ (by rw [List.getElem?_map, e2]; rfl)
    refine ⟨_, [.d sc, .own a (rsD S), .d (tD U), .d (.str (ksS U.ks)), .d (.tuple (iD U.cs)), .d (.tuple (U.rows.map rwD)), .d (.tuple (iD st)), .d (.tuple (ps.map pD)), .d (.list (qsD ts)), x9, x10, x11, x12, x13, x14, x15, x16, .d (.int (i : Int)), .no, .no, .no], d_name (by simp), ?_⟩
    refine s_if (b := false) (t_orF ((t_cmp (g_op (g_op (g_op (g_var rfl) (g_var rfl) (o_ixqT a1)) g_int (o_ixqT at4_1)) (g_op (g_op (g_var rfl) (g_op (g_var rfl) g_int o_add) (o_ixqT a2)) g_int (o_ixqT at4_0)) (o_ne (shp_o p.hi) (shp_o q.lo)))).eq ?_) (t_orF ((t_cmp (g_op (g_call (a_cons (g_op (g_op (g_var rfl) (g_var rfl) (o_ixqT a1)) g_int (o_ixqT at4_3)) (a_cons (g_op (g_op (g_var rfl) (g_op (g_var rfl) g_int o_add) (o_ixqT a2)) g_int (o_ixqT at4_3)) a_nil)) ⟨p.ln.2, q.ln.2, rfl, b4.mono (by decide), b5.mono (by decide), rfl⟩) g_int o_le)).eq (gap_pos f3)) ((t_cmp (g_op (g_op (g_op (g_var rfl) (g_var rfl) (o_ixqT a1)) g_int (o_ixqT at4_1)) g_non o_isN)).eq ?_))) (fun z => nomatch z) fun _ => s_next ⟨_, rfl⟩
    · rw [f1, eqv_oo]; rfl
    · rw [isN_o]
      cases e : p.hi with
      | none => exact absurd e f2
      | some l => rfl
  rintro _ ⟨x17, rfl⟩
  -- one step
  have rn := taken_rng S (many := (U.ks.length : Nat)) (by omega)
  obtain ⟨c, hc, hcn⟩ : ∃ c : Nat, (takenM S (U.ks.length : Nat)).1 = (c : Int) ∧ c < U.ks.length := ⟨(takenM S (U.ks.length : Nat)).1.toNat, by omega, by omega⟩
  refine s_seq (M := fun P' => ∃ S2 : RS, P' = [.d sc, .own a (rsD S2), .d (tD U), .d (.str (ksS U.ks)), .d (.tuple (iD U.cs)), .d (.tuple (U.rows.map rwD)), .d (.tuple (iD st)), .d (.tuple (ps.map pD)), .d (.list (qsD ts)), x9, x10, x11, x12, x13, x14, x15, x16, .d (.int (c : Int)), .no, .no, .no]) (s_set ((g_take hS (by omega) (by omega) (a_cons ((g_cb (a_cons (g_var rfl) a_nil) (b_lenS (by rw [ks_len]; omega))).eq (d' := .int (U.ks.length : Nat)) (by rw [ks_len])) a_nil) rfl rfl).eq (by rw [hc])) (by simp) ⟨_, rfl⟩) ?_
  clear rn hc hS
  rintro _ ⟨S2, rfl⟩
  refine s_seq1 (P' := [.d sc, .own a (rsD S2), .d (tD U), .d (.str (ksS U.ks)), .d (.tuple (iD U.cs)), .d (.tuple (U.rows.map rwD)), .d (.tuple (iD st)), .d (.tuple (ps.map pD)), .d (.list (qsD ts)), x9, x10, x11, x12, x13, x14, x15, x16, .d (.int (c : Int)), .d (.tuple (iD (unitI U.ks.length c 1))), .no, .no]) ?_ ?_
  · refine s_set ((g_cb (a_cons (TEo.g (o_mapL (xs := List.range U.ks.length) (f := fun k => .int (if k = c then 1 else 0)) (rng_map _) (i_rng (a_cons ((g_cb (a_cons (g_var rfl) a_nil) (b_lenS (by rw [ks_len]; omega))).eq (d' := .int (U.ks.length : Nat)) (by rw [ks_len])) a_nil) (by omega)) (by simp) (by simp; omega) fun k hk => ⟨_, _, by simp, d_name (by simp [noAt]), rfl, ?_⟩)) a_nil) b_tuple).eq ?_) (by simp [noAt]) rfl
    · refine g_if (b := decide ((k : Int) = (c : Int))) (t_eqI (g_var rfl) (g_var rfl)) (fun h => g_int.eq ?_) (fun h => g_int.eq ?_)
      · have h := of_decide_eq_true h
        rw [if_pos (by omega)]
      · have h := of_decide_eq_false h
        rw [if_neg (by omega)]
    · unfold iD unitI
      rw [List.map_map]; rfl
  have hP2 := unit_pr hD (c := c)
  obtain ⟨ps2, hps2⟩ := hP2.pieces
  obtain ⟨pl2, pq2⟩ := psb hP2 hps2
  have hok2 := pcs_of hP2 hps2
  have two := hok2.two 0
  -- the pieces of now
  refine s_seq (M := fun P' => ∃ b2, P' = [.d sc, .own a (rsD S2), .d (tD U), .d (.str (ksS U.ks)), .d (.tuple (iD U.cs)), .d (.tuple (U.rows.map rwD)), .d (.tuple (iD st)), .d (.tuple (ps.map pD)), .d (.list (qsD ts)), x9, x10, x11, x12, x13, x14, x15, x16, .d (.int (c : Int)), .d (.tuple (iD (unitI U.ks.length c 1))), .own b2 [], .no]) (s_nilOwn a_nil (by simp) (by simp) fun b2 => ⟨b2, rfl⟩) ?_
  rintro _ ⟨b2, rfl⟩
  refine s_seq (M := fun P' => ∃ (x10 x11 x12 x13 : Sl), P' = [.d sc, .own a (rsD S2), .d (tD U), .d (.str (ksS U.ks)), .d (.tuple (iD U.cs)), .d (.tuple (U.rows.map rwD)), .d (.tuple (iD st)), .d (.tuple (ps.map pD)), .d (.list (qsD ts)), x9, x10, x11, x12, x13, x14, x15, x16, .d (.int (c : Int)), .d (.tuple (iD (unitI U.ks.length c 1))), .own b2 ((ps2.filter (inB 0)).map nwD), .no]) ?_ ?_
  · refine s_for (ds := ps2.map pD) (i_tup (g_call (a_cons (g_var rfl) (a_cons (g_var rfl) a_nil)) ⟨U, unitI U.ks.length c 1, ps2, rfl, hD.nd, by simp [unitI], unit_sml _ _, hP2, hps2, by omega, rfl⟩)) (fun i P' => ∃ (x10 x11 x12 x13 : Sl), P' = [.d sc, .own a (rsD S2), .d (tD U), .d (.str (ksS U.ks)), .d (.tuple (iD U.cs)), .d (.tuple (U.rows.map rwD)), .d (.tuple (iD st)), .d (.tuple (ps.map pD)), .d (.list (qsD ts)), x9, x10, x11, x12, x13, x14, x15, x16, .d (.int (c : Int)), .d (.tuple (iD (unitI U.ks.length c 1))), .own b2 (((ps2.take i).filter (inB 0)).map nwD), .no]) ⟨_, _, _, _, rfl⟩ ?_ ?_
    · rintro i d P2 hd ⟨x10, x11, x12, x13, rfl⟩
      rw [List.getElem?_map] at hd
      cases e : ps2[i]? with
      | none => rw [e] at hd; cases hd
      | some p =>
        rw [e] at hd
        cases hd
        have hl : (((ps2.take i).filter (inB 0)).map nwD).length ≤ 10000 := by
          have h1 := List.length_filter_le (inB 0) (ps2.take i)
          rw [List.length_map]
          rw [List.length_take] at h1
          omega
        have et : ((ps2.take (i + 1)).filter (inB 0)).map nwD = ((ps2.take i).filter (inB 0)).map nwD ++ (if inB 0 p = true then [nwD p] else []) := by
          rw [List.take_add_one, e, List.filter_append, List.map_append]
          congr 1
          by_cases q : inB 0 p = true
          · rw [if_pos q]; simp [q]
          · rw [if_neg q]; simp [q]
        rw [et]
        generalize ((ps2.take i).filter (inB 0)).map nwD = done at hl ⊢
        refine ⟨_, [.d sc, .own a (rsD S2), .d (tD U), .d (.str (ksS U.ks)), .d (.tuple (iD U.cs)), .d (.tuple (U.rows.map rwD)), .d (.tuple (iD st)), .d (.tuple (ps.map pD)), .d (.list (qsD ts)), x9, .d (oD p.lo), .d (oD p.hi), .d (qD p.ln.1), .d (qD p.ln.2), x14, x15, x16, .d (.int (c : Int)), .d (.tuple (iD (unitI U.ks.length c 1))), .own b2 done, .no], d_tup (ds_cons (d_name (by simp)) (ds_cons (d_name (by simp)) (ds_cons (d_name (by simp)) (ds_cons (d_name (by simp)) ds_nil)))) rfl, ?_⟩
        refine s_if (P1 := [.d sc, .own a (rsD S2), .d (tD U), .d (.str (ksS U.ks)), .d (.tuple (iD U.cs)), .d (.tuple (U.rows.map rwD)), .d (.tuple (iD st)), .d (.tuple (ps.map pD)), .d (.list (qsD ts)), x9, .d (oD p.lo), .d (oD p.hi), .d (qD p.ln.1), .d (qD p.ln.2), x14, x15, x16, .d (.int (c : Int)), .d (.tuple (iD (unitI U.ks.length c 1))), .own b2 done, .no]) (b := inB 0 p) ?_ (fun h => ?_) fun h => s_next ⟨.d (oD p.lo), .d (oD p.hi), .d (qD p.ln.1), .d (qD p.ln.2), ?_⟩
        · refine t_and (a := fromB p.lo 0) (b := toB p.hi 0) ?_ fun _ => ?_
          · cases hlo : p.lo with
            | none => exact t_orT (t_cmp (g_op (g_var rfl) g_non o_isN))
            | some l => exact t_orF (t_cmp (g_op (g_var rfl) g_non o_isN)) ((t_cmp (g_op (g_q0 (x := l) (g_var rfl) g_int) g_int o_le)).eq (num_le0 l))
          · cases hhi : p.hi with
            | none => exact t_orT (t_cmp (g_op (g_var rfl) g_non o_isN))
            | some l => exact t_orF (t_cmp (g_op (g_var rfl) g_non o_isN)) ((t_cmp (g_op (g_q0 (x := l) (g_var rfl) g_int) g_int o_ge)).eq (num_ge0 l))
        · rw [if_pos h]
          exact s_append (d := nwD p) rfl (g_tup (a_cons (g_var rfl) (a_cons (g_var rfl) a_nil)) (by simp)) rfl hl ⟨.d (oD p.lo), .d (oD p.hi), .d (qD p.ln.1), .d (qD p.ln.2), rfl⟩
        · rw [if_neg (by rw [h]; decide), List.append_nil]
    · rintro _ ⟨x10, x11, x12, x13, rfl⟩
      refine ⟨x10, x11, x12, x13, ?_⟩
      rw [List.length_map, List.take_length]
  clear x10 x11 x12 x13
  rintro _ ⟨x10, x11, x12, x13, rfl⟩
  -- due
  refine s_seq1 (P' := [.d sc, .own a (rsD S2), .d (tD U), .d (.str (ksS U.ks)), .d (.tuple (iD U.cs)), .d (.tuple (U.rows.map rwD)), .d (.tuple (iD st)), .d (.tuple (ps.map pD)), .d (.list (qsD ts)), x9, x10, x11, x12, x13, x14, x15, .d (untilD ps2), .d (.int (c : Int)), .d (.tuple (iD (unitI U.ks.length c 1))), .d (.list ((ps2.filter (inB 0)).map nwD)), .no]) ?_ ?_
  · unfold untilD
    cases e : ps2.filter (inB 0) with
    | nil => exact s_set (g_if (b := false) ((t_cmp (g_op (g_own rfl) (g_lst a_nil (by simp)) (o_ne (shp_nwl []) (shp_nwl [])))).eq rfl) (fun z => nomatch z) fun _ => g_non) (by simp) rfl
    | cons q r =>
      have a0 : atI ((q :: r).map nwD) 0 = some (nwD q) := atI_nat (i := 0) rfl
      have al : atI ((q :: r).map nwD) (-1) = some (nwD ((q :: r).getLastD q)) := atI_last (by
        rw [List.getLast?_map, List.getLastD_eq_getLast?]
        cases e : (q :: r).getLast? with
        | none => simp at e
        | some x => rfl)
      exact s_set (g_if (b := true) ((t_cmp (g_op (g_own rfl) (g_lst a_nil (by simp)) (o_ne (shp_nwl (q :: r)) (shp_nwl [])))).eq rfl) (fun _ => g_tup (a_cons (g_op (g_op (g_var rfl) g_int (o_ixqL a0)) g_int (o_ixqT (d := oD q.lo) rfl)) (a_cons (g_op (g_op (g_var rfl) (g_un g_int o_neg) (o_ixqL al)) g_int (o_ixqT (d := oD ((q :: r).getLastD q).hi) rfl)) a_nil)) (by simp)) fun z => nomatch z) (by simp) rfl
  obtain ⟨o2, ho2, hb2⟩ := hD.now (by simp [unitI]) hP2 hps2
  obtain ⟨o1, ho1, hb1⟩ := hD.now hsl hP hps
  have hbig := hD.nd.big hD.r4
  refine s_seq1 (P' := [.d sc, .own a (rsD S2), .d (tD U), .d (.str (ksS U.ks)), .d (.tuple (iD U.cs)), .d (.tuple (U.rows.map rwD)), .d (.tuple (iD st)), .d (.tuple (ps.map pD)), .d (.list (qsD ts)), x9, x10, x11, x12, x13, x14, x15, .d (untilD ps2), .d (.int (c : Int)), .d (.tuple (iD (unitI U.ks.length c 1))), .d (.list ((ps2.filter (inB 0)).map nwD)), .no]) ?_ ?_
  · refine s_if (b := false) (t_orF ((t_not (t_val (g_call (a_cons (g_call (a_cons (g_var rfl) (a_cons (g_var rfl) a_nil)) ⟨U, c, ps2, rfl, hD.nd, hcn, hP2, hps2, by omega, rfl⟩) (a_cons (g_var rfl) a_nil)) ⟨untilD ps2, rfl, alk_until ps2, rfl⟩))).eq rfl) ((t_cmp (g_op (g_op (g_var rfl) g_non o_isN) (g_op (g_call (a_cons (g_var rfl) a_nil) ⟨U, o2, rfl, hD.nd, hbig, hb2, rfl⟩) g_non o_isN) (o_ne rfl rfl))).eq ?_)) (fun z => nomatch z) fun _ => s_next rfl
    rw [until_none ho2, isN_o, eqv_bb]; rfl
  refine s_ret (g_andV (a := true) (b := true) (g_call (a_cons (g_call (a_cons (g_var rfl) (a_cons ((g_tup (a_cons g_int (a_cons g_int a_nil)) (by simp)).eq q_zero) a_nil)) ⟨ps, 0, o1, rfl, hB, qb_zero, ho1, rfl⟩) (a_cons (g_call (a_cons (g_var rfl) a_nil) ⟨U, o1, rfl, hD.nd, hbig, hb1, rfl⟩) a_nil)) ⟨oD o1, rfl, alk_o o1, rfl⟩) fun _ => (g_op (g_cb (a_cons (g_var rfl) a_nil) b_lenL) g_int o_lt).eq ?_) rfl
  rw [List.length_map, decide_eq_true]
  omega
end
end Cp
end
/-! ## CEnd -/
set_option Elab.async false
set_option linter.all false
set_option autoImplicit false
set_option maxRecDepth 100000
set_option maxHeartbeats 0
namespace Cp
open PySem PySem.Spec PyProof.Rows L2
def spLaw (K : PySem.W.Frag) : Sp := fun vs H Q _ => ∃ (a : Addr) (ns : List Int), vs = [.ref a] ∧ SqL K H a (ns.map V.int) ∧ ∀ v H', v = V.bl true → Q v H'
theorem one_arg {K : PySem.W.Frag} {x qual : Str} {params : Arguments} {body : List Stmt} {scope : Scope} {kws : List (Str × V)} {f : Addr} {fd : FuncData} (F : FunD K x qual params body scope [] kws f fd) {y : Str}
    (h : ∀ (kV doc pm : Value) (an : Option Addr) (cdv ct v : Value), bindArgs (PySem.W.fnOf x qual params body scope .none kV doc pm an cdv ct) ⟨[v], []⟩ = pure [(y, v)]) (s : Shared) (v : Value) : BindsTo s fd ⟨[v], []⟩ [(y, v)] := by
  obtain ⟨oc, od, dV, kV, doc, pm, an, cdv, ct, osl, rfl, lk, hcd, hD, hK⟩ := F.ex
  rcases hD with ⟨_, rfl⟩ | ⟨e, _⟩
  · exact .of_eq (h kV doc pm an cdv ct v)
  · exact absurd rfl e
theorem facts {P : Program} {w : World} {K : PySem.W.Frag} {h : Heap} {mg : Str → Option Value} {f : Addr} (X : K.In h) (G : h.Ns mainGlobals mg) (hfa : mg ("law" : Str) = some (.ref f)) (c : He.SaysX fa fn [] [] ex w h K) :
    ∃ fd : FuncData, (∀ (s : Shared) (v : Value), BindsTo s fd ⟨[v], []⟩ [("_law_script", v)]) ∧ ∀ base : Heap, K.In base → base.Ns mainGlobals mg → FnOk P w K mg base CX0 140 f fd ["_law_script"] (spLaw K) := by
  letI : KFix := ⟨K⟩
  haveI : KIs K := ⟨rfl⟩
  obtain ⟨T⟩ := txt_mk X G c
  have e := T.g_law
  rw [hfa] at e
  cases e
  refine ⟨T.fd 56, fun s v => one_arg (T.F 56 d_law rfl) (fun _ _ _ _ _ _ _ => rfl) s v, fun base _ _ => ?_⟩
  refine (ok_law (Pg := P) (w := w) (base := base) T).imp fun vs H Q E hs => ?_
  obtain ⟨a, ns, rfl, q, hq⟩ := hs
  refine ⟨H, [scD ns], .bool true, Same.refl _, .cons (.scr ?_) .nil, ⟨ns, rfl, rfl⟩, fun v F' H' _ rv => ?_⟩
  · rw [dec_enc]; exact q
  · cases rv
    exact hq _ _ rfl
end Cp
open PySem PySem.W PySem.Calls PyProof.Rows
theorem PySem.Challenge.cw_costpapers_k08_whole_cost_pieces_holds : PySem.Challenge.rw_costpapers_k08_whole_cost_pieces.Holds := by
  w_on; o_law
  refine HandSHeadRun.head_any (r := OpenLaw.row PySem.Challenge.rw_costpapers_k08_whole_cost_pieces) (q := view (OpenLaw.row PySem.Challenge.rw_costpapers_k08_whole_cost_pieces).prog [61]) (H := Cp.hk) (ob := Cp.ob) (M := 6000) (loose := Cp.loose) (d := HandSHeadRun.topDef (OpenLaw.row PySem.Challenge.rw_costpapers_k08_whole_cost_pieces).prog 61) (kwd := []) Cp.ob_eq
    (by kernel_rfl) (fun s => by kernel_rfl) Cp.run (by kernel_rfl) (by kernel_rfl) (by kernel_rfl) (by rfl) (by first | assumption | decide +kernel) (by decide +kernel) ⟨rfl, rfl, rfl, rfl, rfl, by decide +kernel⟩ ?hw ?hc
  case hw => w_witness2
  case hc =>
    refine L2.walk_ofE (l := PySem.Challenge.rw_costpapers_k08_whole_cost_pieces) (n := 63) (k := 140) (x := "_law_script") (CX := L2.CX0) rfl (by decide) (by kernel_rfl) ⟨rfl, by decide, by decide⟩ ?F (fun _ _ _ _ z => z)
    intro w mg fa h Y G hmg0
    obtain ⟨K, KX, c⟩ := Y
    have hmg : mg ("law" : PySem.Str) = some (.ref fa) := by
      have e : (HandSHeadRun.topDef (OpenLaw.row PySem.Challenge.rw_costpapers_k08_whole_cost_pieces).prog 61).name = ("law" : PySem.Str) := by kernel_rfl
      rw [← e]
      exact hmg0
    obtain ⟨fd, hb, hF⟩ := Cp.facts (P := (PySem.Challenge.rw_costpapers_k08_whole_cost_pieces).prog) (w := w) KX G hmg c
    exact ⟨K, fd, Cp.spLaw K, KX, hb, fun H a ns hl _ hS => ⟨a, ns, rfl, hS, fun _ _ z => z⟩, hF⟩
