import PyProof.Rows.All
import Wide.All
import OpenK.AllK
import Wide.FinOn
import HandS.ForMost
import HandS.ForExc
import HandS.Evl
import HandS.Wide
import HandS.IsInst
import HandS.Walk
import HandS.NoneIn
import HandS.SortInts
import HandS.SortRule
import HandS.Style
import HandS.EndBits
import HandS.Iter
import HandS.TupSets
import PyProof.Rows.RuleB_pow
import HandS.Conv
import HandS.Lambda
import HandS.SortKw
import KE.SortKeyHeap
import HandS.EndTab
import KE.KNest
import HandS.ExcIs
import HandS.ExcOwn
import HandS.HotCalls
import PySem.Challenge.RW_ringsteps_k07_one_reason
set_option Elab.async false
set_option linter.all false
set_option maxRecDepth 100000
set_option maxHeartbeats 2000000
namespace RS
/-! ### sums -/
def sumN (f : Nat → Int) : Nat → Int
  | 0 => 0
  | n + 1 => sumN f n + f n
theorem sumN_congr {f g : Nat → Int} : ∀ {n : Nat}, (∀ i, i < n → f i = g i) → sumN f n = sumN g n
  | 0, _ => rfl
  | n + 1, h => by
    show sumN f n + f n = sumN g n + g n
    rw [sumN_congr (n := n) (fun i hi => h i (by omega)), h n (by omega)]
theorem sumN_add (f g : Nat → Int) : ∀ n : Nat, sumN (fun i => f i + g i) n = sumN f n + sumN g n
  | 0 => rfl
  | n + 1 => by
    have := sumN_add f g n
    show sumN (fun i => f i + g i) n + (f n + g n) = sumN f n + f n + (sumN g n + g n)
    omega
theorem sumN_sub (f g : Nat → Int) : ∀ n : Nat, sumN (fun i => f i - g i) n = sumN f n - sumN g n
  | 0 => rfl
  | n + 1 => by
    have := sumN_sub f g n
    show sumN (fun i => f i - g i) n + (f n - g n) = sumN f n + f n - (sumN g n + g n)
    omega
theorem sumN_const (c : Int) : ∀ n : Nat, sumN (fun _ => c) n = (n : Int) * c
  | 0 => by simp [sumN]
  | n + 1 => by
    have := sumN_const c n
    show sumN (fun _ => c) n + c = _
    grind
theorem sumN_le {f g : Nat → Int} : ∀ {n : Nat}, (∀ i, i < n → f i ≤ g i) → sumN f n ≤ sumN g n
  | 0, _ => Int.le_refl _
  | n + 1, h => by
    have h1 := sumN_le (n := n) (fun i hi => h i (by omega))
    have h2 := h n (by omega)
    show sumN f n + f n ≤ sumN g n + g n
    omega
/-- from the other end -/
theorem sumN_front (f : Nat → Int) : ∀ n : Nat, sumN f (n + 1) = f 0 + sumN (fun i => f (i + 1)) n
  | 0 => by simp [sumN]
  | n + 1 => by
    have h := sumN_front f n
    show sumN f (n + 1) + f (n + 1) = f 0 + (sumN (fun i => f (i + 1)) n + f (n + 1))
    omega
theorem sumN_rev (f : Nat → Int) : ∀ n : Nat, sumN (fun i => f (n - 1 - i)) n = sumN f n
  | 0 => rfl
  | n + 1 => by
    rw [sumN_front]
    show f (n + 1 - 1 - 0) + sumN (fun i => f (n + 1 - 1 - (i + 1))) n = sumN f n + f n
    have h : sumN (fun i => f (n + 1 - 1 - (i + 1))) n = sumN (fun i => f (n - 1 - i)) n := sumN_congr fun i hi => by
      have : n + 1 - 1 - (i + 1) = n - 1 - i := by omega
      rw [this]
    rw [h, sumN_rev f n]
    have : n + 1 - 1 - 0 = n := by omega
    rw [this]
    omega
theorem sumN_split (f : Nat → Int) (a : Nat) : ∀ b : Nat, sumN f (a + b) = sumN f a + sumN (fun i => f (a + i)) b
  | 0 => by simp [sumN]
  | b + 1 => by
    have h := sumN_split f a b
    show sumN f (a + b) + f (a + b) = sumN f a + (sumN (fun i => f (a + i)) b + f (a + b))
    omega
/-! ### sums of quotients -/
/-- the sum of (a i + b) / m for i below n -/
def S (n : Nat) (m a b : Int) : Int := sumN (fun i => (a * i + b) / m) n
theorem tri : ∀ n : Nat, sumN (fun i => (i : Int)) n = (n : Int) * (n - 1) / 2
  | 0 => by simp [sumN]
  | n + 1 => by
    have h := tri n
    show sumN (fun i => (i : Int)) n + (n : Int) = _
    rw [h]
    have e : ((n + 1 : Nat) : Int) * (((n + 1 : Nat) : Int) - 1) = (n : Int) * (n - 1) + 2 * n := by grind
    rw [e, Int.add_mul_ediv_left _ _ (by omega)]
theorem sumN_mul (c : Int) (f : Nat → Int) : ∀ n : Nat, sumN (fun i => c * f i) n = c * sumN f n
  | 0 => by simp [sumN]
  | n + 1 => by
    have h := sumN_mul c f n
    show sumN (fun i => c * f i) n + c * f n = c * (sumN f n + f n)
    grind
theorem term_red (m a b i : Int) (hm : 0 < m) : (a * i + b) / m = (a / m) * i + b / m + ((a % m) * i + b % m) / m := by
  have h1 := Int.emod_add_mul_ediv a m
  have h2 := Int.emod_add_mul_ediv b m
  have h : a * i + b = ((a % m) * i + b % m) + m * ((a / m) * i + b / m) := by grind
  rw [h, Int.add_mul_ediv_left _ _ (by omega)]
  omega
/-- the step that takes whole multiples out -/
theorem S_red (n : Nat) (m a b : Int) (hm : 0 < m) : S n m a b = (n : Int) * (n - 1) / 2 * (a / m) + (n : Int) * (b / m) + S n m (a % m) (b % m) := by
  unfold S
  rw [sumN_congr (fun i _ => term_red m a b i hm), sumN_add, sumN_add, sumN_mul, tri, sumN_const]
  grind
theorem S_redb (n : Nat) (m a b : Int) (hm : 0 < m) : S n m a b = (n : Int) * (b / m) + S n m a (b % m) := by
  unfold S
  have : ∀ i : Nat, i < n → (a * i + b) / m = b / m + (a * i + b % m) / m := fun i _ => by
    have h2 := Int.emod_add_mul_ediv b m
    have h : a * (i : Int) + b = (a * i + b % m) + m * (b / m) := by omega
    rw [h, Int.add_mul_ediv_left _ _ (by omega)]
    have e : (a * (i : Int) + b % m + m * (b / m)) = a * i + b := by omega
    omega
  rw [sumN_congr this, sumN_add, sumN_const]
theorem S_zero (n : Nat) (m a b : Int) (hm : 0 < m) (ha : 0 ≤ a) (hb : 0 ≤ b) (h : a * n + b < m) : S n m a b = 0 := by
  unfold S
  rw [sumN_congr (g := fun _ => 0), sumN_const]
  · simp
  · intro i hi
    have h1 : a * (i : Int) ≤ a * n := Int.mul_le_mul_of_nonneg_left (by omega) ha
    have h2 : 0 ≤ a * (i : Int) := Int.mul_nonneg ha (by omega)
    exact Int.ediv_eq_zero_of_lt (by omega) (by omega)
/-- the sum, from the other side: by how many of the second number -/
def T (n : Nat) (m a b : Int) : Int := sumN (fun j => (a * n + b - (j + 1) * m) / a) ((a * n + b) / m).toNat
theorem T_step (n : Nat) (m a b : Int) (ha : 0 < a) (ham : a < m) (hb : 0 ≤ b) : T (n + 1) m a b = T n m a b + (a * n + b) / m := by
  have hm : 0 < m := by omega
  have x0 : 0 ≤ a * (n : Int) + b := by have := Int.mul_nonneg (Int.le_of_lt ha) (Int.natCast_nonneg n); omega
  have hq0 : 0 ≤ (a * (n : Int) + b) / m := Int.ediv_nonneg x0 (by omega)
  generalize hN : ((a * (n : Int) + b) / m).toNat = N
  have hNq : (N : Int) = (a * (n : Int) + b) / m := by omega
  have d1 := Int.emod_add_mul_ediv (a * (n : Int) + b) m
  have d2 := Int.emod_nonneg (a * (n : Int) + b) (show m ≠ 0 by omega)
  have d3 := Int.emod_lt_of_pos (a * (n : Int) + b) hm
  rw [← hNq] at d1
  have big : a * ((n + 1 : Nat) : Int) + b = a * n + b + a := by grind
  have termEq : ∀ j : Nat, (a * ((n + 1 : Nat) : Int) + b - ((j : Int) + 1) * m) / a = (a * n + b - ((j : Int) + 1) * m) / a + 1 := fun j => by
    have e : a * ((n + 1 : Nat) : Int) + b - ((j : Int) + 1) * m = (a * n + b - ((j : Int) + 1) * m) + a * 1 := by rw [big]; omega
    rw [e, Int.add_mul_ediv_left _ _ (by omega)]
  have sumEq : sumN (fun j => (a * ((n + 1 : Nat) : Int) + b - ((j : Int) + 1) * m) / a) N = T n m a b + N := by
    rw [sumN_congr (fun j _ => termEq j), sumN_add, sumN_const]
    unfold T
    rw [hN]
    omega
  have mul1 : m * ((N : Int) + 1) = m * N + m := by grind
  have mul2 : m * ((N : Int) + 2) = m * N + 2 * m := by grind
  have mul3 : ((N : Int) + 1) * m = m * N + m := by grind
  have mul4 : ((N : Int) + 2) * m = m * N + 2 * m := by grind
  have mul5 : (N : Int) * m = m * N := Int.mul_comm _ _
  by_cases hc : a * (n : Int) + b + a < m * ((N : Int) + 1)
  · -- N stays
    have q : (a * ((n + 1 : Nat) : Int) + b) / m = N := by
      rw [big]
      apply Int.le_antisymm
      · have : (a * (n : Int) + b + a) / m < (N : Int) + 1 := Int.ediv_lt_of_lt_mul hm (by omega)
        omega
      · exact Int.le_ediv_of_mul_le hm (by omega)
    unfold T
    rw [q]
    have : ((N : Int)).toNat = N := by omega
    have s := sumEq
    unfold T at s
    rw [this, s, hN, hNq]
  · have q : (a * ((n + 1 : Nat) : Int) + b) / m = (N : Int) + 1 := by
      rw [big]
      apply Int.le_antisymm
      · have : (a * (n : Int) + b + a) / m < (N : Int) + 2 := Int.ediv_lt_of_lt_mul hm (by omega)
        omega
      · exact Int.le_ediv_of_mul_le hm (by omega)
    have e1 : T (n + 1) m a b = sumN (fun j => (a * ((n + 1 : Nat) : Int) + b - ((j : Int) + 1) * m) / a) (N + 1) := by
      unfold T
      rw [q]
      have : ((N : Int) + 1).toNat = N + 1 := by omega
      rw [this]
    rw [e1]
    show sumN (fun j => (a * ((n + 1 : Nat) : Int) + b - ((j : Int) + 1) * m) / a) N + (a * ((n + 1 : Nat) : Int) + b - ((N : Int) + 1) * m) / a = _
    rw [sumEq, termEq]
    have z : (a * (n : Int) + b - ((N : Int) + 1) * m) / a = -1 := by
      apply Int.le_antisymm
      · have : (a * (n : Int) + b - ((N : Int) + 1) * m) / a < 0 := Int.ediv_lt_of_lt_mul ha (by omega)
        omega
      · exact Int.le_ediv_of_mul_le ha (by omega)
    rw [z, ← hNq]
    omega
theorem S_T (m a b : Int) (ha : 0 < a) (ham : a < m) (hb : 0 ≤ b) (hbm : b < m) : ∀ n : Nat, S n m a b = T n m a b
  | 0 => by
    have : (a * ((0 : Nat) : Int) + b) / m = 0 := by
      have e : a * ((0 : Nat) : Int) + b = b := by simp
      rw [e]
      exact Int.ediv_eq_zero_of_lt hb hbm
    unfold S T
    rw [this]
    rfl
  | n + 1 => by
    rw [T_step n m a b ha ham hb, ← S_T m a b ha ham hb hbm n]
    rfl
/-- the step that changes sides -/
theorem S_flip (n : Nat) (m a b : Int) (ha : 0 < a) (ham : a < m) (hb : 0 ≤ b) (hbm : b < m) : S n m a b = S ((a * n + b) / m).toNat a m ((a * n + b) % m) := by
  rw [S_T m a b ha ham hb hbm n]
  have hm : 0 < m := by omega
  have x0 : 0 ≤ a * (n : Int) + b := by have := Int.mul_nonneg (Int.le_of_lt ha) (Int.natCast_nonneg n); omega
  have hq0 : 0 ≤ (a * (n : Int) + b) / m := Int.ediv_nonneg x0 (by omega)
  unfold T S
  generalize hN : ((a * (n : Int) + b) / m).toNat = N
  have hNq : (N : Int) = (a * (n : Int) + b) / m := by omega
  have d1 := Int.emod_add_mul_ediv (a * (n : Int) + b) m
  rw [← hNq] at d1
  rw [← sumN_rev]
  refine sumN_congr fun i hi => ?_
  have e : ((N - 1 - i : Nat) : Int) = (N : Int) - 1 - i := by omega
  rw [e]
  congr 1
  grind
/-! ### how many marks stand up to a place -/
def hit (p s x : Int) (k : Nat) : Int := if (k : Int) * s % p ≤ x then 1 else 0
def cnt (p s : Int) (n : Nat) (x : Int) : Int := sumN (hit p s x) n
theorem hit_q (p s x : Int) (k : Nat) (hx : 0 ≤ x) (hxp : x < p) : (s * k + 0) / p - (s * k + (-x - 1)) / p = hit p s x k := by
  have hp : 0 < p := by omega
  unfold hit
  have c : (k : Int) * s = s * k := Int.mul_comm _ _
  rw [c]
  generalize s * (k : Int) = y
  have d1 := Int.emod_add_mul_ediv y p
  have d2 := Int.emod_nonneg y (show p ≠ 0 by omega)
  have d3 := Int.emod_lt_of_pos y hp
  generalize hr : y % p = r at *
  generalize hq : y / p = q at *
  have e : y + (-x - 1) = (r - x - 1) + p * q := by omega
  rw [e, Int.add_mul_ediv_left _ _ (by omega), Int.add_zero, hq]
  by_cases h : r ≤ x
  · rw [if_pos h]
    have : (r - x - 1) / p = -1 := by
      apply Int.le_antisymm
      · have : (r - x - 1) / p < 0 := Int.ediv_lt_of_lt_mul hp (by omega)
        omega
      · exact Int.le_ediv_of_mul_le hp (by omega)
    omega
  · rw [if_neg h]
    have : (r - x - 1) / p = 0 := Int.ediv_eq_zero_of_lt (by omega) (by omega)
    omega
theorem cnt_S (p s : Int) (n : Nat) (x : Int) (hx : 0 ≤ x) (hxp : x < p) : S n p s 0 - S n p s (-x - 1) = cnt p s n x := by
  unfold S cnt
  rw [← sumN_sub]
  exact sumN_congr fun k _ => hit_q p s x k hx hxp
/-- the law's own sum: of numbers that are not below 0 -/
theorem cnt_S' (p s : Int) (n : Nat) (x : Int) (hx : 0 ≤ x) (hxp : x < p) : n + S n p s 0 - S n p s (p - x - 1) = cnt p s n x := by
  rw [← cnt_S p s n x hx hxp]
  have : S n p s (p - x - 1) = n + S n p s (-x - 1) := by
    unfold S
    have : ∀ i : Nat, i < n → (s * i + (p - x - 1)) / p = 1 + (s * i + (-x - 1)) / p := fun i _ => by
      have e : s * (i : Int) + (p - x - 1) = (s * i + (-x - 1)) + p * 1 := by omega
      rw [e, Int.add_mul_ediv_left _ _ (by omega)]
      omega
    rw [sumN_congr this, sumN_add, sumN_const]
    omega
  omega
theorem hit_nn (p s x : Int) (k : Nat) : 0 ≤ hit p s x k ∧ hit p s x k ≤ 1 := by
  unfold hit
  split <;> omega
theorem cnt_nn (p s : Int) (n : Nat) (x : Int) : 0 ≤ cnt p s n x := by
  have h := sumN_le (f := fun _ => 0) (g := hit p s x) (n := n) fun i _ => (hit_nn p s x i).1
  rw [sumN_const] at h
  simpa [cnt] using h
theorem cnt_le (p s : Int) (n : Nat) (x : Int) : cnt p s n x ≤ n := by
  have h := sumN_le (f := hit p s x) (g := fun _ => 1) (n := n) fun i _ => (hit_nn p s x i).2
  rw [sumN_const] at h
  simpa [cnt] using h
theorem cnt_mono (p s : Int) (n : Nat) {x y : Int} (h : x ≤ y) : cnt p s n x ≤ cnt p s n y := by
  refine sumN_le fun i _ => ?_
  unfold hit
  split <;> split <;> omega
theorem cnt_neg (p s : Int) (n : Nat) (x : Int) (hp : 0 < p) (h : x < 0) : cnt p s n x = 0 := by
  unfold cnt
  rw [sumN_congr (g := fun _ => 0), sumN_const]
  · simp
  · intro i _
    unfold hit
    have := Int.emod_nonneg ((i : Int) * s) (show p ≠ 0 by omega)
    rw [if_neg (by omega)]
theorem cnt_all (p s : Int) (n : Nat) (x : Int) (hp : 0 < p) (h : p - 1 ≤ x) : cnt p s n x = n := by
  unfold cnt
  rw [sumN_congr (g := fun _ => 1), sumN_const]
  · simp
  · intro i _
    unfold hit
    have := Int.emod_lt_of_pos ((i : Int) * s) hp
    rw [if_pos (by omega)]
end RS
namespace RS
/-! ### the greatest common number -/
def G (p s : Int) : Int := (Int.gcd p s : Nat)
def top (p s : Int) : Int := p / G p s
theorem G_pos {p s : Int} (hp : 0 < p) : 0 < G p s := by
  unfold G
  have : 0 < Int.gcd p s := Int.gcd_pos_of_ne_zero_left _ (by omega)
  omega
theorem G_dl (p s : Int) : G p s ∣ p := Int.gcd_dvd_left ..
theorem G_dr (p s : Int) : G p s ∣ s := Int.gcd_dvd_right ..
theorem G_step (a b : Int) (hb : 0 < b) : G b (a % b) = G a b := by
  unfold G
  have : Int.gcd b (a % b) = Int.gcd a b := by
    rw [Int.gcd_comm]
    have h := Int.emod_add_mul_ediv a b
    have e : a % b = a + b * (-(a / b)) := by grind
    rw [e, Int.gcd_add_mul_left_left]
  rw [this]
theorem G_zero {a : Int} (h : 0 ≤ a) : G a 0 = a := by
  unfold G
  rw [Int.gcd_zero_right]
  omega
theorem G_le {p s : Int} (hp : 0 < p) : G p s ≤ p := Int.le_of_dvd hp (G_dl p s)
theorem top_mul {p s : Int} (hp : 0 < p) : G p s * top p s = p := by
  unfold top
  exact Int.mul_ediv_cancel' (G_dl p s)
theorem top_pos {p s : Int} (hp : 0 < p) : 0 < top p s := by
  have h1 := top_mul (s := s) hp
  have h2 := G_pos (s := s) hp
  rcases Int.lt_trichotomy 0 (top p s) with h | h | h
  · exact h
  · rw [← h] at h1; omega
  · have := Int.mul_neg_of_pos_of_neg h2 h; omega
theorem top_le {p s : Int} (hp : 0 < p) : top p s ≤ p := by
  have h1 := top_mul (s := s) hp
  have h2 := G_pos (s := s) hp
  have h3 := top_pos (s := s) hp
  have : 1 * top p s ≤ G p s * top p s := Int.mul_le_mul_of_nonneg_right (by omega) (by omega)
  omega
theorem step_mul (p s : Int) : G p s * (s / G p s) = s := Int.mul_ediv_cancel' (G_dr p s)
/-- what both are divided by has nothing in common -/
theorem coprime_of {p s : Int} (hp : 0 < p) : Int.gcd (top p s) (s / G p s) = 1 := by
  unfold top G
  have : 0 < Int.gcd p s := Int.gcd_pos_of_ne_zero_left _ (by omega)
  exact Int.gcd_ediv_gcd_ediv_gcd (Int.gcd_pos_of_ne_zero_left _ (by omega))
theorem dvd_of_coprime {m a d : Int} (h : Int.gcd m a = 1) (hd : m ∣ d * a) : m ∣ d := by
  have h1 : m ∣ (Int.gcd m a : Int) * d := Int.dvd_gcd_mul_iff_dvd_mul.mpr (by rw [Int.mul_comm]; exact hd)
  rw [h] at h1
  simpa using h1
/-- two marks at one place are whole turns apart -/
theorem same_place {p s i j : Int} (hp : 0 < p) (h : i * s % p = j * s % p) : top p s ∣ (i - j) := by
  have h0 : p ∣ (i - j) * s := by
    rw [Int.sub_mul]
    exact Int.dvd_of_emod_eq_zero (Int.emod_eq_emod_iff_emod_sub_eq_zero.mp h)
  have h1 : G p s * top p s ∣ G p s * ((i - j) * (s / G p s)) := by
    rw [top_mul hp]
    have := step_mul p s
    have e : G p s * ((i - j) * (s / G p s)) = (i - j) * s := by grind
    rw [e]
    exact h0
  have h2 : top p s ∣ (i - j) * (s / G p s) := Int.dvd_of_mul_dvd_mul_left (by have := G_pos (s := s) hp; omega) h1
  exact dvd_of_coprime (coprime_of hp) h2
theorem whole_turn {p s d : Int} (hp : 0 < p) (h : top p s ∣ d) : p ∣ d * s := by
  obtain ⟨c, rfl⟩ := h
  refine ⟨c * (s / G p s), ?_⟩
  have h1 := top_mul (s := s) hp
  have h2 := step_mul p s
  have : top p s * c * s = top p s * c * (G p s * (s / G p s)) := by rw [h2]
  rw [this]
  have : p * (c * (s / G p s)) = (G p s * top p s) * (c * (s / G p s)) := by rw [h1]
  rw [this]
  grind
theorem marks_apart {p s i j : Int} (hp : 0 < p) (hi : 0 ≤ i) (hit : i < top p s) (hj : 0 ≤ j) (hjt : j < top p s) (h : i * s % p = j * s % p) : i = j := by
  obtain ⟨c, hc⟩ := same_place hp h
  have ht := top_pos (s := s) hp
  rcases Int.lt_trichotomy c 0 with h | h | h
  · have : top p s * c ≤ top p s * (-1) := Int.mul_le_mul_of_nonneg_left (by omega) (by omega)
    omega
  · subst h; omega
  · have : top p s * 1 ≤ top p s * c := Int.mul_le_mul_of_nonneg_left (by omega) (by omega)
    omega
/-! ### the inverse -/
/-- what the division with remainder keeps -/
structure Eu (a m one other first second : Int) : Prop where
  f : (first * a - one) % m = 0
  g : (second * a - other) % m = 0
  o : 0 ≤ one
  r : 0 ≤ other
  q : Int.gcd one other = Int.gcd m a
  /-- how great they may be -/
  b : (second.natAbs : Int) * one + (first.natAbs : Int) * other ≤ m
theorem Eu.start {a m : Int} (hm : 0 < m) : Eu a m m (a % m) 0 1 where
  f := by simp
  g := by
    have h := Int.emod_add_mul_ediv a m
    have e : 1 * a - a % m = m * (a / m) := by omega
    rw [e]; exact Int.mul_emod_right ..
  o := by omega
  r := Int.emod_nonneg _ (by omega)
  q := by
    have := G_step a m hm
    unfold G at this
    rw [Int.gcd_comm m a]
    omega
  b := by simp
theorem Eu.next {a m one other first second : Int} (h : Eu a m one other first second) (ho : 0 < other) :
    Eu a m other (one - one / other * other) second (first - one / other * second) := by
  obtain ⟨f, g, o, r, q, b⟩ := h
  have hd := Int.emod_add_mul_ediv one other
  have h1 := Int.emod_nonneg one (show other ≠ 0 by omega)
  have e : one - one / other * other = one % other := by grind
  have t0 : 0 ≤ one / other := Int.ediv_nonneg o r
  refine ⟨g, ?_, r, by omega, ?_, ?_⟩
  · have e2 : (first - one / other * second) * a - (one - one / other * other) = (first * a - one) - (one / other) * (second * a - other) := by grind
    rw [e2]
    obtain ⟨x, hx⟩ := Int.dvd_of_emod_eq_zero f
    obtain ⟨y, hy⟩ := Int.dvd_of_emod_eq_zero g
    rw [hx, hy]
    have e3 : m * x - one / other * (m * y) = m * (x - one / other * y) := by grind
    rw [e3]; exact Int.mul_emod_right ..
  · rw [e, ← q]
    have := G_step one other ho
    unfold G at this
    omega
  · have k : ((first - one / other * second).natAbs : Int) ≤ first.natAbs + one / other * second.natAbs := by
      have h2 : (one / other * second).natAbs = (one / other).natAbs * second.natAbs := Int.natAbs_mul ..
      have h3 : ((one / other).natAbs : Int) = one / other := Int.natAbs_of_nonneg t0
      have h4 : (((one / other * second).natAbs : Nat) : Int) = one / other * second.natAbs := by rw [h2, Int.natCast_mul, h3]
      omega
    have k2 : ((first - one / other * second).natAbs : Int) * other ≤ (first.natAbs + one / other * second.natAbs) * other := Int.mul_le_mul_of_nonneg_right k r
    have k3 : (first.natAbs + one / other * (second.natAbs : Int)) * other + second.natAbs * (one - one / other * other) = second.natAbs * one + first.natAbs * other := by grind
    omega
theorem Eu.done {a m one first second : Int} (h : Eu a m one 0 first second) (hm : 0 < m) (hg : Int.gcd m a = 1) : (first % m * a) % m = 1 % m := by
  have q := h.q
  rw [Int.gcd_zero_right, hg] at q
  have : one = 1 := by have := h.o; omega
  subst this
  have f := h.f
  have := (Int.emod_eq_emod_iff_emod_sub_eq_zero (m := first * a) (n := m) (k := 1)).mpr f
  rw [← this, Int.mul_emod, Int.emod_emod, ← Int.mul_emod]
/-- r is the inverse: the mark of a place that is a multiple -/
theorem mark_at_place {p s r x : Int} (hp : 0 < p) (hr : (r * (s / G p s)) % top p s = 1 % top p s) (hx : 0 ≤ x) (hxp : x < p) (hg : x % G p s = 0) :
    (x / G p s * r % top p s) * s % p = x := by
  have ht := top_pos (s := s) hp
  have hG := G_pos (s := s) hp
  have h1 := top_mul (s := s) hp
  have h2 := step_mul p s
  have h3 : G p s * (x / G p s) = x := Int.mul_ediv_cancel' (Int.dvd_of_emod_eq_zero hg)
  generalize hm : x / G p s * r % top p s = m
  have d1 := Int.emod_add_mul_ediv (x / G p s * r) (top p s)
  rw [hm] at d1
  -- r a = 1 + top c
  obtain ⟨c, hc⟩ : top p s ∣ (r * (s / G p s) - 1) := Int.dvd_of_emod_eq_zero (Int.emod_eq_emod_iff_emod_sub_eq_zero.mp hr)
  have key : m * s = x + p * (x / G p s * c - (x / G p s * r / top p s) * (s / G p s)) := by
    have e1 : m = x / G p s * r - top p s * (x / G p s * r / top p s) := by omega
    have e2 : r * (s / G p s) = 1 + top p s * c := by omega
    generalize x / G p s * r / top p s = w at *
    generalize hb : s / G p s = b at *
    generalize hy : x / G p s = y at *
    generalize top p s = t at *
    generalize G p s = g at *
    rw [e1, ← h2, ← h1]
    have : (y * r - t * w) * (g * b) = g * y * (r * b) - g * t * w * b := by grind
    rw [this, e2]
    grind
  rw [key, Int.add_mul_emod_self_left]
  exact Int.emod_eq_of_lt hx hxp
theorem place_mult {p s k : Int} (hp : 0 < p) : (k * s % p) % G p s = 0 := by
  have h1 : G p s ∣ k * s := Int.dvd_mul_of_dvd_right (G_dr p s)
  have h2 : G p s ∣ p := G_dl p s
  have h := Int.emod_add_mul_ediv (k * s) p
  have : k * s % p = k * s - p * (k * s / p) := by omega
  rw [this]
  exact Int.emod_eq_zero_of_dvd (Int.dvd_sub h1 (Int.dvd_mul_of_dvd_left h2))
theorem mark_back {p s r k : Int} (hp : 0 < p) (hr : (r * (s / G p s)) % top p s = 1 % top p s) (hk : 0 ≤ k) (hkt : k < top p s) :
    (k * s % p) / G p s * r % top p s = k := by
  have ht := top_pos (s := s) hp
  refine marks_apart (s := s) hp (Int.emod_nonneg _ (by omega)) (Int.emod_lt_of_pos _ ht) hk hkt ?_
  exact mark_at_place hp hr (Int.emod_nonneg _ (by omega)) (Int.emod_lt_of_pos _ hp) (place_mult hp)
/-! ### ranks -/
def one_ (p s x : Int) (k : Nat) : Int := if (k : Int) * s % p = x then 1 else 0
theorem cnt_diff (p s : Int) (n : Nat) (x : Int) : cnt p s n x - cnt p s n (x - 1) = sumN (one_ p s x) n := by
  unfold cnt
  rw [← sumN_sub]
  refine sumN_congr fun k _ => ?_
  unfold hit one_
  split <;> split <;> split <;> omega
theorem sumN_nn {f : Nat → Int} {n : Nat} (h : ∀ i, i < n → 0 ≤ f i) : 0 ≤ sumN f n := by
  have := sumN_le (f := fun _ => 0) (g := f) (n := n) h
  rw [sumN_const] at this
  simpa using this
theorem sumN_ge {f : Nat → Int} : ∀ {n k : Nat}, (∀ i, i < n → 0 ≤ f i) → k < n → f k ≤ sumN f n
  | n + 1, k, h, hk => by
    show f k ≤ sumN f n + f n
    by_cases e : k = n
    · subst e
      have := sumN_nn (f := f) (n := k) fun i hi => h i (by omega)
      omega
    · have := sumN_ge (f := f) (n := n) (k := k) (fun i hi => h i (by omega)) (by omega)
      have := h n (by omega)
      omega
theorem one_nn (p s x : Int) (k : Nat) : 0 ≤ one_ p s x k := by unfold one_; split <;> omega
theorem one_apart {p s x : Int} (hp : 0 < p) : ∀ {n : Nat}, (n : Int) ≤ top p s → sumN (one_ p s x) n ≤ 1
  | 0, _ => by simp [sumN]
  | n + 1, h => by
    show sumN (one_ p s x) n + one_ p s x n ≤ 1
    by_cases e : (n : Int) * s % p = x
    · have z : sumN (one_ p s x) n = 0 := by
        rw [sumN_congr (g := fun _ => 0), sumN_const]
        · simp
        · intro i hi
          unfold one_
          rw [if_neg]
          intro e2
          have := marks_apart (p := p) (s := s) (i := i) (j := n) hp (by omega) (by omega) (by omega) (by omega) (e2.trans e.symm)
          omega
      rw [z]
      unfold one_
      rw [if_pos e]
      omega
    · have := one_apart (s := s) (x := x) hp (n := n) (by omega)
      unfold one_
      rw [if_neg e]
      unfold one_ at this
      omega
theorem one_some {p s x : Int} : ∀ {n : Nat}, 0 < sumN (one_ p s x) n → ∃ k : Nat, k < n ∧ (k : Int) * s % p = x
  | 0, h => by simp [sumN] at h
  | n + 1, h => by
    by_cases e : (n : Int) * s % p = x
    · exact ⟨n, by omega, e⟩
    · have h' : 0 < sumN (one_ p s x) n + one_ p s x n := h
      have z : one_ p s x n = 0 := by unfold one_; rw [if_neg e]
      obtain ⟨k, h1, h2⟩ := one_some (p := p) (s := s) (x := x) (n := n) (by omega)
      exact ⟨k, by omega, h2⟩
/-- behind a search: the least place up to which more than t stand holds a mark -/
theorem found_place {p s x t : Int} {n : Nat} (hp : 0 < p) (hn : (n : Int) ≤ top p s) (h1 : t < cnt p s n x) (h2 : cnt p s n (x - 1) ≤ t) :
    ∃ k : Nat, k < n ∧ (k : Int) * s % p = x ∧ cnt p s n x = t + 1 := by
  have d := cnt_diff p s n x
  have u := one_apart (x := x) hp hn
  obtain ⟨k, hk, e⟩ := one_some (p := p) (s := s) (x := x) (n := n) (by omega)
  exact ⟨k, hk, e, by omega⟩
theorem cnt_at {p s x : Int} {n k : Nat} (hk : k < n) (e : (k : Int) * s % p = x) : cnt p s n (x - 1) < cnt p s n x := by
  have d := cnt_diff p s n x
  have := sumN_ge (f := one_ p s x) (n := n) (k := k) (fun i _ => one_nn p s x i) hk
  have z : one_ p s x k = 1 := by unfold one_; rw [if_pos e]
  omega
theorem cnt_at1 {p s x : Int} {n k : Nat} (hp : 0 < p) (hn : (n : Int) ≤ top p s) (hk : k < n) (e : (k : Int) * s % p = x) : cnt p s n x = cnt p s n (x - 1) + 1 := by
  have d := cnt_diff p s n x
  have u := one_apart (x := x) hp hn
  have := cnt_at hk e
  omega
/-- no two marks have one rank -/
theorem rank_apart {p s : Int} {n i j : Nat} (hp : 0 < p) (hn : (n : Int) ≤ top p s) (hi : i < n) (hj : j < n) (h : cnt p s n ((i : Int) * s % p) = cnt p s n ((j : Int) * s % p)) : i = j := by
  have a : ∀ {x y : Int}, x < y → (∃ k, k < n ∧ (k : Int) * s % p = y) → cnt p s n x < cnt p s n y := fun {x y} hxy ⟨k, hk, e⟩ => by
    have h1 := cnt_at hk e
    have h2 := cnt_mono p s n (show x ≤ y - 1 by omega)
    omega
  rcases Int.lt_trichotomy ((i : Int) * s % p) ((j : Int) * s % p) with q | q | q
  · have := a q ⟨j, hj, rfl⟩; omega
  · have := marks_apart (s := s) hp (by omega) (show (i : Int) < top p s by omega) (by omega) (show (j : Int) < top p s by omega) q
    omega
  · have := a q ⟨i, hi, rfl⟩; omega
theorem rank_nn {p s : Int} {n i : Nat} (hi : i < n) : 1 ≤ cnt p s n ((i : Int) * s % p) := by
  have h1 := cnt_at (x := (i : Int) * s % p) hi rfl
  have h2 := cnt_nn p s n ((i : Int) * s % p - 1)
  omega
end RS
namespace RS
/-! ### the first mark in a stretch -/
def In (p s b e k : Int) : Prop := b ≤ k * s % p ∧ k * s % p ≤ e
instance (p s b e k : Int) : Decidable (In p s b e k) := by unfold In; exact inferInstance
structure FirstIn (p s b e k : Int) : Prop where
  nn : 0 ≤ k
  is : In p s b e k
  no : ∀ j, 0 ≤ j → j < k → ¬ In p s b e j
theorem FirstIn.lt {p s b e k : Int} (h : FirstIn p s b e k) (hp : 0 < p) : k < top p s := by
  rcases Int.lt_or_le k (top p s) with h1 | h1
  · exact h1
  · have ht := top_pos (s := s) hp
    have d := whole_turn (s := s) hp (Int.dvd_refl (top p s))
    have e1 : (k - top p s) * s % p = k * s % p := by
      rw [Int.sub_mul]
      obtain ⟨c, hc⟩ := d
      rw [hc]
      have : k * s - p * c = k * s + p * (-c) := by grind
      rw [this, Int.add_mul_emod_self_left]
    exact absurd (show In p s b e (k - top p s) from by unfold In; rw [e1]; exact h.is) (h.no _ (by omega) (by omega))
theorem FirstIn.uniq {p s b e k m : Int} (h : FirstIn p s b e k) (h' : FirstIn p s b e m) : k = m := by
  rcases Int.lt_trichotomy k m with q | q | q
  · exact absurd h.is (h'.no _ h.nn q)
  · exact q
  · exact absurd h'.is (h.no _ h'.nn q)
theorem first_zero {p s b e : Int} (hb : b ≤ 0) (he : 0 ≤ e) : FirstIn p s b e 0 :=
  ⟨by omega, ⟨by simpa using hb, by simpa using he⟩, fun j h1 h2 => by omega⟩
theorem refl_place {p s j : Int} (hp : 0 < p) : j * (p - s) % p = if j * s % p = 0 then 0 else p - j * s % p := by
  have h := Int.emod_add_mul_ediv (j * s) p
  have h1 := Int.emod_nonneg (j * s) (show p ≠ 0 by omega)
  have h2 := Int.emod_lt_of_pos (j * s) hp
  have e : j * (p - s) = -(j * s % p) + p * (j - j * s / p) := by grind
  rw [e, Int.add_mul_emod_self_left]
  split
  · rename_i z; rw [z]; simp
  · rename_i z
    have e2 : -(j * s % p) = (p - j * s % p) + p * (-1) := by omega
    rw [e2, Int.add_mul_emod_self_left]
    exact Int.emod_eq_of_lt (by omega) (by omega)
theorem in_reflect {p s b e j : Int} (hp : 0 < p) (hb : 0 < b) (he : e < p) : In p (p - s) (p - e) (p - b) j ↔ In p s b e j := by
  unfold In
  rw [refl_place hp]
  have h1 := Int.emod_nonneg (j * s) (show p ≠ 0 by omega)
  split <;> omega
theorem first_reflect {p s b e k : Int} (hp : 0 < p) (hb : 0 < b) (he : e < p) (h : FirstIn p (p - s) (p - e) (p - b) k) : FirstIn p s b e k :=
  ⟨h.nn, (in_reflect hp hb he).mp h.is, fun j h1 h2 q => h.no j h1 h2 ((in_reflect hp hb he).mpr q)⟩
/-- rounded up -/
theorem ceil_spec {x s : Int} (hs : 0 < s) : x ≤ (x + s - 1) / s * s ∧ (x + s - 1) / s * s < x + s := by
  have h := Int.emod_add_mul_ediv (x + s - 1) s
  have h1 := Int.emod_nonneg (x + s - 1) (show s ≠ 0 by omega)
  have h2 := Int.emod_lt_of_pos (x + s - 1) hs
  rw [Int.mul_comm s] at h
  omega
theorem ceil_le {x s k : Int} (hs : 0 < s) (h : x ≤ k * s) : (x + s - 1) / s ≤ k := by
  obtain ⟨h1, h2⟩ := ceil_spec (x := x) hs
  rcases Int.lt_or_le k ((x + s - 1) / s) with q | q
  · have : (k + 1) * s ≤ (x + s - 1) / s * s := Int.mul_le_mul_of_nonneg_right (by omega) (by omega)
    rw [Int.add_mul, Int.one_mul] at this
    omega
  · exact q
theorem ceil_nn {x s : Int} (hs : 0 < s) (hx : 0 ≤ x) : 0 ≤ (x + s - 1) / s := Int.ediv_nonneg (by omega) (by omega)
theorem first_direct {p s b e : Int} (hs : 0 < s) (hb : 0 < b) (he : e < p) (h : (b + s - 1) / s * s ≤ e) : FirstIn p s b e ((b + s - 1) / s) := by
  obtain ⟨h1, h2⟩ := ceil_spec (x := b) hs
  have h0 := ceil_nn hs (show 0 ≤ b by omega)
  generalize (b + s - 1) / s = t at *
  have small : ∀ j, 0 ≤ j → j ≤ t → j * s % p = j * s := fun j j0 jt => by
    have a : 0 ≤ j * s := Int.mul_nonneg j0 (by omega)
    have c : j * s ≤ t * s := Int.mul_le_mul_of_nonneg_right jt (by omega)
    exact Int.emod_eq_of_lt a (by omega)
  refine ⟨h0, ⟨by rw [small t h0 (by omega)]; omega, by rw [small t h0 (by omega)]; omega⟩, fun j j0 jt q => ?_⟩
  obtain ⟨q1, q2⟩ := q
  rw [small j j0 (by omega)] at q1
  have : (j + 1) * s ≤ t * s := Int.mul_le_mul_of_nonneg_right (by omega) (by omega)
  rw [Int.add_mul, Int.one_mul] at this
  omega
/-- no multiple within: both ends lie between the same two -/
theorem same_block {s b e : Int} (hs : 0 < s) (hbe : b ≤ e) (h : e < (b + s - 1) / s * s) : e / s = b / s ∧ 0 < b % s ∧ b % s ≤ e % s := by
  obtain ⟨h1, h2⟩ := ceil_spec (x := b) hs
  have d1 := Int.emod_add_mul_ediv b s
  have d2 := Int.emod_nonneg b (show s ≠ 0 by omega)
  have d3 := Int.emod_lt_of_pos b hs
  have c1 := Int.emod_add_mul_ediv e s
  have c2 := Int.emod_nonneg e (show s ≠ 0 by omega)
  have c3 := Int.emod_lt_of_pos e hs
  generalize (b + s - 1) / s = t at *
  have hb0 : 0 < b % s := by
    rcases Int.lt_or_le 0 (b % s) with q | q
    · exact q
    · have z : b % s = 0 := by omega
      -- t s < b + s and t s > e >= b = s (b/s): between two neighbours
      have l1 : s * (b / s) < t * s := by omega
      have l2 : t * s < s * (b / s) + s := by omega
      rw [Int.mul_comm t s] at l1 l2
      have a1 : b / s < t := Int.lt_of_mul_lt_mul_left l1 (by omega)
      have a2 : s * t < s * (b / s + 1) := by rw [Int.mul_add]; omega
      have a3 : t < b / s + 1 := Int.lt_of_mul_lt_mul_left a2 (by omega)
      omega
  have eq : e / s = b / s := by
    have m1 : b / s ≤ e / s := Int.ediv_le_ediv hs hbe
    rcases Int.lt_or_le (b / s) (e / s) with q | q
    · -- t <= e / s
      have l : s * (b / s + 1) ≤ s * (e / s) := Int.mul_le_mul_of_nonneg_left (by omega) (by omega)
      rw [Int.mul_add] at l
      have l2 : s * t < s * (e / s + 1) := by
        rw [Int.mul_add, Int.mul_comm s t]; omega
      have l3 : t < e / s + 1 := Int.lt_of_mul_lt_mul_left l2 (by omega)
      have l4 : t * s ≤ e / s * s := Int.mul_le_mul_of_nonneg_right (by omega) (by omega)
      rw [Int.mul_comm (e / s) s] at l4
      omega
    · omega
  refine ⟨eq, hb0, ?_⟩
  rw [eq] at c1
  omega
/-- by how far the ring is behind a multiple: what stands in the lesser ring -/
theorem neg_place {p s j : Int} (hs : 0 < s) : j * (-p % s) % s = (-(j * p)) % s := by
  have h := Int.emod_add_mul_ediv (-p) s
  have e : -(j * p) = j * (-p % s) + s * (j * (-p / s)) := by grind
  rw [e, Int.add_mul_emod_self_left]
/-- a mark comes into the stretch in its j-th turn just when j comes into the lesser stretch -/
theorem lead_iff {p s b e j k : Int} (hs : 0 < s) (hb : 0 < b % s) (hbe : b % s ≤ e % s) (hq : e / s = b / s) (h1 : b ≤ k * s - j * p) (h2 : k * s - j * p ≤ e) :
    In s (-p % s) (b % s) (e % s) j := by
  unfold In
  rw [neg_place hs]
  have d1 := Int.emod_add_mul_ediv b s
  have c1 := Int.emod_add_mul_ediv e s
  have c3 := Int.emod_lt_of_pos e hs
  rw [hq] at c1
  have e1 : -(j * p) = (k * s - j * p - s * (b / s)) + s * (b / s - k) := by grind
  rw [e1, Int.add_mul_emod_self_left, Int.emod_eq_of_lt (a := k * s - j * p - s * (b / s)) (by omega) (by omega)]
  omega
theorem first_lead {p s b e m : Int} (hp : 0 < p) (hs : 0 < s) (hb : 0 < b) (he : e < p) (hbe : b ≤ e) (h : e < (b + s - 1) / s * s) (hm : FirstIn s (-p % s) (b % s) (e % s) m) :
    FirstIn p s b e ((b + p * m + s - 1) / s) := by
  obtain ⟨hq, hb0, hbe'⟩ := same_block hs hbe h
  have d1 := Int.emod_add_mul_ediv b s
  have c1 := Int.emod_add_mul_ediv e s
  have c3 := Int.emod_lt_of_pos e hs
  obtain ⟨m0, mi, mn⟩ := hm
  obtain ⟨mi1, mi2⟩ := mi
  rw [neg_place hs] at mi1 mi2
  have pm : 0 ≤ p * m := Int.mul_nonneg (by omega) m0
  -- the mark itself
  have f1 := Int.emod_add_mul_ediv (-(m * p)) s
  generalize hr : (-(m * p)) % s = r at *
  generalize hw : (-(m * p)) / s = w at *
  have cm : m * p = p * m := Int.mul_comm _ _
  have kk : (b / s - w) * s = p * m + r + s * (b / s) := by
    have : (b / s - w) * s = s * (b / s) - s * w := by grind
    omega
  have kv : (b + p * m + s - 1) / s = b / s - w := by
    apply Int.le_antisymm
    · exact ceil_le hs (by omega)
    · obtain ⟨x1, x2⟩ := ceil_spec (x := b + p * m) hs
      rcases Int.lt_or_le ((b + p * m + s - 1) / s) (b / s - w) with q | q
      · have l : ((b + p * m + s - 1) / s + 1) * s ≤ (b / s - w) * s := Int.mul_le_mul_of_nonneg_right (by omega) (by omega)
        rw [Int.add_mul, Int.one_mul] at l
        rw [hq] at c1
        omega
      · exact q
  have k0 : 0 ≤ (b + p * m + s - 1) / s := ceil_nn hs (by omega)
  rw [kv] at k0 ⊢
  have place : (b / s - w) * s % p = r + s * (b / s) := by
    rw [kk]
    have : p * m + r + s * (b / s) = (r + s * (b / s)) + p * m := by omega
    rw [this, Int.add_mul_emod_self_left]
    rw [hq] at c1
    refine Int.emod_eq_of_lt ?_ (by omega)
    have := Int.mul_nonneg (Int.le_of_lt hs) (Int.ediv_nonneg (show 0 ≤ b by omega) (Int.le_of_lt hs))
    omega
  refine ⟨k0, ⟨by rw [place]; omega, by rw [place]; rw [hq] at c1; omega⟩, fun k k1 k2 hin => ?_⟩
  obtain ⟨i1, i2⟩ := hin
  have g := Int.emod_add_mul_ediv (k * s) p
  have jn : 0 ≤ k * s / p := Int.ediv_nonneg (Int.mul_nonneg k1 (by omega)) (by omega)
  generalize hj : k * s / p = j at *
  have cj : j * p = p * j := Int.mul_comm _ _
  have inj := lead_iff (k := k) (j := j) (p := p) hs hb0 hbe' hq (by omega) (by omega)
  rcases Int.lt_trichotomy j m with q | q | q
  · exact mn j jn q inj
  · subst q
    have : (b + p * j + s - 1) / s ≤ k := ceil_le hs (by omega)
    omega
  · -- j <= m as k <= the mark found
    have l : k * s ≤ (b / s - w) * s := Int.mul_le_mul_of_nonneg_right (by omega) (by omega)
    have l2 : p * (m + 1) ≤ p * j := Int.mul_le_mul_of_nonneg_left (by omega) (by omega)
    rw [Int.mul_add] at l2
    rw [hq] at c1
    omega
/-! ### a multiple in the stretch -/
def HasM (g b e : Int) : Prop := ∃ c, b ≤ g * c ∧ g * c ≤ e
theorem hasM_iff {g b e : Int} (hg : 0 < g) : HasM g b e ↔ b ≤ e / g * g := by
  have h := Int.emod_add_mul_ediv e g
  have h1 := Int.emod_nonneg e (show g ≠ 0 by omega)
  have h2 := Int.emod_lt_of_pos e hg
  rw [Int.mul_comm g] at h
  constructor
  · rintro ⟨c, h3, h4⟩
    have : c ≤ e / g := Int.le_ediv_of_mul_le hg (by rw [Int.mul_comm]; exact h4)
    have : c * g ≤ e / g * g := Int.mul_le_mul_of_nonneg_right this (by omega)
    rw [Int.mul_comm c] at this
    omega
  · intro h3
    exact ⟨e / g, by rw [Int.mul_comm]; exact h3, by rw [Int.mul_comm]; omega⟩
theorem G_reflect (p s : Int) : G p (p - s) = G p s := by
  unfold G
  have : Int.gcd p (p - s) = Int.gcd p s := by
    have e : p - s = -s + p * 1 := by omega
    rw [e, Int.gcd_add_mul_left_right, Int.gcd_neg]
  rw [this]
theorem G_lead {p s : Int} (hs : 0 < s) : G s (-p % s) = G p s := by
  have h := G_step (-p) s hs
  rw [h]
  unfold G
  rw [Int.neg_gcd]
theorem hasM_reflect {p s b e : Int} (h : HasM (G p s) b e) : HasM (G p (p - s)) (p - e) (p - b) := by
  rw [G_reflect]
  obtain ⟨c, h1, h2⟩ := h
  obtain ⟨t, ht⟩ := G_dl p s
  refine ⟨t - c, ?_, ?_⟩ <;> (rw [Int.mul_sub, ← ht]; omega)
theorem hasM_lead {p s b e : Int} (hs : 0 < s) (hq : e / s = b / s) (h : HasM (G p s) b e) : HasM (G s (-p % s)) (b % s) (e % s) := by
  rw [G_lead hs]
  obtain ⟨c, h1, h2⟩ := h
  obtain ⟨t, ht⟩ := G_dr p s
  have d1 := Int.emod_add_mul_ediv b s
  have c1 := Int.emod_add_mul_ediv e s
  rw [hq] at c1
  have e1 : G p s * (c - t * (b / s)) = G p s * c - s * (b / s) := by
    rw [Int.mul_sub, ← Int.mul_assoc, ← ht]
  exact ⟨c - t * (b / s), by rw [e1]; omega, by rw [e1]; omega⟩
theorem step_there {p s b e : Int} (hp : 0 < p) (hs : 0 ≤ s) (hb : 0 < b) (he : e < p) (h : HasM (G p s) b e) : 0 < s := by
  rcases Int.lt_or_le 0 s with q | q
  · exact q
  · have z : s = 0 := by omega
    subst z
    rw [G_zero (by omega)] at h
    obtain ⟨c, h1, h2⟩ := h
    rcases Int.lt_or_le c 1 with q | q
    · have : p * c ≤ p * 0 := Int.mul_le_mul_of_nonneg_left (by omega) (by omega)
      omega
    · have : p * 1 ≤ p * c := Int.mul_le_mul_of_nonneg_left q (by omega)
      omega
/-- no mark where no multiple is -/
theorem none_in {p s b e k : Int} (hp : 0 < p) (h : ¬ HasM (G p s) b e) : ¬ In p s b e k := by
  rintro ⟨h1, h2⟩
  obtain ⟨c, hc⟩ := Int.dvd_of_emod_eq_zero (place_mult (p := p) (s := s) (k := k) hp)
  exact h ⟨c, by omega, by omega⟩
/-! ### the rings to which it was led -/
/-- the ring p, s, b, e lies behind the written rows of the first one -/
inductive Led (P A B E : Int) : List (Int × Int × Int) → Int → Int → Int → Int → Prop
  | nil : Led P A B E [] P A B E
  | turn {l p s b e} : Led P A B E l p s b e → 0 < b → e < p → Led P A B E l p (p - s) (p - e) (p - b)
  | snoc {l p s b e} : Led P A B E l p s b e → 0 < p → 0 < s → s < p → 0 < b → e < p → b ≤ e → e < (b + s - 1) / s * s → Led P A B E (l ++ [(p, s, b)]) s (-p % s) (b % s) (e % s)
/-- one row back: from the last ring's first mark to that of the ring ahead of it -/
theorem Led.back {P A B E : Int} {l : List (Int × Int × Int)} {p s b e m : Int} (h : Led P A B E l p s b e) (hp : 0 < p) (hf : FirstIn p s b e m) :
    (l = [] ∧ FirstIn P A B E m) ∨ ∃ l' p' s' b' e', l = l' ++ [(p', s', b')] ∧ Led P A B E l' p' s' b' e' ∧ 0 < p' ∧ 0 < s' ∧ 0 < b' ∧ b' < p' ∧ FirstIn s' (-p' % s') (b' % s') (e' % s') m ∧ FirstIn p' s' b' e' ((b' + p' * m + s' - 1) / s') := by
  induction h with
  | nil => exact .inl ⟨rfl, hf⟩
  | @turn l p s b e h hb he ih => exact ih hp (first_reflect hp hb he hf)
  | @snoc l p s b e h h0 hs hsp hb he hbe hn ih => exact .inr ⟨l, p, s, b, e, rfl, h, h0, hs, hb, by omega, hf, first_lead h0 hs hb he hbe hn hf⟩
/-- no ring is greater than the first one -/
theorem Led.bound {P A B E : Int} {l : List (Int × Int × Int)} {p s b e : Int} (h : Led P A B E l p s b e) : p ≤ P ∧ ∀ x ∈ l, x.1 ≤ P ∧ x.2.1 < x.1 ∧ x.2.2 < x.1 ∧ 0 < x.2.1 ∧ 0 < x.2.2 := by
  induction h with
  | nil => exact ⟨Int.le_refl _, fun x hx => by simp at hx⟩
  | turn h hb he ih => exact ih
  | @snoc l p s b e h h0 hs hsp hb he hbe hn ih =>
    refine ⟨by omega, fun x hx => ?_⟩
    rcases List.mem_append.mp hx with hx | hx
    · exact ih.2 x hx
    · have : x = (p, s, b) := by simpa using hx
      subst this
      exact ⟨ih.1, hsp, by show b < p; omega, hs, hb⟩
end RS
namespace RS
/-! ### the marks next to mark 0 -/
structure Near (p s a d b e : Int) : Prop where
  a1 : 1 ≤ a
  b1 : 1 ≤ b
  d0 : 0 < d
  e0 : 0 < e
  sum : d * b + e * a = p
  pa : a * s % p = d
  pb : b * s % p = p - e
  no : ∀ k, 0 < k → k < a + b → d ≤ k * s % p ∧ k * s % p ≤ p - e
theorem Near.lt {p s a d b e : Int} (h : Near p s a d b e) : d + e ≤ p := by
  have h1 : d * 1 ≤ d * b := Int.mul_le_mul_of_nonneg_left h.b1 (Int.le_of_lt h.d0)
  have h2 : e * 1 ≤ e * a := Int.mul_le_mul_of_nonneg_left h.a1 (Int.le_of_lt h.e0)
  have := h.sum
  omega
theorem near_start {p s : Int} (hs : 0 < s) (hsp : s < p) : Near p s 1 s 1 (p - s) := by
  have e : (1 : Int) * s % p = s := by rw [Int.one_mul]; exact Int.emod_eq_of_lt (by omega) hsp
  refine ⟨by omega, by omega, hs, by omega, by grind, e, by rw [e]; omega, fun k h1 h2 => ?_⟩
  have : k = 1 := by omega
  subst this
  rw [e]
  omega
/-- what stands at a sum of marks -/
theorem place_sum {p s x y u v : Int} (hx : x * s % p = u) (hy : y * s % p = v) : (x + y) * s % p = (u + v) % p := by
  rw [Int.add_mul, Int.add_emod, hx, hy]
theorem place_back {p s k b e : Int} (hp : 0 < p) (hb : b * s % p = p - e) : (k - b) * s % p = (k * s % p + e) % p := by
  have h1 := Int.emod_add_mul_ediv (k * s) p
  have h2 := Int.emod_add_mul_ediv (b * s) p
  rw [hb] at h2
  have e1 : (k - b) * s = (k * s % p + e) + p * (k * s / p - b * s / p - 1) := by
    rw [Int.sub_mul, Int.mul_sub, Int.mul_sub]; omega
  rw [e1, Int.add_mul_emod_self_left]
theorem place_back' {p s k a d : Int} (ha : a * s % p = d) : (k - a) * s % p = (k * s % p - d) % p := by
  rw [Int.sub_mul, Int.sub_emod, ha]
theorem near_on {p s a d b e : Int} (h : Near p s a d b e) (hde : e < d) : Near p s (a + b) (d - e) b e := by
  have hl := h.lt
  obtain ⟨a1, b1, d0, e0, sum, pa, pb, no⟩ := h
  have hp : 0 < p := by omega
  have pab : (a + b) * s % p = d - e := by
    rw [place_sum pa pb]
    have : d + (p - e) = (d - e) + p * 1 := by omega
    rw [this, Int.add_mul_emod_self_left]
    exact Int.emod_eq_of_lt (by omega) (by omega)
  refine ⟨by omega, b1, by omega, e0, by grind, pab, pb, fun k k0 k1 => ?_⟩
  have r1 := Int.emod_nonneg (k * s) (show p ≠ 0 by omega)
  have r2 := Int.emod_lt_of_pos (k * s) hp
  rcases Int.lt_trichotomy k (a + b) with q | q | q
  · have := no k k0 q; omega
  · rw [q, pab]; omega
  · have n := no (k - b) (by omega) (by omega)
    rw [place_back hp pb] at n
    generalize k * s % p = x at *
    rcases Int.lt_or_le (x + e) p with z | z
    · rw [Int.emod_eq_of_lt (by omega) z] at n; omega
    · have : x + e = (x + e - p) + p * 1 := by omega
      rw [this, Int.add_mul_emod_self_left, Int.emod_eq_of_lt (by omega) (by omega)] at n
      omega
theorem near_back {p s a d b e : Int} (h : Near p s a d b e) (hde : d < e) : Near p s a d (b + a) (e - d) := by
  have hl := h.lt
  obtain ⟨a1, b1, d0, e0, sum, pa, pb, no⟩ := h
  have hp : 0 < p := by omega
  have pab : (b + a) * s % p = p - (e - d) := by
    rw [place_sum pb pa]
    have : p - e + d = p - (e - d) := by omega
    rw [this]
    exact Int.emod_eq_of_lt (by omega) (by omega)
  refine ⟨a1, by omega, d0, by omega, by grind, pa, pab, fun k k0 k1 => ?_⟩
  have r1 := Int.emod_nonneg (k * s) (show p ≠ 0 by omega)
  have r2 := Int.emod_lt_of_pos (k * s) hp
  rcases Int.lt_trichotomy k (a + b) with q | q | q
  · have := no k k0 q; omega
  · have : k = b + a := by omega
    rw [this, pab]; omega
  · have n := no (k - a) (by omega) (by omega)
    rw [place_back' pa] at n
    generalize k * s % p = x at *
    rcases Int.lt_or_le x d with z | z
    · have : x - d = (x - d + p) + p * (-1) := by omega
      rw [this, Int.add_mul_emod_self_left, Int.emod_eq_of_lt (by omega) (by omega)] at n
      omega
    · rw [Int.emod_eq_of_lt (by omega) (by omega)] at n; omega
theorem near_ons {p s a d b e : Int} (h : Near p s a d b e) : ∀ t : Nat, (t : Int) * e < d → Near p s (a + t * b) (d - t * e) b e
  | 0, _ => by simpa using h
  | t + 1, q => by
    have q' : (t : Int) * e + e < d := by have : ((t + 1 : Nat) : Int) * e = t * e + e := by grind
                                          omega
    have := near_on (near_ons h t (by have := h.e0; omega)) (by omega)
    have e1 : a + (t : Int) * b + b = a + ((t + 1 : Nat) : Int) * b := by grind
    have e2 : d - (t : Int) * e - e = d - ((t + 1 : Nat) : Int) * e := by grind
    rw [e1, e2] at this
    exact this
theorem near_backs {p s a d b e : Int} (h : Near p s a d b e) : ∀ t : Nat, (t : Int) * d < e → Near p s a d (b + t * a) (e - t * d)
  | 0, _ => by simpa using h
  | t + 1, q => by
    have q' : (t : Int) * d + d < e := by have : ((t + 1 : Nat) : Int) * d = t * d + d := by grind
                                          omega
    have := near_back (near_backs h t (by have := h.d0; omega)) (by omega)
    have e1 : b + (t : Int) * a + a = b + ((t + 1 : Nat) : Int) * a := by grind
    have e2 : e - (t : Int) * d - d = e - ((t + 1 : Nat) : Int) * d := by grind
    rw [e1, e2] at this
    exact this
/-- the two are alike only when all marks are there -/
theorem near_ne {p s a d b e : Int} (h : Near p s a d b e) (ht : a + b < top p s) : d ≠ e := by
  intro q
  have hl := h.lt
  obtain ⟨a1, b1, d0, e0, sum, pa, pb, no⟩ := h
  have hp : 0 < p := by omega
  have z : (a + b) * s % p = 0 := by
    rw [place_sum pa pb, q]
    have : e + (p - e) = 0 + p * 1 := by omega
    rw [this, Int.add_mul_emod_self_left]
    rfl
  have z2 : (a + b) * s % p = 0 * s % p := by rw [z]; simp
  have := marks_apart hp (by omega) ht (by omega) (top_pos (s := s) hp) z2
  omega
/-- two turns of the search: how often, bounded -/
theorem times_spec {x y : Int} (hy : 0 < y) : (x - 1) / y * y < x ∧ (y < x → 1 ≤ (x - 1) / y) := by
  have h := Int.emod_add_mul_ediv (x - 1) y
  have h1 := Int.emod_nonneg (x - 1) (show y ≠ 0 by omega)
  have h2 := Int.emod_lt_of_pos (x - 1) hy
  rw [Int.mul_comm y] at h
  exact ⟨by omega, fun q => Int.le_ediv_of_mul_le hy (by omega)⟩
theorem div_spec {x y : Int} (hy : 0 < y) (hx : y ≤ x) : x / y * y ≤ x ∧ 1 ≤ x / y := by
  have h := Int.emod_add_mul_ediv x y
  have h1 := Int.emod_nonneg x (show y ≠ 0 by omega)
  rw [Int.mul_comm y] at h
  exact ⟨by omega, Int.le_ediv_of_mul_le hy (by omega)⟩
/-- the search's end -/
structure Nearest (p s n a d b e : Int) : Prop where
  near : Near p s a d b e
  an : a < n
  bn : b < n
  all : n ≤ a + b
theorem Nearest.no {p s n a d b e : Int} (h : Nearest p s n a d b e) (k : Int) (k0 : 0 < k) (kn : k < n) : d ≤ k * s % p ∧ k * s % p ≤ p - e := h.near.no k k0 (by have := h.all; omega)
theorem Nearest.uniq {p s n a d b e a' d' b' e' : Int} (hn : n ≤ top p s) (h : Nearest p s n a d b e) (h' : Nearest p s n a' d' b' e') : a = a' ∧ d = d' ∧ b = b' ∧ e = e' := by
  have hl := h.near.lt
  have hp : 0 < p := by have := h.near.d0; have := h.near.e0; omega
  have x1 := h.no a' (by have := h'.near.a1; omega) h'.an
  have x2 := h'.no a (by have := h.near.a1; omega) h.an
  have x3 := h.no b' (by have := h'.near.b1; omega) h'.bn
  have x4 := h'.no b (by have := h.near.b1; omega) h.bn
  rw [h.near.pa] at x2
  rw [h'.near.pa] at x1
  rw [h.near.pb] at x4
  rw [h'.near.pb] at x3
  have hd : d = d' := by omega
  have he : e = e' := by omega
  have ha := marks_apart (s := s) hp (show 0 ≤ a by have := h.near.a1; omega) (by have := h.an; omega) (show 0 ≤ a' by have := h'.near.a1; omega) (by have := h'.an; omega) (by rw [h.near.pa, h'.near.pa, hd])
  have hb := marks_apart (s := s) hp (show 0 ≤ b by have := h.near.b1; omega) (by have := h.bn; omega) (show 0 ≤ b' by have := h'.near.b1; omega) (by have := h'.bn; omega) (by rw [h.near.pb, h'.near.pb, he])
  exact ⟨ha, hd, hb, he⟩
/-- two marks or more: the step is no 0 -/
theorem step_pos {p s n : Int} (hp : 0 < p) (hs : 0 ≤ s) (hn : n ≤ top p s) (h2 : 2 ≤ n) : 0 < s := by
  rcases Int.lt_or_le 0 s with q | q
  · exact q
  · have : s = 0 := by omega
    subst this
    unfold top at hn
    rw [G_zero (by omega), Int.ediv_self (by omega)] at hn
    omega
/-! ### the gaps as they are told -/
def keep (l : List (Int × Int)) : List (Int × Int) := l.filter fun x => decide (0 < x.2)
/-- sizes rising, how many there are of each -/
def gapsL (n a d b e : Int) : List (Int × Int) :=
  if d = e then keep [(d, n - a + (n - b)), (d + e, a + b - n)]
  else if d < e then keep [(d, n - a), (e, n - b), (d + e, a + b - n)]
  else keep [(e, n - b), (d, n - a), (d + e, a + b - n)]
end RS
namespace RS
/-! ### the one number with a property -/
theorem eps_eq {P : Int → Prop} {x : Int} (hx : P x) (hu : ∀ y, P y → y = x) : Classical.epsilon P = x := hu _ (Classical.epsilon_spec ⟨x, hx⟩)
noncomputable def theInv (a m : Int) : Int := Classical.epsilon fun r : Int => 0 ≤ r ∧ r < m ∧ r * a % m = 1 % m
theorem theInv_eq {a m r : Int} (hm : 0 < m) (hg : Int.gcd m a = 1) (h0 : 0 ≤ r) (h1 : r < m) (h2 : r * a % m = 1 % m) : theInv a m = r := by
  have ht : top m a = m := by unfold top G; rw [hg]; simp
  refine eps_eq ⟨h0, h1, h2⟩ fun y ⟨y0, y1, y2⟩ => ?_
  exact marks_apart (s := a) hm y0 (by omega) h0 (by omega) (by rw [y2, h2])
noncomputable def thePlace (p s m t : Int) : Int := Classical.epsilon fun x : Int => 0 ≤ x ∧ x < p ∧ t < cnt p s m.toNat x ∧ cnt p s m.toNat (x - 1) ≤ t
theorem thePlace_eq {p s m t x : Int} (h0 : 0 ≤ x) (h1 : x < p) (h2 : t < cnt p s m.toNat x) (h3 : cnt p s m.toNat (x - 1) ≤ t) : thePlace p s m t = x := by
  refine eps_eq ⟨h0, h1, h2, h3⟩ fun y ⟨y0, y1, y2, y3⟩ => ?_
  rcases Int.lt_trichotomy x y with q | q | q
  · have := cnt_mono p s m.toNat (show x ≤ y - 1 by omega); omega
  · exact q.symm
  · have := cnt_mono p s m.toNat (show y ≤ x - 1 by omega); omega
noncomputable def theAt (p s x : Int) : Int := Classical.epsilon fun k : Int => 0 ≤ k ∧ k < top p s ∧ k * s % p = x
theorem theAt_eq {p s x k : Int} (hp : 0 < p) (h0 : 0 ≤ k) (h1 : k < top p s) (h2 : k * s % p = x) : theAt p s x = k :=
  eps_eq ⟨h0, h1, h2⟩ fun y ⟨y0, y1, y2⟩ => marks_apart hp y0 y1 h0 h1 (by rw [y2, h2])
noncomputable def theMark (p s m t : Int) : Int := Classical.epsilon fun k : Int => 0 ≤ k ∧ k < m ∧ cnt p s m.toNat (k * s % p) = t + 1
theorem theMark_eq {p s m t k : Int} (hp : 0 < p) (hm : m ≤ top p s) (h0 : 0 ≤ k) (h1 : k < m) (h2 : cnt p s m.toNat (k * s % p) = t + 1) : theMark p s m t = k := by
  refine eps_eq ⟨h0, h1, h2⟩ fun y ⟨y0, y1, y2⟩ => ?_
  have e1 : ((y.toNat : Nat) : Int) = y := by omega
  have e2 : ((k.toNat : Nat) : Int) = k := by omega
  have := rank_apart (p := p) (s := s) (n := m.toNat) (i := y.toNat) (j := k.toNat) hp (by omega) (by omega) (by omega) (by rw [e1, e2, y2, h2])
  omega
theorem step_ex (f : Int → Int) (t : Int) : ∀ (n : Nat) (lo : Int), f lo ≤ t → t < f (lo + n) → ∃ x, lo < x ∧ x ≤ lo + n ∧ f (x - 1) ≤ t ∧ t < f x
  | 0, lo, h1, h2 => by
    have : lo + ((0 : Nat) : Int) = lo := by omega
    rw [this] at h2
    omega
  | n + 1, lo, h1, h2 => by
    by_cases q : t < f (lo + n)
    · obtain ⟨x, x1, x2, x3, x4⟩ := step_ex f t n lo h1 q
      exact ⟨x, x1, by omega, x3, x4⟩
    · refine ⟨lo + ((n + 1 : Nat) : Int), by omega, by omega, ?_, h2⟩
      have : lo + ((n + 1 : Nat) : Int) - 1 = lo + n := by omega
      rw [this]
      omega
theorem place_ex {p s m t : Int} (hp : 0 < p) (t0 : 0 ≤ t) (tm : t < m) : ∃ x, 0 ≤ x ∧ x < p ∧ t < cnt p s m.toNat x ∧ cnt p s m.toNat (x - 1) ≤ t := by
  have e : (-1 : Int) + (p.toNat : Nat) = p - 1 := by omega
  obtain ⟨x, x1, x2, x3, x4⟩ := step_ex (fun x => cnt p s m.toNat x) t p.toNat (-1) (by show cnt p s m.toNat (-1) ≤ t; rw [cnt_neg p s m.toNat (-1) hp (by omega)]; exact t0) (by
    show t < cnt p s m.toNat (-1 + (p.toNat : Nat))
    rw [e, cnt_all p s m.toNat (p - 1) hp (by omega)]
    omega)
  exact ⟨x, by omega, by omega, x4, x3⟩
theorem theMark_spec {p s m t : Int} (hp : 0 < p) (hm : m ≤ top p s) (t0 : 0 ≤ t) (tm : t < m) : 0 ≤ theMark p s m t ∧ theMark p s m t < m ∧ cnt p s m.toNat (theMark p s m t * s % p) = t + 1 := by
  obtain ⟨x, x0, x1, x2, x3⟩ := place_ex (s := s) hp t0 tm
  obtain ⟨k, k1, k2, k3⟩ := found_place (s := s) hp (show ((m.toNat : Nat) : Int) ≤ top p s by omega) x2 x3
  rw [← k2] at k3
  have := theMark_eq hp hm (k := (k : Int)) (by omega) (by omega) k3
  rw [this]
  exact ⟨by omega, by omega, k3⟩
/-- the way there -/
theorem theMark_at {p s m t : Int} (hp : 0 < p) (hm : m ≤ top p s) (t0 : 0 ≤ t) (tm : t < m) : theAt p s (thePlace p s m t) = theMark p s m t := by
  obtain ⟨h0, h1, h2⟩ := theMark_spec hp hm t0 tm
  have e1 : (((theMark p s m t).toNat : Nat) : Int) = theMark p s m t := by omega
  have b0 := Int.emod_nonneg (theMark p s m t * s) (show p ≠ 0 by omega)
  have b1 := Int.emod_lt_of_pos (theMark p s m t * s) hp
  have h3 := cnt_at1 (p := p) (s := s) (x := theMark p s m t * s % p) (n := m.toNat) (k := (theMark p s m t).toNat) hp (by omega) (by omega) (by rw [e1])
  rw [thePlace_eq (x := theMark p s m t * s % p) b0 b1 (by omega) (by omega)]
  exact theAt_eq hp h0 (by omega) rfl
/-- the place found is a mark's -/
theorem thePlace_mult {p s m t : Int} (hp : 0 < p) (hm : m ≤ top p s) (t0 : 0 ≤ t) (tm : t < m) : 0 ≤ thePlace p s m t ∧ thePlace p s m t < p ∧ thePlace p s m t % G p s = 0 := by
  obtain ⟨x, x0, x1, x2, x3⟩ := place_ex (s := s) hp t0 tm
  obtain ⟨k, k1, k2, k3⟩ := found_place (s := s) hp (show ((m.toNat : Nat) : Int) ≤ top p s by omega) x2 x3
  rw [thePlace_eq x0 x1 x2 x3]
  refine ⟨x0, x1, ?_⟩
  rw [← k2]
  exact place_mult hp
end RS
namespace RS
/-! ### the row 1, 1, 2, 3, 5 -/
def row : Nat → Int × Int
  | 0 => (1, 1)
  | n + 1 => ((row n).2, (row n).1 + (row n).2)
theorem row_pos : ∀ n, 1 ≤ (row n).1 ∧ (row n).1 ≤ (row n).2
  | 0 => by simp [row]
  | n + 1 => by
    have := row_pos n
    show 1 ≤ (row n).2 ∧ (row n).2 ≤ (row n).1 + (row n).2
    omega
theorem row_lt {n : Nat} (h : 1 ≤ n) : (row n).1 < (row n).2 := by
  match n, h with
  | n + 1, _ =>
    have := row_pos n
    show (row n).2 < (row n).1 + (row n).2
    omega
theorem row_ge : ∀ n : Nat, (n : Int) ≤ (row n).2
  | 0 => by simp [row]
  | n + 1 => by
    have := row_pos n
    have := row_ge n
    show ((n + 1 : Nat) : Int) ≤ (row n).1 + (row n).2
    omega
theorem row_le : ∀ n : Nat, (row n).2 ≤ ((2 ^ n : Nat) : Int)
  | 0 => by simp [row]
  | n + 1 => by
    have h1 := row_pos n
    have h2 := row_le n
    show (row n).1 + (row n).2 ≤ _
    rw [Nat.pow_succ]
    omega
theorem row_gcd : ∀ n : Nat, Int.gcd (row n).2 (row n).1 = 1
  | 0 => by simp [row]
  | n + 1 => by
    show Int.gcd ((row n).1 + (row n).2) (row n).2 = 1
    have h := row_gcd n
    rw [Int.gcd_comm, Int.gcd_add_self_right]
    exact h
theorem G_row (n : Nat) : G (row n).2 (row n).1 = 1 := by unfold G; rw [row_gcd]; rfl
theorem G_mul7 {p s : Int} (h : G p s = 1) : G (7 * p) (7 * s) = 7 := by
  unfold G at *
  rw [Int.gcd_mul_left]
  have : Int.gcd p s = 1 := by omega
  rw [this]
  rfl
/-! ### all marks laid: every place has one -/
theorem cnt_slope {p s x : Int} {n : Nat} (hp : 0 < p) (hn : (n : Int) ≤ top p s) : ∀ d : Nat, cnt p s n (x + d) ≤ cnt p s n x + d
  | 0 => by simp
  | d + 1 => by
    have ih := cnt_slope (x := x) hp hn d
    have h1 := cnt_diff p s n (x + ((d + 1 : Nat) : Int))
    have h2 := one_apart (x := x + ((d + 1 : Nat) : Int)) hp hn
    have e : x + ((d + 1 : Nat) : Int) - 1 = x + d := by omega
    rw [e] at h1
    omega
theorem cnt_full {p s x : Int} (hp : 0 < p) (hg : G p s = 1) (h0 : 0 ≤ x) (h1 : x < p) : cnt p s p.toNat x = x + 1 := by
  have ht : top p s = p := by unfold top; rw [hg]; omega
  have hn : ((p.toNat : Nat) : Int) ≤ top p s := by omega
  have a := cnt_slope (x := -1) hp hn (x + 1).toNat
  have b := cnt_slope (x := x) hp hn (p - 1 - x).toNat
  rw [cnt_neg p s p.toNat (-1) hp (by omega)] at a
  rw [cnt_all p s p.toNat (x + (p - 1 - x).toNat) hp (by omega)] at b
  have e : (-1 : Int) + ((x + 1).toNat : Nat) = x := by omega
  rw [e] at a
  omega
/-! ### a few marks in order -/
def spots (p s : Int) (m : Nat) : List Int := (List.range m).map fun i : Nat => (i : Int) * s % p
theorem spots_nodup {p s : Int} {m : Nat} (hp : 0 < p) (hm : (m : Int) ≤ top p s) : (spots p s m).Nodup := by
  unfold spots
  refine List.pairwise_map.mpr ?_
  refine List.Pairwise.imp_of_mem ?_ (List.nodup_range (n := m))
  intro i j hi hj hne q
  have hi := List.mem_range.mp hi
  have hj := List.mem_range.mp hj
  have := marks_apart (s := s) hp (i := i) (j := j) (by omega) (by omega) (by omega) (by omega) q
  omega
theorem filter_cnt {p s x : Int} (m : Nat) : (((spots p s m).filter fun y => decide (y ≤ x)).length : Int) = cnt p s m x := by
  unfold spots
  rw [List.filter_map, List.length_map]
  induction m with
  | zero => rfl
  | succ m ih =>
    rw [List.range_succ, List.filter_append, List.length_append]
    show ((_ + _ : Nat) : Int) = cnt p s m x + hit p s x m
    rw [← ih]
    unfold hit
    by_cases h : (m : Int) * s % p ≤ x
    · rw [if_pos h, List.filter_cons, if_pos (by simpa using h)]; simp
    · rw [if_neg h, List.filter_cons, if_neg (by simpa using h)]; simp
theorem filter_cnt2 {p s b e : Int} (m : Nat) (hbe : b ≤ e + 1) : (((spots p s m).filter fun y => decide (b ≤ y) && decide (y ≤ e)).length : Int) = cnt p s m e - cnt p s m (b - 1) := by
  unfold spots
  rw [List.filter_map, List.length_map]
  induction m with
  | zero => rfl
  | succ m ih =>
    rw [List.range_succ, List.filter_append, List.length_append]
    show ((_ + _ : Nat) : Int) = (cnt p s m e + hit p s e m) - (cnt p s m (b - 1) + hit p s (b - 1) m)
    have e1 : ∀ a b c d : Int, (a + b) - (c + d) = (a - c) + (b - d) := fun a b c d => by omega
    rw [e1, ← ih]
    unfold hit
    by_cases h : b ≤ (m : Int) * s % p
    · by_cases h2 : (m : Int) * s % p ≤ e
      · rw [if_pos h2, if_neg (by omega), List.filter_cons, if_pos (by simp; exact ⟨h, h2⟩)]; simp
      · rw [if_neg h2, if_neg (by omega), List.filter_cons, if_neg (by simp; intro _; omega)]; simp
    · by_cases h2 : (m : Int) * s % p ≤ e
      · rw [if_pos h2, if_pos (by omega), List.filter_cons, if_neg (by simp; intro z; omega)]; simp
      · rw [if_neg h2, if_neg (by omega), List.filter_cons, if_neg (by simp; intro z; omega)]; simp
/-- in a rising list the index is the count ahead -/
theorem index_cnt : ∀ {l : List Int} {j : Nat} {x : Int}, l.Pairwise (· < ·) → l[j]? = some x → (l.filter fun y => decide (y ≤ x)).length = j + 1
  | [], j, x, _, h => by simp at h
  | a :: t, 0, x, hp, h => by
    have hx : a = x := by simpa using h
    subst hx
    have hp' := List.pairwise_cons.mp hp
    rw [List.filter_cons, if_pos (by simp)]
    have : t.filter (fun y => decide (y ≤ a)) = [] := List.filter_eq_nil_iff.mpr fun y hy => by have := hp'.1 y hy; simp; omega
    rw [this]
    rfl
  | a :: t, j + 1, x, hp, h => by
    have hp' := List.pairwise_cons.mp hp
    have h' : t[j]? = some x := by simpa using h
    have := hp'.1 x (List.mem_of_getElem? h')
    rw [List.filter_cons, if_pos (by simp; omega), List.length_cons, index_cnt hp'.2 h']
theorem pw_lt {l : List Int} (h : l.Pairwise (· ≤ ·)) (hn : l.Nodup) : l.Pairwise (· < ·) := by
  have := List.Pairwise.and h hn
  exact this.imp fun {a b} h => by have := h.1; have := h.2; omega
/-- by the index -/
theorem filter_ix (l : List Int) (q : Int → Bool) : ((List.range l.length).filter fun i => q (l.getD i 0)).length = (l.filter q).length := by
  have h : l = (List.range l.length).map fun i => l.getD i 0 := by
    apply List.ext_getElem?
    intro i
    rw [List.getElem?_map]
    by_cases hi : i < l.length
    · rw [List.getElem?_eq_getElem hi, List.getElem?_range hi]
      simp [List.getD, hi]
    · rw [List.getElem?_eq_none (by omega), List.getElem?_eq_none (by simp; omega)]
      rfl
  conv => rhs; rw [h]
  rw [List.filter_map, List.length_map]
  rfl
end RS
namespace RS
/-! ### the nearest marks exist -/
theorem near_ex {p s n : Int} (hn : n ≤ top p s) : ∀ (k : Nat) (a d b e : Int), (2 * n - a - b).toNat ≤ k → Near p s a d b e → a < n → b < n → ∃ a' d' b' e', Nearest p s n a' d' b' e'
  | 0, a, d, b, e, hk, h, ha, hb => absurd hk (by omega)
  | k + 1, a, d, b, e, hk, h, ha, hb => by
    by_cases q : n ≤ a + b
    · exact ⟨a, d, b, e, h, ha, hb, q⟩
    · have hne := near_ne h (by omega)
      have := h.a1
      have := h.b1
      rcases Int.lt_or_le e d with z | z
      · exact near_ex hn k (a + b) (d - e) b e (by omega) (near_on h z) (by omega) hb
      · exact near_ex hn k a d (b + a) (e - d) (by omega) (near_back h (by omega)) ha (by omega)
noncomputable def theNear (p s n : Int) : Int × Int × Int × Int := Classical.epsilon fun q : Int × Int × Int × Int => Nearest p s n q.1 q.2.1 q.2.2.1 q.2.2.2
theorem theNear_spec {p s n : Int} (hp : 0 < p) (s0 : 0 ≤ s) (sp : s < p) (h2 : 2 ≤ n) (hn : n ≤ top p s) : Nearest p s n (theNear p s n).1 (theNear p s n).2.1 (theNear p s n).2.2.1 (theNear p s n).2.2.2 := by
  have s1 := step_pos hp s0 hn h2
  obtain ⟨a, d, b, e, h⟩ := near_ex hn _ 1 s 1 (p - s) (Nat.le_refl _) (near_start s1 sp) (by omega) (by omega)
  exact Classical.epsilon_spec (p := fun q : Int × Int × Int × Int => Nearest p s n q.1 q.2.1 q.2.2.1 q.2.2.2) ⟨(a, d, b, e), h⟩
theorem theNear_eq {p s n a d b e : Int} (hp : 0 < p) (s0 : 0 ≤ s) (sp : s < p) (h2 : 2 ≤ n) (hn : n ≤ top p s) (h : Nearest p s n a d b e) : theNear p s n = (a, d, b, e) := by
  obtain ⟨h1, h3, h4, h5⟩ := (theNear_spec hp s0 sp h2 hn).uniq hn h
  rw [← h1, ← h3, ← h4, ← h5]
noncomputable def gapsOf (p s n : Int) : List (Int × Int) := if n = 1 then [(p, 1)] else gapsL n (theNear p s n).1 (theNear p s n).2.1 (theNear p s n).2.2.1 (theNear p s n).2.2.2
theorem gapsOf_one {p s : Int} : gapsOf p s 1 = [(p, 1)] := if_pos rfl
theorem gapsOf_eq {p s n a d b e : Int} (hp : 0 < p) (s0 : 0 ≤ s) (sp : s < p) (h2 : 2 ≤ n) (hn : n ≤ top p s) (h : Nearest p s n a d b e) : gapsOf p s n = gapsL n a d b e := by
  unfold gapsOf
  rw [if_neg (by omega), theNear_eq hp s0 sp h2 hn h]
/-- sizes rise -/
theorem gapsL_rise {n a d b e : Int} (hd : 0 < d) (he : 0 < e) : (gapsL n a d b e).Pairwise fun x y => x.1 < y.1 := by
  unfold gapsL
  split
  · exact List.Pairwise.filter _ (by simp; omega)
  · split
    · exact List.Pairwise.filter _ (by simp; omega)
    · exact List.Pairwise.filter _ (by simp; omega)
/-- the order of the dict -/
def rawL (n a d b e : Int) : List (Int × Int) := if d = e then [(d, n - a + (n - b)), (d + e, a + b - n)] else [(d, n - a), (e, n - b), (d + e, a + b - n)]
theorem gapsL_perm {n a d b e : Int} : (gapsL n a d b e).Perm (keep (rawL n a d b e)) := by
  unfold gapsL rawL
  by_cases z : d = e
  · rw [if_pos z, if_pos z]
  · rw [if_neg z, if_neg z]
    split
    · exact List.Perm.refl _
    · exact (List.Perm.swap _ _ _).filter _
end RS
namespace RS
/-! ### what comes next behind a mark -/
/-- how far it is to the next place behind mark k's -/
def gapAt (n a d b e k : Int) : Int := if k + a < n then d else if b ≤ k then e else d + e
theorem place_diff {p s i j u v : Int} (hu : i * s % p = u) (hv : j * s % p = v) : (i - j) * s % p = (u - v) % p := by
  rw [Int.sub_mul, Int.sub_emod, hu, hv]
theorem mod_in {x p : Int} (h0 : 0 ≤ x) (h1 : x < p) : x % p = x := Int.emod_eq_of_lt h0 h1
theorem mod_low {x p : Int} (hp : 0 < p) (h0 : -p ≤ x) (h1 : x < 0) : x % p = x + p := by
  have : x % p = (x + p * 1) % p := by rw [Int.add_mul_emod_self_left]
  rw [this, Int.mul_one]
  exact Int.emod_eq_of_lt (by omega) (by omega)
theorem mod_high {x p : Int} (hp : 0 < p) (h0 : p ≤ x) (h1 : x < 2 * p) : x % p = x - p := by
  have : x % p = (x + p * (-1)) % p := by rw [Int.add_mul_emod_self_left]
  rw [this]
  have e : x + p * (-1) = x - p := by omega
  rw [e]
  exact Int.emod_eq_of_lt (by omega) (by omega)
/-- no mark stands within the gap -/
theorem gap_free {p s n a d b e k j : Int} (h : Nearest p s n a d b e) (k0 : 0 ≤ k) (kn : k < n) (j0 : 0 ≤ j) (jn : j < n) : j * s % p ≤ k * s % p ∨ k * s % p + gapAt n a d b e k ≤ j * s % p := by
  have hl := h.near.lt
  have d0 := h.near.d0
  have e0 := h.near.e0
  have a1 := h.near.a1
  have b1 := h.near.b1
  have pa := h.near.pa
  have pb := h.near.pb
  have hall := h.all
  have an := h.an
  have bn := h.bn
  have hp : 0 < p := by omega
  have y0 := Int.emod_nonneg (k * s) (show p ≠ 0 by omega)
  have y1 := Int.emod_lt_of_pos (k * s) hp
  have z0 := Int.emod_nonneg (j * s) (show p ≠ 0 by omega)
  have z1 := Int.emod_lt_of_pos (j * s) hp
  generalize hy : k * s % p = y at *
  generalize hz : j * s % p = z at *
  rcases Int.lt_or_le y z with q | q
  · right
    have hka : (k + a) * s % p = (y + d) % p := place_sum hy pa
    have hkb : (k - b) * s % p = (y + e) % p := by rw [place_back hp pb, hy]
    unfold gapAt
    split
    · rename_i h1
      rcases Int.lt_or_le z (y + d) with w | w
      · exfalso
        have e1 : (k + a - j) * s % p = (y + d - z) % p := by rw [Int.sub_mul, Int.sub_emod, hka, hz, Int.emod_sub_emod]
        have e1 := e1.trans (mod_in (x := y + d - z) (p := p) (by omega) (by omega))
        rcases Int.lt_or_le 0 (k + a - j) with w2 | w2
        · have := (h.no (k + a - j) w2 (by omega)).1
          omega
        · rcases Int.lt_or_le (k + a - j) 0 with w3 | w3
          · have hjk : (j - k) * s % p = z - y := by exact (place_diff hz hy).trans (mod_in (x := z - y) (by omega) (by omega))
            have := (h.no (j - k) (by omega) (by omega)).1
            omega
          · have : k + a - j = 0 := by omega
            rw [this] at e1
            simp at e1
            omega
      · omega
    · rename_i h1
      split
      · rename_i h2
        rcases Int.lt_or_le z (y + e) with w | w
        · exfalso
          rcases Int.lt_trichotomy j k with w2 | w2 | w2
          · have hkj : (k - j) * s % p = y - z + p := by exact (place_diff hy hz).trans (mod_low (x := y - z) hp (by omega) (by omega))
            have := (h.no (k - j) (by omega) (by omega)).2
            omega
          · subst w2; omega
          · have e1 : (j - (k - b)) * s % p = (z - (y + e)) % p := by rw [Int.sub_mul, Int.sub_emod, hz, hkb, Int.sub_emod_emod]
            have e1 := e1.trans (mod_low (x := z - (y + e)) hp (by omega) (by omega))
            have := (h.no (j - (k - b)) (by omega) (by omega)).2
            omega
        · omega
      · rename_i h2
        rcases Int.lt_or_le z (y + (d + e)) with w | w
        · exfalso
          rcases Int.lt_trichotomy j k with w2 | w2 | w2
          · have hkj : (k - j) * s % p = y - z + p := by exact (place_diff hy hz).trans (mod_low (x := y - z) hp (by omega) (by omega))
            have hk1 := (h.no (k - j) (by omega) (by omega)).2
            have e1 : (j - (k - b)) * s % p = (z - (y + e)) % p := by rw [Int.sub_mul, Int.sub_emod, hz, hkb, Int.sub_emod_emod]
            have e1 := e1.trans (mod_in (x := z - (y + e)) (p := p) (by omega) (by omega))
            have := (h.no (j - (k - b)) (by omega) (by omega)).1
            omega
          · subst w2; omega
          · have hjk : (j - k) * s % p = z - y := by exact (place_diff hz hy).trans (mod_in (x := z - y) (by omega) (by omega))
            have hk1 := (h.no (j - k) (by omega) (by omega)).1
            have e1 : (k + a - j) * s % p = (y + d - z) % p := by rw [Int.sub_mul, Int.sub_emod, hka, hz, Int.emod_sub_emod]
            by_cases w4 : y + d = z
            · have e2 : (k + a - j) * s % p = 0 := by rw [e1, w4]; simp
              have := (h.no (k + a - j) (by omega) (by omega)).1
              omega
            · have e1 := e1.trans (mod_low (x := y + d - z) hp (by omega) (by omega))
              have := (h.no (k + a - j) (by omega) (by omega)).2
              omega
        · omega
  · left; exact q
/-- behind the gap stands a mark, or the ring is through -/
theorem gap_next {p s n a d b e k : Int} (h : Nearest p s n a d b e) (ht : n ≤ top p s) (k0 : 0 ≤ k) (kn : k < n) :
    0 < gapAt n a d b e k ∧ k * s % p + gapAt n a d b e k ≤ p ∧ (k * s % p + gapAt n a d b e k = p ∨ ∃ j, 0 ≤ j ∧ j < n ∧ j * s % p = k * s % p + gapAt n a d b e k) := by
  have hl := h.near.lt
  have d0 := h.near.d0
  have e0 := h.near.e0
  have a1 := h.near.a1
  have b1 := h.near.b1
  have pa := h.near.pa
  have pb := h.near.pb
  have hall := h.all
  have an := h.an
  have bn := h.bn
  have hp : 0 < p := by omega
  have y0 := Int.emod_nonneg (k * s) (show p ≠ 0 by omega)
  have y1 := Int.emod_lt_of_pos (k * s) hp
  have yno : 0 < k → d ≤ k * s % p ∧ k * s % p ≤ p - e := fun z => h.no k z kn
  have yz : k = 0 → k * s % p = 0 := fun z => by rw [z]; simp
  have hka : (k + a) * s % p = (k * s % p + d) % p := place_sum rfl pa
  have hkb : (k - b) * s % p = (k * s % p + e) % p := place_back hp pb
  generalize k * s % p = y at *
  unfold gapAt
  split
  · rename_i h1
    obtain ⟨c1, c2⟩ := h.no (k + a) (by omega) h1
    rcases Int.lt_or_le (y + d) p with w | w
    · have e1 := hka.trans (mod_in (x := y + d) (by omega) w)
      exact ⟨d0, by omega, .inr ⟨k + a, by omega, h1, e1⟩⟩
    · have e1 := hka.trans (mod_high (x := y + d) hp w (by omega))
      omega
  · rename_i h1
    split
    · rename_i h2
      obtain ⟨c3, c4⟩ := yno (by omega)
      rcases Int.lt_or_le (y + e) p with w | w
      · have e1 := hkb.trans (mod_in (x := y + e) (by omega) w)
        exact ⟨e0, by omega, .inr ⟨k - b, by omega, by omega, e1⟩⟩
      · exact ⟨e0, by omega, .inl (by omega)⟩
    · rename_i h2
      have hj : (k + a - b) * s % p = (y + (d + e)) % p := by
        have := place_back (p := p) (s := s) (k := k + a) hp pb
        rw [this, hka, Int.emod_add_emod, Int.add_assoc]
      obtain ⟨c1, c2⟩ := h.no (k + a - b) (by omega) (by omega)
      rcases Int.lt_or_le (y + (d + e)) p with w | w
      · have e1 := hj.trans (mod_in (x := y + (d + e)) (by omega) w)
        exact ⟨by omega, by omega, .inr ⟨k + a - b, by omega, by omega, e1⟩⟩
      · have e1 := hj.trans (mod_high (x := y + (d + e)) hp w (by omega))
        exfalso
        by_cases z : k = 0
        · have := yz z
          omega
        · obtain ⟨c3, c4⟩ := yno (by omega)
          have e2 : (k + a - b) * s % p = a * s % p := by omega
          have := marks_apart (s := s) hp (i := k + a - b) (j := a) (by omega) (by omega) (by omega) (by omega) e2
          omega
/-! ### the differences along a rising list -/
def diffs (p : Int) : List Int → List Int
  | [] => []
  | [x] => [p - x]
  | x :: y :: t => (y - x) :: diffs p (y :: t)
theorem diffs_eq {p : Int} {P : Int → Prop} {g : Int → Int} (hfree : ∀ x z, P x → P z → z ≤ x ∨ x + g x ≤ z) (hnext : ∀ x, P x → 0 < g x ∧ (x + g x = p ∨ P (x + g x))) (hlt : ∀ z, P z → z < p) :
    ∀ {l : List Int}, l.Pairwise (· < ·) → (∀ x ∈ l, P x) → (∀ x ∈ l, ∀ z, P z → x < z → z ∈ l) → diffs p l = l.map g
  | [], _, _, _ => rfl
  | [x], _, hm, hu => by
    have hx := hm x (by simp)
    obtain ⟨g0, h⟩ := hnext x hx
    have : x + g x = p := by
      rcases h with h | h
      · exact h
      · have := hu x (by simp) _ h (by omega)
        simp at this
        omega
    show [p - x] = [g x]
    have e : p - x = g x := by omega
    rw [e]
  | x :: y :: t, hp, hm, hu => by
    have hp' := List.pairwise_cons.mp hp
    have hx := hm x (by simp)
    have hy := hm y (by simp)
    have hxy := hp'.1 y (by simp)
    obtain ⟨g0, h⟩ := hnext x hx
    have e : y - x = g x := by
      have h1 := hfree x y hx hy
      have h2 := hlt y hy
      rcases h with h | h
      · omega
      · have h3 := hu x (by simp) _ h (by omega)
        rcases List.mem_cons.mp h3 with h4 | h4
        · omega
        · rcases List.mem_cons.mp h4 with h5 | h5
          · omega
          · have := (List.pairwise_cons.mp hp'.2).1 _ h5
            omega
    show (y - x) :: diffs p (y :: t) = g x :: (y :: t).map g
    rw [e, diffs_eq hfree hnext hlt hp'.2 (fun z hz => hm z (List.mem_cons_of_mem _ hz)) fun z hz w hw hzw => by
      have := hu z (List.mem_cons_of_mem _ hz) w hw hzw
      rcases List.mem_cons.mp this with h5 | h5
      · have := hp'.1 z hz
        omega
      · exact h5]
/-- of the marks' places in order the differences are the gaps -/
theorem diffs_gaps {p s n a d b e : Int} {m : Nat} {l : List Int} (hm : n = m) (h : Nearest p s n a d b e) (ht : n ≤ top p s) (hl : l.Pairwise (· < ·)) (hp : l.Perm (spots p s m)) :
    diffs p l = l.map fun x => gapAt n a d b e (theAt p s x) := by
  have d0 := h.near.d0
  have e0 := h.near.e0
  have hll := h.near.lt
  have p0 : 0 < p := by omega
  have mem : ∀ x, x ∈ l ↔ ∃ k : Int, 0 ≤ k ∧ k < n ∧ k * s % p = x := fun x => by
    rw [hp.mem_iff]
    unfold spots
    rw [List.mem_map]
    constructor
    · rintro ⟨i, hi, rfl⟩
      have := List.mem_range.mp hi
      exact ⟨i, by omega, by omega, rfl⟩
    · rintro ⟨k, k0, k1, rfl⟩
      exact ⟨k.toNat, List.mem_range.mpr (by omega), by rw [show ((k.toNat : Nat) : Int) = k by omega]⟩
  refine diffs_eq (P := fun x => x ∈ l) (fun x z hx hz => ?_) (fun x hx => ?_) (fun z hz => ?_) hl (fun x hx => hx) fun x _ z hz _ => hz
  · obtain ⟨k, k0, k1, rfl⟩ := (mem x).mp hx
    obtain ⟨j, j0, j1, rfl⟩ := (mem z).mp hz
    rw [theAt_eq (k := k) p0 k0 (by omega) rfl]
    exact gap_free h k0 k1 j0 j1
  · obtain ⟨k, k0, k1, rfl⟩ := (mem x).mp hx
    rw [theAt_eq (k := k) p0 k0 (by omega) rfl]
    obtain ⟨h1, h2, h3⟩ := gap_next h ht k0 k1
    refine ⟨h1, ?_⟩
    rcases h3 with h3 | ⟨j, j0, j1, j2⟩
    · exact .inl h3
    · exact .inr ((mem _).mpr ⟨j, j0, j1, j2⟩)
  · obtain ⟨j, j0, j1, rfl⟩ := (mem z).mp hz
    exact Int.emod_lt_of_pos _ p0
/-- how many gaps are of a size -/
theorem gap_count {n a d b e g : Int} {m : Nat} (hm : n = m) (a0 : 0 ≤ a) (b0 : 0 ≤ b) (an : a < n) (bn : b < n) (hall : n ≤ a + b) :
    sumN (fun i : Nat => if gapAt n a d b e i = g then 1 else 0) m = (if d = g then n - a else 0) + (if d + e = g then a + b - n else 0) + (if e = g then n - b else 0) := by
  obtain ⟨A, hA⟩ : ∃ A : Nat, n - a = A := ⟨(n - a).toNat, by omega⟩
  obtain ⟨B, hB⟩ : ∃ B : Nat, a + b - n = B := ⟨(a + b - n).toNat, by omega⟩
  obtain ⟨C, hC⟩ : ∃ C : Nat, n - b = C := ⟨(n - b).toNat, by omega⟩
  have hM : m = A + B + C := by omega
  rw [hM, sumN_split, sumN_split, hA, hB, hC]
  have s1 : sumN (fun i : Nat => if gapAt n a d b e i = g then (1 : Int) else 0) A = if d = g then (A : Int) else 0 := by
    rw [sumN_congr (g := fun _ => if d = g then 1 else 0) fun i hi => by
      have q : gapAt n a d b e (i : Int) = d := if_pos (by omega)
      rw [q], sumN_const]
    split <;> simp
  have s2 : sumN (fun i : Nat => (fun i : Nat => if gapAt n a d b e i = g then (1 : Int) else 0) (A + i)) B = if d + e = g then (B : Int) else 0 := by
    rw [sumN_congr (g := fun _ => if d + e = g then 1 else 0) fun i hi => by show (if gapAt n a d b e ((A + i : Nat) : Int) = g then (1 : Int) else 0) = _; have q : gapAt n a d b e ((A + i : Nat) : Int) = d + e := (if_neg (by omega)).trans (if_neg (by omega)); rw [q], sumN_const]
    split <;> simp
  have s3 : sumN (fun i : Nat => (fun i : Nat => if gapAt n a d b e i = g then (1 : Int) else 0) (A + B + i)) C = if e = g then (C : Int) else 0 := by
    rw [sumN_congr (g := fun _ => if e = g then 1 else 0) fun i hi => by show (if gapAt n a d b e ((A + B + i : Nat) : Int) = g then (1 : Int) else 0) = _; have q : gapAt n a d b e ((A + B + i : Nat) : Int) = e := (if_neg (by omega)).trans (if_pos (by omega)); rw [q], sumN_const]
    split <;> simp
  rw [s1, s2, s3]
end RS
namespace RS
/-! ### a tally of ints -/
def tget (l : List (Int × Int)) (k : Int) : Option Int := (l.find? fun x => decide (x.1 = k)).map (·.2)
def tput (l : List (Int × Int)) (k v : Int) : List (Int × Int) := if (l.any fun x => decide (x.1 = k)) = true then l.map (fun x => if x.1 = k then (x.1, v) else x) else l ++ [(k, v)]
def tinc (l : List (Int × Int)) (k : Int) : List (Int × Int) := tput l k ((tget l k).getD 0 + 1)
def tally (ds : List Int) : List (Int × Int) := ds.foldl tinc []
/-- keys apart, each with its count -/
structure Tal (l : List (Int × Int)) (c : Int → Int) : Prop where
  nd : (l.map (·.1)).Nodup
  is : ∀ g v, (g, v) ∈ l ↔ v = c g ∧ 0 < v
theorem tget_mem {l : List (Int × Int)} (hn : (l.map (·.1)).Nodup) {k v : Int} (h : (k, v) ∈ l) : tget l k = some v := by
  induction l with
  | nil => cases h
  | cons x t ih =>
    rw [List.map_cons] at hn
    have hn' := List.nodup_cons.mp hn
    unfold tget
    rw [List.find?_cons]
    rcases List.mem_cons.mp h with e | e
    · subst e
      simp
    · have : x.1 ≠ k := fun z => hn'.1 (by rw [z]; exact List.mem_map_of_mem (f := (·.1)) e)
      have ih' := ih hn'.2 e
      unfold tget at ih'
      rw [decide_eq_false this]
      exact ih'
theorem tget_none {l : List (Int × Int)} {k : Int} (h : ∀ v, (k, v) ∉ l) : tget l k = none := by
  unfold tget
  have : (l.find? fun x => decide (x.1 = k)) = none := List.find?_eq_none.mpr fun x hx => by
    intro z
    have e : x.1 = k := by simpa using z
    exact h x.2 (by rw [← e]; exact hx)
  rw [this]
  rfl
theorem any_mem {l : List (Int × Int)} {k : Int} : (l.any fun x => decide (x.1 = k)) = true ↔ ∃ v, (k, v) ∈ l := by
  rw [List.any_eq_true]
  constructor
  · rintro ⟨x, hx, e⟩
    have e : x.1 = k := by simpa using e
    exact ⟨x.2, by rw [← e]; exact hx⟩
  · rintro ⟨v, hv⟩
    exact ⟨(k, v), hv, by simp⟩
theorem Tal.inc {l : List (Int × Int)} {c : Int → Int} (h : Tal l c) (h0 : ∀ g, 0 ≤ c g) (k : Int) : Tal (tinc l k) (fun g => c g + if g = k then 1 else 0) := by
  have hget : (tget l k).getD 0 = c k := by
    by_cases z : 0 < c k
    · rw [tget_mem h.nd ((h.is k (c k)).mpr ⟨rfl, z⟩)]; rfl
    · rw [tget_none fun v hv => by have := (h.is k v).mp hv; omega]
      have := h0 k
      show 0 = c k
      omega
  unfold tinc
  rw [hget]
  unfold tput
  by_cases q : (l.any fun x => decide (x.1 = k)) = true
  · rw [if_pos q]
    have hk : (l.map fun x => if x.1 = k then (x.1, c k + 1) else x).map (·.1) = l.map (·.1) := by
      rw [List.map_map]
      refine List.map_congr_left fun x _ => ?_
      show (if x.1 = k then (x.1, c k + 1) else x).1 = x.1
      split <;> rfl
    refine ⟨by rw [hk]; exact h.nd, fun g v => ?_⟩
    rw [List.mem_map]
    constructor
    · rintro ⟨x, hx, e⟩
      have hx' := (h.is x.1 x.2).mp hx
      by_cases z : x.1 = k
      · rw [if_pos z] at e
        have e1 : x.1 = g := congrArg (·.1) e
        have e2 : c k + 1 = v := congrArg (·.2) e
        rw [← e1, if_pos z, z]
        have := h0 k
        omega
      · rw [if_neg z] at e
        have e1 : x.1 = g := congrArg (·.1) e
        have e2 : x.2 = v := congrArg (·.2) e
        rw [if_neg (by rw [← e1]; exact z), ← e1, ← e2]
        exact ⟨by have := hx'.1; omega, hx'.2⟩
    · rintro ⟨e, hv⟩
      by_cases z : g = k
      · subst z
        obtain ⟨v0, hv0⟩ := any_mem.mp q
        exact ⟨(g, v0), hv0, by rw [if_pos rfl]; rw [if_pos rfl] at e; rw [e]⟩
      · rw [if_neg z] at e
        exact ⟨(g, v), (h.is g v).mpr ⟨by omega, hv⟩, by rw [if_neg z]⟩
  · rw [if_neg q]
    have hno : ∀ v, (k, v) ∉ l := fun v hv => q (any_mem.mpr ⟨v, hv⟩)
    have ck : c k = 0 := by
      have := h0 k
      rcases Int.lt_or_le 0 (c k) with z | z
      · exact absurd ((h.is k (c k)).mpr ⟨rfl, z⟩) (hno _)
      · omega
    refine ⟨?_, fun g v => ?_⟩
    · rw [List.map_append, List.nodup_append]
      refine ⟨h.nd, by simp, fun x hx y hy => ?_⟩
      obtain ⟨w, hw, rfl⟩ := List.mem_map.mp hx
      have : y = k := by simpa using hy
      subst this
      intro z
      exact hno w.2 (by rw [← z]; exact hw)
    · rw [List.mem_append]
      constructor
      · rintro (hx | hx)
        · have hx' := (h.is g v).mp hx
          have : g ≠ k := fun z => hno v (by rw [← z]; exact hx)
          rw [if_neg this]
          exact ⟨by omega, hx'.2⟩
        · have e : (g, v) = (k, c k + 1) := by simpa using hx
          have e1 : g = k := congrArg (·.1) e
          have e2 : v = c k + 1 := congrArg (·.2) e
          rw [e1, if_pos rfl]
          exact ⟨e2, by omega⟩
      · rintro ⟨e, hv⟩
        by_cases z : g = k
        · subst z
          rw [if_pos rfl] at e
          exact .inr (by rw [e]; simp)
        · rw [if_neg z] at e
          exact .inl ((h.is g v).mpr ⟨by omega, hv⟩)
theorem tal_fold : ∀ (ds : List Int) {l : List (Int × Int)} {c : Int → Int}, Tal l c → (∀ g, 0 ≤ c g) → Tal (ds.foldl tinc l) (fun g => c g + (ds.count g : Nat))
  | [], l, c, h, h0 => by simpa using h
  | x :: t, l, c, h, h0 => by
    have h1 := tal_fold t (h.inc h0 x) fun g => by have := h0 g; split <;> omega
    refine ⟨h1.nd, fun g v => ?_⟩
    have e : (c g + if g = x then 1 else 0) + ((t.count g : Nat) : Int) = c g + (((x :: t).count g : Nat) : Int) := by
      rw [List.count_cons]
      by_cases z : g = x
      · rw [if_pos z, if_pos (by simp [z])]; omega
      · rw [if_neg z, if_neg (by simp; exact fun y => z y.symm)]; omega
    rw [← e]
    exact h1.is g v
theorem tally_tal (ds : List Int) : Tal (tally ds) (fun g => (ds.count g : Nat)) := by
  have := tal_fold ds (l := []) (c := fun _ => 0) ⟨by simp, fun g v => ⟨fun h => (by cases h), fun ⟨h1, h2⟩ => by omega⟩⟩ fun _ => Int.le_refl 0
  refine ⟨this.nd, fun g v => ?_⟩
  have z := this.is g v
  rw [Int.zero_add] at z
  exact z
theorem Tal.perm {l l' : List (Int × Int)} {c : Int → Int} (h : Tal l c) (h' : Tal l' c) : l.Perm l' := by
  have nd : ∀ {l : List (Int × Int)}, (l.map (·.1)).Nodup → l.Nodup := fun {l} h => (List.pairwise_map.mp h).imp fun {a b} hab z => hab (by rw [z])
  exact (List.perm_ext_iff_of_nodup (nd h.nd) (nd h'.nd)).mpr fun x => (h.is x.1 x.2).trans (h'.is x.1 x.2).symm
theorem gapsL_tal {n a d b e : Int} (d0 : 0 < d) (e0 : 0 < e) (an : a < n) (bn : b < n) (hall : n ≤ a + b) :
    Tal (gapsL n a d b e) fun g => (if d = g then n - a else 0) + (if d + e = g then a + b - n else 0) + (if e = g then n - b else 0) := by
  refine ⟨?_, fun g v => ?_⟩
  · have := gapsL_rise (n := n) (a := a) (d := d) (b := b) (e := e) d0 e0
    exact List.pairwise_map.mpr (this.imp fun {x y} h z => by omega)
  · rw [gapsL_perm.mem_iff]
    unfold keep rawL
    rw [List.mem_filter]
    by_cases z : d = e
    · subst z
      rw [if_pos rfl]
      simp only [List.mem_cons, List.not_mem_nil, or_false, Prod.mk.injEq, decide_eq_true_eq]
      constructor
      · rintro ⟨⟨rfl, rfl⟩ | ⟨rfl, rfl⟩, h⟩
        · rw [if_pos rfl, if_neg (by omega), if_pos rfl]; omega
        · rw [if_neg (by omega), if_pos rfl, if_neg (by omega)]; omega
      · rintro ⟨h1, h2⟩
        refine ⟨?_, h2⟩
        by_cases q : d = g
        · rw [if_pos q, if_neg (by omega), if_pos q] at h1
          exact .inl ⟨q.symm, by omega⟩
        · by_cases q2 : d + d = g
          · rw [if_neg q, if_pos q2, if_neg q] at h1
            exact .inr ⟨q2.symm, by omega⟩
          · rw [if_neg q, if_neg q2, if_neg q] at h1
            omega
    · rw [if_neg z]
      simp only [List.mem_cons, List.not_mem_nil, or_false, Prod.mk.injEq, decide_eq_true_eq]
      constructor
      · rintro ⟨⟨rfl, rfl⟩ | ⟨rfl, rfl⟩ | ⟨rfl, rfl⟩, h⟩
        · rw [if_pos rfl, if_neg (by omega), if_neg (by omega)]; omega
        · rw [if_neg (by omega), if_neg (by omega), if_pos rfl]; omega
        · rw [if_neg (by omega), if_pos rfl, if_neg (by omega)]; omega
      · rintro ⟨h1, h2⟩
        refine ⟨?_, h2⟩
        by_cases q : d = g
        · rw [if_pos q, if_neg (by omega), if_neg (by omega)] at h1
          exact .inl ⟨q.symm, by omega⟩
        · by_cases q2 : d + e = g
          · rw [if_neg q, if_pos q2, if_neg (by omega)] at h1
            exact .inr (.inr ⟨q2.symm, by omega⟩)
          · by_cases q3 : e = g
            · rw [if_neg q, if_neg q2, if_pos q3] at h1
              exact .inr (.inl ⟨q3.symm, by omega⟩)
            · rw [if_neg q, if_neg q2, if_neg q3] at h1
              omega
theorem count_sum (f : Nat → Int) (g : Int) : ∀ m : Nat, ((((List.range m).map f).count g : Nat) : Int) = sumN (fun i => if f i = g then 1 else 0) m
  | 0 => rfl
  | m + 1 => by
    have ih := count_sum f g m
    rw [List.range_succ, List.map_append, List.count_append]
    show ((_ + _ : Nat) : Int) = sumN _ m + if f m = g then 1 else 0
    rw [← ih]
    by_cases z : f m = g
    · rw [if_pos z]; simp [z]
    · rw [if_neg z]; simp [z]
/-- the tally of the differences is the list of gaps -/
theorem tally_gaps {p s n a d b e : Int} {m : Nat} {l : List Int} (hm : n = m) (h : Nearest p s n a d b e) (ht : n ≤ top p s) (hl : l.Pairwise (· < ·)) (hp : l.Perm (spots p s m)) : (gapsL n a d b e).Perm (tally (diffs p l)) := by
  have d0 := h.near.d0
  have e0 := h.near.e0
  have a1 := h.near.a1
  have b1 := h.near.b1
  have p0 : 0 < p := by have := h.near.lt; omega
  have hc : ∀ g, (((diffs p l).count g : Nat) : Int) = (if d = g then n - a else 0) + (if d + e = g then a + b - n else 0) + (if e = g then n - b else 0) := fun g => by
    rw [diffs_gaps hm h ht hl hp, (hp.map _).count_eq]
    have e1 : (spots p s m).map (fun x => gapAt n a d b e (theAt p s x)) = (List.range m).map fun i : Nat => gapAt n a d b e (i : Int) := by
      unfold spots
      rw [List.map_map]
      refine List.map_congr_left fun i hi => ?_
      have := List.mem_range.mp hi
      show gapAt n a d b e (theAt p s ((i : Int) * s % p)) = _
      rw [theAt_eq (k := (i : Int)) p0 (by omega) (by omega) rfl]
    rw [e1, count_sum, gap_count hm (by omega) (by omega) h.an h.bn h.all]
  have t1 := gapsL_tal d0 e0 h.an h.bn h.all
  have t2 := tally_tal (diffs p l)
  refine t1.perm ⟨t2.nd, fun g v => ?_⟩
  rw [← hc g]
  exact t2.is g v
end RS
namespace RS
/-! ### the mark of a place that has one -/
theorem inv_ex {a m : Int} (hm : 0 < m) (hg : Int.gcd m a = 1) : ∀ (k : Nat) (one other u v : Int), other.toNat ≤ k → Eu a m one other u v → ∃ r, (r * a) % m = 1 % m
  | 0, one, other, u, v, hk, h => by
    have h1 := h.r
    have z : other = 0 := by omega
    subst z
    exact ⟨_, h.done hm hg⟩
  | k + 1, one, other, u, v, hk, h => by
    by_cases z : other = 0
    · subst z
      exact ⟨_, h.done hm hg⟩
    · have h1 := h.r
      have hd := Int.emod_add_mul_ediv one other
      have h2 := Int.emod_lt_of_pos one (show 0 < other by omega)
      have e1 : one - one / other * other = one % other := by rw [Int.mul_comm (one / other)]; omega
      exact inv_ex hm hg k other (one - one / other * other) v _ (by omega) (h.next (by omega))
theorem theAt_spec {p s x : Int} (hp : 0 < p) (h0 : 0 ≤ x) (h1 : x < p) (hg : x % G p s = 0) : 0 ≤ theAt p s x ∧ theAt p s x < top p s ∧ theAt p s x * s % p = x := by
  have t0 := top_pos (s := s) hp
  obtain ⟨r, hr⟩ := inv_ex t0 (coprime_of (p := p) (s := s) hp) _ _ _ _ _ (Nat.le_refl _) (Eu.start t0)
  have e := mark_at_place hp hr h0 h1 hg
  have hk := theAt_eq (k := x / G p s * r % top p s) hp (Int.emod_nonneg _ (by omega)) (Int.emod_lt_of_pos _ t0) e
  rw [hk]
  exact ⟨Int.emod_nonneg _ (by omega), Int.emod_lt_of_pos _ t0, e⟩
/-! ### the sizes next to mark 0 -/
theorem none_between {p s n x y : Int} (hp : 0 < p) (hn : n ≤ top p s) (hxy : x ≤ y) (h : ∀ k, 0 ≤ k → k < n → k * s % p ≤ x ∨ y < k * s % p) : cnt p s n.toNat y = cnt p s n.toNat x := by
  have h1 := cnt_mono p s n.toNat hxy
  rcases Int.lt_or_le (cnt p s n.toNat x) (cnt p s n.toNat y) with q | q
  · exfalso
    have e : x + ((y - x).toNat : Nat) = y := by omega
    obtain ⟨z, z1, z2, z3, z4⟩ := step_ex (fun x => cnt p s n.toNat x) (cnt p s n.toNat x) (y - x).toNat x (Int.le_refl _) (by rw [e]; exact q)
    have b0 := cnt_nn p s n.toNat x
    have b1 := cnt_le p s n.toNat y
    obtain ⟨k, k1, k2, k3⟩ := found_place (s := s) hp (show ((n.toNat : Nat) : Int) ≤ top p s by have := top_pos (s := s) hp; omega) z4 z3
    have := h k (by omega) (by omega)
    omega
  · omega
theorem next_is {p s n a d b e : Int} (hp : 0 < p) (hn : n ≤ top p s) (h : Nearest p s n a d b e) :
    theAt p s d = a ∧ theAt p s (p - e) = b ∧ d % G p s = 0 ∧ (p - e) % G p s = 0 ∧ cnt p s n.toNat (d - 1) = 1 ∧ cnt p s n.toNat (p - e) = n := by
  have d0 := h.near.d0
  have e0 := h.near.e0
  have hl := h.near.lt
  have a1 := h.near.a1
  have b1 := h.near.b1
  have an := h.an
  have bn := h.bn
  have pa := h.near.pa
  have pb := h.near.pb
  refine ⟨theAt_eq hp (by omega) (by omega) pa, theAt_eq hp (by omega) (by omega) pb, ?_, ?_, ?_, ?_⟩
  · rw [← pa]; exact place_mult hp
  · rw [← pb]; exact place_mult hp
  · have z : cnt p s n.toNat 0 = 1 := by
      have := cnt_at1 (p := p) (s := s) (x := 0) (n := n.toNat) (k := 0) hp (by omega) (by omega) (by simp)
      rw [this, cnt_neg p s n.toNat (0 - 1) hp (by omega)]
      rfl
    rw [← z]
    refine none_between hp hn (by omega) fun k k0 k1 => ?_
    by_cases q : k = 0
    · subst q; left; simp
    · right
      have := (h.no k (by omega) k1).1
      omega
  · have z : cnt p s n.toNat (p - 1) = n := by rw [cnt_all p s n.toNat (p - 1) hp (by omega)]; omega
    rw [← none_between (p := p) (s := s) (n := n) (x := p - e) (y := p - 1) hp hn (by omega) fun k k0 k1 => ?_]
    · exact z
    · left
      by_cases q : k = 0
      · subst q; simp; omega
      · exact (h.no k (by omega) k1).2
theorem next_only {p s n a d b e on back x y : Int} (hp : 0 < p) (hn : n ≤ top p s) (h : Nearest p s n a d b e) (o1 : 1 ≤ on) (o2 : on ≤ p) (k1 : 1 ≤ back) (k2 : back ≤ p)
    (hx : 0 < x) (hxn : x < n) (hy : 0 < y) (hyn : y < n) (gx : (on % p) % G p s = 0) (gy : ((p - back) % p) % G p s = 0) (ex : theAt p s (on % p) = x) (ey : theAt p s ((p - back) % p) = y)
    (c1 : cnt p s n.toNat (on - 1) = 1) (c2 : cnt p s n.toNat (p - back) = n) : on = d ∧ back = e := by
  have d0 := h.near.d0
  have e0 := h.near.e0
  have hl := h.near.lt
  have a1 := h.near.a1
  have b1 := h.near.b1
  have an := h.an
  have bn := h.bn
  have pa := h.near.pa
  have pb := h.near.pb
  have sx := (theAt_spec (s := s) hp (Int.emod_nonneg on (by omega)) (Int.emod_lt_of_pos on hp) gx).2.2
  have sy := (theAt_spec (s := s) hp (Int.emod_nonneg (p - back) (by omega)) (Int.emod_lt_of_pos (p - back) hp) gy).2.2
  rw [ex] at sx
  rw [ey] at sy
  have nz : ∀ k, 0 < k → k < n → k * s % p ≠ 0 := fun k h0 h1 z => by
    have := marks_apart (s := s) hp (i := k) (j := 0) (by omega) (by omega) (by omega) (by omega) (by rw [z]; simp)
    omega
  have far : ∀ k, 0 < k → k < n → on ≤ k * s % p := fun k h0 h1 => by
    have z := nz k h0 h1
    have z0 := Int.emod_nonneg (k * s) (show p ≠ 0 by omega)
    rcases Int.lt_or_le (k * s % p) on with q | q
    · exfalso
      have e1 : ((k.toNat : Nat) : Int) = k := by omega
      have m1 := cnt_at (p := p) (s := s) (x := k * s % p) (n := n.toNat) (k := k.toNat) (by omega) (by rw [e1])
      have m2 := cnt_at (p := p) (s := s) (x := 0) (n := n.toNat) (k := 0) (by omega) (by simp)
      have m3 := cnt_nn p s n.toNat (0 - 1)
      have m4 := cnt_mono p s n.toNat (show 0 ≤ k * s % p - 1 by omega)
      have m5 := cnt_mono p s n.toNat (show k * s % p ≤ on - 1 by omega)
      omega
    · exact q
  have low : ∀ k, 0 ≤ k → k < n → k * s % p ≤ p - back := fun k h0 h1 => by
    rcases Int.lt_or_le (p - back) (k * s % p) with q | q
    · exfalso
      have e1 : ((k.toNat : Nat) : Int) = k := by omega
      have m1 := cnt_at (p := p) (s := s) (x := k * s % p) (n := n.toNat) (k := k.toNat) (by omega) (by rw [e1])
      have m4 := cnt_mono p s n.toNat (show p - back ≤ k * s % p - 1 by omega)
      have m5 := cnt_le p s n.toNat (k * s % p)
      omega
    · exact q
  have f1 := far a (by omega) an
  have f2 := far x hx hxn
  have l1 := low b (by omega) bn
  have l2 := (h.no y hy hyn).2
  have n1 := (h.no x hx hxn).1
  have eb : (p - back) % p = p - back := Int.emod_eq_of_lt (by omega) (by omega)
  rw [sy, eb] at l2
  rw [pb] at l1
  rw [pa] at f1
  rcases Int.lt_or_le on p with q | q
  · have eo : on % p = on := Int.emod_eq_of_lt (by omega) q
    rw [sx, eo] at n1
    omega
  · omega
/-! ### their sums -/
theorem keep_sum (f : Int × Int → Int) (hf : ∀ x, x.2 = 0 → f x = 0) : ∀ l : List (Int × Int), (∀ x ∈ l, 0 ≤ x.2) → ((keep l).map f).sum = (l.map f).sum
  | [], _ => rfl
  | x :: t, h => by
    have ih := keep_sum f hf t fun y hy => h y (List.mem_cons_of_mem _ hy)
    unfold keep at ih ⊢
    rw [List.filter_cons]
    by_cases q : 0 < x.2
    · rw [if_pos (by simpa using q), List.map_cons, List.map_cons, List.sum_cons, List.sum_cons, ih]
    · have := h x (by simp)
      rw [if_neg (by simpa using q), ih, List.map_cons, List.sum_cons, hf x (by omega), Int.zero_add]
theorem gapsL_sums {p s n a d b e : Int} (h : Nearest p s n a d b e) : ((gapsL n a d b e).map fun x => x.2).sum = n ∧ ((gapsL n a d b e).map fun x => x.1 * x.2).sum = p ∧ (gapsL n a d b e).length ≤ 3 := by
  have an := h.an
  have bn := h.bn
  have hall := h.all
  have hs := h.near.sum
  unfold gapsL
  split
  · rename_i z
    subst z
    refine ⟨?_, ?_, Nat.le_trans (List.length_filter_le _ _) (by simp)⟩
    · rw [keep_sum _ (fun x hx => hx) _ (by simp; omega)]; simp; omega
    · rw [keep_sum _ (fun x hx => by rw [hx]; simp) _ (by simp; omega)]; simp; grind
  · split
    · refine ⟨?_, ?_, Nat.le_trans (List.length_filter_le _ _) (by simp)⟩
      · rw [keep_sum _ (fun x hx => hx) _ (by simp; omega)]; simp; omega
      · rw [keep_sum _ (fun x hx => by rw [hx]; simp) _ (by simp; omega)]; simp; grind
    · refine ⟨?_, ?_, Nat.le_trans (List.length_filter_le _ _) (by simp)⟩
      · rw [keep_sum _ (fun x hx => hx) _ (by simp; omega)]; simp; omega
      · rw [keep_sum _ (fun x hx => by rw [hx]; simp) _ (by simp; omega)]; simp; grind
theorem gapsOf_facts {p s n : Int} (hp : 0 < p) (s0 : 0 ≤ s) (sp : s < p) (n1 : 1 ≤ n) (hn : n ≤ top p s) :
    ((gapsOf p s n).map fun x => x.2).sum = n ∧ ((gapsOf p s n).map fun x => x.1 * x.2).sum = p ∧ (gapsOf p s n).length ≤ 3 ∧ (∀ x ∈ gapsOf p s n, 1 ≤ x.1 ∧ x.1 ≤ p ∧ 1 ≤ x.2 ∧ x.2 ≤ n) ∧ (gapsOf p s n).Pairwise fun a b => a.1 < b.1 := by
  by_cases z : n = 1
  · subst z
    rw [gapsOf_one]
    refine ⟨by simp, by simp, by simp, fun x hx => ?_, by simp⟩
    rw [List.mem_singleton.mp hx]
    refine ⟨?_, ?_, ?_, ?_⟩ <;> simp only [] <;> omega
  · have hN := theNear_spec hp s0 sp (show 2 ≤ n by omega) hn
    rw [gapsOf_eq hp s0 sp (by omega) hn hN]
    obtain ⟨h1, h2, h3⟩ := gapsL_sums hN
    refine ⟨h1, h2, h3, fun x hx => ?_, gapsL_rise hN.near.d0 hN.near.e0⟩
    have d0 := hN.near.d0
    have e0 := hN.near.e0
    have a1 := hN.near.a1
    have b1 := hN.near.b1
    have hl := hN.near.lt
    have an := hN.an
    have bn := hN.bn
    rw [gapsL_perm.mem_iff] at hx
    unfold keep rawL at hx
    have hx2 := (List.mem_filter.mp hx).2
    have hx1 := (List.mem_filter.mp hx).1
    have hx2 : 0 < x.2 := by simpa using hx2
    have hs := hN.near.sum
    have hde : (theNear p s n).2.1 + (theNear p s n).2.2.2 ≤ p := by
      have m1 : (theNear p s n).2.1 * 1 ≤ (theNear p s n).2.1 * (theNear p s n).2.2.1 := Int.mul_le_mul_of_nonneg_left b1 (by omega)
      have m2 : (theNear p s n).2.2.2 * 1 ≤ (theNear p s n).2.2.2 * (theNear p s n).1 := Int.mul_le_mul_of_nonneg_left a1 (by omega)
      omega
    have hall := hN.all
    generalize (theNear p s n).1 = a at *
    generalize (theNear p s n).2.1 = d at *
    generalize (theNear p s n).2.2.1 = b at *
    generalize (theNear p s n).2.2.2 = e at *
    split at hx1
    · simp only [List.mem_cons, List.not_mem_nil, or_false] at hx1
      rcases hx1 with rfl | rfl <;> simp only [] at hx2 ⊢ <;> omega
    · simp only [List.mem_cons, List.not_mem_nil, or_false] at hx1
      rcases hx1 with rfl | rfl | rfl <;> simp only [] at hx2 ⊢ <;> omega
end RS
namespace RS
/-! ### the dict of sizes, told by hand -/
def nextT (n a d b e : Int) : List (Int × Int) :=
  tput (tput [(d + e, a + b - n)] d ((tget [(d + e, a + b - n)] d).getD 0 + (n - a))) e ((tget (tput [(d + e, a + b - n)] d ((tget [(d + e, a + b - n)] d).getD 0 + (n - a))) e).getD 0 + (n - b))
theorem nextT_eq {n a d b e : Int} (d0 : 0 < d) (e0 : 0 < e) : nextT n a d b e = if d = e then [(d + e, a + b - n), (d, n - a + (n - b))] else [(d + e, a + b - n), (d, n - a), (e, n - b)] := by
  have h1 : ¬ d + e = d := by omega
  have h2 : ¬ d + e = e := by omega
  have e1 : tget [(d + e, a + b - n)] d = none := by unfold tget; simp [h1]
  have e2 : tput [(d + e, a + b - n)] d ((none : Option Int).getD 0 + (n - a)) = [(d + e, a + b - n), (d, n - a)] := by unfold tput; simp [h1]
  unfold nextT
  rw [e1, e2]
  by_cases z : d = e
  · subst z
    rw [if_pos rfl]
    have e3 : tget [(d + d, a + b - n), (d, n - a)] d = some (n - a) := by unfold tget; simp [h1]
    rw [e3]
    unfold tput
    simp [h1]
  · rw [if_neg z]
    have e3 : tget [(d + e, a + b - n), (d, n - a)] e = none := by unfold tget; simp [h2, z]
    rw [e3]
    unfold tput
    simp [h2, z]
theorem nextT_perm {n a d b e : Int} (d0 : 0 < d) (e0 : 0 < e) : (gapsL n a d b e).Perm (keep (nextT n a d b e)) := by
  refine gapsL_perm.trans (List.Perm.filter _ ?_)
  rw [nextT_eq d0 e0]
  unfold rawL
  split
  · exact List.Perm.swap _ _ _
  · exact (List.Perm.cons _ (List.Perm.swap _ _ _)).trans (List.Perm.swap _ _ _)
theorem nextT_nodup {n a d b e : Int} (d0 : 0 < d) (e0 : 0 < e) : ((nextT n a d b e).map (·.1)).Nodup ∧ (nextT n a d b e).length ≤ 3 := by
  rw [nextT_eq d0 e0]
  split
  · exact ⟨by simp; omega, by simp⟩
  · exact ⟨by simp; omega, by simp⟩
theorem gapsL_has {p s n a d b e : Int} (h : Nearest p s n a d b e) : (∃ j, j < (gapsL n a d b e).length ∧ ((gapsL n a d b e).getD j (0, 0)).1 = d) ∧ ∃ j, j < (gapsL n a d b e).length ∧ ((gapsL n a d b e).getD j (0, 0)).1 = e := by
  have at_ : ∀ x ∈ gapsL n a d b e, ∃ j, j < (gapsL n a d b e).length ∧ ((gapsL n a d b e).getD j (0, 0)).1 = x.1 := fun x hx => by
    obtain ⟨j, hj, e⟩ := List.mem_iff_getElem.mp hx
    exact ⟨j, hj, by rw [← e]; simp [List.getD, hj]⟩
  have an := h.an
  have bn := h.bn
  by_cases z : d = e
  · have h1 : (d, n - a + (n - b)) ∈ gapsL n a d b e := gapsL_perm.mem_iff.mpr (List.mem_filter.mpr ⟨by unfold rawL; rw [if_pos z]; simp, by simp; omega⟩)
    obtain ⟨j, h2, h3⟩ := at_ _ h1
    exact ⟨⟨j, h2, h3⟩, ⟨j, h2, h3.trans z⟩⟩
  · exact ⟨at_ (d, n - a) (gapsL_perm.mem_iff.mpr (List.mem_filter.mpr ⟨by unfold rawL; rw [if_neg z]; simp, by simp; omega⟩)),
      at_ (e, n - b) (gapsL_perm.mem_iff.mpr (List.mem_filter.mpr ⟨by unfold rawL; rw [if_neg z]; simp, by simp; omega⟩))⟩
end RS
namespace RS
theorem keys_uniq {α : Type} (f : α → Int) : ∀ {l m : List α}, l.Perm m → l.Pairwise (fun a b => f a ≤ f b) → m.Pairwise (fun a b => f a < f b) → l = m
  | [], m, h, _, _ => (List.nil_perm.mp h).symm
  | a :: l, [], h, _, _ => absurd (List.perm_nil.mp h) (by simp)
  | a :: l, b :: m, h, hl, hm => by
    have hl' := List.pairwise_cons.mp hl
    have hm' := List.pairwise_cons.mp hm
    have ha : a ∈ b :: m := h.subset List.mem_cons_self
    have hb : b ∈ a :: l := h.symm.subset List.mem_cons_self
    have e : a = b := by
      rcases List.mem_cons.mp ha with z | z
      · exact z
      · rcases List.mem_cons.mp hb with y | y
        · exact y.symm
        · have h1 := hm'.1 a z
          have h2 := hl'.1 b y
          omega
    subst e
    rw [keys_uniq f (List.Perm.cons_inv h) hl'.2 hm'.2]
/-- sorted by their places, the marks stand by their turns -/
theorem marks_order {p s : Int} {m : Nat} (hp : 0 < p) (hm : (m : Int) ≤ top p s) {ns : List Int} (pm : ns.Perm ((List.range m).map fun i : Nat => (i : Int))) (pw : ns.Pairwise fun a b => a * s % p ≤ b * s % p) :
    ns = (List.range m).map fun t : Nat => theMark p s m t := by
  have sp : ∀ t : Nat, t < m → 0 ≤ theMark p s m t ∧ theMark p s m t < m ∧ cnt p s m (theMark p s m t * s % p) = t + 1 := fun t ht => by
    have := theMark_spec (s := s) hp hm (show (0 : Int) ≤ (t : Int) by omega) (show (t : Int) < m by omega)
    simpa using this
  have rise : ((List.range m).map fun t : Nat => theMark p s m t).Pairwise fun a b => a * s % p < b * s % p := by
    rw [List.pairwise_map]
    have hr : (List.range m).Pairwise (· < ·) := List.pairwise_lt_range
    refine List.Pairwise.imp_of_mem (fun {a b} ha hb hab => ?_) hr
    have h1 := (sp a (List.mem_range.mp ha)).2.2
    have h2 := (sp b (List.mem_range.mp hb)).2.2
    rcases Int.lt_or_le (theMark p s m a * s % p) (theMark p s m b * s % p) with q | q
    · exact q
    · have := cnt_mono p s m q
      omega
  refine keys_uniq (fun k => k * s % p) (pm.trans ?_) pw rise
  have nd1 : ((List.range m).map fun i : Nat => (i : Int)).Nodup := by
    rw [List.Nodup, List.pairwise_map]
    exact (List.nodup_range).imp fun {a b} h z => h (by omega)
  have nd2 : ((List.range m).map fun t : Nat => theMark p s m t).Nodup := rise.imp fun {a b} h z => by rw [z] at h; omega
  refine (List.perm_ext_iff_of_nodup nd1 nd2).mpr fun k => ?_
  simp only [List.mem_map, List.mem_range]
  constructor
  · rintro ⟨i, hi, rfl⟩
    have c1 := cnt_at (p := p) (s := s) (x := (i : Int) * s % p) (n := m) (k := i) hi rfl
    have c2 := cnt_nn p s m ((i : Int) * s % p - 1)
    have c3 := cnt_le p s m ((i : Int) * s % p)
    refine ⟨(cnt p s m ((i : Int) * s % p) - 1).toNat, by omega, ?_⟩
    refine theMark_eq hp hm (by omega) (by omega) ?_
    show cnt p s (m : Int).toNat _ = _
    rw [show ((m : Int)).toNat = m by omega]
    omega
  · rintro ⟨t, ht, rfl⟩
    obtain ⟨h0, h1, _⟩ := sp t ht
    exact ⟨(theMark p s m t).toNat, by omega, by omega⟩
end RS
namespace RS
/-! ### steps that part the ring evenly -/
theorem G_mult {t m : Int} (t1 : 1 ≤ t) : G (t * m) t = t := by
  unfold G
  rw [Int.gcd_comm]
  have h : Int.gcd t (t * m) = t.natAbs := by
    have := Int.gcd_mul_left t 1 m
    rw [Int.mul_one] at this
    rw [this]
    simp
  rw [h]
  omega
theorem top_mult {t m : Int} (t1 : 1 ≤ t) : top (t * m) t = m := by
  unfold top
  rw [G_mult t1]
  exact Int.mul_ediv_cancel_left m (by omega)
theorem top_zero {p : Int} (h : 0 < p) : top p 0 = 1 := by
  unfold top
  rw [G_zero (by omega)]
  exact Int.ediv_self (by omega)
theorem near_even {t m : Int} (t1 : 1 ≤ t) (m2 : 2 ≤ m) : Nearest (t * m) t m 1 t (m - 1) t := by
  have mul : ∀ k, 0 < k → k < m → k * t % (t * m) = k * t ∧ t ≤ k * t ∧ k * t ≤ t * m - t := fun k k0 km => by
    have h1 : 1 * t ≤ k * t := Int.mul_le_mul_of_nonneg_right (by omega) (by omega)
    have h2 : k * t ≤ (m - 1) * t := Int.mul_le_mul_of_nonneg_right (by omega) (by omega)
    have h3 : (m - 1) * t = t * m - t := by rw [Int.sub_mul, Int.mul_comm m t, Int.one_mul]
    exact ⟨Int.emod_eq_of_lt (by omega) (by omega), by omega, by omega⟩
  have h3 : (m - 1) * t = t * m - t := by rw [Int.sub_mul, Int.mul_comm m t, Int.one_mul]
  refine ⟨⟨by omega, by omega, by omega, by omega, by rw [Int.mul_sub, Int.mul_one]; omega, ?_, ?_, fun k k0 k1 => ?_⟩, by omega, by omega, by omega⟩
  · rw [(mul 1 (by omega) (by omega)).1, Int.one_mul]
  · rw [(mul (m - 1) (by omega) (by omega)).1, h3]
  · obtain ⟨a, b, c⟩ := mul k k0 (by omega)
    rw [a]
    exact ⟨b, c⟩
theorem gaps_even {t m : Int} (t1 : 1 ≤ t) (m2 : 2 ≤ m) : gapsOf (t * m) t m = [(t, m)] := by
  have h0 : t * 2 ≤ t * m := Int.mul_le_mul_of_nonneg_left m2 (by omega)
  rw [gapsOf_eq (by omega) (by omega) (by omega) m2 (by rw [top_mult t1]; omega) (near_even t1 m2)]
  unfold gapsL
  rw [if_pos rfl]
  unfold keep
  rw [List.filter_cons, if_pos (by show decide (0 < m - 1 + (m - (m - 1))) = true; simp; omega), List.filter_cons, if_neg (by show ¬ decide (0 < 1 + (m - 1) - m) = true; simp; omega)]
  show [(t, m - 1 + (m - (m - 1)))] = [(t, m)]
  rw [show m - 1 + (m - (m - 1)) = m by omega]
/-! ### all marks, no common part: a place's turn is itself -/
theorem mark_full {p s t k : Int} (hp : 0 < p) (hg : G p s = 1) (k0 : 0 ≤ k) (k1 : k < p) (h : k * s % p = t) : theMark p s p t = k := by
  have ht : top p s = p := by unfold top; rw [hg]; omega
  have b0 := Int.emod_nonneg (k * s) (show p ≠ 0 by omega)
  have b1 := Int.emod_lt_of_pos (k * s) hp
  exact theMark_eq hp (by omega) k0 k1 (by rw [cnt_full hp hg b0 b1, h])
theorem G_one (p : Int) : G p 1 = 1 := by unfold G; simp
theorem G_back {p : Int} (hp : 1 ≤ p) : G p (p - 1) = 1 := by
  unfold G
  have h : Int.gcd p (p - 1) = 1 := by
    have h1 : ((Int.gcd p (p - 1) : Nat) : Int) ∣ p := Int.gcd_dvd_left ..
    have h2 : ((Int.gcd p (p - 1) : Nat) : Int) ∣ p - 1 := Int.gcd_dvd_right ..
    have h3 : ((Int.gcd p (p - 1) : Nat) : Int) ∣ 1 := by
      have := Int.dvd_sub h1 h2
      have e : p - (p - 1) = 1 := by omega
      rw [e] at this
      exact this
    have := Int.eq_one_of_dvd_one (by omega) h3
    omega
  rw [h]
  rfl
theorem place_back1 {p k : Int} (hp : 1 ≤ p) (k0 : 0 < k) (k1 : k ≤ p) : k * (p - 1) % p = p - k := by
  have e : k * (p - 1) = (p - k) + p * (k - 1) := by
    rw [Int.mul_sub, Int.mul_sub, Int.mul_comm k p]; omega
  rw [e, Int.add_mul_emod_self_left]
  exact Int.emod_eq_of_lt (by omega) (by omega)
/-- who comes first, one step at a time -/
theorem first_one {p b e : Int} (b0 : 0 ≤ b) (be : b ≤ e) (ep : e < p) : FirstIn p 1 b e b := by
  refine ⟨b0, ?_, fun j j0 jb hj => ?_⟩
  · show b ≤ b * 1 % p ∧ b * 1 % p ≤ e
    rw [Int.mul_one, Int.emod_eq_of_lt b0 (by omega)]
    omega
  · have h : b ≤ j * 1 % p ∧ j * 1 % p ≤ e := hj
    rw [Int.mul_one, Int.emod_eq_of_lt j0 (by omega)] at h
    omega
theorem first_back {p b e : Int} (b1 : 1 ≤ b) (be : b ≤ e) (ep : e < p) : FirstIn p (p - 1) b e (p - e) := by
  refine ⟨by omega, ?_, fun j j0 jb hj => ?_⟩
  · show b ≤ (p - e) * (p - 1) % p ∧ (p - e) * (p - 1) % p ≤ e
    rw [place_back1 (by omega) (by omega) (by omega)]
    omega
  · have h : b ≤ j * (p - 1) % p ∧ j * (p - 1) % p ≤ e := hj
    by_cases z : j = 0
    · subst z
      rw [Int.zero_mul, Int.zero_emod] at h
      omega
    · rw [place_back1 (by omega) (by omega) (by omega)] at h
      omega
theorem first_full {p s k : Int} (hp : 0 < p) (hg : G p s = 1) (k0 : 0 ≤ k) (k1 : k < p) : FirstIn p s (k * s % p) (k * s % p) k := by
  have ht : top p s = p := by unfold top; rw [hg]; omega
  refine ⟨k0, ⟨Int.le_refl _, Int.le_refl _⟩, fun j j0 jk hj => ?_⟩
  have h : k * s % p ≤ j * s % p ∧ j * s % p ≤ k * s % p := hj
  have := marks_apart (s := s) hp (i := j) (j := k) j0 (by omega) k0 (by omega) (by omega)
  omega
end RS
namespace RG
open PySem PySem.Spec PyProof.Rows L2 Evl
/-! ### great numbers -/
/-- below this many bits all products are made -/
def Big (i : Int) : Prop := i.natAbs < 2 ^ 60000000
def CMulB (i j : Int) : Prop := Big i ∧ Big j
theorem log2_big {i : Int} (h : Big i) : i.natAbs.log2 < 60000000 := PySem.Flt.log2_lt_of (by decide) h
theorem CMulB.ok {i j : Int} (h : CMulB i j) : IntMulOk i j := by
  have b : ∀ x : Int, Builtin.Int.intBits x ≤ x.natAbs.log2 + 1 := fun x => by
    unfold Builtin.Int.intBits
    split <;> omega
  have h1 := b i
  have h2 := b j
  have h3 := log2_big h.1
  have h4 := log2_big h.2
  have e : bitsLine = 134217728 := by decide
  unfold IntMulOk
  intro z
  rw [Bool.and_eq_true] at z
  have z2 := z.2
  unfold Builtin.Int.intTooBig at z2
  have z3 := of_decide_eq_true z2
  rw [e] at z3
  omega
theorem op_mulB {X : Cx} : OpR X (binaryOp .Mult) (rI CMulB fun i j => .int (i * j)) := opI fun _ _ _ _ _ _ _ hc q => mul_int q hc.ok
/-! ### statements over a base heap -/
def Go (t : TS) (D : Ends) (σ : L2.St) (H : Hp) : Prop := ∀ H', Ex H H' → t D σ H'
section
variable {K : PySem.W.Frag} {σ : L2.St} {H : Hp} {ta tb te tx : TE} {t u : TT} {x y z v : V} {D : Ends} {tu tw tz : TS}
theorem EvU.mono {H' : Hp} {xs : List V} (e : Ex H H') (h : EvU te σ H xs) : EvU te σ H' xs := fun H1 a Q q => h H1 (e.trans a) Q q
theorem Go.at (h : Go tu D σ H) : tu D σ H := h H (Ex.refl H)
theorem Go.mono {H' : Hp} (e : Ex H H') (h : Go tu D σ H) : Go tu D σ H' := fun H1 e1 => h H1 (e.trans e1)
theorem g_next (h : ∀ H', Ex H H' → D.nx σ H') : Go tNext D σ H := h
theorem g_cont (h : ∀ H', Ex H H' → D.ct σ H') : Go tCont D σ H := h
theorem g_brk (h : ∀ H', Ex H H' → D.bk σ H') : Go tBreak D σ H := h
theorem g_one (h : Go (tSeq tu tNext) D σ H) : Go tu D σ H := h
theorem g_seq (h : Go tu { D with nx := tw D } σ H) : Go (tSeq tu tw) D σ H := h
theorem g_asg {i : Nat} (h : Ev te σ H v) (k : Go tz D (σ.set i (some v)) H) : Go (tSeq (tAsg te (gName i)) tz) D σ H := fun H' e =>
  q_asg (h.mono e) fun H1 e1 => k H1 (e.trans e1)
theorem g_asgL {i : Nat} {xs : List V} (h : EvL te σ H xs) (k : ∀ p H1, H p = none → Ex H H1 → H1 p = some (.lst xs) → Go tz D (σ.set i (some (.ref p))) H1) : Go (tSeq (tAsg te (gName i)) tz) D σ H := fun H' e =>
  q_asgL (h.mono e) fun p H1 np e1 hp => (k p H1 (fresh_back e np) (e.trans e1) hp).at
theorem g_asgU {i : Nat} {xs : List V} (h : EvU te σ H xs) (k : ∀ p H1, H p = none → Ex H H1 → H1 p = some (.tup xs) → Go tz D (σ.set i (some (.ref p))) H1) : Go (tSeq (tAsg te (gName i)) tz) D σ H := fun H' e =>
  q_asgU (EvU.mono e h) fun p H1 np e1 hp => (k p H1 (fresh_back e np) (e.trans e1) hp).at
/-- a, b = x, y -/
theorem g_par {i j : Nat} {ta : TA} (h : EvA ta σ H [v, x]) (k : Go tz D ((σ.set i (some v)).set j (some x)) H) : Go (tSeq (tPar i j ta) tz) D σ H := fun H' e =>
  h H' e _ fun H1 e1 => ⟨v, x, rfl, k H1 (e.trans e1)⟩
theorem g_aug {i : Nat} {f : Int → Int → Int} {a b : Int} (hx : σ[i]? = some (some (.int a))) (h : Ev te σ H (.int b)) (k : Go tz D (σ.set i (some (.int (f a b)))) H) : Go (tSeq (tAug i te (ipI f)) tz) D σ H := fun H' e =>
  q_aug hx (h.mono e) fun H1 e1 => k H1 (e.trans e1)
theorem g_drop (h : Ev te σ H v) (k : Go tz D σ H) : Go (tSeq (tDrop te) tz) D σ H := fun H' e => q_drop (h.mono e) fun H1 e1 => k H1 (e.trans e1)
theorem g_ret (h : Ev te σ H v) (k : ∀ H1, Ex H H1 → D.rt v H1) : Go (tSeq (tRet te) tz) D σ H := fun H' e => s_ret (D := { D with nx := tz D }) (h.mono e) fun H1 e1 => k H1 (e.trans e1)
theorem g_retL {xs : List V} (h : EvL te σ H xs) (k : ∀ p H1, H p = none → Ex H H1 → H1 p = some (.lst xs) → D.rt (.ref p) H1) : Go (tSeq (tRet te) tz) D σ H := fun H' e =>
  s_retL (D := { D with nx := tz D }) (h.mono e) fun p H1 np e1 hp => k p H1 (fresh_back e np) (e.trans e1) hp
theorem g_retU {xs : List V} (h : EvU te σ H xs) (k : ∀ p H1, H p = none → Ex H H1 → H1 p = some (.tup xs) → D.rt (.ref p) H1) : Go (tSeq (tRet te) tz) D σ H := fun H' e =>
  s_retU (D := { D with nx := tz D }) (EvU.mono e h) fun p H1 np e1 hp => k p H1 (fresh_back e np) (e.trans e1) hp
theorem g_if {b : Bool} (h : EvT t σ H b) (h1 : b = true → Go tu { D with nx := tz D } σ H) (h2 : b = false → Go tw { D with nx := tz D } σ H) : Go (tSeq (tIfS t tu tw) tz) D σ H := fun H' e =>
  q_if (h.mono e) (fun hb H1 e1 => h1 hb H1 (e.trans e1)) (fun hb H1 e1 => h2 hb H1 (e.trans e1))
/-- an if without else -/
theorem g_when {b : Bool} (h : EvT t σ H b) (h1 : b = true → Go tu { D with nx := tz D } σ H) (h2 : b = false → Go tz D σ H) : Go (tSeq (tIfS t tu tNext) tz) D σ H := g_if h h1 h2
/-- what follows is shown once -/
theorem g_cut (M : L2.St → Hp → Prop) (h : Go tu { D with nx := M } σ H) (k : ∀ σ' H', M σ' H' → tz D σ' H') : Go (tCut tu tz) D σ H := fun H' e => ⟨M, h H' e, k⟩
theorem g_while (W : L2.St → Prop) (m : L2.St → Nat) (h0 : W σ)
    (hs : ∀ σ', W σ' → ∃ b, EvT t σ' H b ∧ (b = true → Go tu { D with nx := fun σ2 H2 => Ex H H2 ∧ W σ2 ∧ m σ2 < m σ', ct := fun σ2 H2 => Ex H H2 ∧ W σ2 ∧ m σ2 < m σ', bk := tz D } σ' H) ∧ (b = false → Go tz D σ' H)) : Go (tSeq (tWhile t tu) tz) D σ H := fun H' e =>
  q_while (fun n σ' H2 => Ex H H2 ∧ W σ' ∧ n = m σ') (m σ) ⟨e, h0, rfl⟩ fun n σ' H2 ⟨e2, w, hn⟩ => by
    subst hn
    obtain ⟨b, hb, h1, h2⟩ := hs σ' w
    refine ⟨b, hb.mono e2, fun eb H3 e3 => ⟨_, fun σ2 H2 ⟨x1, x2, x3⟩ => ⟨_, x3, x1, x2, rfl⟩, h1 eb H3 (e2.trans e3)⟩, fun eb H3 e3 => h2 eb H3 (e2.trans e3)⟩
/-- .. where the heap changes too -/
theorem g_whileH (W : L2.St → Hp → Prop) (m : L2.St → Nat) (h0 : ∀ H1, Ex H H1 → W σ H1)
    (hs : ∀ σ' H', W σ' H' → ∃ b, EvT t σ' H' b ∧ (b = true → Go tu { D with nx := fun σ2 H2 => W σ2 H2 ∧ m σ2 < m σ', ct := fun σ2 H2 => W σ2 H2 ∧ m σ2 < m σ', bk := tz D } σ' H') ∧ (b = false → Go tz D σ' H')) : Go (tSeq (tWhile t tu) tz) D σ H := fun H' e =>
  q_while (fun n σ' H2 => W σ' H2 ∧ n = m σ') (m σ) ⟨h0 H' e, rfl⟩ fun n σ' H2 ⟨w, hn⟩ => by
    subst hn
    obtain ⟨b, hb, h1, h2⟩ := hs σ' H2 w
    exact ⟨b, hb, fun eb H3 e3 => ⟨_, fun σ2 H2 ⟨x2, x3⟩ => ⟨_, x3, x2, rfl⟩, h1 eb H3 e3⟩, fun eb H3 e3 => h2 eb H3 e3⟩
/-! ### expressions -/
theorem ev_chain {r r' : R2} {b c : Bool} {tc : TE} {w : V} (ha : Ev ta σ H x) (hb : Ev tb σ H y) (hr : RV r x y H (.bl b)) (hc : b = true → Ev tc σ H w) (hr' : b = true → RV r' y w H (.bl c)) : Ev (tChain r r' ta tb tc) σ H (.bl (b && c)) := fun H1 e Q q =>
  ha H1 e _ fun H2 e2 => hb H2 (e.trans e2) _ fun H3 e3 => hr H3 ((e.trans e2).trans e3) _ fun H4 e4 => ⟨b, rfl, by
    cases b with
    | true => exact hc rfl H4 (((e.trans e2).trans e3).trans e4) _ fun H5 e5 => hr' rfl H5 ((((e.trans e2).trans e3).trans e4).trans e5) Q fun H6 e6 => q H6 ((((e2.trans e3).trans e4).trans e5).trans e6)
    | false => exact q H4 ((e2.trans e3).trans e4)⟩
theorem ev_chainI {p q : Int → Int → Bool} {i j k : Int} {tc : TE} (ha : Ev ta σ H (.int i)) (hb : Ev tb σ H (.int j)) (hc : Ev tc σ H (.int k)) : Ev (tChain (rI0 fun i j => .bl (p i j)) (rI0 fun i j => .bl (q i j)) ta tb tc) σ H (.bl (p i j && q j k)) :=
  ev_chain ha hb rv_I0 (fun _ => hc) (fun _ => rv_I0)
/-- isinstance of a class -/
theorem ev_isi {c : V} {ty cl : Value} {b : Bool} (ha : Ev ta σ H x) (hb : Ev tb σ H c) (kc : ClsV c cl) (ht : ∀ H1, Ex H H1 → TyX K H1 x ty) (hk : PySem.W.kitOne K ty cl = some b) : Ev (tCB (rIsi K) (tCons ta (tCons tb tNil))) σ H (.bl b) := fun H1 e Q q =>
  ha H1 e _ fun H2 e2 => hb H2 (e.trans e2) _ fun H3 e3 => ⟨x, c, ty, cl, b, rfl, kc, ht H3 ((e.trans e2).trans e3), hk, q H3 (e2.trans e3)⟩
theorem ev_call1 {sp : Sp} {E : XK} {ta : TA} {vs : List V} (h : EvA ta σ H vs) (hs : SpV sp vs H z) : Ev (tCall sp [] E ta) σ H z := ev_call (dvs := []) h (by rw [List.append_nil]; exact hs)
end
end RG
namespace RG
open PySem PySem.Spec PyProof.Rows L2 Evl
/-! ### sizes by level: n times eight thousand bits -/
def Lv (n : Nat) (i : Int) : Prop := i.natAbs < 2 ^ (8000 * n)
theorem lv_mono {a b : Nat} {i : Int} (h : Lv a i) (hb : a ≤ b) : Lv b i := Nat.lt_of_lt_of_le h (Nat.pow_le_pow_right (by omega) (by omega))
theorem lv_mul {a b : Nat} {i j : Int} (h : Lv a i) (h' : Lv b j) : Lv (a + b) (i * j) := by
  unfold Lv at *
  rw [Int.natAbs_mul, Nat.mul_add, Nat.pow_add]
  exact Nat.mul_lt_mul'' h h'
theorem lv_add {a b : Nat} {i j : Int} (h : Lv a i) (h' : Lv b j) : Lv (a + b + 1) (i + j) := by
  unfold Lv at *
  have h1 : i.natAbs < 2 ^ (8000 * (a + b)) := Nat.lt_of_lt_of_le h (Nat.pow_le_pow_right (by omega) (by omega))
  have h2 : j.natAbs < 2 ^ (8000 * (a + b)) := Nat.lt_of_lt_of_le h' (Nat.pow_le_pow_right (by omega) (by omega))
  have h3 : (i + j).natAbs ≤ i.natAbs + j.natAbs := Int.natAbs_add_le i j
  have h4 : 2 ^ (8000 * (a + b + 1)) = 2 ^ (8000 * (a + b)) * 2 ^ 8000 := by rw [← Nat.pow_add]; rfl
  have h5 : 2 ^ (8000 * (a + b)) * 2 ≤ 2 ^ (8000 * (a + b)) * 2 ^ 8000 := Nat.mul_le_mul_left _ (Nat.pow_le_pow_right (n := 2) (by omega) (show 1 ≤ 8000 by omega))
  rw [h4]
  generalize 2 ^ (8000 * (a + b)) = x at *
  generalize x * 2 ^ 8000 = y at *
  omega
theorem lv_neg {a : Nat} {i : Int} (h : Lv a i) : Lv a (-i) := by unfold Lv at *; rw [Int.natAbs_neg]; exact h
theorem lv_sub {a b : Nat} {i j : Int} (h : Lv a i) (h' : Lv b j) : Lv (a + b + 1) (i - j) := by rw [Int.sub_eq_add_neg]; exact lv_add h (lv_neg h')
theorem lv_abs {a : Nat} {i j : Int} (h : Lv a j) (hi : i.natAbs ≤ j.natAbs) : Lv a i := Nat.lt_of_le_of_lt hi h
theorem lv_le {a : Nat} {i j : Int} (h : Lv a j) (h0 : 0 ≤ i) (hi : i ≤ j) : Lv a i := lv_abs h (by omega)
theorem lv_div {a : Nat} {i j : Int} (h : Lv a i) (hj : 0 < j) : Lv a (i / j) := by
  refine lv_abs h ?_
  have := Int.natAbs_ediv_le_natAbs i j
  exact this
theorem lv_mod {b : Nat} {i j : Int} (h : Lv b j) (hj : 0 < j) : Lv b (i % j) := by
  have h1 := Int.emod_nonneg i (show j ≠ 0 by omega)
  have h2 := Int.emod_lt_of_pos i hj
  exact lv_le h h1 (by omega)
theorem lv_lit {i : Int} (h : i.natAbs < 2 ^ 8000) : Lv 1 i := by unfold Lv; simpa using h
theorem lv_small {i : Int} (h : i.natAbs ≤ 1000000000000000000) : Lv 1 i := by
  unfold Lv
  refine Nat.lt_of_le_of_lt h (Nat.lt_of_lt_of_le (show 1000000000000000000 < 2 ^ 64 by decide) ?_)
  exact Nat.pow_le_pow_right (by omega) (by omega)
theorem big_of {n : Nat} {i : Int} (h : Lv n i) (hn : n ≤ 7000) : Big i := by
  unfold Lv at h
  unfold Big
  exact Nat.lt_of_lt_of_le h (Nat.pow_le_pow_right (by omega) (by omega))
theorem mul_ok {a b : Nat} {i j : Int} (h : Lv a i) (h' : Lv b j) (ha : a ≤ 7000) (hb : b ≤ 7000) : CMulB i j := ⟨big_of h ha, big_of h' hb⟩
theorem div_ok {j : Int} {i : Int} (h : 0 < j) (h' : Lv 1 j) : CDivW i j := ⟨h, by
  have : j.natAbs < 2 ^ 9000 := Nat.lt_of_lt_of_le h' (Nat.pow_le_pow_right (by omega) (by omega))
  exact PySem.Flt.log2_lt_of (by decide) this⟩
/-! ### any thing that may be handed in -/
/-- a value of a kind that isinstance knows; an int is not too great -/
def Kn (K : PySem.W.Frag) (H : Hp) : V → Prop
  | .non => True
  | .bl _ => True
  | .int i => Lv 1 i
  | .str _ => True
  | .ref a => (∃ xs, H a = some (.lst xs)) ∨ (∃ xs, H a = some (.tup xs)) ∨ ∃ kvs, H a = some (.dK kvs)
  | _ => False
theorem Kn.ex {K : PySem.W.Frag} {H H' : Hp} {x : V} (h : Kn K H x) (e : Ex H H') : Kn K H' x := by
  cases x with
  | ref a =>
    rcases h with ⟨xs, h⟩ | ⟨xs, h⟩ | ⟨kvs, h⟩
    · exact .inl ⟨xs, e _ _ h⟩
    · exact .inr (.inl ⟨xs, e _ _ h⟩)
    · exact .inr (.inr ⟨kvs, e _ _ h⟩)
  | _ => exact h
/-- whether isinstance(x, int), isinstance(x, bool) -/
def isI : V → Bool
  | .int _ => true
  | .bl _ => true
  | _ => false
def isB : V → Bool
  | .bl _ => true
  | _ => false
def numV (x : V) (l m : Int) : Bool := match x with
  | .int i => decide (l ≤ i) && decide (i ≤ m)
  | _ => false
theorem Kn.ty {K : PySem.W.Frag} {H : Hp} {x : V} (h : Kn K H x) : ∃ t : String, TyX K H x (.type t) ∧ PySem.W.kitOne K (.type t) (.type "int") = some (isI x) ∧ PySem.W.kitOne K (.type t) (.type "bool") = some (isB x) := by
  cases x with
  | non => exact ⟨_, .base .non, kit_ty (r := false) (by decide +kernel), kit_ty (r := false) (by decide +kernel)⟩
  | bl b => exact ⟨_, .base (.bl b), kit_ty (r := true) (by decide +kernel), kit_ty (r := true) (by decide +kernel)⟩
  | int i => exact ⟨_, .base (.int i), kit_ty (r := true) (by decide +kernel), kit_ty (r := false) (by decide +kernel)⟩
  | str i => exact ⟨_, .base (.str i), kit_ty (r := false) (by decide +kernel), kit_ty (r := false) (by decide +kernel)⟩
  | ref a =>
    rcases h with ⟨xs, h⟩ | ⟨xs, h⟩ | ⟨kvs, h⟩
    · exact ⟨_, .base (.lst h), kit_ty (r := false) (by decide +kernel), kit_ty (r := false) (by decide +kernel)⟩
    · exact ⟨_, .base (.tup h), kit_ty (r := false) (by decide +kernel), kit_ty (r := false) (by decide +kernel)⟩
    · exact ⟨_, .base (.dK h), kit_ty (r := false) (by decide +kernel), kit_ty (r := false) (by decide +kernel)⟩
  | _ => exact h.elim
section
variable {K : PySem.W.Frag} {σ : L2.St} {H : Hp} {ta tb te tx : TE} {t u : TT} {x y z v : V} {D : Ends} {tu tw tz : TS}
theorem ev_isInt (ha : Ev ta σ H x) (hx : Kn K H x) : Ev (tCB (rIsi K) (tCons ta (tCons (tC (.ty "int")) tNil))) σ H (.bl (isI x)) := fun H1 e Q q =>
  ha H1 e _ fun H2 e2 => by
    obtain ⟨t, h1, h2, h3⟩ := (hx.ex (e.trans e2)).ty
    exact ⟨x, .ty "int", _, _, _, rfl, .ty _, h1, h2, q H2 e2⟩
theorem ev_isBool (ha : Ev ta σ H x) (hx : Kn K H x) : Ev (tCB (rIsi K) (tCons ta (tCons (tC (.ty "bool")) tNil))) σ H (.bl (isB x)) := fun H1 e Q q =>
  ha H1 e _ fun H2 e2 => by
    obtain ⟨t, h1, h2, h3⟩ := (hx.ex (e.trans e2)).ty
    exact ⟨x, .ty "bool", _, _, _, rfl, .ty _, h1, h3, q H2 e2⟩
/-! ### calls that may be refused -/
/-- how a call ends: a value, or an error of the class at C -/
inductive Out where
  | val (v : V)
  | err (C : Addr)
def SpX (sp : Sp) (vs : List V) (H : Hp) (o : Out) : Prop := ∀ H1, Ex H H1 → ∀ (Q : VK) (E : XK), (∀ v, o = .val v → ∀ H2, Ex H1 H2 → Q v H2) → (∀ C, o = .err C → ∀ H2, Ex H1 H2 → E (.ref C) none H2) → sp vs H1 Q E
def EvX (te : TE) (E : XK) (σ : L2.St) (H : Hp) (o : Out) : Prop := ∀ H1, Ex H H1 → ∀ (Q : VK), (∀ v, o = .val v → ∀ H2, Ex H1 H2 → Q v H2) → (∀ C, o = .err C → ∀ H2, Ex H1 H2 → E (.ref C) none H2) → te σ H1 Q
theorem EvX.mono {H' : Hp} {E : XK} {o : Out} (e : Ex H H') (h : EvX te E σ H o) : EvX te E σ H' o := fun H1 a Q q r => h H1 (e.trans a) Q q r
theorem evx_call {sp : Sp} {E : XK} {ta : TA} {vs : List V} {o : Out} (h : EvA ta σ H vs) (hs : SpX sp vs H o) : EvX (tCall sp [] E ta) E σ H o := fun H1 e Q q r =>
  h H1 e _ fun H2 e2 => by
    show sp (vs ++ []) H2 Q E
    rw [List.append_nil]
    exact hs H2 (e.trans e2) Q E (fun v hv H3 e3 => q v hv H3 (e2.trans e3)) fun C hC H3 e3 => r C hC H3 (e2.trans e3)
theorem spv_of {sp : Sp} {vs : List V} (h : SpX sp vs H (.val v)) : SpV sp vs H v := fun H1 e Q q E =>
  h H1 e Q E (fun v' hv H2 e2 => by cases hv; exact q H2 e2) fun C hC => nomatch hC
theorem spx_of {sp : Sp} {vs : List V} (h : SpV sp vs H v) : SpX sp vs H (.val v) := fun H1 e Q E q _ => h H1 e Q (fun H2 e2 => q v rfl H2 e2) E
theorem g_dropX {E : XK} {o : Out} (h : EvX te E σ H o) (k : ∀ v, o = .val v → Go tz D σ H) (r : ∀ C, o = .err C → ∀ H1, Ex H H1 → E (.ref C) none H1) : Go (tSeq (tDrop te) tz) D σ H := fun H' e =>
  h H' e _ (fun v hv H2 e2 => k v hv H2 (e.trans e2)) fun C hC H2 e2 => r C hC H2 (e.trans e2)
theorem g_retX {E : XK} {o : Out} (h : EvX te E σ H o) (k : ∀ v, o = .val v → ∀ H1, Ex H H1 → D.rt v H1) (r : ∀ C, o = .err C → ∀ H1, Ex H H1 → E (.ref C) none H1) : Go (tSeq (tRet te) tz) D σ H := fun H' e =>
  h H' e _ (fun v hv H2 e2 => k v hv H2 (e.trans e2)) fun C hC H2 e2 => r C hC H2 (e.trans e2)
theorem g_raise {W : L2.St → Hp → Prop} (h : ∀ H1, Ex H H1 → W σ H1) : Go (tSeq (fun _ σ H => W σ H) tz) D σ H := fun H' e => h H' e
/-- a tuple's places taken apart -/
theorem g_asgT {n : Nat} {g : TGs} {xs : List V} (h : EvU te σ H xs) (hn : xs.length = n) (k : ∀ H1, Ex H H1 → g xs σ H1 fun σ2 H2 => tz D σ2 H2) : Go (tSeq (tAsg te (gTup K n g)) tz) D σ H := fun H' e =>
  h H' e _ fun p H2 np e2 hp => ⟨p, xs, rfl, st_of hp, hn, k H2 (e.trans e2)⟩
theorem g_asg4 {i j k l : Nat} {a b c d : V} (h : EvU te σ H [a, b, c, d]) (q : Go tz D ((((σ.set i (some a)).set j (some b)).set k (some c)).set l (some d)) H) :
    Go (tSeq (tAsg te (gTup K 4 (gCons (gName i) (gCons (gName j) (gCons (gName k) (gCons (gName l) gNil)))))) tz) D σ H :=
  g_asgT h rfl fun H1 e => ⟨a, _, rfl, b, _, rfl, c, _, rfl, d, _, rfl, rfl, q H1 e⟩
theorem g_asg3 {i j k : Nat} {a b c : V} (h : EvU te σ H [a, b, c]) (q : Go tz D (((σ.set i (some a)).set j (some b)).set k (some c)) H) :
    Go (tSeq (tAsg te (gTup K 3 (gCons (gName i) (gCons (gName j) (gCons (gName k) gNil))))) tz) D σ H :=
  g_asgT h rfl fun H1 e => ⟨a, _, rfl, b, _, rfl, c, _, rfl, rfl, q H1 e⟩
theorem g_asg2 {i j : Nat} {a b : V} (h : EvU te σ H [a, b]) (q : Go tz D ((σ.set i (some a)).set j (some b)) H) :
    Go (tSeq (tAsg te (gTup K 2 (gCons (gName i) (gCons (gName j) gNil)))) tz) D σ H :=
  g_asgT h rfl fun H1 e => ⟨a, _, rfl, b, _, rfl, rfl, q H1 e⟩
end
/-- no exception leaves where none is wished -/
theorem quiet {P : Program} {w : World} {K : PySem.W.Frag} {mg : Str → Option Value} {base : Heap} {k : Nat} {f : Addr} {fd : FuncData} {ps : List Str} {sp : Sp} (F : FnOk P w K mg base (L2.CX P w) k f fd ps sp) :
    FnOk P w K mg base CX0 k f fd ps (fun vs H Q _ => sp vs H Q E0) := by
  refine ⟨fun vs H Q E h => F.len vs H Q E0 h, fun A outer s H args us vs Q E hr e0 hb r hsp => ?_⟩
  have h := F.run A outer s H args us vs Q E0 hr e0 hb r hsp
  refine codeAny_mono h fun r s' hr => ?_
  cases r with
  | ok c => cases c with
    | ret u => exact hr
    | _ => exact hr
  | error u =>
    obtain ⟨_, _, _, _, _, _, _, _, _, _, _, _, z⟩ := hr
    exact z.elim
end RG
namespace RG
open PySem PySem.Spec PyProof.Rows L2 Evl RS
theorem nt {b : Bool} (h : (!b) = false) : b = true := by cases b; cases h; rfl
theorem nf {b : Bool} (h : (!b) = true) : ¬ b = true := by cases b; simp; cases h
/-! ### how a call ends -/
def Fin (o : Out) (H : Hp) (Q : VK) (E : XK) : Prop := (∀ v, o = .val v → ∀ H', Ex H H' → Q v H') ∧ ∀ C, o = .err C → ∀ H', Ex H H' → E (.ref C) none H'
theorem Fin.val {v : V} {H : Hp} {Q : VK} {E : XK} (h : Fin (.val v) H Q E) : ∀ H', Ex H H' → Q v H' := h.1 v rfl
theorem Fin.err {C : Addr} {H : Hp} {Q : VK} {E : XK} (h : Fin (.err C) H Q E) : ∀ H', Ex H H' → E (.ref C) none H' := h.2 C rfl
theorem fin_of {o : Out} {H : Hp} {Q : VK} {E : XK} (q : ∀ v, o = .val v → ∀ H2, Ex H H2 → Q v H2) (r : ∀ C, o = .err C → ∀ H2, Ex H H2 → E (.ref C) none H2) : Fin o H Q E := ⟨q, r⟩
/-! ### the module's facts -/
/-- a def of the module: where it stands -/
structure At (K : PySem.W.Frag) (mg : Str → Option Value) (x : Str) (st : Stmt) (ps : List Str) (f : Addr) (fd : FuncData) : Prop where
  fn : Fun K x x st f fd
  b : Binds K fd ps []
  g : mg x = some (.ref f)
/-- an error's class -/
structure ErrAt (K : PySem.W.Frag) (mg : Str → Option Value) (n : Str) (C : Addr) : Prop where
  x : PySem.W.excIn K C [.type "ValueError", .type "Exception", .type "BaseException", .type "object"] "ValueError.__new__" = true
  g : mg n = some (.ref C)
  k : PySem.W.keepIn K (.ref C) = true
  b : PySem.W.subIn K (.ref C) (.type "BaseException") = some true
  t : PySem.W.typeIn K (.ref C) = some (.type "type")
/-- the built-ins stand as they are -/
structure Blt (mg : Str → Option Value) : Prop where
  z_isinstance : mg "isinstance" = none
  z_int : mg "int" = none
  z_bool : mg "bool" = none
  z_len : mg "len" = none
  z_sum : mg "sum" = none
  z_min : mg "min" = none
  z_max : mg "max" = none
  z_sorted : mg "sorted" = none
  z_range : mg "range" = none
  z_enumerate : mg "enumerate" = none
  z_reversed : mg "reversed" = none
  z_zip : mg "zip" = none
  z_abs : mg "abs" = none
  z_all : mg "all" = none
  z_any : mg "any" = none
  z_list : mg "list" = none
  z_tuple : mg "tuple" = none
  z_set : mg "set" = none
  z_str : mg "str" = none
  z_ValueError : mg "ValueError" = none
/-! ### what is told of any things -/
/-- the number that a value is -/
def iv : V → Int
  | .int i => i
  | _ => 0
def numW (x : V) (l : Int) (m : V) : Bool := match x, m with
  | .int i, .int j => decide (l ≤ i) && decide (i ≤ j)
  | _, _ => false
def okP : V → Bool
  | .int i => decide (1 ≤ i)
  | _ => false
/-- a step, a mark, a place: from l on to m -/
def okIn (x : V) (l m : Int) : Bool := match x with
  | .int i => decide (l ≤ i) && decide (i ≤ m)
  | _ => false
theorem okIn_iff {x : V} {l m : Int} : okIn x l m = true ↔ ∃ i, x = .int i ∧ l ≤ i ∧ i ≤ m := by
  cases x <;> simp [okIn]
theorem okP_iff {x : V} : okP x = true ↔ ∃ i, x = .int i ∧ 1 ≤ i := by
  cases x <;> simp [okP]
theorem numW_okIn {x : V} {l m : Int} : numW x l (.int m) = okIn x l m := by cases x <;> rfl
theorem numW_okP {x : V} : numW x 1 x = okP x := by
  cases x <;> simp [numW, okP]
/-- the classes: places, step, marks, place, mark -/
structure Cs where
  (cp cs cm cl ck : Addr)
def ringO (c : Cs) (p s : V) : Out := if okP p then (if okIn s 0 (iv p - 1) then .val .non else .err c.cs) else .err c.cp
def marksO (c : Cs) (p s m : V) : Out := match ringO c p s with
  | .err C => .err C
  | .val _ => if okIn m 1 (top (iv p) (iv s)) then .val .non else .err c.cm
def stretchO (c : Cs) (p b e : V) : Out := if okIn b 0 (iv p - 1) && okIn e 0 (iv p - 1) && decide (iv b ≤ iv e) then .val .non else .err c.cl
def markO (c : Cs) (k m : V) : Out := if okIn k 0 (iv m - 1) then .val .non else .err c.ck
/-- a ring -/
structure Ring (P S : Int) : Prop where
  p : 1 ≤ P
  s0 : 0 ≤ S
  s : S < P
theorem lv_G {p s : Int} (R : Ring p s) (l : Lv 1 p) : Lv 1 (G p s) := lv_le l (Int.le_of_lt (G_pos (s := s) (by have := R.p; omega))) (G_le (by have := R.p; omega))
theorem lv_top {p s : Int} (R : Ring p s) (l : Lv 1 p) : Lv 1 (top p s) := lv_le l (Int.le_of_lt (top_pos (s := s) (by have := R.p; omega))) (top_le (by have := R.p; omega))
theorem Ring.ls {p s : Int} (R : Ring p s) (l : Lv 1 p) : Lv 1 s := lv_le l R.s0 (by have := R.s; omega)
theorem ringO_val {c : Cs} {p s v : V} (h : ringO c p s = .val v) : v = .non ∧ ∃ P S, p = .int P ∧ s = .int S ∧ Ring P S := by
  unfold ringO at h
  split at h
  · rename_i h1
    split at h
    · rename_i h2
      obtain ⟨P, rfl, hP⟩ := okP_iff.mp h1
      obtain ⟨S, rfl, hS0, hS⟩ := okIn_iff.mp h2
      cases h
      exact ⟨rfl, P, S, rfl, rfl, hP, hS0, by have : S ≤ P - 1 := hS; omega⟩
    · cases h
  · cases h
theorem ringO_ok {c : Cs} {P S : Int} (h : Ring P S) : ringO c (.int P) (.int S) = .val .non := by
  unfold ringO
  rw [if_pos (okP_iff.mpr ⟨P, rfl, h.p⟩), if_pos (okIn_iff.mpr ⟨S, rfl, h.s0, by show S ≤ P - 1; have := h.s; omega⟩)]
theorem marksO_val {c : Cs} {p s m v : V} (h : marksO c p s m = .val v) : v = .non ∧ ∃ P S M, p = .int P ∧ s = .int S ∧ m = .int M ∧ Ring P S ∧ 1 ≤ M ∧ M ≤ top P S := by
  unfold marksO at h
  split at h
  · cases h
  · rename_i v' hr
    split at h
    · rename_i h2
      obtain ⟨_, P, S, rfl, rfl, R⟩ := ringO_val hr
      obtain ⟨M, rfl, h1, h3⟩ := okIn_iff.mp h2
      cases h
      exact ⟨rfl, P, S, M, rfl, rfl, rfl, R, h1, h3⟩
    · cases h
theorem marksO_ok {c : Cs} {P S M : Int} (h : Ring P S) (h1 : 1 ≤ M) (h2 : M ≤ top P S) : marksO c (.int P) (.int S) (.int M) = .val .non := by
  unfold marksO
  rw [ringO_ok h]
  exact if_pos (okIn_iff.mpr ⟨M, rfl, h1, h2⟩)
theorem stretchO_val {c : Cs} {p b e v : V} (h : stretchO c p b e = .val v) : v = .non ∧ ∃ B E, b = .int B ∧ e = .int E ∧ 0 ≤ B ∧ B ≤ E ∧ E < iv p := by
  unfold stretchO at h
  split at h
  · rename_i h1
    rw [Bool.and_eq_true, Bool.and_eq_true] at h1
    obtain ⟨⟨h1, h2⟩, h3⟩ := h1
    obtain ⟨B, rfl, hB0, hB⟩ := okIn_iff.mp h1
    obtain ⟨E, rfl, hE0, hE⟩ := okIn_iff.mp h2
    have h4 : B ≤ E := of_decide_eq_true h3
    cases h
    exact ⟨rfl, B, E, rfl, rfl, hB0, h4, by omega⟩
  · cases h
theorem stretchO_ok {c : Cs} {p : V} {B E : Int} (h1 : 0 ≤ B) (h2 : B ≤ E) (h3 : E < iv p) : stretchO c p (.int B) (.int E) = .val .non := by
  unfold stretchO
  rw [okIn_iff.mpr ⟨B, rfl, h1, by omega⟩, okIn_iff.mpr ⟨E, rfl, by omega, by omega⟩, decide_eq_true (show iv (.int B) ≤ iv (.int E) from h2)]
  rfl
theorem markO_val {c : Cs} {k m v : V} (h : markO c k m = .val v) : v = .non ∧ ∃ i, k = .int i ∧ 0 ≤ i ∧ i < iv m := by
  unfold markO at h
  split at h
  · rename_i h1
    obtain ⟨i, rfl, h2, h3⟩ := okIn_iff.mp h1
    cases h
    exact ⟨rfl, i, rfl, h2, by omega⟩
  · cases h
theorem markO_ok {c : Cs} {m : V} {i : Int} (h1 : 0 ≤ i) (h2 : i < iv m) : markO c (.int i) m = .val .non := by
  unfold markO
  rw [okIn_iff.mpr ⟨i, rfl, h1, by omega⟩]
  rfl
end RG
namespace RG
open PySem PySem.Spec PyProof.Rows L2 Evl RS
/-! ### data at any depth -/
mutual
theorem dp_ex {K : PySem.W.Frag} {H H' : Hp} (e : Ex H H') : ∀ {v : V} {d : PyData}, Dp K H v d → Dp K H' v d
  | _, _, .non => .non
  | _, _, .bl b => .bl b
  | _, _, .int i => .int i
  | _, _, .str x => .str x
  | _, _, .lst h hs => .lst (ex_l e h) (dps_ex e hs)
  | _, _, .tup h hs => .tup (ex_t e h) (dps_ex e hs)
theorem dps_ex {K : PySem.W.Frag} {H H' : Hp} (e : Ex H H') : ∀ {vs : List V} {ds : List PyData}, DpAll K H vs ds → DpAll K H' vs ds
  | _, _, .nil => .nil
  | _, _, .cons h hs => .cons (dp_ex e h) (dps_ex e hs)
end
/-- evaluates to some value that holds the data d -/
def EvD (K : PySem.W.Frag) (te : TE) (σ : L2.St) (H : Hp) (d : PyData) : Prop := ∀ H1, Ex H H1 → ∀ Q : VK, (∀ v H2, Ex H1 H2 → Dp K H2 v d → Q v H2) → te σ H1 Q
def EvDs (K : PySem.W.Frag) (ta : TA) (σ : L2.St) (H : Hp) (ds : List PyData) : Prop := ∀ H1, Ex H H1 → ∀ Q : List V → Hp → Prop, (∀ vs H2, Ex H1 H2 → DpAll K H2 vs ds → Q vs H2) → ta σ H1 Q
section
variable {K : PySem.W.Frag} {σ : L2.St} {H : Hp} {ta tb te tx : TE} {t u : TT} {x y z v : V} {D : Ends} {tu tw tz : TS} {g : TG} {d d' : PyData} {ds : List PyData}
theorem EvD.mono {H' : Hp} (e : Ex H H') (h : EvD K te σ H d) : EvD K te σ H' d := fun H1 a Q q => h H1 (e.trans a) Q q
theorem ed_int {i : Int} (h : Ev te σ H (.int i)) : EvD K te σ H (.int i) := fun H1 e Q q => h H1 e _ fun H2 e2 => q _ H2 e2 (.int i)
theorem ed_of (h : Ev te σ H v) (hd : Dp K H v d) : EvD K te σ H d := fun H1 e Q q => h H1 e _ fun H2 e2 => q _ H2 e2 (dp_ex (e.trans e2) hd)
theorem eds_nil : EvDs K tNil σ H [] := fun H1 e Q q => q [] H1 (Ex.refl H1) .nil
theorem eds_cons {tr : TA} (h : EvD K te σ H d) (hr : EvDs K tr σ H ds) : EvDs K (tCons te tr) σ H (d :: ds) := fun H1 e Q q =>
  h H1 e _ fun v H2 e2 h2 => hr H2 (e.trans e2) _ fun vs H3 e3 h3 => q _ H3 (e2.trans e3) (.cons (dp_ex e3 h2) h3)
theorem dps_len : ∀ {vs : List V} {ds : List PyData} {H : Hp}, DpAll K H vs ds → vs.length = ds.length
  | _, _, _, .nil => rfl
  | _, _, _, .cons _ h => congrArg (· + 1) (dps_len h)
theorem ed_tup {ta : TA} (h : EvDs K ta σ H ds) (hl : ds.length ≤ 100000) : EvD K (tTup ta) σ H (.tuple ds) := fun H1 e Q q =>
  h H1 e _ fun vs H2 e2 h2 => ⟨sz_of (by rw [dps_len h2]; exact hl), fun p hp => q (.ref p) _ (e2.trans (Ex.new hp)) (.tup (st_of upd_same) (dps_ex (Ex.new hp) h2))⟩
theorem ed_lst {ta : TA} (h : EvDs K ta σ H ds) (hl : ds.length ≤ 100000) : EvD K (tLst ta) σ H (.list ds) := fun H1 e Q q =>
  h H1 e _ fun vs H2 e2 h2 => ⟨sz_of (by rw [dps_len h2]; exact hl), fun p hp => q (.ref p) _ (e2.trans (Ex.new hp)) (.lst (sq_of upd_same) (dps_ex (Ex.new hp) h2))⟩
theorem g_asgD {i : Nat} (h : EvD K te σ H d) (k : ∀ v H1, Ex H H1 → Dp K H1 v d → Go tz D (σ.set i (some v)) H1) : Go (tSeq (tAsg te (gName i)) tz) D σ H := fun H' e =>
  h H' e _ fun v H1 e1 hv => (k v H1 (e.trans e1) hv).at
theorem g_retD (h : EvD K te σ H d) (k : ∀ v H1, Ex H H1 → Dp K H1 v d → D.rt v H1) : Go (tSeq (tRet te) tz) D σ H := fun H' e =>
  h H' e _ fun v H1 e1 hv => k v H1 (e.trans e1) hv
/-! ### lists of ints -/
theorem ev_sum {p : Addr} {ns : List Int} (ha : Ev ta σ H (.ref p)) (h : SqL K H p (ns.map V.int)) : Ev (tCB (rSum K) (tCons ta tNil)) σ H (.int ns.sum) := fun H1 e Q q =>
  ha H1 e _ fun H2 e2 => ⟨p, ns, rfl, ex_l (e.trans e2) h, q H2 e2⟩
theorem ev_sumN {ns : List Int} (ha : EvL ta σ H (ns.map V.int)) : Ev (tCB (rSum K) (tCons ta tNil)) σ H (.int ns.sum) := fun H1 e Q q =>
  ha H1 e _ fun p H2 _ e2 h2 => ⟨p, ns, rfl, sq_of h2, q H2 e2⟩
theorem ev_len' {p : Addr} {xs : List V} (ha : Ev ta σ H (.ref p)) (h : SqL K H p xs) : Ev (tCB (rLenS K) (tCons ta tNil)) σ H (.int (xs.length : Int)) := ev_len ha h
theorem el_slN {tl th : TO} {xs : List V} {lo hi : Option Int} (h : EvL te σ H xs) (h1 : EvO tl σ H lo) (h2 : EvO th σ H hi) : EvL (tSl (rSlL K) te tl th) σ H (cutV xs lo hi) := fun H1 e Q q =>
  h H1 e _ fun a H2 na e2 ha => h1 H2 (e.trans e2) _ fun H3 e3 => h2 H3 ((e.trans e2).trans e3) _ fun H4 e4 =>
    ⟨a, xs, rfl, sq_of (e4 a _ (e3 a _ ha)), fun p hp => q p _ (fresh_back ((e2.trans e3).trans e4) hp) (((e2.trans e3).trans e4).trans (Ex.new hp)) upd_same⟩
theorem el_catNN {xs ys : List V} (h1 : EvL ta σ H xs) (h2 : EvL tb σ H ys) (hl : xs.length + ys.length ≤ 100000) : EvL (tOp rCat ta tb) σ H (xs ++ ys) := fun H1 e Q q =>
  h1 H1 e _ fun a H2 na e2 ha => h2 H2 (e.trans e2) _ fun b H3 nb e3 hb => ⟨a, b, xs, ys, rfl, rfl, e3 a _ ha, hb, sz_of hl, fun p hp => q p _ (fresh_back (e2.trans e3) hp) ((e2.trans e3).trans (Ex.new hp)) upd_same⟩
theorem el_cat1N {xs ys : List V} {l : Addr} (h1 : Ev ta σ H (.ref l)) (hx : H l = some (.lst xs)) (h2 : EvL tb σ H ys) (hl : xs.length + ys.length ≤ 100000) : EvL (tOp rCat ta tb) σ H (xs ++ ys) := fun H1 e Q q =>
  h1 H1 e _ fun H2 e2 => h2 H2 (e.trans e2) _ fun b H3 nb e3 hb => ⟨l, b, xs, ys, rfl, rfl, ((e.trans e2).trans e3) l _ hx, hb, sz_of hl, fun p hp => q p _ (fresh_back (e2.trans e3) hp) ((e2.trans e3).trans (Ex.new hp)) upd_same⟩
theorem el_rep1 {xs : List V} {l : Addr} {n : Int} (h1 : Ev ta σ H (.ref l)) (hx : H l = some (.lst xs)) (h2 : Ev tb σ H (.int n)) (hn : 0 ≤ n ∧ n ≤ 1000) (hl : xs.length * n.toNat ≤ 100000) : EvL (tOp rRep ta tb) σ H (List.replicate n.toNat xs).flatten := fun H1 e Q q =>
  h1 H1 e _ fun H2 e2 => h2 H2 (e.trans e2) _ fun H3 e3 => ⟨l, n, xs, rfl, rfl, ((e.trans e2).trans e3) l _ hx, by omega, by omega, sz_of hl, fun p hp => q p _ (fresh_back (e2.trans e3) hp) ((e2.trans e3).trans (Ex.new hp)) upd_same⟩
theorem el_sortN {ns : List Int} (P : List Int → Prop) (hP : ∀ ns' : List Int, ns'.Perm ns → ns'.Pairwise (· ≤ ·) → P ns') (h : EvL te σ H (ns.map V.int)) :
    ∀ H1, Ex H H1 → ∀ Q : VK, (∀ (ns' : List Int) p H2, P ns' → H1 p = none → Ex H1 H2 → H2 p = some (.lst (ns'.map V.int)) → Q (.ref p) H2) → tCB (rSortedI K) (tCons te tNil) σ H1 Q := fun H1 e Q q =>
  h H1 e _ fun a H2 na e2 ha => ⟨a, ns, rfl, sq_of ha, fun ns' p h1 h2 hp => q ns' p _ (hP ns' h1 h2) (fresh_back e2 hp) (e2.trans (Ex.new hp)) upd_same⟩
theorem sorted2 {a b : Int} {ns : List Int} (h : ns.Perm [a, b]) (h2 : ns.Pairwise (· ≤ ·)) : ns = [min a b, max a b] := by
  have hl := h.length_eq
  match ns, hl with
  | [x, y], _ =>
    have hxy : x ≤ y := by simpa using h2
    have hx : x ∈ [a, b] := h.subset (by simp)
    have hy : y ∈ [a, b] := h.subset (by simp)
    have ha : a ∈ [x, y] := h.symm.subset (by simp)
    have hb : b ∈ [x, y] := h.symm.subset (by simp)
    simp only [List.mem_cons, List.not_mem_nil, or_false] at hx hy ha hb
    simp only [List.cons.injEq, and_true]
    omega
/-- sorted([a, b]) -/
theorem el_sort2 {a b : Int} (h : EvL te σ H [.int a, .int b]) : EvL (tCB (rSortedI K) (tCons te tNil)) σ H [.int (min a b), .int (max a b)] := fun H1 e Q q =>
  el_sortN (ns := [a, b]) (fun ns => ns = [min a b, max a b]) (fun ns h1 h2 => sorted2 h1 h2) h H1 e Q fun ns p H2 hP np e2 hp => by
    subst hP
    exact q p H2 np e2 hp
theorem rMin_eq {i j : Int} : (if j < i then j else i) = min i j := by split <;> omega
theorem rMax_eq {i j : Int} : (if j > i then j else i) = max i j := by split <;> omega
def rMin2 : List V → Hp → VK → Prop := fun xs H Q => ∃ i j, xs = [.int i, .int j] ∧ Q (.int (if j < i then j else i)) H
theorem ev_min {i j : Int} (h1 : Ev ta σ H (.int i)) (h2 : Ev tb σ H (.int j)) : Ev (tCB rMin2 (tCons ta (tCons tb tNil))) σ H (.int (min i j)) := fun H1 e Q q =>
  h1 H1 e _ fun H2 e2 => h2 H2 (e.trans e2) _ fun H3 e3 => ⟨i, j, rfl, by rw [rMin_eq]; exact q H3 (e2.trans e3)⟩
theorem ev_max {i j : Int} (h1 : Ev ta σ H (.int i)) (h2 : Ev tb σ H (.int j)) : Ev (tCB Evl.rMax2 (tCons ta (tCons tb tNil))) σ H (.int (max i j)) := fun H1 e Q q =>
  h1 H1 e _ fun H2 e2 => h2 H2 (e.trans e2) _ fun H3 e3 => ⟨i, j, rfl, by rw [rMax_eq]; exact q H3 (e2.trans e3)⟩
def rAbs : List V → Hp → VK → Prop := fun xs H Q => ∃ i, xs = [.int i] ∧ Q (.int (if i < 0 then -i else i)) H
theorem ev_abs {i : Int} (h1 : Ev ta σ H (.int i)) : Ev (tCB rAbs (tCons ta tNil)) σ H (.int i.natAbs) := fun H1 e Q q =>
  h1 H1 e _ fun H2 e2 => ⟨i, rfl, by
    have : (if i < 0 then -i else i) = (i.natAbs : Int) := by split <;> omega
    rw [this]; exact q H2 e2⟩
/-- an item of a tuple made on the way -/
theorem ev_ixU {xs : List V} {i : Int} (h : EvU ta σ H xs) (hi : Ev tb σ H (.int i)) (ha : atI xs i = some v) : Ev (tOp (rIxT K) ta tb) σ H v := fun H1 e Q q =>
  h H1 e _ fun p H2 _ e2 hp => hi H2 (e.trans e2) _ fun H3 e3 => ⟨p, xs, i, v, rfl, rfl, st_of (e3 p _ hp), ha, q H3 (e2.trans e3)⟩
theorem ev_ixL {xs : List V} {p : Addr} {i : Int} (h : Ev ta σ H (.ref p)) (hs : SqL K H p xs) (hi : Ev tb σ H (.int i)) (ha : atI xs i = some v) : Ev (tOp (rIxL K) ta tb) σ H v := ev_op h hi (rv_ixL hs ha)
theorem ev_ixT {xs : List V} {p : Addr} {i : Int} (h : Ev ta σ H (.ref p)) (hs : SqT K H p xs) (hi : Ev tb σ H (.int i)) (ha : atI xs i = some v) : Ev (tOp (rIxT K) ta tb) σ H v := ev_op h hi (rv_ixT hs ha)
/-- a, b = a list of two -/
theorem g_unl2 {i j : Nat} {a b : V} (h : EvL te σ H [a, b]) (q : Go tz D ((σ.set i (some a)).set j (some b)) H) : Go (tSeq (tAsg te (gUnl K 2 (gCons (gName i) (gCons (gName j) gNil)))) tz) D σ H := fun H' e =>
  h H' e _ fun p H2 np e2 hp => ⟨p, _, rfl, sq_of hp, rfl, a, _, rfl, b, _, rfl, rfl, q H2 (e.trans e2)⟩
/-- a, b, c = a tuple that stands -/
theorem g_unt3 {i j k : Nat} {a b c : V} {p : Addr} (h : Ev te σ H (.ref p)) (hp : SqT K H p [a, b, c]) (q : Go tz D (((σ.set i (some a)).set j (some b)).set k (some c)) H) : Go (tSeq (tAsg te (gTup K 3 (gCons (gName i) (gCons (gName j) (gCons (gName k) gNil))))) tz) D σ H := fun H' e =>
  h H' e _ fun H2 e2 => ⟨p, _, rfl, ex_t (e.trans e2) hp, rfl, a, _, rfl, b, _, rfl, c, _, rfl, rfl, q H2 (e.trans e2)⟩
theorem g_unt2 {i j : Nat} {a b : V} {p : Addr} (h : Ev te σ H (.ref p)) (hp : SqT K H p [a, b]) (q : Go tz D ((σ.set i (some a)).set j (some b)) H) : Go (tSeq (tAsg te (gTup K 2 (gCons (gName i) (gCons (gName j) gNil)))) tz) D σ H := fun H' e =>
  h H' e _ fun H2 e2 => ⟨p, _, rfl, ex_t (e.trans e2) hp, rfl, a, _, rfl, b, _, rfl, rfl, q H2 (e.trans e2)⟩
/-! ### what is walked: n turns, the target's slots behind each -/
def EvF (wi : TI) (g : TG) (σ : L2.St) (H : Hp) (n : Nat) (f : Nat → L2.St → L2.St) : Prop := ∀ H1, Ex H H1 → ∀ R : It → Hp → Prop,
  (∀ J H2, Ex H1 H2 → (∃ Y, Walk J n (Ex H2) Y ∧ ∀ i σ' H' x H'', i < n → Ex H2 H' → Y i H' x H'' → ∀ Q : L2.St → Hp → Prop, (∀ H3, Ex H' H3 → Q (f i σ') H3) → g x σ' H'' Q) → R J H2) → wi σ H1 R
theorem ef_list {p : Addr} {xs : List V} {j : Nat} (h : Ev te σ H (.ref p)) (hs : SqL K H p xs) : EvF (iList K te) (gName j) σ H xs.length fun i σ' => σ'.set j xs[i]? := fun H1 e R r =>
  h H1 e _ fun H2 e2 => ⟨p, rfl, ⟨xs, ex_l (e.trans e2) hs⟩, r _ H2 e2 ⟨_, walk_list.mono (fun H' e' => ex_l ((e.trans e2).trans e') hs) (fun _ _ _ _ _ _ y => y), fun i σ' H' x H'' hi e' y Q q => by
    obtain ⟨rfl, y2⟩ := y
    show Q (σ'.set j (some x)) H''
    rw [← y2]
    exact q H'' (Ex.refl _)⟩⟩
theorem ef_listN {xs : List V} {j : Nat} (h : EvL te σ H xs) : EvF (iList K te) (gName j) σ H xs.length fun i σ' => σ'.set j xs[i]? := fun H1 e R r =>
  h H1 e _ fun p H2 _ e2 hp => ⟨p, rfl, ⟨xs, sq_of hp⟩, r _ H2 e2 ⟨_, walk_list.mono (fun H' e' => sq_of (e' p _ hp)) (fun _ _ _ _ _ _ y => y), fun i σ' H' x H'' hi e' y Q q => by
    obtain ⟨rfl, y2⟩ := y
    show Q (σ'.set j (some x)) H''
    rw [← y2]
    exact q H'' (Ex.refl _)⟩⟩
theorem ef_range {ta : TA} {j : Nat} {n : Int} (h : EvA ta σ H [.int n]) (hn : n ≤ 1000000000) (hn0 : 0 ≤ n) : EvF (iRng1 ta) (gName j) σ H n.toNat fun i σ' => σ'.set j (some (.int (i : Nat))) := fun H1 e R r =>
  h H1 e _ fun H2 e2 => ⟨n, rfl, by omega, by omega, r _ H2 e2 ⟨_, walk_range.mono (fun _ _ => trivial) (fun _ _ _ _ _ _ y => y), fun i σ' H' x H'' hi e' y Q q => by
    obtain ⟨rfl, rfl⟩ := y
    show Q (σ'.set j (some (.int (0 + (i : Int))))) H''
    rw [Int.zero_add]
    exact q H'' (Ex.refl _)⟩⟩
theorem ef_enum {ta : TA} {p : Addr} {xs : List V} {j k : Nat} (h : EvA ta σ H [.ref p]) (hs : SqL K H p xs) : EvF (iEnum K ta) (gTup K 2 (gCons (gName j) (gCons (gName k) gNil))) σ H xs.length fun i σ' => (σ'.set j (some (.int (i : Nat)))).set k xs[i]? := fun H1 e R r =>
  h H1 e _ fun H2 e2 => ⟨p, xs, rfl, ex_l (e.trans e2) hs, r _ H2 e2 ⟨_, walk_enum.mono (fun H' e' => ex_l ((e.trans e2).trans e') hs) (fun _ _ _ _ _ _ y => y), fun i σ' H' x H'' hi e' y Q q => by
    obtain ⟨T, a, b, rfl, nT, rfl, ha, hb⟩ := y
    cases ha
    refine ⟨T, _, rfl, st_of upd_same, rfl, _, _, rfl, _, _, rfl, rfl, ?_⟩
    have z := q (upd H' T (.tup [.int (i : Nat), b])) (Ex.new nT)
    have hb' : xs[i]? = some b := hb
    show Q ((σ'.set j (some (.int (i : Nat)))).set k (some b)) (upd H' T (.tup [.int (i : Nat), b]))
    rw [← hb']
    exact z⟩⟩
theorem ef_enumN {xs : List V} {j k : Nat} (h : EvL te σ H xs) : EvF (iEnum K (tCons te tNil)) (gTup K 2 (gCons (gName j) (gCons (gName k) gNil))) σ H xs.length fun i σ' => (σ'.set j (some (.int (i : Nat)))).set k xs[i]? := fun H1 e R r =>
  h H1 e _ fun p H2 _ e2 hp => ⟨p, xs, rfl, sq_of hp, r _ H2 e2 ⟨_, walk_enum.mono (fun H' e' => sq_of (e' p _ hp)) (fun _ _ _ _ _ _ y => y), fun i σ' H' x H'' hi e' y Q q => by
    obtain ⟨T, a, b, rfl, nT, rfl, ha, hb⟩ := y
    cases ha
    refine ⟨T, _, rfl, st_of upd_same, rfl, _, _, rfl, _, _, rfl, rfl, ?_⟩
    have z := q (upd H' T (.tup [.int (i : Nat), b])) (Ex.new nT)
    have hb' : xs[i]? = some b := hb
    show Q ((σ'.set j (some (.int (i : Nat)))).set k (some b)) (upd H' T (.tup [.int (i : Nat), b]))
    rw [← hb']
    exact z⟩⟩
/-- over a list of pairs: at xs[i] stands the pair f i -/
theorem ef_pairs {p : Addr} {xs : List V} {j k : Nat} {f : Nat → V × V} (h : Ev te σ H (.ref p)) (hs : SqL K H p xs) (hf : ∀ i, i < xs.length → ∃ a, xs[i]? = some (.ref a) ∧ SqT K H a [(f i).1, (f i).2]) :
    EvF (iList K te) (gTup K 2 (gCons (gName j) (gCons (gName k) gNil))) σ H xs.length fun i σ' => (σ'.set j (some (f i).1)).set k (some (f i).2) := fun H1 e R r =>
  h H1 e _ fun H2 e2 => ⟨p, rfl, ⟨xs, ex_l (e.trans e2) hs⟩, r _ H2 e2 ⟨_, walk_list.mono (fun H' e' => ex_l ((e.trans e2).trans e') hs) (fun _ _ _ _ _ _ y => y), fun i σ' H' x H'' hi e' y Q q => by
    obtain ⟨rfl, y2⟩ := y
    obtain ⟨a, h1, h2⟩ := hf i hi
    rw [h1] at y2
    cases y2
    exact ⟨a, _, rfl, ex_t ((e.trans e2).trans e') h2, rfl, _, _, rfl, _, _, rfl, rfl, q H'' (Ex.refl _)⟩⟩⟩
/-- a for that changes nothing that stood -/
theorem g_for {wi : TI} {n : Nat} {f : Nat → L2.St → L2.St} (h : EvF wi g σ H n f) (W : Nat → L2.St → Prop) (h0 : W 0 σ)
    (hs : ∀ H2, Ex H H2 → ∀ i σ', i < n → W i σ' → Go tu { D with nx := fun σ3 H3 => Ex H2 H3 ∧ W (i + 1) σ3, ct := fun σ3 H3 => Ex H2 H3 ∧ W (i + 1) σ3, bk := tz D } (f i σ') H2)
    (hd : ∀ H2, Ex H H2 → ∀ σ', W n σ' → Go tz D σ' H2) : Go (tSeq (tFor wi g tu) tz) D σ H := fun H' e =>
  h H' e _ fun J H2 e2 ⟨Y, wk, hy⟩ => for_it (D := { D with nx := tz D }) wk (fun i σ' H3 => Ex H2 H3 ∧ W i σ') ⟨Ex.refl H2, h0⟩ (fun _ _ _ _ p => p.1)
    (fun i x σ' H3 H4 hi p y => hy i σ' H3 x H4 hi p.1 y _ fun H5 e5 => by
      have z := hs H3 ((e.trans e2).trans p.1) i σ' hi p.2 H5 e5
      have : ∀ σ3 H6, (Ex H3 H6 ∧ W (i + 1) σ3) → (Ex H2 H6 ∧ W (i + 1) σ3) := fun σ3 H6 w => ⟨p.1.trans w.1, w.2⟩
      exact hs H2 (e.trans e2) i σ' hi p.2 H5 (p.1.trans e5))
    (fun σ' H3 p => hd H2 (e.trans e2) σ' p.2 H3 p.1)
/-- a comprehension: which turns give, and what -/
theorem el_lcF {wi : TI} {n : Nat} {f : Nat → L2.St → L2.St} {vs : List Nat} (c : Nat → Bool) (w : Nat → V) (h : EvF wi g σ H n f) (hn : n ≤ 50000) (hw : ∀ i, i < n → wipe (f i (wipe σ vs)) vs = wipe σ vs)
    (ht : ∀ H2, Ex H H2 → ∀ i, i < n → EvT t (f i (wipe σ vs)) H2 (c i)) (he : ∀ H2, Ex H H2 → ∀ i, i < n → c i = true → Ev te (f i (wipe σ vs)) H2 (w i)) : EvL (tLc wi g t te vs) σ H (given n c w) := fun H1 e Q q =>
  h H1 e _ fun J H2 e2 ⟨Y, wk, hy⟩ => fun Dl hD => lc_it wk (Cw H2 c w Dl) ⟨hD, Ex.new hD, upd_same⟩ (fun _ _ _ p => p.2.1)
    (fun i x H3 H4 hi p y => hy i (wipe σ vs) H3 x H4 hi p.2.1 y _ fun H5 e5 => ⟨hw i hi, cw_turn (te := te) (t := t) (f := c) (v := w) (H := H2) (H' := H5) (Dl := Dl) (i := i) ⟨p.1, p.2.1.trans e5, e5 _ _ p.2.2⟩ (by omega) (ht H2 (e.trans e2) i hi) (he H2 (e.trans e2) i hi)⟩)
    (fun H' p => q Dl H' (fresh_back e2 p.1) (e2.trans p.2.1) p.2.2)
theorem et_yes : EvT tYes σ H true := fun H1 e Q q => q H1 (Ex.refl H1)
end
end RG
namespace RG
open PySem PySem.Spec PyProof.Rows L2 Evl RS
section
variable {K : PySem.W.Frag} {σ : L2.St} {H : Hp} {ta tb te tx : TE} {t u : TT} {x y z v : V} {D : Ends} {tu tw tz : TS} {g : TG}
/-- a, b = a new list, another one -/
theorem g_parLL {i j : Nat} {xs ys : List V} (h1 : EvL ta σ H xs) (h2 : EvL tb σ H ys)
    (k : ∀ p q H1 H2, H p = none → Ex H H1 → H1 p = some (.lst xs) → H1 q = none → Ex H1 H2 → H2 q = some (.lst ys) → Go tz D ((σ.set i (some (.ref p))).set j (some (.ref q))) H2) : Go (tSeq (tPar i j (tCons ta (tCons tb tNil))) tz) D σ H := fun H' e =>
  h1 H' e _ fun p H1 np e1 hp => h2 H1 (e.trans e1) _ fun q H2 nq e2 hq => ⟨_, _, rfl, (k p q H1 H2 (fresh_back e np) (e.trans e1) hp nq e2 hq).at⟩
/-- a for over range(n), by a word that may speak of the heap -/
theorem g_forR {ta : TA} {j : Nat} {n : Int} (h : EvA ta σ H [.int n]) (hn : 0 ≤ n ∧ n ≤ 100000) (W : Nat → L2.St → Hp → Prop) (h0 : ∀ H1, Ex H H1 → W 0 σ H1)
    (hs : ∀ (i : Nat) σ' H', (i : Int) < n → W i σ' H' → Go tu { D with nx := W (i + 1), ct := W (i + 1), bk := tz D } (σ'.set j (some (.int (i : Int)))) H') (hd : ∀ σ' H', W n.toNat σ' H' → Go tz D σ' H') : Go (tSeq (tFor (iRng1 ta) (gName j) tu) tz) D σ H := fun H' e =>
  q_forR1 (fun H1 e1 Q q => h H1 (e.trans e1) Q q) hn W (fun H1 e1 => h0 H1 (e.trans e1)) (fun i σ' H1 hi w => (hs i σ' H1 hi w).at) (fun σ' H1 w => (hd σ' H1 w).at)
/-- xs.append((a, b, ..)) -/
theorem g_appU {l : Addr} {xs ys : List V} (hl : H l = some (.lst xs)) (ha : Ev ta σ H (.ref l)) (h : EvU te σ H ys) (hz : xs.length < 100000) (k : ∀ p H1, H p = none → Ex H H1 → H1 p = some (.tup ys) → Go tz D σ (upd H1 l (.lst (xs ++ [.ref p])))) :
    Go (tSeq (tDrop (tBM K "list" rAppend ta (tCons te tNil))) tz) D σ H := fun H' e =>
  q_appU (e l _ hl) (ha.mono e) (EvU.mono e h) hz fun p H1 np e1 hp => (k p H1 (fresh_back e np) (e.trans e1) hp).at
theorem g_app {l : Addr} {xs : List V} (hl : H l = some (.lst xs)) (ha : Ev ta σ H (.ref l)) (h : Ev te σ H v) (hz : xs.length < 100000) (k : ∀ H1, Ex H H1 → Go tz D σ (upd H1 l (.lst (xs ++ [v])))) :
    Go (tSeq (tDrop (tBM K "list" rAppend ta (tCons te tNil))) tz) D σ H := fun H' e =>
  q_app (e l _ hl) (ha.mono e) (h.mono e) hz fun H1 e1 => (k H1 (e.trans e1)).at
end
/-! ### lists -/
theorem atI_mod {ns : List Int} {x m : Int} (hm : m = (ns.length : Int)) (h0 : 0 < m) : ∃ v, atI (ns.map V.int) (x % m) = some (.int v) ∧ v ∈ ns := by
  have h1 := Int.emod_nonneg x (show m ≠ 0 by omega)
  have h2 := Int.emod_lt_of_pos x h0
  have hj : (x % m).toNat < ns.length := by omega
  refine ⟨ns[(x % m).toNat], ?_, List.getElem_mem _⟩
  have z : atI (ns.map V.int) (((x % m).toNat : Nat) : Int) = some (V.int ns[(x % m).toNat]) := atI_nat (by simp [hj])
  have e : (((x % m).toNat : Nat) : Int) = x % m := by omega
  generalize ns[(x % m).toNat] = y at *
  rw [e] at z
  exact z
theorem cut_take {xs : List V} {n : Nat} : cutV xs none (some (n : Int)) = xs.take n := by
  unfold cutV
  rw [HT.sIx_none, HT.sIx_nat]
  simp [List.take_eq_take_iff]
theorem cut_mid {xs : List V} {a b : Nat} : cutV xs (some (a : Int)) (some (b : Int)) = (xs.drop (min a xs.length)).take (min b xs.length - min a xs.length) := by
  unfold cutV
  rw [HT.sIx_nat, HT.sIx_nat]
theorem cut_drop {xs : List V} {a : Nat} : cutV xs (some (a : Int)) none = xs.drop a := by
  unfold cutV
  rw [HT.sIx_nat, HT.sIx_none]
  by_cases h : a ≤ xs.length
  · rw [Nat.min_eq_left h, List.take_of_length_le (by rw [List.length_drop]; omega)]
  · rw [Nat.min_eq_right (by omega), List.drop_of_length_le (Nat.le_refl xs.length), List.drop_of_length_le (show xs.length ≤ a by omega)]
    simp
theorem cut_sub {xs : List V} {lo hi : Option Int} {x : V} (h : x ∈ cutV xs lo hi) : x ∈ xs := by
  unfold cutV at h
  exact List.mem_of_mem_drop (List.mem_of_mem_take h)
theorem sum_abs : ∀ (ns : List Int) (B : Nat), (∀ z ∈ ns, z.natAbs ≤ B) → ns.sum.natAbs ≤ ns.length * B
  | [], B, _ => by simp
  | a :: r, B, h => by
    have h1 := sum_abs r B fun z hz => h z (List.mem_cons_of_mem _ hz)
    have h2 := h a List.mem_cons_self
    rw [List.sum_cons, List.length_cons, Nat.add_mul, Nat.one_mul]
    have := Int.natAbs_add_le a r.sum
    omega
theorem lv_sum {ns : List Int} {a : Nat} (h : ∀ z ∈ ns, Lv a z) (hl : ns.length ≤ 1000) : Lv (a + 1) ns.sum := by
  unfold Lv
  have h1 := sum_abs ns (2 ^ (8000 * a)) fun z hz => Nat.le_of_lt (h z hz)
  have h2 : ns.length * 2 ^ (8000 * a) ≤ 1000 * 2 ^ (8000 * a) := Nat.mul_le_mul_right _ hl
  have h3 : 2 ^ (8000 * (a + 1)) = 2 ^ 8000 * 2 ^ (8000 * a) := by rw [Nat.mul_add, Nat.pow_add, Nat.mul_comm]
  have h4 : 1024 * 2 ^ (8000 * a) ≤ 2 ^ 8000 * 2 ^ (8000 * a) := Nat.mul_le_mul_right _ (show 2 ^ 10 ≤ 2 ^ 8000 from Nat.pow_le_pow_right (by omega) (by omega))
  have h5 : 0 < 2 ^ (8000 * a) := Nat.pow_pos (by omega)
  rw [h3]
  generalize 2 ^ (8000 * a) = x at *
  generalize 2 ^ 8000 * x = y at *
  omega
theorem lv_bits {i : Int} (h : Builtin.Int.intBits i ≤ 1048576) : Lv 132 i := by
  unfold Lv
  have h1 : i.natAbs < 2 ^ 1048576 := by
    by_cases z : i = 0
    · subst z; exact Nat.pow_pos (by omega)
    · have h2 : i.natAbs.log2 + 1 ≤ 1048576 := by
        unfold Builtin.Int.intBits at h
        split at h
        · rename_i q
          exact absurd (by simpa using q) z
        · exact h
      exact (Nat.log2_lt (by omega)).mp (by omega)
  exact Nat.lt_of_lt_of_le h1 (Nat.pow_le_pow_right (by omega) (by omega))
/-- three in a row out of a list written three times -/
theorem three_of {xs : List V} {b : Nat} (h : b + 3 ≤ xs.length) : ∃ x y z, cutV xs (some (b : Int)) (some ((b : Int) + 3)) = [x, y, z] ∧ x ∈ xs ∧ y ∈ xs ∧ z ∈ xs := by
  have e : ((b : Int) + 3) = ((b + 3 : Nat) : Int) := by omega
  rw [e, cut_mid, Nat.min_eq_left (show b ≤ xs.length by omega), Nat.min_eq_left h]
  have e2 : b + 3 - b = 3 := by omega
  rw [e2]
  obtain ⟨l, hl⟩ : ∃ l, l = (xs.drop b).take 3 := ⟨_, rfl⟩
  have hlen : l.length = 3 := by rw [hl, List.length_take, List.length_drop]; omega
  have hm : ∀ x ∈ l, x ∈ xs := fun x hx => by rw [hl] at hx; exact List.mem_of_mem_drop (List.mem_of_mem_take hx)
  rw [← hl]
  match l, hlen, hm with
  | [x, y, z], _, hm => exact ⟨x, y, z, rfl, hm x (by simp), hm y (by simp), hm z (by simp)⟩
theorem in_rep {xs : List V} {n : Nat} {x : V} (h : x ∈ (List.replicate n xs).flatten) : x ∈ xs := by
  obtain ⟨l, hl, hx⟩ := List.mem_flatten.mp h
  rw [List.mem_replicate] at hl
  rw [← hl.2]; exact hx
theorem rep_len {xs : List V} {n : Nat} : (List.replicate n xs).flatten.length = n * xs.length := by simp
/-! ### rings -/
theorem lv_140 {p : Int} (h0 : 0 ≤ p) (h : p < 2 ^ 140) : Lv 1 p := by
  unfold Lv
  refine Nat.lt_of_lt_of_le (show p.natAbs < 2 ^ 140 by omega) (Nat.pow_le_pow_right (by omega) (by omega))
/-- the greatest rings that the laws make -/
def PB : Int := 60000000000000000000000000000000000000000
theorem PB_lt : PB < 2 ^ 140 := by decide

structure Good (P S M : Int) : Prop where
  r : Ring P S
  b : P ≤ PB
  m1 : 1 ≤ M
  m2 : M ≤ top P S
def RingsAt (H : Hp) (xs : List V) : Prop := ∀ i, i < xs.length → ∃ a P S M, xs[i]? = some (.ref a) ∧ H a = some (.tup [.int P, .int S, .int M]) ∧ Good P S M
theorem Good.lp {P S M : Int} (h : Good P S M) : Lv 1 P := by
  unfold Lv
  have := h.r.p
  have := h.b
  have := PB_lt
  exact Nat.lt_of_lt_of_le (show P.natAbs < 2 ^ 140 by omega) (Nat.pow_le_pow_right (by omega) (by omega))
theorem Good.ls {P S M : Int} (h : Good P S M) : Lv 1 S := h.r.ls h.lp
theorem lv_140p {P : Int} (h1 : 1 ≤ P) (h : P ≤ PB) : Lv 1 (P + 1) := by
  have := PB_lt
  have e : (2 : Int) ^ 141 = 2 * 2 ^ 140 := by decide
  have h3 : (P + 1).natAbs < 2 ^ 141 := by omega
  exact Nat.lt_of_lt_of_le h3 (Nat.pow_le_pow_right (by omega) (by omega))
theorem Good.lm {P S M : Int} (h : Good P S M) : Lv 1 M := lv_le (lv_top h.r h.lp) (by have := h.m1; omega) h.m2
end RG
namespace RG
open PySem PySem.Spec PyProof.Rows L2 Evl RS
/-! ### some value with a property -/
def EvP (te : TE) (σ : L2.St) (H : Hp) (R : V → Hp → Prop) : Prop := ∀ H1, Ex H H1 → ∀ Q : VK, (∀ v H2, Ex H1 H2 → R v H2 → Q v H2) → te σ H1 Q
/-- tuples stand at vs -/
def TupsAt (H : Hp) (vs : List V) (pss : List (List V)) : Prop := vs.length = pss.length ∧ ∀ (i : Nat) (ps : List V), pss[i]? = some ps → ∃ a : Addr, vs[i]? = some (V.ref a) ∧ H a = some (.tup ps)
theorem TupsAt.ex {H H' : Hp} {vs : List V} {pss : List (List V)} (h : TupsAt H vs pss) (e : Ex H H') : TupsAt H' vs pss := ⟨h.1, fun i ps hi => let ⟨a, h1, h2⟩ := h.2 i ps hi; ⟨a, h1, e a _ h2⟩⟩
def EvAT (ta : TA) (σ : L2.St) (H : Hp) (pss : List (List V)) : Prop := ∀ H1, Ex H H1 → ∀ Q : List V → Hp → Prop, (∀ vs H2, Ex H1 H2 → TupsAt H2 vs pss → Q vs H2) → ta σ H1 Q
section
variable {K : PySem.W.Frag} {σ : L2.St} {H : Hp} {ta tb te tx : TE} {t u : TT} {x y z v : V} {D : Ends} {tu tw tz : TS} {g : TG}
theorem eat_nil : EvAT tNil σ H [] := fun H1 e Q q => q [] H1 (Ex.refl H1) ⟨rfl, fun i ps h => by simp at h⟩
theorem eat_cons {tr : TA} {ps : List V} {pss : List (List V)} (h : EvU te σ H ps) (hr : EvAT tr σ H pss) : EvAT (tCons te tr) σ H (ps :: pss) := fun H1 e Q q =>
  h H1 e _ fun p H2 np e2 hp => hr H2 (e.trans e2) _ fun vs H3 e3 h3 => q (.ref p :: vs) H3 (e2.trans e3) ⟨by rw [List.length_cons, List.length_cons, h3.1], fun i qs hi => by
    cases i with
    | zero =>
      have : ps = qs := by simpa using hi
      subst this
      exact ⟨p, rfl, e3 p _ hp⟩
    | succ i =>
      obtain ⟨a, h4, h5⟩ := h3.2 i qs (by simpa using hi)
      exact ⟨a, by simpa using h4, h5⟩⟩
/-- x = [(a, b), ..] -/
theorem g_asgLT {i : Nat} {ta : TA} {pss : List (List V)} (h : EvAT ta σ H pss) (hl : pss.length ≤ 100000) (k : ∀ p vs H1, H p = none → Ex H H1 → H1 p = some (.lst vs) → TupsAt H1 vs pss → Go tz D (σ.set i (some (.ref p))) H1) :
    Go (tSeq (tAsg (tLst ta) (gName i)) tz) D σ H := fun H' e =>
  h H' e _ fun vs H1 e1 h1 => ⟨sz_of (by rw [h1.1]; exact hl), fun p hp => (k p vs (upd H1 p (.lst vs)) (fresh_back (e.trans e1) hp) ((e.trans e1).trans (Ex.new hp)) upd_same (h1.ex (Ex.new hp))).at⟩
/-- a for over a list of pairs -/
theorem ef_tups2 {p : Addr} {vs : List V} {ps : List (V × V)} {j k : Nat} (h : Ev te σ H (.ref p)) (hs : SqL K H p vs) (hf : TupsAt H vs (ps.map fun x => [x.1, x.2])) :
    EvF (iList K te) (gTup K 2 (gCons (gName j) (gCons (gName k) gNil))) σ H ps.length fun i σ' => (σ'.set j (ps[i]?.map (·.1))).set k (ps[i]?.map (·.2)) := fun H1 e R r =>
  h H1 e _ fun H2 e2 => ⟨p, rfl, ⟨vs, ex_l (e.trans e2) hs⟩, r _ H2 e2 ⟨_, (show vs.length = ps.length by rw [hf.1, List.length_map]) ▸ walk_list.mono (fun H' e' => ex_l ((e.trans e2).trans e') hs) (fun _ _ _ _ _ _ y => y), fun i σ' H' x H'' hi e' y Q q => by
    obtain ⟨rfl, y2⟩ := y
    have hi' : ps[i]? = some ps[i] := List.getElem?_eq_getElem hi
    obtain ⟨a, h1, h2⟩ := hf.2 i [ps[i].1, ps[i].2] (by rw [List.getElem?_map, hi']; rfl)
    rw [h1] at y2
    cases y2
    refine ⟨a, _, rfl, st_of (((e.trans e2).trans e') a _ h2), rfl, _, _, rfl, _, _, rfl, rfl, ?_⟩
    have z : Q ((σ'.set j (ps[i]?.map (·.1))).set k (ps[i]?.map (·.2))) H'' := q H'' (Ex.refl _)
    rw [hi'] at z
    exact z⟩⟩
/-- a for over something that is made on the way -/
theorem g_forP {R : V → Hp → Prop} (h : EvP te σ H R) (k : ∀ v H2, Ex H H2 → R v H2 → Go (tSeq (tFor (iEnum K (tCons (tC v) tNil)) g tu) tz) D σ H2) : Go (tSeq (tFor (iEnum K (tCons te tNil)) g tu) tz) D σ H := fun H' e =>
  h H' e _ fun v H2 e2 hv => (k v H2 (e.trans e2) hv).at
theorem g_asgP {i : Nat} {R : V → Hp → Prop} (h : EvP te σ H R) (k : ∀ v H2, Ex H H2 → R v H2 → Go tz D (σ.set i (some v)) H2) : Go (tSeq (tAsg te (gName i)) tz) D σ H := fun H' e =>
  h H' e _ fun v H2 e2 hv => (k v H2 (e.trans e2) hv).at
theorem g_unt3c {i j k : Nat} {a b c : V} {p : Addr} (h : Ev te σ H (.ref p)) (hp : H p = some (.tup [a, b, c])) (q : Go tz D (((σ.set i (some a)).set j (some b)).set k (some c)) H) : Go (tSeq (tAsg te (gTup K 3 (gCons (gName i) (gCons (gName j) (gCons (gName k) gNil))))) tz) D σ H := g_unt3 h (st_of hp) q
end
theorem ne_same {a b : V} (h : a = b) : (!decide (a = b)) = false := by rw [decide_eq_true h]; rfl
theorem eq_same {a b : V} (h : a = b) : decide (a = b) = true := decide_eq_true h
/-! ### counts as lengths -/
theorem given_len_sum (c : Nat → Bool) (w : Nat → V) : ∀ n, ((given n c w).length : Int) = sumN (fun i => if c i = true then 1 else 0) n
  | 0 => rfl
  | n + 1 => by
    have ih := given_len_sum c w n
    cases h : c n with
    | true => rw [given_yes h, List.length_append]; simp only [sumN, h, if_true, ← ih]; simp
    | false => rw [given_no h]; simp only [sumN, h, ← ih]; simp
theorem inCnt_len {p s b e : Int} {n : Nat} (c : Nat → Bool) (w : Nat → V) (hbe : b ≤ e + 1) (hc : ∀ i, i < n → c i = (decide (b ≤ (i : Int) * s % p) && decide ((i : Int) * s % p ≤ e))) : cnt p s n e - cnt p s n (b - 1) = ((given n c w).length : Int) := by
  rw [given_len_sum]
  unfold RS.cnt
  rw [← sumN_sub]
  refine sumN_congr fun i hi => ?_
  rw [hc i hi]
  unfold hit
  generalize (i : Int) * s % p = x
  by_cases h1 : b ≤ x <;> by_cases h2 : x ≤ e <;> simp [h1, h2] <;> omega
/-- of step 1 the marks stand one behind another -/
theorem cnt_one {p x : Int} (hx : 0 ≤ x) : ∀ {n : Nat}, (n : Int) ≤ p → cnt p 1 n x = min (n : Int) (x + 1)
  | 0, _ => by
    show (0 : Int) = _
    omega
  | n + 1, h => by
    have ih := cnt_one (p := p) hx (n := n) (by omega)
    show cnt p 1 n x + hit p 1 x n = _
    rw [ih]
    unfold hit
    rw [Int.mul_one, Int.emod_eq_of_lt (by omega) (by omega)]
    split <;> omega
theorem G_one (p : Int) : G p 1 = 1 := by unfold G; simp
theorem top_one (p : Int) : top p 1 = p := by unfold top; rw [G_one]; omega
end RG
namespace RG
open PySem PySem.Spec PyProof.Rows L2 Evl RS
/-- one of two readings -/
theorem pe_orR {X : Cx} {e : Expr} {t1 t2 : TE} (h1 : PE X e t1) (h2 : PE X e t2) : PE X e (fun σ H Q => t1 σ H Q ∨ t2 σ H Q) := ⟨fun pins s σ H Q I h => by
  rcases h with h | h
  · exact h1.run pins s σ H Q I h
  · exact h2.run pins s σ H Q I h⟩
section
variable {K : PySem.W.Frag} {σ : L2.St} {H : Hp} {ta tb te tx : TE} {t u : TT} {x y z v : V} {D : Ends} {tu tw tz : TS} {g : TG}
theorem g_par3 {i j l : Nat} {ta : TA} (h : EvA ta σ H [v, x, y]) (k : Go tz D (((σ.set i (some v)).set j (some x)).set l (some y)) H) : Go (tSeq (tPar3 i j l ta) tz) D σ H := fun H' e =>
  h H' e _ fun H1 e1 => ⟨v, x, y, rfl, k H1 (e.trans e1)⟩
/-- an attribute -/
theorem ev_fld {a C dx : Addr} {fs : List (Str × V)} {f : Str} (ha : Ev ta σ H (.ref a)) (h : H a = some (.ins C dx fs)) (c : Cls K C) (n : NoAttr K C f) (l : fs.lookup f = some v) : Ev (tFld K ta f) σ H v := fun H1 e Q q =>
  ha H1 e _ fun H2 e2 => ⟨a, C, dx, fs, v, rfl, (e.trans e2) a _ h, c, n, l, q H2 e2⟩
/-- a new instance with one attribute -/
def spIni (C : Addr) (f : Str) : Sp := fun vs H Q _ => ∃ (p dx : Addr) (x : V), vs = [.ref p, x] ∧ H p = some (.ins C dx []) ∧ Q .non (upd H p (.ins C dx [(f, x)]))
theorem ev_make {C : Addr} {f : Str} {ta : TA} {E : XK} (h : EvA ta σ H [v]) : ∀ H1, Ex H H1 → ∀ Q : VK, (∀ (x : Addr) H2, H1 x = none → Ex H1 H2 → (∃ dx, H2 x = some (.ins C dx [(f, v)])) → Q (.ref x) H2) → tMake C (spIni C f) [] E ta σ H1 Q := fun H1 e Q q =>
  h H1 e _ fun H2 e2 x dx nx ndx ne => ⟨x, dx, v, rfl, upd_same, rfl, q x _ (fresh_back e2 nx) (e2.trans fun b o hb => by
    rw [upd_ne (ne_of_none hb nx), upd_ne (ne_of_none hb nx), upd_ne (ne_of_none hb ndx)]
    exact hb) ⟨dx, upd_same⟩⟩
theorem ini_body {C : Addr} {f : Str} {p dx : Addr} {x : V} {Q : VK} (c : Cls K C) (n : NoAttr K C f) (h : H p = some (.ins C dx [])) (k : Q .non (upd H p (.ins C dx [(f, x)]))) :
    (tSeq (sFld K (tVar 0) (tVar 1) f) tNext) { nx := fun _ H' => Q .non H', rt := Q } [some (.ref p), some x] H :=
  ⟨x, rfl, .ref p, rfl, p, C, dx, [], rfl, h, c, n, by decide, k⟩
/-- a method's call by values -/
theorem ev_meth {C : Addr} {m : Str} {sp : Sp} {E : XK} {a dx : Addr} {fs : List (Str × V)} {ta' : TA} {vs : List V} (ha : Ev ta σ H (.ref a)) (h : H a = some (.ins C dx fs)) (l : fs.lookup m = none) (hv : EvA ta' σ H vs) (hs : SpV sp (.ref a :: vs) H z) : Ev (tMeth C m sp [] E ta ta') σ H z := fun H1 e Q q =>
  ha H1 e _ fun H2 e2 => ⟨a, dx, fs, rfl, (e.trans e2) a _ h, l, hv H2 (e.trans e2) _ fun H3 e3 => by
    show sp (.ref a :: (vs ++ [])) H3 Q E
    rw [List.append_nil]
    exact hs H3 ((e.trans e2).trans e3) Q (fun H4 e4 => q H4 ((e2.trans e3).trans e4)) E⟩
theorem ev_orl {t1 t2 : TE} (h : Ev t1 σ H v) : Ev (fun σ H Q => t1 σ H Q ∨ t2 σ H Q) σ H v := fun H1 e Q q => .inl (h H1 e Q q)
theorem ev_orr {t1 t2 : TE} (h : Ev t2 σ H v) : Ev (fun σ H Q => t1 σ H Q ∨ t2 σ H Q) σ H v := fun H1 e Q q => .inr (h H1 e Q q)
/-- over reversed(a list of triples) -/
theorem ef_rev3 {ta : TA} {p : Addr} {vs : List V} {ps : List (Int × Int × Int)} {i j k : Nat} (h : EvA ta σ H [.ref p]) (hs : SqL K H p vs) (hf : TupsAt H vs (ps.map fun x => [V.int x.1, V.int x.2.1, V.int x.2.2])) :
    EvF (iRev K ta) (gTup K 3 (gCons (gName i) (gCons (gName j) (gCons (gName k) gNil)))) σ H ps.length fun n σ' => ((σ'.set i (ps[ps.length - 1 - n]?.map fun x => V.int x.1)).set j (ps[ps.length - 1 - n]?.map fun x => V.int x.2.1)).set k (ps[ps.length - 1 - n]?.map fun x => V.int x.2.2) := fun H1 e R r =>
  have hl : vs.length = ps.length := by rw [hf.1, List.length_map]
  h H1 e _ fun H2 e2 => ⟨p, vs, rfl, ex_l (e.trans e2) hs, r _ H2 e2 ⟨fun i H x H' => H' = H ∧ vs[vs.length - 1 - i]? = some x, by
    have w := walk_rev (K := K) (a := p) (xs := vs)
    rw [hl] at w ⊢
    exact w.mono (fun H' e' => ex_l ((e.trans e2).trans e') hs) (fun _ _ _ _ _ _ y => y), fun n σ' H' x H'' hi e' y Q q => by
    obtain ⟨rfl, y2⟩ := y
    rw [hl] at y2
    have hi2 : ps.length - 1 - n < ps.length := by omega
    have hi' : ps[ps.length - 1 - n]? = some ps[ps.length - 1 - n] := List.getElem?_eq_getElem hi2
    obtain ⟨a, h1, h2⟩ := hf.2 (ps.length - 1 - n) _ (by rw [List.getElem?_map, hi']; rfl)
    rw [h1] at y2
    cases y2
    refine ⟨a, _, rfl, st_of (((e.trans e2).trans e') a _ h2), rfl, _, _, rfl, _, _, rfl, _, _, rfl, rfl, ?_⟩
    have z : Q (((σ'.set i (ps[ps.length - 1 - n]?.map fun x => V.int x.1)).set j (ps[ps.length - 1 - n]?.map fun x => V.int x.2.1)).set k (ps[ps.length - 1 - n]?.map fun x => V.int x.2.2)) H'' := q H'' (Ex.refl _)
    rw [hi'] at z
    exact z⟩⟩
end
theorem TupsAt.upd {H : Hp} {vs ys : List V} {pss : List (List V)} {d : Addr} {o : HO} (h : TupsAt H vs pss) (hd : H d = some (.lst ys)) : TupsAt (upd H d o) vs pss := ⟨h.1, fun i ps hi => by
  obtain ⟨a, h1, h2⟩ := h.2 i ps hi
  exact ⟨a, h1, by rw [upd_ne (ne_of h2 hd (by intro z; cases z))]; exact h2⟩⟩
theorem TupsAt.snoc {H : Hp} {vs : List V} {pss : List (List V)} {q : Addr} {ps : List V} (h : TupsAt H vs pss) (hq : H q = some (.tup ps)) : TupsAt H (vs ++ [.ref q]) (pss ++ [ps]) := ⟨by rw [List.length_append, List.length_append, h.1]; rfl, fun i qs hi => by
  by_cases hl : i < pss.length
  · rw [List.getElem?_append_left hl] at hi
    obtain ⟨a, h1, h2⟩ := h.2 i qs hi
    exact ⟨a, by rw [List.getElem?_append_left (by rw [h.1]; exact hl)]; exact h1, h2⟩
  · have hi2 : i = pss.length := by
      have := (List.getElem?_eq_some_iff.mp hi).1
      rw [List.length_append] at this
      simp at this
      omega
    subst hi2
    have e : ps = qs := by simpa using hi
    subst e
    exact ⟨q, by rw [← h.1]; simp, hq⟩⟩
/-- two to a power below a number of this size -/
theorem pow_small {n : Nat} {P : Int} (h : (2 : Int) ^ n ≤ P) (l : Lv 1 P) : n < 8000 := by
  unfold Lv at l
  rcases Nat.lt_or_ge n 8000 with q | q
  · exact q
  · have h1 : 2 ^ (8000 * 1) ≤ 2 ^ n := Nat.pow_le_pow_right (by omega) (by omega)
    have h2 : ((2 ^ n : Nat) : Int) = (2 : Int) ^ n := by rw [Int.natCast_pow]; rfl
    omega
/-! ### what answers show -/
def inCnt (p s : Int) (n : Nat) (b e : Int) : Int := RS.cnt p s n e - RS.cnt p s n (b - 1)
def showsF (p s b e m : Int) : Bool := decide (0 ≤ m) && (decide (b ≤ m * s % p) && decide (m * s % p ≤ e)) && decide (inCnt p s m.toNat b e = 0)
def showsN (p s b e c : Int) : Bool := decide (1 ≤ c) && decide (p % c = 0) && decide (s % c = 0) && decide (e / c * c < b)
/-- no mark ahead is there -/
theorem inCnt_none {p s b e : Int} {n : Nat} (hbe : b ≤ e + 1) : inCnt p s n b e = 0 ↔ ∀ k : Nat, k < n → ¬ RS.In p s b e k := by
  have key : inCnt p s n b e = sumN (fun k => if RS.In p s b e k then 1 else 0) n := by
    unfold inCnt RS.cnt
    rw [← sumN_sub]
    refine sumN_congr fun k _ => ?_
    unfold hit
    by_cases q : RS.In p s b e k
    · obtain ⟨h1, h2⟩ := id q
      rw [if_pos q, if_pos h2, if_neg (by omega)]
      rfl
    · rw [if_neg q]
      unfold RS.In at q
      split <;> split <;> omega
  have nn : ∀ k : Nat, k < n → (0 : Int) ≤ if RS.In p s b e k then 1 else 0 := fun k _ => by split <;> omega
  rw [key]
  constructor
  · intro h k hk q
    have := sumN_ge (f := fun k : Nat => if RS.In p s b e k then (1 : Int) else 0) (n := n) (k := k) nn hk
    have this : (if RS.In p s b e k then (1 : Int) else 0) ≤ _ := this
    rw [if_pos q] at this
    omega
  · intro h
    rw [sumN_congr (g := fun _ => 0), sumN_const]
    · simp
    · intro k hk
      rw [if_neg (h k hk)]
theorem showsF_iff {p s b e m : Int} (hbe : b ≤ e) : showsF p s b e m = true ↔ FirstIn p s b e m := by
  unfold showsF
  rw [Bool.and_eq_true, Bool.and_eq_true, Bool.and_eq_true, decide_eq_true_iff, decide_eq_true_iff, decide_eq_true_iff, decide_eq_true_iff]
  constructor
  · rintro ⟨⟨h0, h1, h2⟩, h3⟩
    refine ⟨h0, ⟨h1, h2⟩, fun j j0 jm q => ?_⟩
    have := (inCnt_none (show b ≤ e + 1 by omega)).mp h3 j.toNat (by omega)
    have e1 : ((j.toNat : Nat) : Int) = j := by omega
    rw [e1] at this
    exact this q
  · rintro ⟨h0, ⟨h1, h2⟩, h3⟩
    exact ⟨⟨h0, h1, h2⟩, (inCnt_none (by omega)).mpr fun k hk => h3 k (by omega) (by omega)⟩
end RG
namespace RG
open PySem PySem.Spec PyProof.Rows L2 Evl RS
/-! ### own classes -/
/-- what isinstance asks of an instance of C -/
structure InsI (K : PySem.W.Frag) (C : Addr) : Prop where
  cl : Cls K C
  ha : PySem.W.findIn K (.ref C) "__class__" = some (some (.builtin "object.__class__"))
  hn : PySem.W.specialIn K (.builtin "object.__class__") "__get__" = some (some (.builtin "getset_descriptor.__get__"))
  htk : PySem.W.takesIn K (.builtin "object.__class__") = some true
  hm : PySem.W.mroIn K C (.type "object") = some true
theorem kit_own {K : PySem.W.Frag} {C D : Addr} {b : Bool} (i : PySem.W.isClsIn K D = true) (t : PySem.W.typeIn K (.ref D) = some (.type "type")) (s : PySem.W.subIn K (.ref C) (.ref D) = some b) (r : PySem.W.subIn K (.ref D) (.ref D) = some true) : PySem.W.kitOne K (.ref C) (.ref D) = some b := by
  unfold PySem.W.kitOne
  by_cases e : (Value.ref C == Value.ref D) = true
  · rw [if_pos e]
    have : C = D := by have := eq_of_beq e; injection this
    subst this
    rw [s] at r
    exact r.symm
  · rw [if_neg e]
    have e2 : ((PySem.W.clsIn K D).isSome && PySem.W.typeIn K (.ref D) == some (.type "type")) = true := by
      have h2' : (PySem.W.clsIn K D).isSome = true := i
      rw [h2', t] <;> rfl
    show (if ((PySem.W.clsIn K D).isSome && PySem.W.typeIn K (.ref D) == some (.type "type")) = true then PySem.W.subIn K (.ref C) (.ref D) else none) = some b
    rw [if_pos e2]
    exact s
section
variable {K : PySem.W.Frag} {σ : L2.St} {H : Hp} {ta tb te tx : TE} {t u : TT} {x y z v : V} {D : Ends} {tu tw tz : TS} {g : TG}
theorem ev_isIns {a C B dx : Addr} {fs : List (Str × V)} {b : Bool} (ha : Ev ta σ H (.ref a)) (h : H a = some (.ins C dx fs)) (i : InsI K C) (k : PySem.W.kitOne K (.ref C) (.ref B) = some b) : Ev (tCB (rIsi K) (tCons ta (tCons (tC (.ref B)) tNil))) σ H (.bl b) := fun H1 e Q q =>
  ha H1 e _ fun H2 e2 => ⟨.ref a, .ref B, .ref C, .ref B, b, rfl, .own B, .base (.ins ((e.trans e2) a _ h) i.cl i.ha i.hn i.htk i.hm), k, q H2 e2⟩
theorem lk_ne {m f : Str} {v : V} (h : m ≠ f) : List.lookup m [(f, v)] = none := by
  have q : (m == f) = false := by simpa using h
  simp [List.lookup, q]
theorem lk_eq {f : Str} {v : V} : List.lookup f [(f, v)] = some v := by simp [List.lookup]
/-- C(v).m(..) -/
theorem ev_methMk {C : Addr} {f m : Str} {sp : Sp} {E E' : XK} {ta ta' : TA} {vs : List V} {i : Int} (h : EvA ta σ H [.int i]) (hm : m ≠ f) (hv : EvA ta' σ H vs) (hs : ∀ a H', Ex H H' → (∃ dx, H' a = some (.ins C dx [(f, .int i)])) → SpV sp (.ref a :: vs) H' z) :
    Ev (tMeth C m sp [] E (tMake C (spIni C f) [] E' ta) ta') σ H z := fun H1 e Q q =>
  ev_make h H1 e _ fun a H2 na e2 ⟨dx, ha⟩ => ⟨a, dx, _, rfl, ha, lk_ne hm, hv H2 (e.trans e2) _ fun H3 e3 => by
    show sp (.ref a :: (vs ++ [])) H3 Q E
    rw [List.append_nil]
    exact hs a H3 ((e.trans e2).trans e3) ⟨dx, e3 a _ ha⟩ H3 (Ex.refl H3) Q (fun H4 e4 => q H4 ((e2.trans e3).trans e4)) E⟩
theorem given_rep (n : Nat) : given n (fun _ => true) (fun _ => V.bl true) = (List.replicate n true).map V.bl := by
  induction n with
  | zero => rfl
  | succ n ih => rw [given_yes rfl, ih, List.replicate_succ', List.map_append]; rfl
theorem all_rep (n : Nat) : (List.replicate n true).all id = true := by
  induction n with
  | zero => rfl
  | succ n ih => rw [List.replicate_succ, List.all_cons, ih]; rfl
theorem ev_allT {n : Nat} (h : EvL te σ H (given n (fun _ => true) (fun _ => V.bl true))) : Ev (tCB (rAll K) (tCons te tNil)) σ H (.bl true) := fun H1 e Q q =>
  h H1 e _ fun p H2 _ e2 hp => ⟨p, List.replicate n true, rfl, sq_of (by rw [hp, given_rep]), by rw [all_rep]; exact q H2 e2⟩
theorem ev_allB {bs : List Bool} (h : EvL te σ H (bs.map V.bl)) : Ev (tCB (rAll K) (tCons te tNil)) σ H (.bl (bs.all id)) := fun H1 e Q q =>
  h H1 e _ fun p H2 _ e2 hp => ⟨p, bs, rfl, sq_of hp, q H2 e2⟩
/-- a for over a list of pairs that is written in its head -/
theorem ef_disp2 {ta : TA} {ps : List (V × V)} {j k : Nat} (h : EvAT ta σ H (ps.map fun x => [x.1, x.2])) (hl : ps.length ≤ 100000) :
    EvF (iList K (tLst ta)) (gTup K 2 (gCons (gName j) (gCons (gName k) gNil))) σ H ps.length fun i σ' => (σ'.set j (ps[i]?.map (·.1))).set k (ps[i]?.map (·.2)) := fun H1 e R r =>
  h H1 e _ fun vs H2 e2 hT => ⟨sz_of (by rw [hT.1, List.length_map]; exact hl), fun p np => by
    have hT' := hT.ex (Ex.new (o := .lst vs) np)
    have e3 : Ex H2 (upd H2 p (.lst vs)) := Ex.new np
    refine ⟨p, rfl, ⟨vs, sq_of upd_same⟩, r _ (upd H2 p (.lst vs)) (e2.trans e3) ⟨fun i H x H' => H' = H ∧ vs[i]? = some x, by
      have w := walk_list (K := K) (a := p) (xs := vs)
      have hl2 : vs.length = ps.length := by rw [hT.1, List.length_map]
      rw [hl2] at w
      exact w.mono (fun H' e' => sq_of (e' p _ upd_same)) (fun _ _ _ _ _ _ y => y), fun i σ' H' x H'' hi e' y Q q => ?_⟩⟩
    obtain ⟨rfl, y2⟩ := y
    have hi' : ps[i]? = some ps[i] := List.getElem?_eq_getElem hi
    obtain ⟨a, h1, h2⟩ := hT'.2 i [ps[i].1, ps[i].2] (by rw [List.getElem?_map, hi']; rfl)
    rw [h1] at y2
    cases y2
    refine ⟨a, _, rfl, st_of (e' a _ h2), rfl, _, _, rfl, _, _, rfl, rfl, ?_⟩
    have z : Q ((σ'.set j (ps[i]?.map (·.1))).set k (ps[i]?.map (·.2))) H'' := q H'' (Ex.refl _)
    rw [hi'] at z
    exact z⟩
end
theorem lv_e61 {i : Int} (h : i.natAbs ≤ 10 ^ 61) : Lv 1 i := by
  unfold Lv
  exact Nat.lt_of_le_of_lt h (Nat.lt_of_lt_of_le (show 10 ^ 61 < 2 ^ 300 by decide) (Nat.pow_le_pow_right (by omega) (by omega)))
end RG
namespace RG
open PySem PySem.Spec PyProof.Rows L2 Evl RS
/-! ### all but one object stands as it stood -/
def Xl (l : Addr) (H H' : Hp) : Prop := ∀ b o, b ≠ l → H b = some o → H' b = some o
theorem Xl.of {l : Addr} {H H' : Hp} (e : Ex H H') : Xl l H H' := fun b o _ h => e b o h
theorem Xl.trans {l : Addr} {H H' H'' : Hp} (a : Xl l H H') (b : Xl l H' H'') : Xl l H H'' := fun c o n h => b c o n (a c o n h)
theorem Xl.upd {l : Addr} {H : Hp} {o : HO} : Xl l H (upd H l o) := fun b o' n h => by rw [upd_ne n]; exact h
theorem Xl.ex {l : Addr} {H H1 H' : Hp} (x : Xl l H1 H') (e : Ex H H1) (n : H l = none) : Ex H H' := fun b o h => x b o (ne_of_none h n) (e b o h)
theorem TupsAt.xl {l : Addr} {H H' : Hp} {vs ys : List V} {pss : List (List V)} (h : TupsAt H vs pss) (hl : H l = some (.lst ys)) (x : Xl l H H') : TupsAt H' vs pss := ⟨h.1, fun i ps hi => by
  obtain ⟨a, h1, h2⟩ := h.2 i ps hi
  exact ⟨a, h1, x a _ (ne_of h2 hl (by intro z; cases z)) h2⟩⟩
theorem TupsAt.take {H : Hp} {vs : List V} {pss : List (List V)} (n : Nat) (h : TupsAt H vs pss) : TupsAt H (vs.take n) (pss.take n) := ⟨by rw [List.length_take, List.length_take, h.1], fun i ps hi => by
  rw [List.getElem?_take] at hi ⊢
  by_cases q : i < n
  · rw [if_pos q] at hi ⊢
    exact h.2 i ps hi
  · rw [if_neg q] at hi
    cases hi⟩
/-- arguments that make something on the way -/
def EvAR (ta : TA) (σ : L2.St) (H : Hp) (R : List V → Hp → Prop) : Prop := ∀ H1, Ex H H1 → ∀ Q : List V → Hp → Prop, (∀ vs H2, Ex H1 H2 → R vs H2 → Q vs H2) → ta σ H1 Q
section
variable {K : PySem.W.Frag} {σ : L2.St} {H : Hp} {ta tb te tx : TE} {t u : TT} {x y z v : V} {D : Ends} {tu tw tz : TS} {g : TG} {d d' : PyData}
theorem ear_of {tr : TA} {vs : List V} (h : EvA tr σ H vs) : EvAR tr σ H (fun us _ => us = vs) := fun H1 e Q q => h H1 e _ fun H2 e2 => q _ H2 e2 rfl
theorem ear_cons {tr : TA} {R : List V → Hp → Prop} (h : Ev te σ H v) (hr : EvAR tr σ H R) : EvAR (tCons te tr) σ H (fun vs H2 => ∃ r, vs = v :: r ∧ R r H2) := fun H1 e Q q =>
  h H1 e _ fun H2 e2 => hr H2 (e.trans e2) _ fun vs H3 e3 hR => q _ H3 (e2.trans e3) ⟨vs, rfl, hR⟩
theorem ear_lst {xs : List V} (h : EvL te σ H xs) : EvAR (tCons te tNil) σ H (fun vs H2 => ∃ p, vs = [.ref p] ∧ H2 p = some (.lst xs)) := fun H1 e Q q =>
  h H1 e _ fun p H2 _ e2 hp => q _ H2 e2 ⟨p, rfl, hp⟩
theorem ev_callR {sp : Sp} {E : XK} {tr : TA} {R : List V → Hp → Prop} (h : EvAR tr σ H R) (hs : ∀ vs H2, Ex H H2 → R vs H2 → SpV sp vs H2 v) : Ev (tCall sp [] E tr) σ H v := fun H1 e Q q =>
  h H1 e _ fun vs H2 e2 hR => by
    show sp (vs ++ []) H2 Q E
    rw [List.append_nil]
    exact hs vs H2 (e.trans e2) hR H2 (Ex.refl H2) Q (fun H3 e3 => q H3 (e2.trans e3)) E
/-- an attribute of something that is made on the way -/
theorem ev_fldP {f : Str} {R : V → Hp → Prop} (h : EvP te σ H R) (k : ∀ v H2, R v H2 → ∃ a C dx fs, v = .ref a ∧ H2 a = some (.ins C dx fs) ∧ Cls K C ∧ NoAttr K C f ∧ fs.lookup f = some z) : Ev (tFld K te f) σ H z := fun H1 e Q q =>
  h H1 e _ fun v H2 e2 hR => by
    obtain ⟨a, C, dx, fs, rfl, h1, h2, h3, h4⟩ := k v H2 hR
    exact ⟨a, C, dx, fs, z, rfl, h1, h2, h3, h4, q H2 e2⟩
/-! ### data at any depth, compared -/
theorem dp_ints {H : Hp} : ∀ ns : List Int, DpAll K H (ns.map V.int) (ns.map PyData.int)
  | [] => .nil
  | n :: ns => .cons (.int n) (dp_ints ns)
theorem ed_ints {ns : List Int} (h : EvL te σ H (ns.map V.int)) : EvD K te σ H (.list (ns.map PyData.int)) := fun H1 e Q q =>
  h H1 e _ fun p H2 _ e2 hp => q _ H2 e2 (.lst (sq_of hp) (dp_ints ns))
theorem ev_neD (h1 : EvD K ta σ H d) (h2 : EvD K tb σ H d') (s1 : SeqAt.shaped d = true) (s2 : SeqAt.shaped d' = true) : Ev (tOp (rNeD K) ta tb) σ H (.bl (!PyData.eqv d d')) := fun H1 e Q q =>
  h1 H1 e _ fun v H2 e2 hv => h2 H2 (e.trans e2) _ fun v' H3 e3 hv' => ⟨d, d', dp_ex e3 hv, hv', s1, s2, q H3 (e2.trans e3)⟩
theorem ev_eqD (h1 : EvD K ta σ H d) (h2 : EvD K tb σ H d') (s1 : SeqAt.shaped d = true) (s2 : SeqAt.shaped d' = true) : Ev (tOp (rEqD K) ta tb) σ H (.bl (PyData.eqv d d')) := fun H1 e Q q =>
  h1 H1 e _ fun v H2 e2 hv => h2 H2 (e.trans e2) _ fun v' H3 e3 hv' => ⟨d, d', dp_ex e3 hv, hv', s1, s2, q H3 (e2.trans e3)⟩
theorem ed_if {b : Bool} (h : EvT t σ H b) (h1 : b = true → EvD K ta σ H d) (h2 : b = false → EvD K tb σ H d) : EvD K (tIf t ta tb) σ H d := fun H1 e Q q => h H1 e _ fun H2 e2 => by
  cases b with
  | true =>
    show ta σ H2 Q
    exact h1 rfl H2 (e.trans e2) Q fun v H3 e3 => q v H3 (e2.trans e3)
  | false =>
    show tb σ H2 Q
    exact h2 rfl H2 (e.trans e2) Q fun v H3 e3 => q v H3 (e2.trans e3)
theorem rv_notB {a b : Bool} : RV rNotB (.bl a) (.bl b) H (.bl (!decide (a = b))) := fun H1 _ _ q => ⟨a, b, rfl, rfl, q H1 (Ex.refl H1)⟩
theorem rv_isB {a b : Bool} : RV rIsB (.bl a) (.bl b) H (.bl (decide (a = b))) := fun H1 _ _ q => ⟨a, b, rfl, rfl, q H1 (Ex.refl H1)⟩
/-- a for over a list written in its head, one object alone is changed -/
theorem g_forXl {xs : List V} {tl : TE} {j : Nat} {l : Addr} {o : HO} (h : EvL tl σ H xs) (hl : H l = some o) (W : Nat → L2.St → Hp → Prop) (h0 : ∀ H1, Ex H H1 → W 0 σ H1)
    (hs : ∀ B, Ex H B → ∀ i x σ' H', xs[i]? = some x → Xl l B H' → W i σ' H' → Go tu { D with nx := fun σ2 H2 => Xl l B H2 ∧ W (i + 1) σ2 H2, ct := fun σ2 H2 => Xl l B H2 ∧ W (i + 1) σ2 H2, bk := tz D } (σ'.set j (some x)) H')
    (hd : ∀ σ' H', Xl l H H' → W xs.length σ' H' → Go tz D σ' H') : Go (tSeq (tFor (iList K tl) (gName j) tu) tz) D σ H := fun H' e => by
  have hl' := e l _ hl
  refine h H' e _ fun p B np e1 hp => ?_
  have npl : p ≠ l := fun z => by rw [z, hl'] at np; cases np
  refine ⟨p, rfl, ⟨xs, sq_of hp⟩, ?_⟩
  refine for_it (D := { D with nx := tz D }) (G := fun H2 => SqL K H2 p xs) walk_list (fun i σ' H2 => Xl l B H2 ∧ W i σ' H2) ⟨Xl.of (Ex.refl B), h0 B (e.trans e1)⟩ (fun i σ' H2 _ w => sq_of (w.1 p _ npl hp)) (fun i x σ' H2 H3 hi w y => ?_) (fun σ' H2 w => (hd σ' H2 ((Xl.of (e.trans e1)).trans w.1) w.2).at)
  obtain ⟨rfl, y2⟩ := y
  exact (hs B (e.trans e1) i x σ' _ y2 w.1 w.2).at
end
/-! ### the first of what is given -/
theorem given_none {c : Nat → Bool} {w : Nat → V} : ∀ {n : Nat}, (∀ i, i < n → c i = false) → given n c w = []
  | 0, _ => rfl
  | n + 1, h => by rw [given_no (h n (by omega))]; exact given_none fun i hi => h i (by omega)
theorem given_first {c : Nat → Bool} {w : Nat → V} {k : Nat} (h : ∀ i, i < k → c i = false) (hk : c k = true) : ∀ {n : Nat}, k < n → (given n c w).take 1 = [w k]
  | 0, hn => absurd hn (by omega)
  | n + 1, hn => by
    by_cases q : k < n
    · have ih := given_first h hk (w := w) q
      have hne : 1 ≤ (given n c w).length := by
        cases z : given n c w with
        | nil => rw [z] at ih; cases ih
        | cons a b => simp
      cases z : c n with
      | true => rw [given_yes z, List.take_append_of_le_length hne]; exact ih
      | false => rw [given_no z]; exact ih
    · have : k = n := by omega
      subst this
      rw [given_yes hk, given_none h]
      rfl
end RG
namespace RG
open PySem PySem.Spec PyProof.Rows L2 Evl RS
/-! ### great powers -/
def CPowB (i j : Int) : Prop := 0 ≤ j ∧ (Builtin.Int.intBits i : Int) * j ≤ 2 ^ 27
theorem op_powB {X : Cx} : OpR X (binaryOp .Pow) (rI CPowB fun i j => .int (i ^ j.toNat)) := opI fun _ _ _ _ _ _ _ hc q => pow_int hc.1 hc.2 q
theorem powB_ok {i j : Int} {n : Nat} (h : i.natAbs < 2 ^ n) (hn : 0 < n) (hj : 0 ≤ j) (hb : (n : Int) * j ≤ 134217728) : CPowB i j := by
  refine ⟨hj, ?_⟩
  have b : Builtin.Int.intBits i ≤ n := by
    unfold Builtin.Int.intBits
    have := PySem.Flt.log2_lt_of hn h
    split <;> omega
  have h1 : (Builtin.Int.intBits i : Int) * j ≤ (n : Int) * j := Int.mul_le_mul_of_nonneg_right (by omega) hj
  have e : (2 : Int) ^ 27 = 134217728 := by decide
  rw [e]
  omega
section
variable {K : PySem.W.Frag} {σ : L2.St} {H : Hp} {ta tb te tx : TE} {t u : TT} {x y z v : V} {D : Ends} {tu tw tz : TS} {g : TG}
/-- xs.index(y), of ints -/
theorem ev_indexI {p : Addr} {ns : List Int} {y : Int} {j : Nat} (ha : Ev ta σ H (.ref p)) (hs : SqL K H p (ns.map V.int)) (hb : Ev tb σ H (.int y)) (hj : ns[j]? = some y) (hn : ∀ (m : Nat) (z : Int), m < j → ns[m]? = some z → z ≠ y) : Ev (tBM K "list" (rIndex K) ta (tCons tb tNil)) σ H (.int (j : Nat)) := fun H1 e Q q =>
  ha H1 e _ fun H2 e2 => ⟨.inl ⟨rfl, _, ex_l (e.trans e2) hs⟩, hb H2 (e.trans e2) _ fun H3 e3 => ⟨p, ns.map V.int, .int y, j, .int y, rfl, rfl, ex_l ((e.trans e2).trans e3) hs, rfl, by rw [List.all_eq_true]; intro w hw; obtain ⟨i, _, rfl⟩ := List.mem_map.mp hw; rfl, by rw [List.getElem?_map, hj]; rfl, by show (y == y) = true; simp, fun m z' hm hz => by
    rw [List.getElem?_map] at hz
    cases q : ns[m]? with
    | none => rw [q] at hz; cases hz
    | some w =>
      rw [q] at hz
      cases hz
      have := hn m w hm q
      show (w == y) = false
      simpa using this, q H3 (e2.trans e3)⟩⟩
/-- a, b = sorted(ints), y -/
theorem g_parS {i j : Nat} {ns : List Int} {q : Addr} (P : List Int → Prop) (hP : ∀ ns' : List Int, ns'.Perm ns → ns'.Pairwise (· ≤ ·) → P ns') (h1 : Ev ta σ H (.ref q)) (hs : SqL K H q (ns.map V.int)) (h2 : Ev tb σ H v)
    (k : ∀ ns' p H1, P ns' → H p = none → Ex H H1 → H1 p = some (.lst (ns'.map V.int)) → Go tz D ((σ.set i (some (.ref p))).set j (some v)) H1) : Go (tSeq (tPar i j (tCons (tCB (rSortedI K) (tCons ta tNil)) (tCons tb tNil))) tz) D σ H := fun H' e =>
  h1 H' e _ fun H1 e1 => ⟨q, ns, rfl, ex_l (e.trans e1) hs, fun ns' p a b np => by
    have e2 : Ex H1 (upd H1 p (.lst (ns'.map V.int))) := Ex.new np
    exact h2 _ ((e.trans e1).trans e2) _ fun H2 e3 => ⟨_, _, rfl, (k ns' p H2 (hP ns' a b) (fresh_back (e.trans e1) np) (((e.trans e1).trans e2).trans e3) (e3 p _ upd_same)).at⟩⟩
/-- a for over a tuple of pairs that is written in its head -/
theorem ef_tdisp2 {ta : TA} {ps : List (V × V)} {j k : Nat} (h : EvAT ta σ H (ps.map fun x => [x.1, x.2])) (hl : ps.length ≤ 100000) :
    EvF (iTup K (tTup ta)) (gTup K 2 (gCons (gName j) (gCons (gName k) gNil))) σ H ps.length fun i σ' => (σ'.set j (ps[i]?.map (·.1))).set k (ps[i]?.map (·.2)) := fun H1 e R r =>
  h H1 e _ fun vs H2 e2 hT => ⟨sz_of (by rw [hT.1, List.length_map]; exact hl), fun p np => by
    have hT' := hT.ex (Ex.new (o := .tup vs) np)
    have e3 : Ex H2 (upd H2 p (.tup vs)) := Ex.new np
    refine ⟨p, rfl, ⟨vs, st_of upd_same⟩, r _ (upd H2 p (.tup vs)) (e2.trans e3) ⟨fun i H x H' => H' = H ∧ vs[i]? = some x, by
      have w := walk_tup (K := K) (a := p) (xs := vs)
      have hl2 : vs.length = ps.length := by rw [hT.1, List.length_map]
      rw [hl2] at w
      exact w.mono (fun H' e' => st_of (e' p _ upd_same)) (fun _ _ _ _ _ _ y => y), fun i σ' H' x H'' hi e' y Q q => ?_⟩⟩
    obtain ⟨rfl, y2⟩ := y
    have hi' : ps[i]? = some ps[i] := List.getElem?_eq_getElem hi
    obtain ⟨a, h1, h2⟩ := hT'.2 i [ps[i].1, ps[i].2] (by rw [List.getElem?_map, hi']; rfl)
    rw [h1] at y2
    cases y2
    refine ⟨a, _, rfl, st_of (e' a _ h2), rfl, _, _, rfl, _, _, rfl, rfl, ?_⟩
    have z : Q ((σ'.set j (ps[i]?.map (·.1))).set k (ps[i]?.map (·.2))) H'' := q H'' (Ex.refl _)
    rw [hi'] at z
    exact z⟩
end
theorem given_spots (p s : Int) (m : Nat) : given m (fun _ => true) (fun i => V.int ((i : Int) * s % p)) = (spots p s m).map V.int := by
  unfold given spots
  rw [List.filter_eq_self.mpr fun _ _ => rfl, List.map_map]
  rfl
end RG
namespace RG
open PySem PySem.Spec PyProof.Rows L2 Evl RS
/-! ### dicts with ints as keys -/
theorem hu1 {A : Around} {k : Nat} (hr : Room k A) : A.units + 1 < cLine := Nat.lt_of_le_of_lt (Nat.add_le_add_left (by decide : 1 ≤ 64) _) hr.units
section
variable {K : PySem.W.Frag} {σ : L2.St} {H : Hp} {ta tb te tx td : TE} {t u : TT} {x y z v : V} {D : Ends} {tu tw tz : TS} {g : TG}
/-- x = {k: v} -/
theorem g_asgDisp1 {i : Nat} {k : Int} (hk : Ev ta σ H (.int k)) (hv : Ev tb σ H v) (q : ∀ p H1, H p = none → Ex H H1 → H1 p = some (.dK [(.inl k, v)]) → Go tz D (σ.set i (some (.ref p))) H1) : Go (tSeq (tAsg (tDisp [(ta, tb)]) (gName i)) tz) D σ H := fun H' e p np => by
  have e1 : Ex H' (upd H' p (.dK [])) := Ex.new np
  refine hk _ (e.trans e1) _ fun H2 e2 => hv H2 ((e.trans e1).trans e2) _ fun H3 e3 => ⟨e3 _ _ (e2 _ _ upd_same), [(.inl k, v)], rfl, by show 1 ≤ 15; decide, ?_⟩
  have np0 : H p = none := fresh_back e np
  exact (q p (upd H3 p (.dK [(.inl k, v)])) np0 (Ex.mut (((e.trans e1).trans e2).trans e3) np0) upd_same).at
/-- x[k] = v -/
theorem g_dput {d : Addr} {k : Int} {kvs : List (Key × V)} (hd : H d = some (.dK kvs)) (hl : kvs.length < 100000) (hv : Ev tx σ H v) (ho : Ev ta σ H (.ref d)) (hk : Ev tb σ H (.int k)) (q : ∀ H1, Ex H H1 → Go tz D σ (upd H1 d (.dK (putK kvs (.inl k) v)))) :
    Go (tSeq (sDPut ta tb tx) tz) D σ H := fun H' e =>
  hv H' e _ fun H1 e1 => ho H1 (e.trans e1) _ fun H2 e2 => hk H2 ((e.trans e1).trans e2) _ fun H3 e3 =>
    ⟨d, _, rfl, DPut.k (k := .inl k) ((((e.trans e1).trans e2).trans e3) d _ hd) (sz_lt hl), (q H3 (((e.trans e1).trans e2).trans e3)).at⟩
/-- x.get(k, z) -/
theorem ev_dget2 {d : Addr} {k : Int} {kvs : List (Key × V)} (hd : H d = some (.dK kvs)) (ho : Ev ta σ H (.ref d)) (hk : Ev tb σ H (.int k)) (hz : Ev tx σ H z) : Ev (tDGet2 ta tb tx) σ H ((valV kvs (.inl k)).getD z) := fun H1 e Q q =>
  ho H1 e _ fun H2 e2 => ⟨d, rfl, .inl ⟨kvs, .inl ((e.trans e2) d _ hd)⟩, hk H2 (e.trans e2) _ fun H3 e3 => hz H3 ((e.trans e2).trans e3) _ fun H4 e4 =>
    ⟨_, DGet.k (k := .inl k) ((((e.trans e2).trans e3).trans e4) d _ hd), q H4 ((e2.trans e3).trans e4)⟩⟩
/-- a new list of new tuples -/
def EvLT (te : TE) (σ : L2.St) (H : Hp) (pss : List (List V)) : Prop := ∀ H1, Ex H H1 → ∀ Q : VK, (∀ p vs H2, H1 p = none → Ex H1 H2 → H2 p = some (.lst vs) → TupsAt H2 vs pss → Q (.ref p) H2) → te σ H1 Q
theorem elt_lst {ta : TA} {pss : List (List V)} (h : EvAT ta σ H pss) (hl : pss.length ≤ 100000) : EvLT (tLst ta) σ H pss := fun H1 e Q q =>
  h H1 e _ fun vs H2 e2 hT => ⟨sz_of (by rw [hT.1]; exact hl), fun p hp => q p vs _ (fresh_back e2 hp) (e2.trans (Ex.new hp)) upd_same (hT.ex (Ex.new hp))⟩
theorem g_retLT {pss : List (List V)} (h : EvLT te σ H pss) (k : ∀ p vs H1, H p = none → Ex H H1 → H1 p = some (.lst vs) → TupsAt H1 vs pss → D.rt (.ref p) H1) : Go (tSeq (tRet te) tz) D σ H := fun H' e =>
  h H' e _ fun p vs H1 np e1 hp hT => k p vs H1 (fresh_back e np) (e.trans e1) hp hT
def givenT (n : Nat) (c : Nat → Bool) (w : Nat → List V) : List (List V) := ((List.range n).filter c).map w
theorem givenT_yes {n : Nat} {c : Nat → Bool} {w : Nat → List V} (h : c n = true) : givenT (n + 1) c w = givenT n c w ++ [w n] := by
  unfold givenT
  rw [List.range_succ, List.filter_append, List.map_append, List.filter_cons, if_pos h] <;> rfl
theorem givenT_no {n : Nat} {c : Nat → Bool} {w : Nat → List V} (h : c n = false) : givenT (n + 1) c w = givenT n c w := by
  unfold givenT
  rw [List.range_succ, List.filter_append, List.map_append, List.filter_cons, if_neg (by rw [h]; decide)]
  show _ ++ [] = _
  rw [List.append_nil]
theorem givenT_len (n : Nat) (c : Nat → Bool) (w : Nat → List V) : (givenT n c w).length ≤ n := by
  unfold givenT
  rw [List.length_map]
  have h := List.length_filter_le c (List.range n)
  rw [List.length_range] at h
  exact h
/-- [(k, v) for k, v in x.items() if ..] -/
theorem elt_items {i j iD : Nat} {d : Addr} {vs : List Nat} {kvs : List (Key × V)} (hs : σ[iD]? = some (some (.ref d))) (hD : H d = some (.dK kvs)) (hn : kvs.length ≤ 50000) (c : Nat → Bool) (w : Nat → List V)
    (hw : ∀ n, n < kvs.length → wipe (((wipe σ vs).set i (kvs[n]?.map fun kv => kV kv.1)).set j (kvs[n]?.map Prod.snd)) vs = wipe σ vs)
    (ht : ∀ H2 n, n < kvs.length → EvT t (((wipe σ vs).set i (kvs[n]?.map fun kv => kV kv.1)).set j (kvs[n]?.map Prod.snd)) H2 (c n))
    (he : ∀ H2 n, n < kvs.length → c n = true → EvU te (((wipe σ vs).set i (kvs[n]?.map fun kv => kV kv.1)).set j (kvs[n]?.map Prod.snd)) H2 (w n)) :
    EvLT (tLockE (tLc (iItems (tVar iD)) (gTup K 2 (gCons (gName i) (gCons (gName j) gNil))) t te vs)) σ H (givenT kvs.length c w) := fun H1 e Q q => by
  have hD1 := e d _ hD
  refine ⟨d, .dK kvs, hD1, trivial, fun od => ?_⟩
  have hF : (upd H1 d (.frz od (.dK kvs))) d = some (.frz od (.dK kvs)) := upd_same
  generalize hHF : upd H1 d (.frz od (.dK kvs)) = HF at *
  have hb : ∀ b, b ≠ d → HF b = H1 b := fun b n => by rw [← hHF, upd_ne n]
  refine ⟨.ref d, hs, d, od, kvs, rfl, hF, fun Dl hDl => ?_⟩
  have nDd : Dl ≠ d := fun z => by rw [z, hF] at hDl; cases hDl
  refine lc_it (G := fun H' => H' d = some (.frz od (.dK kvs))) walk_items (fun n H' => Ex HF H' ∧ ∃ us, H' Dl = some (.lst us) ∧ TupsAt H' us (givenT n c w)) ⟨Ex.new hDl, [], upd_same, rfl, fun n ps h => by simp [givenT] at h⟩ (fun n H' _ p => p.1 d _ hF) (fun n x H3 H4 hi p yy => ?_) (fun H' p => ?_)
  · obtain ⟨p1, us, p2, p3⟩ := p
    obtain ⟨T, a, b, rfl, nT, rfl, ha, hb2⟩ := yy
    have ha : kvs[n]?.map (fun kv => kV kv.1) = some a := ha
    have hb2 : kvs[n]?.map Prod.snd = some b := hb2
    have e4 : Ex H3 (upd H3 T (.tup [a, b])) := Ex.new nT
    refine ⟨T, _, rfl, st_of upd_same, rfl, _, _, rfl, _, _, rfl, rfl, ?_⟩
    have key : ∀ H5, Ex H3 H5 → (wipe (((wipe σ vs).set i (kvs[n]?.map fun kv => kV kv.1)).set j (kvs[n]?.map Prod.snd)) vs = wipe σ vs ∧ t (((wipe σ vs).set i (kvs[n]?.map fun kv => kV kv.1)).set j (kvs[n]?.map Prod.snd)) H5 fun b H3 =>
        if b = true then te (((wipe σ vs).set i (kvs[n]?.map fun kv => kV kv.1)).set j (kvs[n]?.map Prod.snd)) H3 fun y H4 => ∃ acc, H4 Dl = some (.lst acc) ∧ acc.length < sizeLine ∧ (Ex HF (upd H4 Dl (.lst (acc ++ [y]))) ∧ ∃ us, (upd H4 Dl (.lst (acc ++ [y]))) Dl = some (.lst us) ∧ TupsAt (upd H4 Dl (.lst (acc ++ [y]))) us (givenT (n + 1) c w)) else (Ex HF H3 ∧ ∃ us, H3 Dl = some (.lst us) ∧ TupsAt H3 us (givenT (n + 1) c w))) := fun H5 e5 => by
      refine ⟨hw n hi, ht H5 n hi H5 (Ex.refl H5) _ fun H6 e6 => ?_⟩
      cases hc : c n with
      | true =>
        show te _ H6 _
        refine he H6 n hi hc H6 (Ex.refl H6) _ fun q H7 nq e7 hq => ?_
        have e37 := (e5.trans e6).trans e7
        have nqD : q ≠ Dl := fun z => by
          rw [z, (e5.trans e6) Dl _ p2] at nq
          cases nq
        refine ⟨us, e37 Dl _ p2, sz_lt (by have := givenT_len n c w; rw [p3.1]; omega), Ex.mut (p1.trans e37) hDl, us ++ [.ref q], upd_same, ?_⟩
        rw [givenT_yes hc]
        exact ((p3.ex e37).upd (e37 Dl _ p2)).snoc (by rw [upd_ne nqD]; exact hq)
      | false =>
        show Ex HF H6 ∧ _
        rw [givenT_no hc]
        exact ⟨p1.trans (e5.trans e6), us, (e5.trans e6) Dl _ p2, p3.ex (e5.trans e6)⟩
    have z := key _ e4
    rw [ha, hb2] at z
    exact z
  · obtain ⟨p1, us, p2, p3⟩ := p
    refine ⟨p1 d _ hF, q Dl us (upd H' d (.dK kvs)) ?_ ?_ (by rw [upd_ne nDd]; exact p2) ⟨p3.1, fun n ps hn' => ?_⟩⟩
    · rw [← hb Dl nDd]; exact hDl
    · intro b o hbo
      by_cases z : b = d
      · rw [z] at hbo ⊢
        rw [upd_same, ← hbo, hD1]
      · rw [upd_ne z]
        exact p1 b o (by rw [hb b z]; exact hbo)
    · obtain ⟨a, h1, h2⟩ := p3.2 n ps hn'
      refine ⟨a, h1, ?_⟩
      rw [upd_ne (fun z => by rw [z, p1 d _ hF] at h2; cases h2)]
      exact h2
end
/-! ### pairs in order -/
theorem pairs_uniq : ∀ {l m : List (Int × Int)}, l.Perm m → l.Pairwise (fun a b => a.1 ≤ b.1) → m.Pairwise (fun a b => a.1 < b.1) → l = m
  | [], m, h, _, _ => (List.nil_perm.mp h).symm
  | a :: l, [], h, _, _ => absurd (List.perm_nil.mp h) (by simp)
  | a :: l, b :: m, h, hl, hm => by
    have hl' := List.pairwise_cons.mp hl
    have hm' := List.pairwise_cons.mp hm
    have ha : a ∈ b :: m := h.subset List.mem_cons_self
    have hb : b ∈ a :: l := h.symm.subset List.mem_cons_self
    have e : a = b := by
      rcases List.mem_cons.mp ha with z | z
      · exact z
      · rcases List.mem_cons.mp hb with y | y
        · exact y.symm
        · have h1 := hm'.1 a z
          have h2 := hl'.1 b y
          omega
    subst e
    rw [pairs_uniq (List.Perm.cons_inv h) hl'.2 hm'.2]
/-- what a pair at an address tells -/
def pairK (H : Hp) : V → Int × Int
  | .ref t => match H t with
    | some (.tup [.int i, .int j]) => (i, j)
    | _ => (0, 0)
  | _ => (0, 0)
theorem pairs_at {H : Hp} {vs : List V} {ps : List (Int × Int)} (h : TupsAt H vs (ps.map fun x => [V.int x.1, V.int x.2])) : vs.map (pairK H) = ps ∧ ∀ x ∈ vs, ∃ t, x = V.ref t ∧ H t = some (.tup [.int (pairK H x).1, .int (pairK H x).2]) := by
  have at_ : ∀ i, i < vs.length → ∃ t x, ps[i]? = some x ∧ vs[i]? = some (V.ref t) ∧ H t = some (.tup [.int x.1, .int x.2]) ∧ pairK H (V.ref t) = x := fun i hi => by
    have hl := h.1
    rw [List.length_map] at hl
    have hi' : i < ps.length := by omega
    obtain ⟨a, h1, h2⟩ := h.2 i [V.int ps[i].1, V.int ps[i].2] (by rw [List.getElem?_map, List.getElem?_eq_getElem hi']; rfl)
    exact ⟨a, ps[i], List.getElem?_eq_getElem hi', h1, h2, by simp only [pairK, h2]⟩
  constructor
  · apply List.ext_getElem?
    intro i
    rw [List.getElem?_map]
    by_cases hi : i < vs.length
    · obtain ⟨t, x, h1, h2, h3, h4⟩ := at_ i hi
      rw [h2, h1]
      exact congrArg some h4
    · have hl := h.1
      rw [List.length_map] at hl
      rw [List.getElem?_eq_none (by omega), List.getElem?_eq_none (by omega)]
      rfl
  · intro x hx
    obtain ⟨i, hi⟩ := List.mem_iff_getElem?.mp hx
    obtain ⟨t, y, h1, h2, h3, h4⟩ := at_ i (List.getElem?_eq_some_iff.mp hi).1
    rw [h2] at hi
    cases hi
    exact ⟨t, rfl, by rw [h4]; exact h3⟩
section
variable {K : PySem.W.Frag} {σ : L2.St} {H : Hp} {te : TE}
/-- sorted(new pairs), their sizes all apart -/
theorem elt_sorted {ps qs : List (Int × Int)} (hp : qs.Perm ps) (hq : qs.Pairwise fun a b => a.1 < b.1) (h : EvLT te σ H (ps.map fun x => [V.int x.1, V.int x.2])) : EvLT (tCB (rSortedPO K) (tCons te tNil)) σ H (qs.map fun x => [V.int x.1, V.int x.2]) := fun H1 e Q q =>
  h H1 e _ fun a vs H2 na e2 ha hT => by
    obtain ⟨hk, hx⟩ := pairs_at hT
    refine ⟨a, vs, pairK H2, rfl, sq_of ha, hx, fun ys p srt stb np => ?_⟩
    have hperm : (ys.map (pairK H2)).Perm qs := by
      have := stb.perm.map (pairK H2)
      rw [hk] at this
      exact this.trans hp.symm
    have hs : (ys.map (pairK H2)).Pairwise fun a b => a.1 ≤ b.1 := by
      refine List.pairwise_map.mpr ?_
      refine List.Pairwise.imp ?_ srt
      intro x y hxy
      have := SrtO.lexB_no.mp hxy
      omega
    have he := pairs_uniq hperm hs hq
    refine q p ys _ (fresh_back e2 np) (e2.trans (Ex.new np)) upd_same (TupsAt.ex ⟨by rw [← he, List.length_map, List.length_map], fun i us hi => ?_⟩ (Ex.new np))
    rw [← he, List.map_map, List.getElem?_map] at hi
    cases hy : ys[i]? with
    | none => rw [hy] at hi; cases hi
    | some y =>
      rw [hy] at hi
      obtain ⟨t, rfl, ht⟩ := hx y (stb.perm.subset (List.mem_of_getElem? hy))
      cases hi
      exact ⟨t, rfl, ht⟩
end
/-- by the index, with what is made of each -/
theorem givenT_list (l : List (Int × Int)) (q : Int × Int → Bool) (f : Int × Int → List V) : givenT l.length (fun i => q (l.getD i (0, 0))) (fun i => f (l.getD i (0, 0))) = (l.filter q).map f := by
  have h : l = (List.range l.length).map fun i => l.getD i (0, 0) := by
    apply List.ext_getElem?
    intro i
    rw [List.getElem?_map]
    by_cases hi : i < l.length
    · rw [List.getElem?_eq_getElem hi, List.getElem?_range hi]
      simp [List.getD, hi]
    · rw [List.getElem?_eq_none (by omega), List.getElem?_eq_none (by simp; omega)]
      rfl
  unfold givenT
  conv => rhs; rw [h]
  rw [List.filter_map, List.map_map]
  rfl
end RG
namespace RG
open PySem PySem.Spec PyProof.Rows L2 Evl RS
section
variable {K : PySem.W.Frag} {σ : L2.St} {H : Hp} {ta tb te tx : TE} {t u : TT} {x y z v : V} {D : Ends} {tu tw tz : TS} {g : TG}
theorem ev_isTup {p : Addr} {xs : List V} (ha : Ev ta σ H (.ref p)) (h : H p = some (.tup xs)) : Ev (tCB (rIsi K) (tCons ta (tCons (tC (.ty "tuple")) tNil))) σ H (.bl true) := fun H1 e Q q =>
  ha H1 e _ fun H2 e2 => ⟨.ref p, .ty "tuple", _, _, _, rfl, .ty _, .base (.tup ((e.trans e2) p _ h)), kit_ty (r := true) (by decide +kernel), q H2 e2⟩
theorem ev_isLst {p : Addr} {xs : List V} (ha : Ev ta σ H (.ref p)) (h : H p = some (.lst xs)) : Ev (tCB (rIsi K) (tCons ta (tCons (tC (.ty "list")) tNil))) σ H (.bl true) := fun H1 e Q q =>
  ha H1 e _ fun H2 e2 => ⟨.ref p, .ty "list", _, _, _, rfl, .ty _, .base (.lst ((e.trans e2) p _ h)), kit_ty (r := true) (by decide +kernel), q H2 e2⟩
theorem ev_lenT {p : Addr} {xs : List V} (ha : Ev ta σ H (.ref p)) (h : H p = some (.tup xs)) : Ev (tCB (rLenS K) (tCons ta tNil)) σ H (.int (xs.length : Int)) := fun H1 e Q q =>
  ha H1 e _ fun H2 e2 => ⟨p, xs, rfl, Or.inr (st_of ((e.trans e2) p _ h)), q H2 e2⟩
theorem ef_tup {p : Addr} {xs : List V} {j : Nat} (h : Ev te σ H (.ref p)) (hs : SqT K H p xs) : EvF (iTup K te) (gName j) σ H xs.length fun i σ' => σ'.set j xs[i]? := fun H1 e R r =>
  h H1 e _ fun H2 e2 => ⟨p, rfl, ⟨xs, ex_t (e.trans e2) hs⟩, r _ H2 e2 ⟨_, walk_tup.mono (fun H' e' => ex_t ((e.trans e2).trans e') hs) (fun _ _ _ _ _ _ y => y), fun i σ' H' x H'' hi e' y Q q => by
    obtain ⟨rfl, y2⟩ := y
    show Q (σ'.set j (some x)) H''
    rw [← y2]
    exact q H'' (Ex.refl _)⟩⟩
end
end RG
namespace RG
open PySem PySem.Spec PyProof.Rows L2 Evl RS
section
variable {K : PySem.W.Frag} {σ : L2.St} {H : Hp} {ta tb te tx : TE} {t u : TT} {x y z v : V} {D : Ends} {tu tw tz : TS} {g : TG}
/-- a for over zip(a list, a new list), one object alone is changed -/
theorem g_forZipXl {xs ys : List V} {i j n : Nat} {l p : Addr} {o : HO} (hp : Ev ta σ H (.ref p)) (hx : H p = some (.lst xs)) (hb : EvL tb σ H ys) (hn : n = min xs.length ys.length) (hl : H l = some o) (npl : p ≠ l) (W : Nat → L2.St → Hp → Prop) (h0 : ∀ H1, Ex H H1 → W 0 σ H1)
    (hs : ∀ B, Ex H B → ∀ m σ' H', m < n → Xl l B H' → W m σ' H' → Go tu { D with nx := fun σ2 H2 => Xl l B H2 ∧ W (m + 1) σ2 H2, ct := fun σ2 H2 => Xl l B H2 ∧ W (m + 1) σ2 H2, bk := tz D } ((σ'.set i xs[m]?).set j ys[m]?) H')
    (hW : ∀ m σ' H' H'', W m σ' H' → Ex H' H'' → W m σ' H'')
    (hd : ∀ σ' H', Xl l H H' → W n σ' H' → Go tz D σ' H') : Go (tSeq (tFor (iZip K (tCons ta (tCons tb tNil))) (gTup K 2 (gCons (gName i) (gCons (gName j) gNil))) tu) tz) D σ H := fun H' e => by
  have hl' := e l _ hl
  refine hp H' e _ fun H1 e1 => hb H1 (e.trans e1) _ fun q B nq e2 hq => ?_
  have npl2 : q ≠ l := fun z => by rw [z, e1 l _ hl'] at nq; cases nq
  have hxB := e2 p _ (e1 p _ (e p _ hx))
  have eB := (e.trans e1).trans e2
  refine ⟨p, q, xs, ys, rfl, sq_of hxB, sq_of hq, ?_⟩
  refine for_it (D := { D with nx := tz D }) (G := fun H2 => SqL K H2 p xs ∧ SqL K H2 q ys) (walk_zip hn) (fun m σ' H2 => Xl l B H2 ∧ W m σ' H2) ⟨Xl.of (Ex.refl B), h0 B eB⟩ (fun m σ' H2 _ w => ⟨sq_of (w.1 p _ npl hxB), sq_of (w.1 q _ npl2 hq)⟩) (fun m x σ' H2 H3 hm w y => ?_) (fun σ' H2 w => (hd σ' H2 ((Xl.of eB).trans w.1) w.2).at)
  obtain ⟨T, a, b, rfl, nT, rfl, ha, hb2⟩ := y
  have ha : xs[m]? = some a := ha
  have hb2 : ys[m]? = some b := hb2
  have e4 : Ex H2 (upd H2 T (.tup [a, b])) := Ex.new nT
  refine ⟨T, _, rfl, st_of upd_same, rfl, _, _, rfl, _, _, rfl, rfl, ?_⟩
  have z := (hs B eB m σ' (upd H2 T (.tup [a, b])) hm (w.1.trans (Xl.of e4)) (hW m σ' H2 _ w.2 e4)).at
  rw [ha, hb2] at z
  exact z
/-- [.. for k in x if ..], x a dict -/
theorem elt_keys {j iD : Nat} {d : Addr} {vs : List Nat} {kvs : List (Key × V)} (hs : σ[iD]? = some (some (.ref d))) (hD : H d = some (.dK kvs)) (hn : kvs.length ≤ 50000) (c : Nat → Bool) (w : Nat → List V)
    (hw : ∀ n, n < kvs.length → wipe ((wipe σ vs).set j (kvs[n]?.map fun kv => kV kv.1)) vs = wipe σ vs)
    (ht : ∀ H2 od n, H2 d = some (.frz od (.dK kvs)) → n < kvs.length → EvT t ((wipe σ vs).set j (kvs[n]?.map fun kv => kV kv.1)) H2 (c n))
    (he : ∀ H2 od n, H2 d = some (.frz od (.dK kvs)) → n < kvs.length → c n = true → EvU te ((wipe σ vs).set j (kvs[n]?.map fun kv => kV kv.1)) H2 (w n)) :
    EvLT (tLockE (tLc (iKeys (tVar iD)) (gName j) t te vs)) σ H (givenT kvs.length c w) := fun H1 e Q q => by
  have hD1 := e d _ hD
  refine ⟨d, .dK kvs, hD1, trivial, fun od => ?_⟩
  have hF : (upd H1 d (.frz od (.dK kvs))) d = some (.frz od (.dK kvs)) := upd_same
  generalize hHF : upd H1 d (.frz od (.dK kvs)) = HF at *
  have hb : ∀ b, b ≠ d → HF b = H1 b := fun b n => by rw [← hHF, upd_ne n]
  refine ⟨.ref d, hs, d, od, rfl, .inl ⟨kvs, hF, fun Dl hDl => ?_⟩⟩
  have nDd : Dl ≠ d := fun z => by rw [z, hF] at hDl; cases hDl
  refine lc_it (G := fun H' => H' d = some (.frz od (.dK kvs))) walk_keys (fun n H' => Ex HF H' ∧ ∃ us, H' Dl = some (.lst us) ∧ TupsAt H' us (givenT n c w)) ⟨Ex.new hDl, [], upd_same, rfl, fun n ps h => by simp [givenT] at h⟩ (fun n H' _ p => p.1 d _ hF) (fun n x H3 H4 hi p yy => ?_) (fun H' p => ?_)
  · obtain ⟨p1, us, p2, p3⟩ := p
    obtain ⟨rfl, kk, vv, hkv, rfl⟩ := yy
    have ha : kvs[n]?.map (fun kv => kV kv.1) = some (kV kk) := by rw [hkv]; rfl
    have key : ∀ H5, Ex H4 H5 → (wipe ((wipe σ vs).set j (kvs[n]?.map fun kv => kV kv.1)) vs = wipe σ vs ∧ t ((wipe σ vs).set j (kvs[n]?.map fun kv => kV kv.1)) H5 fun b H3 =>
        if b = true then te ((wipe σ vs).set j (kvs[n]?.map fun kv => kV kv.1)) H3 fun y H4 => ∃ acc, H4 Dl = some (.lst acc) ∧ acc.length < sizeLine ∧ (Ex HF (upd H4 Dl (.lst (acc ++ [y]))) ∧ ∃ us, (upd H4 Dl (.lst (acc ++ [y]))) Dl = some (.lst us) ∧ TupsAt (upd H4 Dl (.lst (acc ++ [y]))) us (givenT (n + 1) c w)) else (Ex HF H3 ∧ ∃ us, H3 Dl = some (.lst us) ∧ TupsAt H3 us (givenT (n + 1) c w))) := fun H5 e5 => by
      have f5 := e5 d _ (p1 d _ hF)
      refine ⟨hw n hi, ht H5 od n f5 hi H5 (Ex.refl H5) _ fun H6 e6 => ?_⟩
      cases hc : c n with
      | true =>
        show te _ H6 _
        refine he H6 od n (e6 d _ f5) hi hc H6 (Ex.refl H6) _ fun q H7 nq e7 hq => ?_
        have e37 := (e5.trans e6).trans e7
        have nqD : q ≠ Dl := fun z => by
          rw [z, (e5.trans e6) Dl _ p2] at nq
          cases nq
        refine ⟨us, e37 Dl _ p2, sz_lt (by have := givenT_len n c w; rw [p3.1]; omega), Ex.mut (p1.trans e37) hDl, us ++ [.ref q], upd_same, ?_⟩
        rw [givenT_yes hc]
        exact ((p3.ex e37).upd (e37 Dl _ p2)).snoc (by rw [upd_ne nqD]; exact hq)
      | false =>
        show Ex HF H6 ∧ _
        rw [givenT_no hc]
        exact ⟨p1.trans (e5.trans e6), us, (e5.trans e6) Dl _ p2, p3.ex (e5.trans e6)⟩
    have z := key _ (Ex.refl _)
    rw [ha] at z
    exact z
  · obtain ⟨p1, us, p2, p3⟩ := p
    refine ⟨p1 d _ hF, q Dl us (upd H' d (.dK kvs)) ?_ ?_ (by rw [upd_ne nDd]; exact p2) ⟨p3.1, fun n ps hn' => ?_⟩⟩
    · rw [← hb Dl nDd]; exact hDl
    · intro b o hbo
      by_cases z : b = d
      · rw [z] at hbo ⊢
        rw [upd_same, ← hbo, hD1]
      · rw [upd_ne z]
        exact p1 b o (by rw [hb b z]; exact hbo)
    · obtain ⟨a, h1, h2⟩ := p3.2 n ps hn'
      refine ⟨a, h1, ?_⟩
      rw [upd_ne (fun z => by rw [z, p1 d _ hF] at h2; cases h2)]
      exact h2
end
end RG
namespace RG
open PySem PySem.Spec PyProof.Rows L2 Evl RS
section
variable {K : PySem.W.Frag} {σ : L2.St} {H : Hp} {ta tb te tx : TE} {t u : TT} {x y z v : V} {D : Ends} {tu tw tz : TS} {g : TG}
/-- a, b = sorted(new ints), {} -/
theorem g_asgSD {i j : Nat} {ns : List Int} (P : List Int → Prop) (hP : ∀ ns' : List Int, ns'.Perm ns → ns'.Pairwise (· ≤ ·) → P ns') (h : EvL te σ H (ns.map V.int))
    (k : ∀ ns' p q H1, P ns' → H p = none → H q = none → p ≠ q → Ex H H1 → H1 p = some (.lst (ns'.map V.int)) → H1 q = some (.dK []) → Go tz D ((σ.set i (some (.ref p))).set j (some (.ref q))) H1) :
    Go (tSeq (tAsg (tTup (tCons (tCB (rSortedI K) (tCons te tNil)) (tCons tDNewK tNil))) (gTup K 2 (gCons (gName i) (gCons (gName j) gNil)))) tz) D σ H := fun H' e =>
  el_sortN P hP h H' e _ fun ns' p H1 hp np e1 ha => fun q nq => ⟨sz_of (by show 2 ≤ 100000; decide), fun T nT => by
    have e2 : Ex H1 (upd H1 q (.dK [])) := Ex.new nq
    have e3 : Ex (upd H1 q (.dK [])) (upd (upd H1 q (.dK [])) T (.tup [.ref p, .ref q])) := Ex.new nT
    have npq : p ≠ q := fun z => by rw [z, nq] at ha; cases ha
    exact ⟨T, _, rfl, st_of upd_same, rfl, _, _, rfl, _, _, rfl, rfl, (k ns' p q _ hp (fresh_back e np) (fresh_back (e.trans e1) nq) npq (((e.trans e1).trans e2).trans e3) (e3 p _ (e2 p _ ha)) (e3 q _ upd_same)).at⟩⟩
end
end RG
namespace RG
open PySem PySem.Spec PyProof.Rows L2 Evl RS
theorem given_mapI {α : Type} (l : List α) (x0 : α) (f : α → V) : given l.length (fun _ => true) (fun i => f (l.getD i x0)) = l.map f := by
  have h : l = (List.range l.length).map fun i => l.getD i x0 := by
    apply List.ext_getElem?
    intro i
    rw [List.getElem?_map]
    by_cases hi : i < l.length
    · rw [List.getElem?_eq_getElem hi, List.getElem?_range hi]
      simp [List.getD, hi]
    · rw [List.getElem?_eq_none (by omega), List.getElem?_eq_none (by simp; omega)]
      rfl
  unfold given
  rw [List.filter_eq_self.mpr fun _ _ => rfl]
  conv => rhs; rw [h]
  rw [List.map_map]
  rfl
section
variable {K : PySem.W.Frag} {σ : L2.St} {H : Hp} {ta tb te tx : TE} {t u : TT} {x y z v : V} {D : Ends} {tu tw tz : TS} {g : TG}
/-- over a list of pairs of ints -/
theorem ef_pairsI {p : Addr} {us : List V} {L : List (Int × Int)} {j k : Nat} (h : Ev te σ H (.ref p)) (hs : H p = some (.lst us)) (hf : TupsAt H us (L.map fun x => [V.int x.1, V.int x.2])) :
    EvF (iList K te) (gTup K 2 (gCons (gName j) (gCons (gName k) gNil))) σ H L.length fun i σ' => (σ'.set j (some (.int (L.getD i (0, 0)).1))).set k (some (.int (L.getD i (0, 0)).2)) := fun H1 e R r =>
  h H1 e _ fun H2 e2 => ⟨p, rfl, ⟨us, sq_of ((e.trans e2) p _ hs)⟩, r _ H2 e2 ⟨_, (show us.length = L.length by rw [hf.1, List.length_map]) ▸ walk_list.mono (fun H' e' => sq_of (((e.trans e2).trans e') p _ hs)) (fun _ _ _ _ _ _ y => y), fun i σ' H' x H'' hi e' y Q q => by
    obtain ⟨rfl, y2⟩ := y
    have hg : L.getD i (0, 0) = L[i] := by simp [List.getD, hi]
    obtain ⟨a, h1, h2⟩ := hf.2 i [V.int L[i].1, V.int L[i].2] (by rw [List.getElem?_map, List.getElem?_eq_getElem hi]; rfl)
    rw [h1] at y2
    cases y2
    refine ⟨a, _, rfl, st_of (((e.trans e2).trans e') a _ h2), rfl, _, _, rfl, _, _, rfl, rfl, ?_⟩
    have z : Q ((σ'.set j (some (.int (L.getD i (0, 0)).1))).set k (some (.int (L.getD i (0, 0)).2))) H'' := q H'' (Ex.refl _)
    rw [hg] at z
    exact z⟩⟩
/-- [f of each pair] -/
theorem el_pairsI {p : Addr} {us : List V} {L : List (Int × Int)} {j k : Nat} (f : Int × Int → V) (h : Ev te σ H (.ref p)) (hs : H p = some (.lst us)) (hf : TupsAt H us (L.map fun x => [V.int x.1, V.int x.2])) (hl : L.length ≤ 50000)
    (hw : ∀ a b, wipe (((wipe σ [j, k]).set j a).set k b) [j, k] = wipe σ [j, k])
    (he : ∀ H2, Ex H H2 → ∀ x ∈ L, Ev tx (((wipe σ [j, k]).set j (some (.int x.1))).set k (some (.int x.2))) H2 (f x)) :
    EvL (tLc (iList K te) (gTup K 2 (gCons (gName j) (gCons (gName k) gNil))) tYes tx [j, k]) σ H (L.map f) := by
  rw [← given_mapI L (0, 0) f]
  exact el_lcF (fun _ => true) (fun i => f (L.getD i (0, 0))) (ef_pairsI h hs hf) hl (fun i hi => hw _ _) (fun _ _ _ _ => et_yes) fun H2 e2 i hi _ => he H2 e2 _ (by
    have : L.getD i (0, 0) = L[i] := by simp [List.getD, hi]
    rw [this]
    exact List.getElem_mem hi)
theorem el_isL {xs ys : List V} (h : EvL te σ H xs) (e : xs = ys) : EvL te σ H ys := e ▸ h
/-! ### lists of pairs as data -/
def dPairs (L : List (Int × Int)) : List PyData := L.map fun x => .tuple [.int x.1, .int x.2]
theorem dps_pairs {H : Hp} {L : List (Int × Int)} : ∀ {us : List V}, TupsAt H us (L.map fun x => [V.int x.1, V.int x.2]) → DpAll K H us (dPairs L) := by
  induction L with
  | nil =>
    intro us h
    have : us = [] := List.length_eq_zero_iff.mp h.1
    subst this
    exact .nil
  | cons x t ih =>
    intro us h
    cases us with
    | nil => have := h.1; simp at this
    | cons u ut =>
      obtain ⟨a, h1, h2⟩ := h.2 0 [V.int x.1, V.int x.2] rfl
      have h1 : u = .ref a := by simpa using h1
      subst h1
      refine .cons (.tup (st_of h2) (.cons (.int _) (.cons (.int _) .nil))) (ih ⟨by have := h.1; simpa using this, fun i ps hi => ?_⟩)
      obtain ⟨b, h3, h4⟩ := h.2 (i + 1) ps (by simpa using hi)
      exact ⟨b, by simpa using h3, h4⟩
theorem dp_pairs {p : Addr} {us : List V} {L : List (Int × Int)} (hs : H p = some (.lst us)) (hf : TupsAt H us (L.map fun x => [V.int x.1, V.int x.2])) : Dp K H (.ref p) (.list (dPairs L)) := .lst (sq_of hs) (dps_pairs hf)
theorem ed_LT {L : List (Int × Int)} (h : EvLT te σ H (L.map fun x => [V.int x.1, V.int x.2])) : EvD K te σ H (.list (dPairs L)) := fun H1 e Q q =>
  h H1 e _ fun p us H2 _ e2 hp hT => q _ H2 e2 (dp_pairs hp hT)
theorem eqv_pairs (L : List (Int × Int)) : PyData.eqv (.list (dPairs L)) (.list (dPairs L)) = true := by
  show PyData.eqvAll _ _ = true
  induction L with
  | nil => rfl
  | cons x t ih =>
    show (PyData.eqvAll [.int x.1, .int x.2] [.int x.1, .int x.2] && PyData.eqvAll (dPairs t) (dPairs t)) = true
    rw [ih]
    simp [PyData.eqvAll, PyData.eqv]
/-- a for over a list of new pairs, one object alone is changed -/
theorem g_forLTXl {L : List (Int × Int)} {tl : TE} {i j : Nat} {l : Addr} {o : HO} (h : EvLT tl σ H (L.map fun x => [V.int x.1, V.int x.2])) (hl : H l = some o) (ho : ∀ xs, o ≠ .tup xs) (W : Nat → L2.St → Hp → Prop) (h0 : ∀ H1, Ex H H1 → W 0 σ H1)
    (hs : ∀ B, Ex H B → ∀ m σ' H' (hm : m < L.length), Xl l B H' → W m σ' H' → Go tu { D with nx := fun σ2 H2 => Xl l B H2 ∧ W (m + 1) σ2 H2, ct := fun σ2 H2 => Xl l B H2 ∧ W (m + 1) σ2 H2, bk := tz D } ((σ'.set i (some (.int L[m].1))).set j (some (.int L[m].2))) H')
    (hd : ∀ σ' H', Xl l H H' → W L.length σ' H' → Go tz D σ' H') : Go (tSeq (tFor (iList K tl) (gTup K 2 (gCons (gName i) (gCons (gName j) gNil))) tu) tz) D σ H := fun H' e => by
  have hl' := e l _ hl
  refine h H' e _ fun p us B np e1 hp hT => ?_
  have npl : p ≠ l := fun z => by rw [z, hl'] at np; cases np
  have hlB := e1 l _ hl'
  have hlen : us.length = L.length := by rw [hT.1, List.length_map]
  refine ⟨p, rfl, ⟨us, sq_of hp⟩, ?_⟩
  refine for_it (D := { D with nx := tz D }) (G := fun H2 => SqL K H2 p us) (hlen ▸ walk_list) (fun m σ' H2 => Xl l B H2 ∧ W m σ' H2) ⟨Xl.of (Ex.refl B), h0 B (e.trans e1)⟩ (fun m σ' H2 _ w => sq_of (w.1 p _ npl hp)) (fun m x σ' H2 H3 hm w y => ?_) (fun σ' H2 w => (hd σ' H2 ((Xl.of (e.trans e1)).trans w.1) w.2).at)
  obtain ⟨rfl, y2⟩ := y
  obtain ⟨a, h1, h2⟩ := hT.2 m [V.int L[m].1, V.int L[m].2] (by rw [List.getElem?_map, List.getElem?_eq_getElem hm]; rfl)
  rw [h1] at y2
  cases y2
  have nal : a ≠ l := fun z => by rw [z, hlB] at h2; cases h2; exact ho _ rfl
  exact ⟨a, _, rfl, st_of (w.1 a _ nal h2), rfl, _, _, rfl, _, _, rfl, rfl, (hs B (e.trans e1) m σ' _ hm w.1 w.2).at⟩
end
end RG
namespace RG
open PySem PySem.Spec PyProof.Rows L2 Evl RS
theorem shaped_pairs (L : List (Int × Int)) : SeqAt.shaped (.list (dPairs L)) = true := by
  have h : PyData.canLayAll0 (dPairs L) = true ∧ PyData.depthAll (dPairs L) ≤ 1 := by
    induction L with
    | nil => exact ⟨rfl, by decide⟩
    | cons x t ih =>
      refine ⟨?_, ?_⟩
      · show (PyData.canLayAll0 [.int x.1, .int x.2] && PyData.canLayAll0 (dPairs t)) = true
        rw [ih.1]
        rfl
      · show max (PyData.depthAll [.int x.1, .int x.2] + 1) (PyData.depthAll (dPairs t)) ≤ 1
        have : PyData.depthAll [.int x.1, .int x.2] = 0 := rfl
        rw [this]
        have := ih.2
        omega
  show (PyData.canLayAll0 (dPairs L) && decide (PyData.depthAll (dPairs L) + 1 ≤ 64)) = true
  rw [h.1, decide_eq_true (show PyData.depthAll (dPairs L) + 1 ≤ 64 by have := h.2; omega)]
  rfl
section
variable {K : PySem.W.Frag} {σ : L2.St} {H : Hp} {ta tb te tx : TE} {t u : TT} {x y z v : V} {D : Ends} {tu tw tz : TS} {g : TG} {P : Program} {w : World}
/-- x = new pairs -/
theorem g_asgE {i : Nat} {pss : List (List V)} (h : EvLT te σ H pss) (k : ∀ p vs H1, H p = none → Ex H H1 → H1 p = some (.lst vs) → TupsAt H1 vs pss → Go tz D (σ.set i (some (.ref p))) H1) : Go (tSeq (tAsg te (gName i)) tz) D σ H := fun H' e =>
  h H' e _ fun p vs H1 np e1 hp hT => (k p vs H1 (fresh_back e np) (e.trans e1) hp hT).at
/-- a for over something that is made on the way, by items -/
theorem g_forPL {R : V → Hp → Prop} (h : EvP te σ H R) (k : ∀ v H2, Ex H H2 → R v H2 → Go (tSeq (tFor (iList K (tC v)) g tu) tz) D σ H2) : Go (tSeq (tFor (iList K te) g tu) tz) D σ H := fun H' e =>
  h H' e _ fun v H2 e2 hv => (k v H2 (e.trans e2) hv).at
def ringAt (H : Hp) (xs : List V) (m : Nat) : Int × Int × Int := match xs[m]? with
  | some (.ref a) => match H a with
    | some (.tup [.int P, .int S, .int M]) => (P, S, M)
    | _ => (0, 0, 0)
  | _ => (0, 0, 0)
theorem ringAt_good {xs : List V} (hR : RingsAt H xs) {m : Nat} (hm : m < xs.length) : Good (ringAt H xs m).1 (ringAt H xs m).2.1 (ringAt H xs m).2.2 ∧ ∃ a, xs[m]? = some (.ref a) ∧ H a = some (.tup [.int (ringAt H xs m).1, .int (ringAt H xs m).2.1, .int (ringAt H xs m).2.2]) := by
  obtain ⟨a, P, S, M, h1, h2, G'⟩ := hR m hm
  have e : ringAt H xs m = (P, S, M) := by unfold ringAt; simp only [h1, h2]
  rw [e]
  exact ⟨G', a, h1, h2⟩
theorem ef_rings {p : Addr} {xs : List V} {i j k : Nat} (h : Ev te σ H (.ref p)) (hs : H p = some (.lst xs)) (hR : RingsAt H xs) :
    EvF (iList K te) (gTup K 3 (gCons (gName i) (gCons (gName j) (gCons (gName k) gNil)))) σ H xs.length fun m σ' => ((σ'.set i (some (.int (ringAt H xs m).1))).set j (some (.int (ringAt H xs m).2.1))).set k (some (.int (ringAt H xs m).2.2)) := fun H1 e R r =>
  h H1 e _ fun H2 e2 => ⟨p, rfl, ⟨xs, sq_of ((e.trans e2) p _ hs)⟩, r _ H2 e2 ⟨_, walk_list.mono (fun H' e' => sq_of (((e.trans e2).trans e') p _ hs)) (fun _ _ _ _ _ _ y => y), fun m σ' H' x H'' hi e' y Q q => by
    obtain ⟨rfl, y2⟩ := y
    obtain ⟨_, a, h1, h2⟩ := ringAt_good hR hi
    rw [h1] at y2
    cases y2
    exact ⟨a, _, rfl, st_of (((e.trans e2).trans e') a _ h2), rfl, _, _, rfl, _, _, rfl, _, _, rfl, rfl, q H'' (Ex.refl _)⟩⟩⟩
/-- list(xs) -/
theorem el_listOf {p : Addr} {xs : List V} (h : Ev te σ H (.ref p)) (hs : H p = some (.lst xs)) : EvL (tCB (fun xs H Q => ∃ p ys, xs = [.ref p] ∧ (SqL K H p ys ∨ SqT K H p ys) ∧ ∀ l, H l = none → Q (.ref l) (upd H l (.lst ys))) (tCons te tNil)) σ H xs := fun H1 e Q q =>
  h H1 e _ fun H2 e2 => ⟨p, xs, rfl, .inl (sq_of ((e.trans e2) p _ hs)), fun l nl => q l _ (fresh_back e2 nl) (e2.trans (Ex.new nl)) upd_same⟩
/-! ### sorted(set(pairs)) -/
theorem code2 (B x y : Int) : TS.code B [x, y] = x * B + y := by
  show x * B ^ 1 + (y * B ^ 0 + 0) = x * B + y
  rw [Int.pow_succ, Int.pow_zero, Int.one_mul, Int.mul_one, Int.add_zero]
def adrOf : V → Addr
  | .ref a => a
  | _ => 0
theorem elt_sortSet {p : Addr} {us : List V} {L : List (Int × Int)} {B : Int} (h : Ev te σ H (.ref p)) (hs : H p = some (.lst us)) (hT : TupsAt H us (L.map fun x => [V.int x.1, V.int x.2])) (hl : L.length < 64) (hB : ∀ x ∈ L, 0 ≤ x.1 ∧ x.1 < B ∧ 0 ≤ x.2 ∧ x.2 < B) (hr : L.Pairwise fun a b => a.1 < b.1) :
    EvLT (tCB (rSortedT K P w) (tCons (tCB (rSetOfT K P w) (tCons te tNil)) tNil)) σ H (L.map fun x => [V.int x.1, V.int x.2]) := fun H1 e Q q =>
  h H1 e _ fun H2 e2 => by
    have e02 := e.trans e2
    have hT2 := hT.ex e02
    obtain ⟨hk, hx⟩ := pairs_at hT2
    have hlen : us.length = L.length := by rw [hT.1, List.length_map]
    let ks : List (Addr × List Int) := us.map fun u => (adrOf u, [(pairK H2 u).1, (pairK H2 u).2])
    have hks : ks.map (fun p => V.ref p.1) = us := by
      show (us.map fun u => (adrOf u, [(pairK H2 u).1, (pairK H2 u).2])).map (fun p => V.ref p.1) = us
      rw [List.map_map]
      have : ∀ u ∈ us, ((fun p : Addr × List Int => V.ref p.1) ∘ fun u => (adrOf u, [(pairK H2 u).1, (pairK H2 u).2])) u = u := fun u hu => by
        obtain ⟨t, rfl, _⟩ := hx u hu
        rfl
      rw [List.map_congr_left this, List.map_id']
    have hk2 : ks.map (fun p => p.2) = L.map fun x => [x.1, x.2] := by
      show (us.map fun u => (adrOf u, [(pairK H2 u).1, (pairK H2 u).2])).map (fun p => p.2) = _
      rw [← hk, List.map_map, List.map_map]
      rfl
    have hkt : ∀ p ∈ ks, H2 p.1 = some (.tup (p.2.map V.int)) ∧ ∃ x ∈ L, p.2 = [x.1, x.2] := fun p hp => by
      obtain ⟨u, hu, rfl⟩ := List.mem_map.mp hp
      obtain ⟨t, rfl, ht⟩ := hx u hu
      exact ⟨ht, pairK H2 (.ref t), by rw [← hk]; exact List.mem_map_of_mem hu, rfl⟩
    refine ⟨p, ks, rfl, by rw [hks]; exact sq_of (e02 p _ hs), fun p hp => st_of (hkt p hp).1, by show (us.map _).length < 64; rw [List.length_map, hlen]; exact hl, fun a S na hS1 hS2 => ?_⟩
    have e3 : Ex H2 (upd H2 a (SetTO P w a S)) := Ex.new na
    refine ⟨a, S, 2, B, rfl, upd_same, fun p hp => st_of (e3 _ _ (hkt p (hS1 p hp)).1), by decide, fun p hp => ?_, fun L' l pm nd few pw nl => ?_⟩
    · obtain ⟨_, x, hx, e⟩ := hkt p (hS1 p hp)
      rw [e]
      obtain ⟨b1, b2, b3, b4⟩ := hB x hx
      refine ⟨rfl, fun z hz => ?_⟩
      simp only [List.mem_cons, List.not_mem_nil, or_false] at hz
      rcases hz with rfl | rfl
      · exact ⟨b1, b2⟩
      · exact ⟨b3, b4⟩
    · have hL' : ∀ r ∈ L', r ∈ ks := fun r hr' => hS1 r (pm.subset hr')
      let f : Addr × List Int → Int × Int := fun r => (r.2.getD 0 0, r.2.getD 1 0)
      have hf : ∀ r ∈ L', r.2 = [(f r).1, (f r).2] ∧ f r ∈ L := fun r hr' => by
        obtain ⟨_, x, hx, e⟩ := hkt r (hL' r hr')
        show r.2 = [r.2.getD 0 0, r.2.getD 1 0] ∧ (r.2.getD 0 0, r.2.getD 1 0) ∈ L
        rw [e]
        exact ⟨rfl, hx⟩
      have hndL : L.Nodup := hr.imp fun {a b} hab z => by rw [z] at hab; omega
      have hmapf : (L'.map f).map (fun x => [x.1, x.2]) = L'.map (·.2) := by
        rw [List.map_map]
        exact List.map_congr_left fun r hr' => (hf r hr').1.symm
      have hnd' : (L'.map f).Nodup := by
        rw [← hmapf] at nd
        exact List.Pairwise.of_map _ (fun a b hne e => hne (by rw [e])) nd
      have hperm : (L'.map f).Perm L := (List.perm_ext_iff_of_nodup hnd' hndL).mpr fun x => by
        constructor
        · intro hx'
          obtain ⟨r, hr', rfl⟩ := List.mem_map.mp hx'
          exact (hf r hr').2
        · intro hx'
          have : [x.1, x.2] ∈ ks.map (fun p => p.2) := by rw [hk2]; exact List.mem_map_of_mem (f := fun x : Int × Int => [x.1, x.2]) hx'
          obtain ⟨r, hr', e⟩ := List.mem_map.mp this
          obtain ⟨r', hr2, e2⟩ := List.mem_map.mp (hS2 r hr')
          have hr3 := pm.symm.subset hr2
          have : f r' = x := by
            show (r'.2.getD 0 0, r'.2.getD 1 0) = x
            rw [e2, e]
            rfl
          rw [← this]
          exact List.mem_map_of_mem hr3
      have hsort : (L'.map f).Pairwise fun a b => a.1 ≤ b.1 := by
        rw [List.pairwise_map]
        refine List.Pairwise.imp_of_mem ?_ pw
        intro r r' hr1 hr2 hc
        obtain ⟨e1, m1⟩ := hf r hr1
        obtain ⟨e2, m2⟩ := hf r' hr2
        rw [e1, e2, code2, code2] at hc
        obtain ⟨b1, b2, b3, b4⟩ := hB _ m1
        obtain ⟨c1, c2, c3, c4⟩ := hB _ m2
        rcases Int.lt_or_le (f r').1 (f r).1 with z | z
        · have : ((f r').1 + 1) * B ≤ (f r).1 * B := Int.mul_le_mul_of_nonneg_right (by omega) (by omega)
          rw [Int.add_mul, Int.one_mul] at this
          omega
        · exact z
      have heq := pairs_uniq hperm hsort hr
      refine q l _ _ (fresh_back e2 (fresh_back e3 nl)) ((e2.trans e3).trans (Ex.new nl)) upd_same (TupsAt.ex ⟨by rw [← heq, List.length_map, List.length_map, List.length_map], fun i ps hi => ?_⟩ (Ex.new nl))
      rw [← heq, List.map_map, List.getElem?_map] at hi
      rw [List.getElem?_map]
      cases hy : L'[i]? with
      | none => rw [hy] at hi; cases hi
      | some y =>
        rw [hy] at hi
        have hm := List.mem_of_getElem? hy
        have ht := e3 _ _ (hkt y (hL' y hm)).1
        cases hi
        refine ⟨y.1, rfl, ?_⟩
        rw [ht, (hf y hm).1]
        rfl
end
end RG
namespace RG
open PySem PySem.Spec PyProof.Rows L2 Evl RS LamX
/-! ### a lambda y0: y0 * y1 % y2, y1 and y2 captured -/
structure LamK (sc scope : Scope) (y0 y1 y2 : Str) : Prop where
  kind : scope.kind = .function
  co : scope.isCoroutine = false
  gen : scope.isGenerator = false
  nocell : ∀ y ∈ scope.names, y.2 ≠ .cell
  k0 : scope.names.lookup y0 = some .local
  k1 : scope.names.lookup y1 = some .free
  k2 : scope.names.lookup y2 = some .free
  free : ∀ y ∈ scope.names, y.2 = .free → sc.names.lookup y.1 = some .cell ∨ sc.names.lookup y.1 = some .free
def lamKB (sc scope : Scope) (y0 y1 y2 : Str) : Bool :=
  decide (scope.kind = .function) && !scope.isCoroutine && !scope.isGenerator && decide (scope.names.lookup y0 = some .local) && decide (scope.names.lookup y1 = some .free) && decide (scope.names.lookup y2 = some .free) &&
  scope.names.all fun y => !decide (y.2 = .cell) && (!decide (y.2 = .free) || decide (sc.names.lookup y.1 = some .cell) || decide (sc.names.lookup y.1 = some .free))
theorem lamK_by {sc scope : Scope} {y0 y1 y2 : Str} (h : lamKB sc scope y0 y1 y2 = true) : LamK sc scope y0 y1 y2 := by
  unfold lamKB at h
  simp only [Bool.and_eq_true, Bool.or_eq_true, Bool.not_eq_true', decide_eq_true_eq, decide_eq_false_iff_not, List.all_eq_true] at h
  obtain ⟨⟨⟨⟨⟨⟨h1, h2⟩, h3⟩, h5⟩, h6⟩, h7⟩, h4⟩ := h
  refine ⟨h1, h2, h3, fun y hy => (h4 y hy).1, h5, h6, h7, fun y hy e => ?_⟩
  rcases (h4 y hy).2 with (z | z) | z
  · exact absurd e z
  · exact .inl z
  · exact .inr z
/-- one call of it -/
theorem lam_turn {P : Program} {w : World} {A : Around} {s : Shared} {f c' c1 c2 : Addr} {q y0 y1 y2 : Str} {params : Arguments} {scope sc : Scope} {cl : List (Str × Addr)} {pm ctv : Value} {p1 p2 p3 p4 p5 : Pos} {i st m : Int} {ti t1 t2 : Tok}
    (hroom : A.depth < recursionLimit) (lim : s.heap.NoLimit) (of1 : s.heap.get? f = some (PySem.W.kla_obj "<lambda>" q params (.BinOp (.BinOp (.Name y0 p1) .Mult (.Name y1 p2) p3) .Mod (.Name y2 p4) p5) scope cl pm c' ctv)) (hcode : s.heap.CodeRec (.ref c') q) (L : LamK sc scope y0 y1 y2)
    (hbind : ∀ u : Value, bindArgs (PySem.W.kla_fn "<lambda>" q params (.BinOp (.BinOp (.Name y0 p1) .Mult (.Name y1 p2) p3) .Mod (.Name y2 p4) p5) scope cl pm (.ref c') ctv) ⟨[u], []⟩ = pure [(y0, u)])
    (hc1 : cl.lookup y1 = some c1) (hc2 : cl.lookup y2 = some c2) (v1 : s.heap.IsCell c1 (some (.int st t1))) (v2 : s.heap.IsCell c2 (some (.int m t2))) (hm : 0 < m) (hmul : IntMulOk i st)
    (d0 : (y0 == ("__debug__" : Str)) = false) (d1 : (y1 == ("__debug__" : Str)) = false) (d2 : (y2 == ("__debug__" : Str)) = false) (e1 : (y1 == ("__classdict__" : Str)) = false) (e2 : (y2 == ("__classdict__" : Str)) = false) :
    wpAny (model P w) A (call (.ref f) [.int i ti]) (PySem.W.KeyPure (.int (i * st % m)) s) (fun _ _ => False) s := by
  refine wpAny_call (PySem.W.kla_callFunE hroom of1 rfl L.co L.gen rfl hcode ?_)
  rw [hbind]
  refine wpAny_pure (wpAny_newFunctionEnv L.nocell (fun y hy => ?_) (fun h₁ hns hsb => ⟨lim.fresh _ hsb, ?_⟩) L.kind)
  · rw [List.mem_singleton.mp hy]; exact L.k0
  have kp : ∀ b o, s.heap.get? b = some o → h₁.get? b = some o := fun b o e => hsb.extBut b o (Nat.ne_of_lt (Heap.lt_size e)) (Heap.get?_push_of_some _ e)
  have kc : ∀ {c : Addr} {v : Option Value}, s.heap.IsCell c v → h₁.IsCell c v := fun ⟨o, ho, hd⟩ => ⟨o, kp _ _ ho, hd⟩
  refine PySem.W.kla_codeExpr ?_
  refine wpAny_BinOp (wpAny_BinOp (wpAny_Name (wpAny_loadName_local (v := .int i ti) L.kind L.k0 hns (by simp) ?_) d0))
  refine wpAny_Name (wpAny_loadName_free L.kind L.k1 hc1 (kc v1) ?_ e1) d1
  refine mul_int ?_ hmul
  refine wpAny_Name (wpAny_loadName_free L.kind L.k2 hc2 (kc v2) ?_ e2) d2
  refine mod_int' (by omega) ?_
  rw [Int.fmod_eq_emod_of_nonneg _ (by omega)]
  exact ⟨h₁, _, rfl, kp, .int _ _⟩
section
open PySem.W Srt SrtO PySem.Calls
theorem vals_each {R : Value → Int → Prop} (hR : ∀ v x, R v x → ∃ t, v = .int x t) {us : List Value} {ns : List Int} (h : EachIs R us ns) : Vals (ns.map V.int) us := by
  induction h with
  | nil => exact .nil
  | cons r _ ih => exact .cons (hR _ _ r) ih
theorem alike_ints (ns : List Int) (k : Int → Int) : AllAlike (ns.map fun x => PyData.int (k x)) := fun d hd d' hd' => by
  obtain ⟨x, _, rfl⟩ := List.mem_map.mp hd
  obtain ⟨y, _, rfl⟩ := List.mem_map.mp hd'
  simp [alike]
theorem sortable_ints (ns : List Int) (k : Int → Int) : Sortable (ns.map fun x => PyData.int (k x)) := .inr fun d hd => by
  obtain ⟨x, _, rfl⟩ := List.mem_map.mp hd
  exact ⟨by simp, fun xs => by simp⟩
/-- sorted(range(n), key=f) -/
theorem sorted_range_key {P : Program} {w : World} {A : Around} {E : Value → Shared → Prop} {s : Shared} {Q : Value → Shared → Prop} {r f : Addr} {n : Nat} {t u v : Tok} (key : Int → Int) (hh : A.handled = none) (hu : A.units + 2 < cLine) (hr : IsRange s.heap r 0 (n : Int) 1 t u v) (hn : n ≤ 1000)
    (turn : ∀ (i : Nat) (ti : Tok), i < n → ∀ (h : Heap) (tk : Nat), (∀ b o, s.heap.get? b = some o → h.get? b = some o) → wpAny (model P w) A.in1.in1 (call (.ref f) [.int (i : Int) ti]) (KeyPure (.int (key i)) { s with heap := h, toks := tk }) (fun _ _ => False) { s with heap := h, toks := tk })
    (h : ∀ (ns : List Int) (out : List Value) (h1 : Heap) (c : Nat) (h' : Heap) (tk : Nat), (∀ b o, s.heap.get? b = some o → h1.get? b = some o) → (∀ b o, h1.get? b = some o → h'.get? b = some o) → h'.get? h1.objs.size = some (seqObj "list" out.toArray c) → Vals (ns.map V.int) out → ns.Perm ((List.range n).map fun i : Nat => (i : Int)) → ns.Pairwise (fun a b => key a ≤ key b) → Q (.ref h1.objs.size) { s with heap := h', toks := tk }) :
    wpAny (model P w) A (call (.builtin "sorted") [.ref r] [(Str.ofString "key", .ref f)]) Q E s := by
  refine call_function_entry_kw kind_sorted plain_sorted entry_sorted (by unfold argsOk; kernel_rfl) ?_
  unfold Builtin.«sorted»
  refine wpAny_bind (m := checkCount "sorted" 1 1 _) (wpAny_pure ?_)
  refine wpAny_bind (L2.collect_range (n := n) hh hr (small_one (by omega) (by omega) (by omega) (by omega)) (by rw [rangeSize_nat]; omega) (by omega) fun h1 tk1 acc hk hi => ?_)
  have hlen : acc.toList.length = n := by rw [Array.length_toList]; exact hi.1
  refine wpAny_bind (wpAny_newList ?_ (by rw [hlen, sizeLine_eq]; omega))
  have hat : (h1.push { cls := .type "list", data := .seq acc.toList.toArray }).get? h1.objs.size = some (seqObj "list" acc.toList.toArray 0) := Heap.get?_push_size _ rfl
  have old : ∀ b o, h1.get? b = some o → b ≠ h1.objs.size ∧ (h1.push { cls := .type "list", data := .seq acc.toList.toArray }).get? b = some o := fun b o e =>
    ⟨Nat.ne_of_lt (Heap.lt_size e), Heap.get?_push_of_some _ e⟩
  refine wpAny_bind (wpAny_holding (wpAny_call_entry_kw slot_list_sort ⟨_, hat, rfl⟩ entry_list_sort ?body (by unfold argsOk; kernel_rfl)))
  case body =>
    show wpAny (model P w) A.in1.in1 (Builtin.«list.sort» ⟨[.ref h1.objs.size], [(Str.ofString "key", .ref f)]⟩) _ _ _
    rw [ksk_t1]
    have hE : EachIs (fun (v : Value) (x : Int) => ∃ t, v = .int x t) acc.toList ((List.range n).map fun i : Nat => (i : Int)) := by
      refine EachIs.of_zip (by rw [hlen]; simp) fun p hp => ?_
      obtain ⟨j, hj⟩ := List.mem_iff_getElem?.mp hp
      rw [List.getElem?_zip_eq_some] at hj
      obtain ⟨h1', h2'⟩ := hj
      obtain ⟨t, e⟩ := hi.2 j p.1 (by rw [← h1', Array.getElem?_toList])
      rw [List.getElem?_map] at h2'
      have hjn : j < n := by
        rw [← hlen]
        exact (List.getElem?_eq_some_iff.mp h1').1
      rw [List.getElem?_range hjn] at h2'
      have e2 : (j : Int) = p.2 := by simpa using h2'
      exact ⟨t, by rw [e, ← e2]; congr 1; omega⟩
    refine keyH_tree (kz := ((List.range n).map fun i : Nat => (i : Int)).map fun x => PyData.int (key x)) (vs := acc.toList) hat (by simp [hi.1]) (by rw [hlen, sizeLine_eq]; omega) (alike_ints _ _) (sortable_ints _ _) (fun d hd => ?_) (fun i v k hv hkz g tk kp => ?_) fun g tk out c kp hout ko => ?_
    · obtain ⟨x, _, rfl⟩ := List.mem_map.mp hd
      have : PyData.depth (.int (key x)) = 0 := rfl
      rw [this]
      exact hu
    · have hin : i < n := by rw [← hlen]; exact (List.getElem?_eq_some_iff.mp hv).1
      obtain ⟨ti, e⟩ := hi.2 i v (by rw [← hv, Array.getElem?_toList])
      have e1 : (0 : Int) + (i : Int) * 1 = i := by omega
      rw [e1] at e
      subst e
      rw [List.getElem?_map, List.getElem?_map, List.getElem?_range hin] at hkz
      have e2 : PyData.int (key (i : Int)) = k := by simpa using hkz
      rw [← e2]
      exact turn i ti hin g tk fun b o e => kp b o (old b o (hk b o e)).1 (old b o (hk b o e)).2
    · refine ⟨_, rfl, wpAny_pure ⟨_, rfl, ?_⟩⟩
      have hO := keyedOut_each (R := fun (v : Value) (x : Int) => ∃ t, v = .int x t) (fun x => PyData.int (key x)) ko hE
      refine h _ out h1 c g tk hk (fun b o e => kp b o (old b o e).1 (old b o e).2) hout (vals_each (fun _ _ r => r) hO) (List.mergeSort_perm _ _) ?_
      rw [dataLe_int]
      have := List.pairwise_mergeSort (le := fun a b : Int => decide (key a ≤ key b)) (fun a b c h1 h2 => by simp at h1 h2 ⊢; omega) (fun a b => by simp; omega) ((List.range n).map fun i : Nat => (i : Int))
      exact this.imp fun {a b} h => by simpa using h
end
end RG
namespace RG
open PySem PySem.Spec PyProof.Rows L2 Evl RS LamX
def tRangeV (ta : TE) : TE := fun σ H Q => ta σ H fun x H1 => ∃ n, x = .int n ∧ ∀ r, H1 r = none → Q (.ref r) (upd H1 r (.rng 0 n))
/-- what the sorted list answers -/
def kSortKey (T : List (Addr × Str)) (i1 i2 : Nat) (σ : L2.St) (Q : VK) : V → Hp → Prop := fun x H1 => ∃ (r : Addr) (n : Nat) (st m : Int), x = .ref r ∧ H1 r = some (.rng 0 (n : Int)) ∧ n ≤ 1000 ∧ σ[i1]? = some (some (.int st)) ∧ σ[i2]? = some (some (.int m)) ∧ 0 < m ∧
  (∀ i : Nat, i < n → IntMulOk (i : Int) st) ∧ Tabs T H1 ∧ ∀ (ns : List Int) (l : Addr) (H2 : Hp), ExtN H1 H2 → Tabs T H2 → H2 l = none → ns.Perm ((List.range n).map fun i : Nat => (i : Int)) → ns.Pairwise (fun a b => a * st % m ≤ b * st % m) → Q (.ref l) (upd H2 l (.lst (ns.map V.int)))
def tSortKey (T : List (Addr × Str)) (i1 i2 : Nat) (ta : TE) : TE := fun σ H Q => ta σ H (kSortKey T i1 i2 σ Q)
section
variable {X : Cx}
theorem pe_rangeV {a : Expr} {ta : TE} {p pos : Pos} (hg : Gl X "range") (hm : X.mg "range" = none) (ha : PE X a ta) (na : starEach [a] X.env = (false, eval a X.env) :: starEach [] X.env := by rfl) : PE X (.Call (.Name "range" p) [a] [] pos) (tRangeV ta) := by
  refine ⟨fun pins s σ H Q I h => ?_⟩
  refine Call_ (ld_blt I hg hm boot_range (PyProof.Rows.callWith_type1 (one_arg ha I h (fun v s2 x H2 I2 r q => ?_) na) na))
  obtain ⟨n, rfl, q⟩ := q
  obtain ⟨t, rfl⟩ := r
  exact call_range_1 ⟨.ref s2.heap.objs.size, upd H2 s2.heap.objs.size (.rng 0 n), I2.laid (fun b u e => Heap.get?_push_of_some _ e) (Nat.le_refl _) ⟨_, _, _, Heap.get?_push_size _ rfl⟩, rfl, q _ (I2.hok.fresh (Nat.le_refl _))⟩
theorem pe_sortKey {T : List (Addr × Str)} {c P : Addr} {i1 i2 : Nat} {y0 y1 y2 : Str} {e : Expr} {te : TE} {params : Arguments} {scope : Scope} {p p1 p2 p3 p4 p5 lpos kpos pos : Pos} (hc : X.calm = true) (hg : Gl X "sorted") (hm : X.mg "sorted" = none) (he : PA X [e] (tCons te tNil))
    (TB : TabB X.base X.mg c P) (hcode : X.env.code = .ref c) (hmT : (P, X.env.qual ++ "<lambda>") ∈ T) (hu : ∀ p ∈ T, p.1 = P → p.2 = X.env.qual ++ "<lambda>") (hr : Room 2 X.A) (L : LamK X.env.scope scope y0 y1 y2) (hdef : defaultsOf params X.env = ([], []))
    (hbind : ∀ (q : Str) (cl : List (Str × Addr)) (pm cv ctv u : Value), bindArgs (PySem.W.kla_fn "<lambda>" q params (.BinOp (.BinOp (.Name y0 p1) .Mult (.Name y1 p2) p3) .Mod (.Name y2 p4) p5) scope cl pm cv ctv) ⟨[u], []⟩ = pure [(y0, u)])
    (n1 : X.N[i1]? = some y1) (n2 : X.N[i2]? = some y2)
    (na : backTo pos (starEach [e] X.env) = (false, eval e X.env) :: backTo pos (starEach [] X.env) := by rfl) (npl : (backTo pos (starEach [e] X.env)).any (·.1) = false := by rfl)
    (d0 : (y0 == ("__debug__" : Str)) = false := by decide) (d1 : (y1 == ("__debug__" : Str)) = false := by decide) (d2 : (y2 == ("__debug__" : Str)) = false := by decide) (e1 : (y1 == ("__classdict__" : Str)) = false := by decide) (e2 : (y2 == ("__classdict__" : Str)) = false := by decide) :
    PE X (.Call (.Name "sorted" p) [e] [⟨some "key", .Lambda params (.BinOp (.BinOp (.Name y0 p1) .Mult (.Name y1 p2) p3) .Mod (.Name y2 p4) p5) scope lpos, kpos⟩] pos) (tSortKey T i1 i2 te) := by
  refine ⟨fun pins s σ H Q I h => ?_⟩
  refine wpAny_Call_Name_kw (ld_blt I hg hm boot_sorted ?_)
  refine PyProof.Rows.callWith_kw (thn (he.run pos pins s σ H (fun vs H' => match vs with | [x] => kSortKey T i1 i2 σ Q x H' | _ => False) I (show te σ H _ from h)) fun us s1 ⟨vs, H1, I1, r1, q1⟩ => ?_) na npl rfl rfl
  match vs, r1, q1 with
  | [x], r1, q1 =>
    have q1 : kSortKey T i1 i2 σ Q x H1 := q1
    obtain ⟨r, n, st, m, rfl, hrng, hn, s1', s2', hm0, hmul, hT, k⟩ := q1
    rw [Vals.ref1 r1]
    have hfree : ∀ y ∈ scope.names, y.2 = .free → ∃ c, X.env.cells.lookup y.1 = some c := fun y hy e => by
      rcases L.free y hy e with z | z
      · exact I.ok.has _ (.inl z)
      · exact I.ok.has _ (.inr z)
    show wpAny _ _ (evalAll ((do let v ← eval (.Lambda params (.BinOp (.BinOp (.Name y0 p1) .Mult (.Name y1 p2) p3) .Mod (.Name y2 p4) p5) scope lpos) X.env; standAt pos; pure v) :: (backToKw pos (keywordEach [] X.env)).map (·.2))) _ _ s1
    refine wpAny_evalAll_cons (wpAny_bind (lam_make2 I1 TB hcode hmT hu hT hdef hfree fun f c' pm ctv H2 s2 I2 eN T2 hf hfn hfr hco => wpAny_bind (wpAny_standAt (wpAny_pure (wpAny_evalAll_nil ?_)))))
    show wpAny _ _ (call (.builtin "sorted") [.ref r] [(Str.ofString "key", .ref f)]) _ _ s2
    have hrng2 : H2 r = some (.rng 0 (n : Int)) := eN _ _ hrng (fun ps z => by cases z)
    obtain ⟨tt, tu, tv, hR⟩ : ∃ t u v, IsRange s2.heap r 0 (n : Int) 1 t u v := I2.hok r _ hrng2
    obtain ⟨mm, hns, hl⟩ := I2.loc
    have cm : ∀ {y}, scope.names.lookup y = some .free → ∀ {v : V} {i : Nat}, X.N[i]? = some y → σ[i]? = some (some v) → ∃ u c, RelV v u ∧ (cloFrom X.env.cells scope.names []).lookup y = some c ∧ s2.heap.IsCell c (some u) := fun {y} hy {v i} hi hσ => by
      have hmem : (y, NameKind.free) ∈ scope.names := PySem.mem_of_lookup hy
      have hk := L.free _ hmem rfl
      have hvis : Vis X.env.scope y := hk.elim (fun z => .inr (.inl z)) (fun z => .inr (.inr z))
      obtain ⟨u, ru, lk⟩ := hl i y v hi hσ hvis
      obtain ⟨c2, h2⟩ := mem_lookup (cloFrom_has (cells := X.env.cells) (acc := []) hmem)
      have hc2 : X.env.cells.lookup y = some c2 := by
        rcases cloFrom_mem (PySem.mem_of_lookup h2) with hm | ⟨h1, h3⟩
        · cases hm
        · obtain ⟨c1, hc1⟩ := hfree _ h1 rfl
          have hc1 : X.env.cells.lookup y = some c1 := hc1
          have : c2 = c1 := by
            rw [h3, hc1] <;> rfl
          rw [this]
          exact hc1
      rcases lk with ⟨z, _⟩ | ⟨_, c3, e3, hcell⟩
      · have z : X.env.scope.names.lookup y = some .local := z
        rcases hk with z2 | z2 <;> rw [show X.env.scope.names.lookup y = _ from z2] at z <;> cases z
      · rw [hc2] at e3
        cases e3
        exact ⟨u, c2, ru, h2, hcell⟩
    obtain ⟨u1, c1, ⟨t1, rfl⟩, k1, v1⟩ := cm L.k1 n1 s1'
    obtain ⟨u2, c2, ⟨t2, rfl⟩, k2, v2⟩ := cm L.k2 n2 s2'
    have kc : ∀ {h : Heap} {c : Addr} {v : Option Value}, (∀ b o, s2.heap.get? b = some o → h.get? b = some o) → s2.heap.IsCell c v → h.IsCell c v := fun kp ⟨o, ho, hd⟩ => ⟨o, kp _ _ ho, hd⟩
    obtain ⟨⟨oc, vs', tq, hoc, hdc, hvc⟩, _, _⟩ := I2.hok c' _ hco
    refine sorted_range_key (fun i => i * st % m) hr.hd (by have := hr.un; omega) hR hn (fun i ti hi h tk kp => ?_) fun ns out h1 cc h' tk kp1 kp2 hout rv pm pw => ?_
    · exact lam_turn (s := { s2 with heap := h, toks := tk }) hr.depth (I2.nolimit.keeps kp) (kp _ _ hf) ⟨c', oc, vs', tq, rfl, kp _ _ hoc, hdc, hvc⟩ L (fun u => hbind _ _ _ _ _ u) k1 k2 (kc kp v1) (kc kp v2) hm0 (hmul i hi) d0 d1 d2 e1 e2
    · have I3 : Inv X pins σ H2 { s2 with heap := h1, toks := tk } := I2.kept kp1
      have hz : ns.length ≤ sizeLine := by rw [pm.length_eq, List.length_map, List.length_range, sizeLine_eq]; omega
      have I4 : Inv X pins σ (upd H2 h1.objs.size (.lst (ns.map V.int))) { s2 with heap := h', toks := tk } := I3.laid kp2 (Nat.le_refl _) ⟨by rw [List.length_map]; exact hz, out, cc, rv, hout⟩
      exact ⟨.ref h1.objs.size, _, I4, rfl, k ns _ H2 eN T2 (I3.hok.fresh (Nat.le_refl _)) pm pw⟩
end
end RG
namespace RG
open PySem PySem.Spec PyProof.Rows L2 Evl RS LamX
theorem okC {P : Program} {w : World} {K : PySem.W.Frag} {mg : Str → Option Value} {base : Heap} {c : Addr} {x qual : Str} {st : Stmt} {f : Addr} {fd : FuncData} {N ps : List Str} {k : Nat} {sp : Sp} (hcode : fd.code = .ref c) (F : Fun K x qual st f fd) (S : FnScope N ps (defScope st)) (len : ∀ vs H Q E, sp vs H Q E → vs.length = ps.length)
    (hbody : ∀ (A : Around) (outer : List Env) (s : Shared) (H : Hp) (vs : List V) (Q : VK) (E : XK), Room k (A.deeper (envOfC qual (defScope st) s.heap.objs.size f (.ref c))) → sp vs H Q E →
      ∃ t, PSs (cxOf CX0 P w K mg base N qual (defScope st) f (.ref c) A outer s H E).nox (defBody st) t ∧ t { nx := fun _ H' => Q .non H', rt := Q } (start N vs) H) : FnOk P w K mg base CX0 (k + 1) f fd ps sp := by
  obtain ⟨oc, od, kV, doc, pm, an, cdv, ct, osl, rfl, lk, hcd⟩ := F.ex
  have hcode : cdv = .ref c := hcode
  subst hcode
  refine fn_of lk hcd S len fun A outer s H vs Q E hr hsp => ?_
  obtain ⟨t, h, q⟩ := hbody A outer s H vs Q E hr hsp
  exact ⟨t, h.nox, q⟩
def lamQ (x : Str) : Str := x ++ ".<locals>." ++ "<lambda>"
/-- the end, with the empty tables of these defs -/
theorem walk_ofTabs {l : PySem.W.OpenLaw} {n k : Nat} {q : Program} {loose : List Str} {XP : (Str → Option Value) → Heap → Prop} {YP : World → Heap → Prop} {d : DefRec} {K : Params → PySem.W.Frag} {CX : World → CXT} {x : Str} (names : List Str)
    (hn : l.most = some n) (hn2 : n ≤ sizeLine) (hdf : d.params.defaults = []) (hr : Room k callerA) (hrec : (names.all fun x => ((recsOf q).find? fun e => e.name == x).isSome) = true) (hY : ∀ (w : World) (h : Heap), YP w h → (K w.params).In h)
    (F : ∀ (w : World) (mg : Str → Option Value) (fa : Addr) (h : Heap), YP w h → (K w.params).In h → h.Ns mainGlobals mg → mg d.name = some (.ref fa) →
      (∀ x ∈ names, ∀ c P, PySem.W.tabIn (K w.params) x = some (c, P) → PySem.W.CodeHd h c P ∧ h.get? P = some { cls := .none, data := .fields #[] }) → LawAtS l w (K w.params) (CX w) k n x mg fa h)
    (hCX : ∀ (w : World) (H : Hp) (s : Shared) (e : Value) (s' : Shared), CX w [] H s (fun _ _ _ => False) e s' → False) :
    PySem.W.WalkO q loose XP YP l.row.toRowW d [] (fun f vs => PySem.call f vs) := by
  refine Att.attach_callB hn hdf fun w s₀ s₁ mg mb fa o pm cd doc a vs ns G Y ho hd hcd hmg hobj hints hlen hbits hg => ?_
  have KX := hY w _ Y
  have own : ∀ x ∈ names, ∀ c P, PySem.W.tabIn (K w.params) x = some (c, P) → PySem.W.CodeHd s₁.heap c P ∧ s₁.heap.get? P = some { cls := .none, data := .fields #[] } := fun x hx c P ht => by
    obtain ⟨dL, hm⟩ := Option.isSome_iff_exists.mp (List.all_eq_true.mp hrec x hx)
    exact PySem.W.tab_of G.T KX hm ht
  obtain ⟨fd, cs, sp, hT, nT, C, hb, hsp, hF⟩ := F w mg fa _ Y KX G.T.g hmg own
  exact law_callTs KX G.T.g G.T.b G.T.builtins G.T.nolimit hg hT nT C G.T.bmain hobj hints (Nat.le_trans hlen hn2) hr hF hb (fun H hH hS => hsp H a ns hlen hbits hH hS) fun H e s' => hCX w H s₁ e s'
/-- what is known of a def's table -/
theorem tabs_of {K : PySem.W.Frag} {x : Str} (h1 : ((PySem.W.tabIn K x).map fun p => (K.lookup p.2).isNone) = some true) : ∃ c P, PySem.W.tabIn K x = some (c, P) ∧ K.lookup P = none := by
  cases h : PySem.W.tabIn K x with
  | none => rw [h] at h1; cases h1
  | some p =>
    rw [h] at h1
    have h1 : (K.lookup p.2).isNone = true := by simpa using h1
    exact ⟨p.1, p.2, rfl, Option.isNone_iff_eq_none.mp h1⟩
section
variable {K : PySem.W.Frag} {σ : L2.St} {H : Hp} {ta tb te tx : TE} {t u : TT} {x y z v : V} {D : Ends} {tu tw tz : TS} {g : TG} {T : List (Addr × Str)}
theorem extN_lst {H H' : Hp} (e : ExtN H H') {p : Addr} {xs : List V} (h : H p = some (.lst xs)) : H' p = some (.lst xs) := e p _ h (fun ps z => by cases z)
theorem extN_tup {H H' : Hp} (e : ExtN H H') {p : Addr} {xs : List V} (h : H p = some (.tup xs)) : H' p = some (.tup xs) := e p _ h (fun ps z => by cases z)
theorem sqN {H H' : Hp} (e : ExtN H H') {p : Addr} {xs : List V} (h : SqL K H p xs) : SqL K H' p xs := by
  rcases h with (h | ⟨o, h⟩) | h
  · exact .inl (.inl (extN_lst e h))
  · exact .inl (.inr ⟨o, e _ _ h (fun ps z => by cases z)⟩)
  · exact .inr h
theorem ringsN {H H' : Hp} (e : ExtN H H') {xs : List V} (h : RingsAt H xs) : RingsAt H' xs := fun i hi => by
  obtain ⟨a, P, S, M, h1, h2, h3⟩ := h i hi
  exact ⟨a, P, S, M, h1, extN_tup e h2, h3⟩
/-- x = sorted(range(n), key=lambda ..) -/
theorem g_asgSortKey {i i1 i2 : Nat} {n : Nat} {st m : Int} (h : Ev te σ H (.int (n : Int))) (hn : n ≤ 1000) (h1 : σ[i1]? = some (some (.int st))) (h2 : σ[i2]? = some (some (.int m))) (hm : 0 < m) (hmul : ∀ i : Nat, i < n → IntMulOk (i : Int) st) (hT : Tabs T H)
    (k : ∀ (ns : List Int) (l : Addr) (H1 : Hp), ExtN H H1 → Tabs T H1 → H1 l = some (.lst (ns.map V.int)) → ns.Perm ((List.range n).map fun i : Nat => (i : Int)) → ns.Pairwise (fun a b => a * st % m ≤ b * st % m) → Go tz D (σ.set i (some (.ref l))) H1) :
    Go (tSeq (tAsg (tSortKey T i1 i2 (tRangeV te)) (gName i)) tz) D σ H := fun H' e => by
  refine h H' e _ fun H1 e1 => ⟨(n : Int), rfl, fun r nr => ?_⟩
  have e2 : Ex H1 (upd H1 r (.rng 0 (n : Int))) := Ex.new nr
  refine ⟨r, n, st, m, rfl, upd_same, hn, h1, h2, hm, hmul, hT.ext fun b o hb => e2 b o (e1 b o (e b o hb)), fun ns l H2 eN T2 nl pm pw => ?_⟩
  have e3 : Ex H2 (upd H2 l (.lst (ns.map V.int))) := Ex.new nl
  exact (k ns l _ (((ExtN.of fun b o hb => e2 b o (e1 b o (e b o hb))).trans eN).trans (ExtN.of e3)) (T2.ext e3) upd_same pm pw).at
/-- a for over enumerate(a list), the tables may grow -/
theorem g_forEnN {p : Addr} {xs : List V} {j k : Nat} (h : Ev te σ H (.ref p)) (hx : H p = some (.lst xs)) (hT : Tabs T H) (W : Nat → L2.St → Prop) (h0 : W 0 σ)
    (hs : ∀ B, Ex H B → ∀ i σ' H', i < xs.length → ExtN B H' → Tabs T H' → W i σ' → Go tu { D with nx := fun σ2 H2 => ExtN B H2 ∧ Tabs T H2 ∧ W (i + 1) σ2, ct := fun σ2 H2 => ExtN B H2 ∧ Tabs T H2 ∧ W (i + 1) σ2, bk := tz D } ((σ'.set j (some (.int (i : Nat)))).set k xs[i]?) H')
    (hd : ∀ B, ExtN H B → Tabs T B → ∀ σ', W xs.length σ' → Go tz D σ' B) : Go (tSeq (tFor (iEnum K (tCons te tNil)) (gTup K 2 (gCons (gName j) (gCons (gName k) gNil))) tu) tz) D σ H := fun H' e => by
  refine h H' e _ fun H1 e1 => ?_
  have eB : Ex H H1 := e.trans e1
  have hxB := eB p _ hx
  refine ⟨p, xs, rfl, sq_of hxB, ?_⟩
  refine for_it (D := { D with nx := tz D }) (G := fun H2 => SqL K H2 p xs) walk_enum (fun i σ' H2 => ExtN H1 H2 ∧ Tabs T H2 ∧ W i σ') ⟨ExtN.refl _, hT.ext eB, h0⟩ (fun i σ' H2 _ w => sq_of (extN_lst w.1 hxB)) (fun i x σ' H2 H3 hi w y => ?_) (fun σ' H2 w => (hd H2 ((ExtN.of eB).trans w.1) w.2.1 σ' w.2.2).at)
  obtain ⟨t0, a, b, rfl, nT, rfl, ha, hb⟩ := y
  cases ha
  refine ⟨t0, _, rfl, st_of upd_same, rfl, _, _, rfl, _, _, rfl, rfl, ?_⟩
  have e4 : Ex H2 (upd H2 t0 (.tup [.int (i : Nat), b])) := Ex.new nT
  have hb' : xs[i]? = some b := hb
  have z := (hs H1 eB i σ' (upd H2 t0 (.tup [.int (i : Nat), b])) hi (w.1.trans (ExtN.of e4)) (w.2.1.ext e4) w.2.2).at
  rw [hb'] at z
  exact z
theorem ed_U2 {a b : Int} (h : EvU te σ H [.int a, .int b]) : EvD K te σ H (.tuple [.int a, .int b]) := fun H1 e Q q => h H1 e _ fun p H2 _ e2 hp => q _ H2 e2 (.tup (st_of hp) (.cons (.int _) (.cons (.int _) .nil)))
end
theorem shaped_ints (ns : List Int) : SeqAt.shaped (.list (ns.map PyData.int)) = true := by
  have h : PyData.canLayAll0 (ns.map PyData.int) = true ∧ PyData.depthAll (ns.map PyData.int) = 0 := by
    induction ns with
    | nil => exact ⟨rfl, rfl⟩
    | cons x t ih =>
      refine ⟨?_, ?_⟩
      · show (true && PyData.canLayAll0 (t.map PyData.int)) = true
        rw [ih.1]
        rfl
      · show max 0 (PyData.depthAll (t.map PyData.int)) = 0
        rw [ih.2]
        rfl
  show (PyData.canLayAll0 (ns.map PyData.int) && decide (PyData.depthAll (ns.map PyData.int) + 1 ≤ 64)) = true
  rw [h.1, h.2]
  rfl
theorem eqv_ints (ns : List Int) : PyData.eqv (.list (ns.map PyData.int)) (.list (ns.map PyData.int)) = true := by
  show PyData.eqvAll _ _ = true
  induction ns with
  | nil => rfl
  | cons x t ih =>
    show (PyData.eqv (.int x) (.int x) && PyData.eqvAll (t.map PyData.int) (t.map PyData.int)) = true
    rw [ih]
    simp [PyData.eqv]
end RG
namespace RG
open PySem PySem.Spec PyProof.Rows L2 Evl RS LamX
/-! ### x(lambda: e, n) -/
section
variable {X : Cx} {pins : List (Addr × Obj)} {σ : L2.St} {H : Hp} {s : Shared}
/-- a() in the def that holds the lambda: what it raises is told of the very state -/
theorem pe_actS {M : List Str} {x : Str} {sg : Scope} {g f d : Addr} {cdg pm ctv : Value} {params : Arguments} {body : Expr} {scope : Scope} {k : Nat} {a : Str} {pn : List (Addr × Obj)} {xe : Value → Shared → Prop} {W : WX} {tb : XK → TE} {u v : Pos}
    (I : L2.Inv X pins σ H s) (L : LamS X.env.scope scope) (hf : s.heap.get? f = some (PySem.W.kla_obj "<lambda>" (X.env.qual ++ "<lambda>") params body scope (cloFrom X.env.cells scope.names []) pm d ctv)) (hfn : H f = none) (hfr : f ∉ frs X.stack)
    (hb : bindArgs (PySem.W.kla_fn "<lambda>" (X.env.qual ++ "<lambda>") params body scope (cloFrom X.env.cells scope.names []) pm (.ref d) ctv) ⟨[], []⟩ = pure [])
    (tk : Takes ((cxOf CX0 X.prog X.w X.K X.mg X.base M x sg g cdg X.A X.stack s H E0).tr pn xe) W) (hr : Room (k + 1) (X.A.deeper (envOfC x sg s.heap.objs.size g cdg)))
    (hbody : ∀ (E : XK) (A : Around) (outer : List Env) (s1 : Shared) (H1 : Hp), Room k (A.deeper (lamEnv X scope s1.heap.objs.size f d)) → PE (lamCx X A outer s1 H1 E scope f d) body (tb E))
    (hM : M[0]? = some a) (hv : Vis sg a) (hd : (a == ("__debug__" : Str)) = false) (hcd : (a == ("__classdict__" : Str)) = false) :
    PE ((cxOf CX0 X.prog X.w X.K X.mg X.base M x sg g cdg X.A X.stack s H E0).tr pn xe) (.Call (.Name a u) [] [] v) (fun σZ HZ Q => σZ[0]? = some (some (.ref f)) ∧ HZ d = some (CodeO d (X.env.qual ++ "<lambda>")) ∧ tb (WE W σZ) σ HZ Q) := by
  refine ⟨fun pinsZ sZ σZ HZ Q IZ hq0 => ?_⟩
  obtain ⟨hs0, hcode0, hbod⟩ := hq0
  refine wpAny_Call_Name_kw (thn ((pe_var (pos := u) (i := 0) hM hv hd hcd).run pinsZ sZ σZ HZ (fun y H1 => y = .ref f ∧ H1 = HZ) IZ ⟨.ref f, hs0, rfl, rfl⟩) fun y s1 ⟨y', H1, I1, ry, qy⟩ => ?_)
  obtain ⟨ey, rfl⟩ := qy
  subst ey
  obtain rfl : y = Value.ref f := ry
  have at1 := I1.base.keep f _ hf hfn hfr (fun z => nomatch (show f ∈ ([] : List Addr) from z))
  refine PySem.W.callWith_F0 ⟨_, _, _, _, at1⟩ ?_
  have un : Un (frs X.stack) [] H H1 s.heap s1.heap := I1.base
  obtain ⟨⟨oc, vs, t, k1, k2, k3⟩, _, _⟩ := I1.hok d _ hcode0
  have run : codeAny (model X.prog X.w) (X.A.deeper (envOfC x sg s.heap.objs.size g cdg)) (.call (.ref f) ⟨[], []⟩) (CR (L2.CX X.prog X.w) (envOfC x sg s.heap.objs.size g cdg :: X.stack) X.prog X.w H1 s1 Q (WE W σZ)) s1 := by
    refine PySem.W.kla_callFunE hr.depth at1 rfl L.co L.gen rfl ⟨d, oc, vs, t, rfl, k1, k2, k3⟩ ?_
    rw [hb]
    refine wpAny_pure (wpAny_newFunctionEnv (fun y hy => (L.own y hy).2) (fun y hy => absurd hy (by simp)) (fun hh hns hsb => ⟨I1.nolimit.fresh _ hsb, PySem.W.kla_codeExpr ?_⟩) L.kind)
    have kp : ∀ b o, s1.heap.get? b = some o → hh.get? b = some o := fun b o e => hsb.extBut b o (Nat.ne_of_lt (Heap.lt_size e)) (Heap.get?_push_of_some _ e)
    have J : L2.Inv (lamCx X (X.A.deeper (envOfC x sg s.heap.objs.size g cdg)) (envOfC x sg s.heap.objs.size g cdg :: X.stack) s1 H1 (WE W σZ) scope f d) [] σ H1 { s1 with heap := hh, toks := s1.toks + ([] : List (Str × Value)).length } :=
      lam_start2 I L I1.env0 hr.hd un hns kp
    refine wpAny_mono ((hbody (WE W σZ) _ _ s1 H1 (hr.deeper _)).run [] _ _ H1 Q J hbod) (fun w s' hw => ?_) fun e s' he => he
    obtain ⟨w', H', J', rw', qw⟩ := hw
    exact ⟨w', H', J'.os, J'.bare, J'.base, J'.hok, rw', qw⟩
  refine wpAny_call (codeAny_mono run fun r s' hr' => ?_)
  match r, hr' with
  | .error e, hr' => exact (passAt tk σZ) pinsZ H1 s1 e s' I1 hr'
  | .ok (.ret w), hr' => exact I1.after hr'
  | .ok .next, hr' => exact False.elim hr'
  | .ok .brk, hr' => exact False.elim hr'
  | .ok .cont, hr' => exact False.elim hr'
end
/-- the def x(a, b) that calls a: what it makes of the lambda's reading and of b -/
def Gives2 (X : Cx) (M : List Str) (x : Str) (sg : Scope) (g : Addr) (cdg : Value) (bg : List Stmt) (a q : Str) (TT : Int → (XK → Hp → VK → Prop) → Hp → VK → Prop) : Prop :=
  ∀ (f d : Addr) (s : Shared) (H : Hp) (Q : VK) (n : Int) (tl : XK → Hp → VK → Prop),
    (∀ (W : WX) (pn : List (Addr × Obj)) (xe : Value → Shared → Prop) (u v : Pos), Takes ((cxOf CX0 X.prog X.w X.K X.mg X.base M x sg g cdg X.A X.stack s H E0).tr pn xe) W →
      PE ((cxOf CX0 X.prog X.w X.K X.mg X.base M x sg g cdg X.A X.stack s H E0).tr pn xe) (.Call (.Name a u) [] [] v) (fun σZ HZ Q => σZ[0]? = some (some (.ref f)) ∧ HZ d = some (CodeO d q) ∧ tl (WE W σZ) HZ Q)) →
    H d = some (CodeO d q) → TT n tl H Q →
    ∃ t, PSs (cxOf CX0 X.prog X.w X.K X.mg X.base M x sg g cdg X.A X.stack s H E0).nox bg t ∧ t { nx := fun _ H' => Q .non H', rt := Q } (L2.start M [.ref f, .int n]) H
def tLam2 (T : List (Addr × Str)) (TT : (XK → Hp → VK → Prop) → Hp → VK → Prop) (t : XK → TE) : TE := fun σ H Q => Tabs T H ∧ ∀ H1, ExtN H H1 → Tabs T H1 → TT (fun E H' Q' => t E σ H' Q') H1 Q
section
variable {X : Cx}
theorem pe_lam2 {T : List (Addr × Str)} {TT : Int → (XK → Hp → VK → Prop) → Hp → VK → Prop} {x a b : Str} {g c P : Addr} {k : Nat} {pg : Arguments} {bg : List Stmt} {sg : Scope} {dV kV doc pm cdv ct oc : Value} {an od : Option Addr} {osl : Array (Option Value)} {M : List Str}
    {params : Arguments} {body : Expr} {scope : Scope} {t : XK → TE} {n : Int} {j : Nat} {p lpos cpos pos : Pos} (hg : Gl X x) (hm : X.mg x = some (.ref g)) (hk : PySem.W.keepIn X.K (.ref g) = true)
    (lk : X.K.lookup g = some ⟨oc, od, .func (PySem.W.fnOf x x pg bg sg dV kV doc pm an cdv ct), osl⟩) (hcg : PySem.W.codeIn X.K cdv x = true) (hb : L2.Binds X.K (PySem.W.fnOf x x pg bg sg dV kV doc pm an cdv ct) [a, b] []) (Sg : FnScope M [a, b] sg) (hM : M[0]? = some a) (hva : Vis sg a)
    (hG : Gives2 X M x sg g cdv bg a (X.env.qual ++ "<lambda>") TT)
    (TB : TabB X.base X.mg c P) (hcode : X.env.code = .ref c) (hmT : (P, X.env.qual ++ "<lambda>") ∈ T) (hu : ∀ p ∈ T, p.1 = P → p.2 = X.env.qual ++ "<lambda>") (hr : Room (k + 2) X.A) (L : LamS X.env.scope scope) (hdef : defaultsOf params X.env = ([], []))
    (hbind : ∀ (q : Str) (cl : List (Str × Addr)) (pm cv ctv : Value), bindArgs (PySem.W.kla_fn "<lambda>" q params body scope cl pm cv ctv) ⟨[], []⟩ = pure [])
    (hbody : ∀ (A : Around) (outer : List Env) (s : Shared) (H : Hp) (E : XK) (f d : Addr), Room k (A.deeper (lamEnv X scope s.heap.objs.size f d)) → PE (lamCx X A outer s H E scope f d) body (t E))
    (hdb : (x == ("__debug__" : Str)) = false := by decide) (hd : (a == ("__debug__" : Str)) = false := by decide) (hcd : (a == ("__classdict__" : Str)) = false := by decide) :
    PE X (.Call (.Name x p) [.Lambda params body scope lpos, .Constant (.int n) j cpos] [] pos) (tLam2 T (TT n) t) := by
  refine ⟨fun pins s σ H Q I h => ?_⟩
  obtain ⟨h1, h2⟩ := h
  refine wpAny_Call_Name_kw (ld_glob I hg hm ?_ hdb)
  refine PySem.W.callWith_K (h₀ := X.base) I.ok.mod.kin hk ?_ (by rfl) (by rfl)
  show wpAny _ _ (spliced ((false, eval (.Lambda params body scope lpos) X.env) :: (false, eval (.Constant (.int n) j cpos) X.env) :: backTo pos (starEach [] X.env))) _ _ s
  refine Calls.spliced_cons (lam_make2 I TB hcode hmT hu h1 hdef (L.has I.ok) fun f d pm' ctv H1 s1 I1 eN T1 hf hfn hfr hco => ?_)
  refine Calls.spliced_cons (wpAny_Constant_int ?_)
  refine Calls.spliced_nil ⟨I1.kIn, ?_⟩
  have I2 := I1.tok (s1.toks + 1)
  have run : codeAny (model X.prog X.w) X.A (.call (.ref g) ⟨[.ref f, .int n s1.toks], []⟩) (CR CX0 X.stack X.prog X.w H1 { s1 with toks := s1.toks + 1 } Q E0) { s1 with toks := s1.toks + 1 } := by
    refine run_ofS (N := M) (ps := [a, b]) (us := [.ref f, .int n s1.toks]) (vs := [.ref f, .int n]) lk hcg Sg hr I2.env0 (hb _ [.ref f, .int n s1.toks] I2.kIn rfl) (.cons rfl (.cons ⟨_, rfl⟩ .nil)) rfl fun hr' => ?_
    obtain ⟨t1, ht1, hq1⟩ := hG f d { s1 with toks := s1.toks + 1 } H1 Q n (fun E H' Q' => t E σ H' Q') (fun W pn xe u v tk => pe_actS I2 L hf hfn hfr (hbind _ _ _ _ _) tk hr' (fun E A outer s H hr2 => hbody A outer s H E f d hr2) hM hva hd hcd) hco (h2 H1 eN T1)
    exact ⟨t1, ht1.nox, hq1⟩
  refine wpAny_call (codeAny_mono run fun r s3 hq3 => ?_)
  match r, hq3 with
  | .error e, hq3 => exact (show False from hq3).elim
  | .ok (.ret u), hq3 => exact I2.after hq3
  | .ok .next, hq3 => exact False.elim hq3
  | .ok .brk, hq3 => exact False.elim hq3
  | .ok .cont, hq3 => exact False.elim hq3
end
/-! ### isinstance of the error that a suite holds -/
def rIsE2 (K : PySem.W.Frag) (cls : Value) (dd : Option Addr) (a : Addr) : List V → Hp → VK → Prop := fun xs H Q => ∃ D, cls = .ref D ∧ dd = none ∧ ExcC K D ∧ rIsE K D a xs H Q
theorem call_isE2 {X : Cx} {a : Addr} {oe : Obj} {cls : Value} {dd : Option Addr} {pn : List (Addr × Obj)} (hz : Zc cls dd oe) (hf : ∃ vs, oe.data = .fields vs) : CallR (X.suite a ((a, oe) :: pn)) (.builtin "isinstance") (rIsE2 X.K cls dd a) := by
  intro pins s σ H xs us Q I r h
  obtain ⟨D, rfl, rfl, C, h⟩ := h
  exact call_isE C hz hf pins s σ H xs us Q I r h
end RG
namespace RG
open PySem PySem.Spec PyProof.Rows L2 Evl RS LamX
/-! ### lambdas that capture nothing, kept as things -/
def FunO (f : Addr) (o : Obj) : HO := .ext fun h => h.get? f = some o
theorem funO_ne {f : Addr} {o : Obj} (ps : Array Value) : FunO f o ≠ .tbl ps := fun z => by unfold FunO at z; cases z
theorem funO_ok {P : Program} {w : World} {H : Hp} {h : Heap} {f : Addr} {o : Obj} (e : h.get? f = some o) : ObjOk P w H h f (FunO f o) := ⟨e, ⟨o, e⟩, fun h1 h2 a k => k o a⟩
/-- the thing that a lambda makes -/
abbrev lamO (q : Str) (params : Arguments) (body : Expr) (scope : Scope) (pm : Value) (d : Addr) (ctv : Value) : Obj := PySem.W.kla_obj "<lambda>" q params body scope [] pm d ctv
theorem cloFrom_nil {cells : List (Str × Addr)} : ∀ (l : List (Str × NameKind)), (∀ y ∈ l, y.2 ≠ .free) → cloFrom cells l [] = []
  | [], _ => rfl
  | (y, k) :: t, h => by
    have hk : k ≠ .free := h (y, k) (by simp)
    have ih := cloFrom_nil (cells := cells) t fun z hz => h z (List.mem_cons_of_mem _ hz)
    cases k <;> first | exact absurd rfl hk | exact ih
section
variable {X : Cx} {pins : List (Addr × Obj)} {σ : L2.St} {H : Hp} {s : Shared}
/-- a lambda without captured names is made and kept in view -/
theorem lam_keep {T : List (Addr × Str)} {c P : Addr} {params : Arguments} {body : Expr} {scope : Scope} {pos : Pos} {E Q : Value → Shared → Prop} (I : L2.Inv X pins σ H s) (TB : TabB X.base X.mg c P) (hcode : X.env.code = .ref c)
    (hm : (P, X.env.qual ++ "<lambda>") ∈ T) (hu : ∀ p ∈ T, p.1 = P → p.2 = X.env.qual ++ "<lambda>") (hT : Tabs T H) (hdef : defaultsOf params X.env = ([], [])) (hfree : ∀ y ∈ scope.names, y.2 ≠ .free)
    (k : ∀ (f d : Addr) (pm ctv : Value) (H1 : Hp) (s1 : Shared), L2.Inv X pins σ H1 s1 → ExtN H H1 → Tabs T H1 → H1 f = some (FunO f (lamO (X.env.qual ++ "<lambda>") params body scope pm d ctv)) → H1 d = some (CodeO d (X.env.qual ++ "<lambda>")) → Q (.ref f) s1) :
    wpAny (model X.prog X.w) X.A (eval (.Lambda params body scope pos) X.env) Q E s := by
  have clo : closureFor scope X.env = pure [] := by
    have z := closure_ok (scope := scope) (env := X.env) fun y hy e => absurd e (hfree y hy)
    rw [cloFrom_nil _ hfree] at z
    exact z
  obtain ⟨ps, tP, tO, tA⟩ := hT _ hm
  have oP : s.heap.get? P = some { cls := .none, data := .fields ps } := I.hok P _ tP
  have bP := TB.bm.keeps I.bk
  have gl := I.mod.glob.keeps I.bk
  refine PySem.W.kla_eval hdef ?_
  rcases hc : codeAmong pos ps.toList with _ | cv
  · refine PySem.W.kla_makeFunction (mg := X.mg) (c := c) (P := P) (ps := ps) clo I.ok.glob gl hcode (TB.code.keeps I.bk) oP tO hc TB.gP bP fun d ctv h1 tk hx hge hlt hrec htb => ?_
    obtain ⟨d', oc, vs, t, ed, g1, g2, g3⟩ := hrec
    cases ed
    have sz : s.heap.objs.size ≤ h1.objs.size := by omega
    have nd : H d = none := I.hok.fresh hge
    have J1 := inv_table (t' := tk) (more := #[rawInt pos.line, rawInt pos.col, .ref d]) (h' := h1) I tP (fun b o hb e => hx b o hb e) htb hge ⟨oc, vs, t, g1, g2, g3⟩
    generalize hU : upd (upd H P (.tbl (ps ++ #[rawInt pos.line, rawInt pos.col, .ref d]))) d (CodeO d (X.env.qual ++ "<lambda>")) = U at J1
    have nPd : P ≠ d := ne_of_none tP nd
    have U1 : ExtN H U := fun b o e n => by
      rw [← hU, upd_ne (ne_of_none e nd), upd_ne fun z => n ps (Option.some.inj (e.symm.trans (by rw [z]; exact tP)))]
      exact e
    have Ud : U d = some (CodeO d (X.env.qual ++ "<lambda>")) := by rw [← hU]; exact upd_same
    have UP : U P = some (.tbl (ps ++ #[rawInt pos.line, rawInt pos.col, .ref d])) := by rw [← hU, upd_ne nPd, upd_same]
    have UT : Tabs T U := fun p hp => by
      obtain ⟨qs, a1, a2, a3⟩ := hT p hp
      by_cases z : p.1 = P
      · rw [hu p hp z, z]
        refine ⟨_, UP, ?_, fun p' cv hcv => ?_⟩
        · rw [Array.toList_append]
          exact PySem.TriplesOk_snoc _ _ _ _ tO
        · rw [Array.toList_append] at hcv
          rcases among_app _ tO hcv with y | y
          · obtain ⟨c0, q1, q2⟩ := tA p' cv y
            exact ⟨c0, q1, U1 _ _ q2 codeO_ne⟩
          · exact ⟨d, y, Ud⟩
      · refine ⟨qs, ?_, a2, fun p' cv hcv => ?_⟩
        · rw [← hU, upd_ne (ne_of_none a1 nd), upd_ne z]
          exact a1
        · obtain ⟨c0, q1, q2⟩ := a3 p' cv hcv
          exact ⟨c0, q1, U1 _ _ q2 codeO_ne⟩
    have nf : U h1.objs.size = none := J1.hok.fresh (Nat.le_refl _)
    have e2 : Ex U (upd U h1.objs.size (FunO h1.objs.size (lamO (X.env.qual ++ "<lambda>") params body scope ((X.mg "__name__").getD .none) d ctv))) := Ex.new nf
    refine k _ d _ _ _ _ (J1.laid (t' := tk) (fun b o e => Heap.get?_push_of_some _ e) (Nat.le_refl _) (funO_ok (Heap.get?_push_size _ rfl))) (U1.trans (ExtN.of e2)) (UT.ext e2) upd_same (e2 _ _ Ud)
  · obtain ⟨d, ed, hco⟩ := tA pos cv hc
    subst ed
    refine PySem.W.kla_makeFunctionHit (mg := X.mg) (c := c) (P := P) (ps := ps) clo I.ok.glob gl hcode (TB.code.keeps I.bk) oP tO hc bP fun ctv h1 tk hx hsz => ?_
    have J1 : L2.Inv X pins σ H { s with heap := h1, toks := tk } := I.kept hx
    have nf : H h1.objs.size = none := J1.hok.fresh (Nat.le_refl _)
    have e2 : Ex H (upd H h1.objs.size (FunO h1.objs.size (lamO (X.env.qual ++ "<lambda>") params body scope ((X.mg "__name__").getD .none) d ctv))) := Ex.new nf
    exact k _ d _ _ _ _ (J1.laid (t' := tk) (fun b o e => Heap.get?_push_of_some _ e) (Nat.le_refl _) (funO_ok (Heap.get?_push_size _ rfl))) (ExtN.of e2) (hT.ext e2) upd_same (e2 _ _ hco)
end
def tLamV (T : List (Addr × Str)) (q : Str) (params : Arguments) (body : Expr) (scope : Scope) : TE := fun _ H Q => Tabs T H ∧ ∀ (f d : Addr) (pm ctv : Value) (H1 : Hp), ExtN H H1 → Tabs T H1 → H1 f = some (FunO f (lamO q params body scope pm d ctv)) → H1 d = some (CodeO d q) → Q (.ref f) H1
theorem pe_lamV {X : Cx} {T : List (Addr × Str)} {c P : Addr} {q : Str} {params : Arguments} {body : Expr} {scope : Scope} {pos : Pos} (TB : TabB X.base X.mg c P) (hcode : X.env.code = .ref c) (hq : X.env.qual ++ "<lambda>" = q) (hm : (P, q) ∈ T) (hu : ∀ p ∈ T, p.1 = P → p.2 = q)
    (hdef : defaultsOf params X.env = ([], [])) (hfree : (scope.names.all fun y => !decide (y.2 = .free)) = true) : PE X (.Lambda params body scope pos) (tLamV T q params body scope) := by
  subst hq
  exact ⟨fun pins s σ H Q I h => lam_keep I TB hcode hm hu h.1 hdef (fun y hy e => by
    have := List.all_eq_true.mp hfree y hy
    rw [e] at this
    simp at this) fun f d pm ctv H1 s1 I1 eN T1 hf hd => ⟨.ref f, H1, I1, rfl, h.2 f d pm ctv H1 eN T1 hf hd⟩⟩
/-- what a kept lambda promises -/
def LamOk (P : Program) (w : World) (K : PySem.W.Frag) (mg : Str → Option Value) (base : Heap) (k : Nat) (f d : Addr) (o : Obj) (q : Str) (sp : Sp) : Prop :=
  ∀ (A : Around) (outer : List Env) (s : Shared) (H : Hp) (u : Value) (v : V) (Q : VK) (E : XK), Room k A → Env0 P w K mg base A outer s H → H f = some (FunO f o) → H d = some (CodeO d q) → RelV v u → sp [v] H Q E →
    codeAny (model P w) A (.call (.ref f) ⟨[u], []⟩) (CR (L2.CX P w) outer P w H s Q E) s
/-- at the slot's address stands a lambda with that promise -/
def LamAt (P : Program) (w : World) (K : PySem.W.Frag) (mg : Str → Option Value) (base : Heap) (k : Nat) (H : Hp) (f : Addr) (sp : Sp) : Prop := ∃ d q params body scope pm ctv, H f = some (FunO f (lamO q params body scope pm d ctv)) ∧ H d = some (CodeO d q) ∧ LamOk P w K mg base k f d (lamO q params body scope pm d ctv) q sp
section
variable {P : Program} {w : World} {K : PySem.W.Frag} {mg : Str → Option Value} {base : Heap}
theorem LamAt.exN {k : Nat} {H H' : Hp} {f : Addr} {sp : Sp} (h : LamAt P w K mg base k H f sp) (e : ExtN H H') : LamAt P w K mg base k H' f sp := by
  obtain ⟨d, q, params, body, scope, pm, ctv, h1, h2, h3⟩ := h
  exact ⟨d, q, params, body, scope, pm, ctv, e _ _ h1 funO_ne, e _ _ h2 codeO_ne, h3⟩
theorem lam_at {k : Nat} {H0 : Hp} {f d : Addr} {q y : Str} {N : List Str} {params : Arguments} {body : Expr} {scope : Scope} {pm ctv : Value} {sp : Sp} (hf : H0 f = some (FunO f (lamO q params body scope pm d ctv))) (hd : H0 d = some (CodeO d q)) (S : FnScope N [y] scope)
    (hb : ∀ u : Value, bindArgs (PySem.W.kla_fn "<lambda>" q params body scope [] pm (.ref d) ctv) ⟨[u], []⟩ = pure [(y, u)])
    (hbody : ∀ (A : Around) (outer : List Env) (s : Shared) (H : Hp) (v : V) (Q : VK) (E : XK), Room k (A.deeper (envOfC q scope s.heap.objs.size f (.ref d))) → sp [v] H Q E → ∃ t, PE (cxOf (L2.CX P w) P w K mg base N q scope f (.ref d) A outer s H E) body t ∧ t (start N [v]) H Q) : LamAt P w K mg base (k + 1) H0 f sp := by
  refine ⟨d, q, params, body, scope, pm, ctv, hf, hd, fun A outer s H u v Q E hr e0 gf gd rv hs => ?_⟩
  have of1 : s.heap.get? f = some (lamO q params body scope pm d ctv) := (e0.hok f _ gf).1
  obtain ⟨⟨oc, vs, t, k1, k2, k3⟩, _, _⟩ := e0.hok d _ gd
  have lim : s.heap.NoLimit := e0.mod.nolimit.keeps fun b o e => (e0.bs b o e).1
  have hkind : ∀ z ∈ [(y, u)], scope.names.lookup z.1 = some .local ∨ (scope.names.lookup z.1 = some .cell ∧ ((cellsFrom (s.heap.objs.size + 1) scope.names []).lookup z.1).isSome = true) := fun z hz => by
    rw [List.mem_singleton.mp hz]
    rcases S.par y (by simp) with c | c
    · exact .inl c
    · exact .inr ⟨c, PySem.W.cellsFrom_some _ _ _ (.inl c)⟩
  refine PySem.W.kla_callFunE hr.depth of1 rfl S.co S.gen rfl ⟨d, oc, vs, t, rfl, k1, k2, k3⟩ ?_
  rw [hb]
  refine wpAny_pure (wpAny_newFunctionEnv_cells S.kind hkind fun env he s1 x => ?_)
  subst he
  refine ⟨lim.keeps x.toInCall.keep, PySem.W.kla_codeExpr ?_⟩
  obtain ⟨te, hte, hq⟩ := hbody A outer s H v Q E (hr.deeper _) hs
  have I : L2.Inv (cxOf (L2.CX P w) P w K mg base N q scope f (.ref d) A outer s H E) [] (start N [v]) H s1 := inv_start (us := [u]) S hr.hd e0 rfl (.cons rv .nil) x
  refine wpAny_mono (hte.run [] s1 _ H _ I hq) (fun z s2 hz => ?_) fun e s2 he => he
  obtain ⟨z', H', J, rz, qz⟩ := hz
  exact ⟨z', H', J.os, J.bare, J.base, J.hok, rz, qz⟩
end
/-- a(e), the slot of a holds a kept lambda; what it raises is told of the very state -/
def tCallF (P : Program) (w : World) (K : PySem.W.Frag) (mg : Str → Option Value) (base : Heap) (k i : Nat) (te : TE) (W : WX) : TE := fun σ H Q => ∃ f sp, σ[i]? = some (some (.ref f)) ∧ LamAt P w K mg base k H f sp ∧ te σ H fun v H1 => LamAt P w K mg base k H1 f sp ∧ sp [v] H1 Q (WE W σ)
theorem pe_callF {X : Cx} {W : WX} {k i : Nat} {a : Str} {e : Expr} {te : TE} {p pos : Pos} (tk : Takes X W) (hr : Room k X.A) (hN : X.N[i]? = some a) (hv : Vis X.env.scope a) (he : PE X e te) (hdb : (a == ("__debug__" : Str)) = false := by decide) (hcd : (a == ("__classdict__" : Str)) = false := by decide)
    (hst : starEach [e] X.env = (false, eval e X.env) :: starEach [] X.env := by rfl) (hpl : (backTo pos (starEach [] X.env)).any (·.1) = false := by rfl) : PE X (.Call (.Name a p) [e] [] pos) (tCallF X.prog X.w X.K X.mg X.base k i te W) := by
  refine ⟨fun pins s σ H Q I h => ?_⟩
  obtain ⟨f, sp, hs, hl, h⟩ := h
  refine wpAny_Call_Name_kw (thn ((pe_var (pos := p) hN hv hdb hcd).run pins s σ H (fun v H1 => v = .ref f ∧ H1 = H) I ⟨.ref f, hs, rfl, rfl⟩) fun u s1 ⟨v, H1, I1, r1, q1⟩ => ?_)
  obtain ⟨ev, rfl⟩ := q1
  subst ev
  obtain rfl : u = Value.ref f := r1
  obtain ⟨_, _, _, _, _, _, _, g1, _⟩ := hl
  refine PySem.W.callWith_F ⟨_, _, _, _, (I1.hok f _ g1).1⟩ ?_ hst hpl
  rw [hst]
  show wpAny _ _ (spliced ((false, eval e X.env) :: backTo pos (starEach [] X.env))) _ _ s1
  refine Calls.spliced_cons (thn (he.run pins s1 σ H1 _ I1 h) fun y s2 ⟨v, H2, I2, r2, hl2, h2⟩ => Calls.spliced_nil ?_)
  obtain ⟨d, q, params, body, scope, pm, ctv, k1, k2, k3⟩ := hl2
  refine ⟨⟨_, _, _, _, (I2.hok f _ k1).1⟩, ?_⟩
  refine wpAny_call (codeAny_mono (k3 X.A X.stack s2 H2 y v Q (WE W σ) hr I2.env0 k1 k2 r2 h2) fun r s3 h3 => ?_)
  match r, h3 with
  | .error e, h3 => exact (passAt tk σ) pins H2 s2 e s3 I2 h3
  | .ok (.ret z), h3 => exact I2.after h3
  | .ok .next, h3 => exact False.elim h3
  | .ok .brk, h3 => exact False.elim h3
  | .ok .cont, h3 => exact False.elim h3
theorem fnAt_of {X : Cx} {pins : List (Addr × Obj)} {σ : L2.St} {H : Hp} {s : Shared} {f : Addr} {q : Str} {params : Arguments} {body : Expr} {scope : Scope} {pm ctv : Value} {d : Addr} (I : L2.Inv X pins σ H s) (h : H f = some (FunO f (lamO q params body scope pm d ctv))) : s.heap.get? f = some (lamO q params body scope pm d ctv) := (I.hok f _ h).1
end RG
namespace RG
open PySem PySem.Spec PyProof.Rows L2 Evl RS LamX
def spR (v : V) (C : Addr) : Sp := fun vs H _ E => vs = [v] ∧ ∀ H', Ex H H' → E (.ref C) none H'
section
variable {P : Program} {w : World} {K : PySem.W.Frag} {mg : Str → Option Value} {base : Heap} {T : List (Addr × Str)} {σ : L2.St} {H : Hp} {ta tb te : TE} {tr : TA} {tu tz : TS} {D : Ends}
/-- at vs stand lambdas with these promises -/
def FunsAt (P : Program) (w : World) (K : PySem.W.Frag) (mg : Str → Option Value) (base : Heap) (H : Hp) (vs : List V) (sps : List Sp) : Prop := vs.length = sps.length ∧ ∀ (i : Nat) (sp : Sp), sps[i]? = some sp → ∃ f : Addr, vs[i]? = some (V.ref f) ∧ LamAt P w K mg base 7 H f sp
theorem FunsAt.exN {H H' : Hp} {vs : List V} {sps : List Sp} (h : FunsAt P w K mg base H vs sps) (e : ExtN H H') : FunsAt P w K mg base H' vs sps := ⟨h.1, fun i sp hi => let ⟨f, h1, h2⟩ := h.2 i sp hi; ⟨f, h1, h2.exN e⟩⟩
theorem FunsAt.cons {H : Hp} {f : Addr} {sp : Sp} {vs : List V} {sps : List Sp} (h : LamAt P w K mg base 7 H f sp) (hs : FunsAt P w K mg base H vs sps) : FunsAt P w K mg base H (.ref f :: vs) (sp :: sps) := ⟨by rw [List.length_cons, List.length_cons, hs.1], fun i s' hi => by
  cases i with
  | zero =>
    have : sp = s' := by simpa using hi
    subst this
    exact ⟨f, rfl, h⟩
  | succ i =>
    obtain ⟨g, h1, h2⟩ := hs.2 i s' (by simpa using hi)
    exact ⟨g, by simpa using h1, h2⟩⟩
theorem FunsAt.app {H : Hp} {vs us : List V} {sps sqs : List Sp} (h : FunsAt P w K mg base H vs sps) (h2 : FunsAt P w K mg base H us sqs) : FunsAt P w K mg base H (vs ++ us) (sps ++ sqs) := ⟨by rw [List.length_append, List.length_append, h.1, h2.1], fun i sp hi => by
  by_cases z : i < sps.length
  · rw [List.getElem?_append_left z] at hi
    obtain ⟨f, q1, q2⟩ := h.2 i sp hi
    exact ⟨f, by rw [List.getElem?_append_left (by rw [h.1]; exact z)]; exact q1, q2⟩
  · rw [List.getElem?_append_right (by omega)] at hi
    obtain ⟨f, q1, q2⟩ := h2.2 _ sp hi
    exact ⟨f, by rw [List.getElem?_append_right (by rw [h.1]; omega), h.1]; exact q1, q2⟩⟩
/-- written lambdas -/
def EvFs (P : Program) (w : World) (K : PySem.W.Frag) (mg : Str → Option Value) (base : Heap) (T : List (Addr × Str)) (tr : TA) (σ : L2.St) (H : Hp) (sps : List Sp) : Prop := ∀ H1, ExtN H H1 → Tabs T H1 → ∀ Q : List V → Hp → Prop, (∀ vs H2, ExtN H1 H2 → Tabs T H2 → FunsAt P w K mg base H2 vs sps → Q vs H2) → tr σ H1 Q
theorem efs_nil : EvFs P w K mg base T tNil σ H [] := fun H1 e T1 Q q => q [] H1 (ExtN.refl _) T1 ⟨rfl, fun i sp h => by simp at h⟩
theorem efs_cons {q : Str} {params : Arguments} {body : Expr} {scope : Scope} {sp : Sp} {sps : List Sp} (hl : ∀ (f d : Addr) (pm ctv : Value) (H1 : Hp), H1 f = some (FunO f (lamO q params body scope pm d ctv)) → H1 d = some (CodeO d q) → LamAt P w K mg base 7 H1 f sp) (hr : EvFs P w K mg base T tr σ H sps) :
    EvFs P w K mg base T (tCons (tLamV T q params body scope) tr) σ H (sp :: sps) := fun H1 e T1 Q k =>
  ⟨T1, fun f d pm ctv H2 e2 T2 hf hd => hr H2 (e.trans e2) T2 _ fun vs H3 e3 T3 hF => k (.ref f :: vs) H3 (e2.trans e3) T3 (FunsAt.cons ((hl f d pm ctv H2 hf hd).exN e3) hF)⟩
/-- x = [lambda .., ..] -/
theorem g_asgFs {i : Nat} {sps : List Sp} (hT : Tabs T H) (h : EvFs P w K mg base T tr σ H sps) (hl : sps.length ≤ 1000) (k : ∀ p vs H1, ExtN H H1 → Tabs T H1 → H1 p = some (.lst vs) → FunsAt P w K mg base H1 vs sps → Go tz D (σ.set i (some (.ref p))) H1) : Go (tSeq (tAsg (tLst tr) (gName i)) tz) D σ H := fun H' e =>
  h H' (ExtN.of e) (hT.ext e) _ fun vs H1 e1 T1 hF => ⟨sz_of (by rw [hF.1]; omega), fun p np => by
    have e2 : Ex H1 (upd H1 p (.lst vs)) := Ex.new np
    exact (k p vs _ (((ExtN.of e).trans e1).trans (ExtN.of e2)) (T1.ext e2) upd_same (hF.exN (ExtN.of e2))).at⟩
/-- x = y + [lambda .., ..] -/
theorem g_asgFsCat {i : Nat} {l : Addr} {us : List V} {sps sqs : List Sp} (hT : Tabs T H) (ha : Ev ta σ H (.ref l)) (hx : H l = some (.lst us)) (hF : FunsAt P w K mg base H us sps) (h : EvFs P w K mg base T tr σ H sqs) (hl : sps.length + sqs.length ≤ 1000)
    (k : ∀ p vs H1, ExtN H H1 → Tabs T H1 → H1 p = some (.lst vs) → FunsAt P w K mg base H1 vs (sps ++ sqs) → Go tz D (σ.set i (some (.ref p))) H1) : Go (tSeq (tAsg (tOp rCat ta (tLst tr)) (gName i)) tz) D σ H := fun H' e =>
  ha H' e _ fun H1 e1 => h H1 (ExtN.of (e.trans e1)) (hT.ext (e.trans e1)) _ fun vs H2 e2 T2 hF2 => ⟨sz_of (by rw [hF2.1]; omega), fun b nb => by
    have e3 : Ex H2 (upd H2 b (.lst vs)) := Ex.new nb
    have e03 : ExtN H (upd H2 b (.lst vs)) := ((ExtN.of (e.trans e1)).trans e2).trans (ExtN.of e3)
    refine ⟨l, b, us, vs, rfl, rfl, extN_lst e03 hx, upd_same, sz_of (by rw [hF.1, hF2.1]; omega), fun p np => ?_⟩
    have e4 : Ex (upd H2 b (.lst vs)) (upd (upd H2 b (.lst vs)) p (.lst (us ++ vs))) := Ex.new np
    exact (k p _ _ (e03.trans (ExtN.of e4)) ((T2.ext e3).ext e4) upd_same ((hF.exN (e03.trans (ExtN.of e4))).app (hF2.exN ((ExtN.of e3).trans (ExtN.of e4))))).at⟩
/-- a for over a written tuple of values, the tables may grow -/
theorem g_forTvN {xs : List V} {i : Nat} (h : EvA tr σ H xs) (hl : xs.length ≤ 1000) (hT : Tabs T H) (W : Nat → L2.St → Prop) (h0 : W 0 σ)
    (hs : ∀ B, Ex H B → ∀ m σ' H' (hm : m < xs.length), ExtN B H' → Tabs T H' → W m σ' → Go tu { D with nx := fun σ2 H2 => ExtN B H2 ∧ Tabs T H2 ∧ W (m + 1) σ2, ct := fun σ2 H2 => ExtN B H2 ∧ Tabs T H2 ∧ W (m + 1) σ2, bk := tz D } (σ'.set i (some xs[m])) H')
    (hd : ∀ B, ExtN H B → Tabs T B → ∀ σ', W xs.length σ' → Go tz D σ' B) : Go (tSeq (tFor (iTup K (tTup tr)) (gName i) tu) tz) D σ H := fun H' e => by
  refine h H' e _ fun H2 e2 => ⟨sz_of (by omega), fun p np => ?_⟩
  have e3 : Ex H2 (upd H2 p (.tup xs)) := Ex.new np
  have eB : Ex H (upd H2 p (.tup xs)) := (e.trans e2).trans e3
  have hp : (upd H2 p (.tup xs)) p = some (.tup xs) := upd_same
  generalize upd H2 p (.tup xs) = B at *
  refine ⟨p, rfl, ⟨xs, st_of hp⟩, ?_⟩
  refine for_it (D := { D with nx := tz D }) (G := fun H3 => SqT K H3 p xs) walk_tup (fun m σ' H3 => ExtN B H3 ∧ Tabs T H3 ∧ W m σ') ⟨ExtN.refl _, hT.ext eB, h0⟩ (fun m σ' H3 _ w => st_of (extN_tup w.1 hp)) (fun m x σ' H3 H4 hm w y => ?_) (fun σ' H3 w => (hd H3 ((ExtN.of eB).trans w.1) w.2.1 σ' w.2.2).at)
  obtain ⟨rfl, y2⟩ := y
  rw [List.getElem?_eq_getElem hm] at y2
  cases y2
  exact (hs B eB m σ' _ hm w.1 w.2.1 w.2.2).at
/-- an argument list that makes a lambda first -/
def EvNt (T : List (Addr × Str)) (te : TE) (σ : L2.St) (H : Hp) (v : V) : Prop := ∀ H1, ExtN H H1 → Tabs T H1 → ∀ Q : VK, (∀ H2, ExtN H1 H2 → Tabs T H2 → Q v H2) → te σ H1 Q
theorem g_whenN {r : R2} {v v' : V} (hT : Tabs T H) (h : EvNt T te σ H v) (h2 : ∀ H1, ExtN H H1 → Ev tb σ H1 v') (hr : ∀ H1, RV r v v' H1 (.bl false)) (k : ∀ H1, ExtN H H1 → Tabs T H1 → Go tz D σ H1) : Go (tSeq (tIfS (tTest (tOp r te tb)) tu tNext) tz) D σ H := fun H' e =>
  h H' (ExtN.of e) (hT.ext e) _ fun H1 e1 T1 => h2 H1 ((ExtN.of e).trans e1) H1 (Ex.refl _) _ fun H2 e2 => hr H2 H2 (Ex.refl _) _ fun H3 e3 => ⟨false, rfl, (k H3 (((ExtN.of e).trans e1).trans ((ExtN.of e2).trans (ExtN.of e3))) ((T1.ext e2).ext e3)).at⟩
/-- a new list, the tables may grow -/
def ElN (T : List (Addr × Str)) (te : TE) (σ : L2.St) (H : Hp) (xs : List V) : Prop := ∀ H1, ExtN H H1 → Tabs T H1 → ∀ Q : VK, (∀ p H2, ExtN H1 H2 → Tabs T H2 → H2 p = some (.lst xs) → Q (.ref p) H2) → te σ H1 Q
theorem eln_lcT {xs : List V} {j : Nat} {vs : List Nat} {v : V} (h : ∀ H1, ExtN H H1 → EvA tr σ H1 xs) (hl : xs.length ≤ 1000) (hw : ∀ y, wipe ((wipe σ vs).set j (some y)) vs = wipe σ vs) (he : ∀ H1, ExtN H H1 → ∀ x ∈ xs, EvNt T te ((wipe σ vs).set j (some x)) H1 v) :
    ElN T (tLc (iTup K (tTup tr)) (gName j) tYes te vs) σ H (List.replicate xs.length v) := fun H1 e T1 Q q => by
  refine h H1 e H1 (Ex.refl _) _ fun H2 e2 => ⟨sz_of (by omega), fun p np => ?_⟩
  have e3 : Ex H2 (upd H2 p (.tup xs)) := Ex.new np
  have eB : Ex H1 (upd H2 p (.tup xs)) := e2.trans e3
  have hp : (upd H2 p (.tup xs)) p = some (.tup xs) := upd_same
  generalize upd H2 p (.tup xs) = B at *
  refine ⟨p, rfl, ⟨xs, st_of hp⟩, fun Dl hDl => ?_⟩
  have npD : p ≠ Dl := fun z => by rw [z, hDl] at hp; cases hp
  refine lc_it (G := fun H3 => SqT K H3 p xs) walk_tup (fun m H3 => ExtN B H3 ∧ Tabs T H3 ∧ H3 Dl = some (.lst (List.replicate m v))) ⟨ExtN.of (Ex.new hDl), (T1.ext eB).ext (Ex.new hDl), upd_same⟩ (fun m H3 _ w => st_of (extN_tup w.1 hp)) (fun m x H3 H4 hm w y => ?_) (fun H3 w => ?_)
  · obtain ⟨rfl, y2⟩ := y
    have hx := List.mem_of_getElem? y2
    refine ⟨hw x, ?_⟩
    refine he H4 ((e.trans (ExtN.of eB)).trans w.1) x hx H4 (ExtN.refl _) w.2.1 _ fun H5 e5 T5 => ?_
    have hl5 := extN_lst e5 w.2.2
    refine ⟨_, hl5, sz_lt (by rw [List.length_replicate]; omega), ?_, ?_, ?_⟩
    · exact fun b o hb n => by
        rw [upd_ne (fun z => by rw [z, hDl] at hb; cases hb)]
        exact e5 b o (w.1 b o hb n) n
    · refine fun pp hpp => ?_
      obtain ⟨ps, a1, a2, a3⟩ := T5 pp hpp
      refine ⟨ps, ?_, a2, fun pos cv hc => ?_⟩
      · rw [upd_ne (fun z => by rw [z, hl5] at a1; cases a1)]; exact a1
      · obtain ⟨c0, q1, q2⟩ := a3 pos cv hc
        exact ⟨c0, q1, by rw [upd_ne (fun z => by rw [z, hl5] at q2; unfold CodeO at q2; cases q2)]; exact q2⟩
    · rw [upd_same, List.replicate_succ']
  · exact q Dl H3 ((ExtN.of eB).trans w.1) w.2.1 w.2.2
end
end RG
namespace RG
open PySem PySem.Spec PyProof.Rows L2 Evl RS LamX
/-! ### lists of written cases -/
/-- what stays told of a value -/
structure Pr where
  R : V → Hp → Prop
  up : ∀ v H H', Ex H H' → R v H → R v H'
def prV (v : V) : Pr := ⟨fun x _ => x = v, fun _ _ _ _ h => h⟩
def prD (K : PySem.W.Frag) (d : PyData) : Pr := ⟨fun x H => Dp K H x d, fun _ _ _ e h => dp_ex e h⟩
def RowU (H : Hp) : List V → List Pr → Prop
  | [], [] => True
  | u :: us, p :: ps => p.R u H ∧ RowU H us ps
  | _, _ => False
theorem RowU.ex {H H' : Hp} (e : Ex H H') : ∀ {us : List V} {ps : List Pr}, RowU H us ps → RowU H' us ps
  | [], [], _ => trivial
  | _ :: _, p :: _, h => ⟨p.up _ _ _ e h.1, RowU.ex e h.2⟩
  | [], _ :: _, h => h.elim
  | _ :: _, [], h => h.elim
theorem RowU.len {H : Hp} : ∀ {us : List V} {ps : List Pr}, RowU H us ps → us.length = ps.length
  | [], [], _ => rfl
  | _ :: _, _ :: _, h => congrArg (· + 1) (RowU.len h.2)
  | [], _ :: _, h => h.elim
  | _ :: _, [], h => h.elim
theorem RowU.uncons {H : Hp} {us : List V} {p : Pr} {ps : List Pr} (h : RowU H us (p :: ps)) : ∃ u ur, us = u :: ur ∧ p.R u H ∧ RowU H ur ps := by
  cases us with
  | nil => exact h.elim
  | cons u ur => exact ⟨u, ur, rfl, h.1, h.2⟩
theorem RowU.nil {H : Hp} {us : List V} (h : RowU H us []) : us = [] := by
  cases us with
  | nil => rfl
  | cons u ur => exact h.elim
def RowAt (H : Hp) (v : V) (ps : List Pr) : Prop := ∃ a us, v = .ref a ∧ H a = some (.tup us) ∧ RowU H us ps
theorem RowAt.ex {H H' : Hp} (e : Ex H H') {v : V} {ps : List Pr} (h : RowAt H v ps) : RowAt H' v ps := by
  obtain ⟨a, us, rfl, h1, h2⟩ := h
  exact ⟨a, us, rfl, e _ _ h1, h2.ex e⟩
def RowsU {α : Type} (H : Hp) (row : α → List Pr) : List V → List α → Prop
  | [], [] => True
  | u :: us, x :: xs => RowAt H u (row x) ∧ RowsU H row us xs
  | _, _ => False
section
variable {α : Type} {row : α → List Pr}
theorem RowsU.ex {H H' : Hp} (e : Ex H H') : ∀ {us : List V} {xs : List α}, RowsU H row us xs → RowsU H' row us xs
  | [], [], _ => trivial
  | _ :: _, p :: _, h => ⟨h.1.ex e, RowsU.ex e h.2⟩
  | [], _ :: _, h => h.elim
  | _ :: _, [], h => h.elim
theorem RowsU.len {H : Hp} : ∀ {us : List V} {xs : List α}, RowsU H row us xs → us.length = xs.length
  | [], [], _ => rfl
  | _ :: _, _ :: _, h => congrArg (· + 1) (RowsU.len h.2)
  | [], _ :: _, h => h.elim
  | _ :: _, [], h => h.elim
theorem RowsU.app {H : Hp} : ∀ {us vs : List V} {xs ys : List α}, RowsU H row us xs → RowsU H row vs ys → RowsU H row (us ++ vs) (xs ++ ys)
  | [], _, [], _, _, h => h
  | _ :: _, _, _ :: _, _, h, h2 => ⟨h.1, RowsU.app h.2 h2⟩
  | [], _, _ :: _, _, h, _ => h.elim
  | _ :: _, _, [], _, h, _ => h.elim
theorem RowsU.get {H : Hp} : ∀ {us : List V} {xs : List α} (h : RowsU H row us xs) (i : Nat) (hi : i < xs.length), ∃ u x, us[i]? = some u ∧ x ∈ xs ∧ RowAt H u (row x)
  | [], [], _, i, hi => absurd hi (Nat.not_lt_zero i)
  | u :: us, x :: xs, h, 0, _ => ⟨u, x, rfl, by simp, h.1⟩
  | _ :: us, _ :: xs, h, i + 1, hi => by
    obtain ⟨u, x, h1, h2, h3⟩ := RowsU.get h.2 i (Nat.lt_of_succ_lt_succ hi)
    exact ⟨u, x, by simpa using h1, List.mem_cons_of_mem _ h2, h3⟩
  | [], _ :: _, h, _, _ => h.elim
  | _ :: _, [], h, _, _ => h.elim
/-- the slots of a target's names -/
def gNames : List Nat → TGs
  | [] => gNil
  | j :: js => gCons (gName j) (gNames js)
def setL : L2.St → List Nat → List V → L2.St
  | σ, j :: js, u :: us => setL (σ.set j (some u)) js us
  | σ, _, _ => σ
theorem gNames_go {H : Hp} {Q : L2.St → Hp → Prop} : ∀ (js : List Nat) (us : List V) (σ : L2.St), us.length = js.length → Q (setL σ js us) H → gNames js us σ H Q
  | [], [], σ, _, q => ⟨rfl, q⟩
  | j :: js, u :: us, σ, h, q => ⟨u, us, rfl, gNames_go js us (σ.set j (some u)) (Nat.succ.inj h) q⟩
  | [], _ :: _, _, h, _ => nomatch h
  | _ :: _, [], _, h, _ => nomatch h
theorem wipe_set' {j : Nat} {x : Option V} : ∀ {ws : List Nat} {σ : L2.St}, (j ∈ ws → wipe (σ.set j x) ws = wipe σ ws) ∧ (j ∉ ws → wipe (σ.set j x) ws = (wipe σ ws).set j x)
  | [], σ => ⟨(fun h => nomatch h), fun _ => rfl⟩
  | w :: ws, σ => by
    obtain ⟨h1, h2⟩ := wipe_set' (j := j) (x := x) (ws := ws) (σ := σ)
    show (j ∈ w :: ws → (wipe (σ.set j x) ws).set w none = (wipe σ ws).set w none) ∧ (j ∉ w :: ws → (wipe (σ.set j x) ws).set w none = ((wipe σ ws).set w none).set j x)
    by_cases z : j = w
    · subst z
      refine ⟨fun _ => ?_, fun h => absurd (by simp) h⟩
      by_cases y : j ∈ ws
      · rw [h1 y]
      · rw [h2 y, List.set_set]
    · refine ⟨fun h => ?_, fun h => ?_⟩
      · rw [h1 ((List.mem_cons.mp h).resolve_left z)]
      · rw [h2 fun y => h (List.mem_cons_of_mem _ y), List.set_comm _ _ z]
theorem wipe_set {j : Nat} {x : Option V} {ws : List Nat} {σ : L2.St} (h : j ∈ ws) : wipe (σ.set j x) ws = wipe σ ws := wipe_set'.1 h
theorem wipe_wipe {ws : List Nat} : ∀ {us : List Nat} {σ : L2.St}, (∀ u ∈ us, u ∈ ws) → wipe (wipe σ us) ws = wipe σ ws
  | [], σ, h => rfl
  | u :: us, σ, h => by
    show wipe ((wipe σ us).set u none) ws = wipe σ ws
    rw [wipe_set (h u (by simp)), wipe_wipe (us := us) (fun x hx => h x (List.mem_cons_of_mem _ hx))]
theorem wipe_setL {ws : List Nat} : ∀ {js : List Nat} {us : List V} {σ : L2.St}, (∀ j ∈ js, j ∈ ws) → wipe (setL σ js us) ws = wipe σ ws
  | [], us, σ, h => by cases us <;> rfl
  | j :: js, [], σ, h => rfl
  | j :: js, u :: us, σ, h => by
    show wipe (setL (σ.set j (some u)) js us) ws = wipe σ ws
    rw [wipe_setL (js := js) (us := us) (fun x hx => h x (List.mem_cons_of_mem _ hx)), wipe_set (h j (by simp))]
theorem wipe_row {ws : List Nat} {js : List Nat} {us : List V} {σ : L2.St} (h : (js.all fun j => ws.contains j) = true) : wipe (setL (wipe σ ws) js us) ws = wipe σ ws := by
  have h' : ∀ j ∈ js, j ∈ ws := fun j hj => by
    have := List.all_eq_true.mp h j hj
    simpa using this
  rw [wipe_setL h', wipe_wipe fun _ h => h]
variable {K : PySem.W.Frag} {σ : L2.St} {H : Hp} {ta tr : TA} {te tb : TE} {tu tz : TS} {D : Ends}
def EvPs (tr : TA) (σ : L2.St) (H : Hp) (ps : List Pr) : Prop := ∀ H1, Ex H H1 → ∀ Q : List V → Hp → Prop, (∀ us H2, Ex H1 H2 → RowU H2 us ps → Q us H2) → tr σ H1 Q
theorem eps_nil : EvPs tNil σ H [] := fun H1 e Q q => q [] H1 (Ex.refl _) trivial
theorem eps_cons {p : Pr} {ps : List Pr} (h : EvP te σ H p.R) (hr : EvPs tr σ H ps) : EvPs (tCons te tr) σ H (p :: ps) := fun H1 e Q q =>
  h H1 e _ fun v H2 e2 hv => hr H2 (e.trans e2) _ fun us H3 e3 hu => q _ H3 (e2.trans e3) ⟨p.up _ _ _ e3 hv, hu⟩
theorem evp_of {v : V} (h : Ev te σ H v) : EvP te σ H (prV v).R := fun H1 e Q q => h H1 e _ fun H2 e2 => q v H2 e2 rfl
theorem evp_D {d : PyData} (h : EvD K te σ H d) : EvP te σ H (prD K d).R := h
/-- rows, one behind another -/
def EvRs (row : α → List Pr) (tr : TA) (σ : L2.St) (H : Hp) (xs : List α) : Prop := ∀ H1, Ex H H1 → ∀ Q : List V → Hp → Prop, (∀ us H2, Ex H1 H2 → RowsU H2 row us xs → Q us H2) → tr σ H1 Q
theorem ers_nil : EvRs row tNil σ H [] := fun H1 e Q q => q [] H1 (Ex.refl _) trivial
theorem ers_cons {x : α} {xs : List α} (h : EvPs ta σ H (row x)) (hl : (row x).length ≤ 1000) (hr : EvRs row tr σ H xs) : EvRs row (tCons (tTup ta) tr) σ H (x :: xs) := fun H1 e Q q =>
  h H1 e _ fun us H2 e2 hu => ⟨sz_of (by rw [hu.len]; omega), fun p np => by
    have e3 : Ex H2 (upd H2 p (.tup us)) := Ex.new np
    exact hr _ ((e.trans e2).trans e3) _ fun vs H4 e4 hv => q _ H4 ((e2.trans e3).trans e4) ⟨⟨p, us, rfl, e4 _ _ upd_same, hu.ex (e3.trans e4)⟩, hv⟩⟩
/-- x = [rows] -/
theorem g_asgRs {i : Nat} {xs : List α} (h : EvRs row tr σ H xs) (hl : xs.length ≤ 1000) (k : ∀ p vs H1, Ex H H1 → H1 p = some (.lst vs) → RowsU H1 row vs xs → Go tz D (σ.set i (some (.ref p))) H1) : Go (tSeq (tAsg (tLst tr) (gName i)) tz) D σ H := fun H' e =>
  h H' e _ fun vs H1 e1 hF => ⟨sz_of (by rw [hF.len]; omega), fun p np => by
    have e2 : Ex H1 (upd H1 p (.lst vs)) := Ex.new np
    exact (k p vs _ ((e.trans e1).trans e2) upd_same (hF.ex e2)).at⟩
/-- x = y + [rows] -/
theorem g_asgRsCat {i : Nat} {l : Addr} {us : List V} {xs ys : List α} (ha : Ev te σ H (.ref l)) (hx : H l = some (.lst us)) (hF : RowsU H row us xs) (h : EvRs row tr σ H ys) (hl : xs.length + ys.length ≤ 1000)
    (k : ∀ p vs H1, Ex H H1 → H1 p = some (.lst vs) → RowsU H1 row vs (xs ++ ys) → Go tz D (σ.set i (some (.ref p))) H1) : Go (tSeq (tAsg (tOp rCat te (tLst tr)) (gName i)) tz) D σ H := fun H' e =>
  ha H' e _ fun H1 e1 => h H1 (e.trans e1) _ fun vs H2 e2 hF2 => ⟨sz_of (by rw [hF2.len]; omega), fun b nb => by
    have e3 : Ex H2 (upd H2 b (.lst vs)) := Ex.new nb
    have e03 : Ex H (upd H2 b (.lst vs)) := ((e.trans e1).trans e2).trans e3
    refine ⟨l, b, us, vs, rfl, rfl, e03 _ _ hx, upd_same, sz_of (by rw [hF.len, hF2.len]; omega), fun p np => ?_⟩
    have e4 : Ex (upd H2 b (.lst vs)) (upd (upd H2 b (.lst vs)) p (.lst (us ++ vs))) := Ex.new np
    exact (k p _ _ (e03.trans e4) upd_same ((hF.ex (e03.trans e4)).app (hF2.ex (e3.trans e4)))).at⟩
/-- [f(row) for a, b, .. in rows], the same of each -/
theorem el_lcRows {p : Addr} {vs : List V} {xs : List α} {js ws : List Nat} {v : V} (h : Ev te σ H (.ref p)) (hp : H p = some (.lst vs)) (hR : RowsU H row vs xs) (hl : xs.length ≤ 1000) (hj : ∀ x, (row x).length = js.length) (hw : (js.all fun j => ws.contains j) = true)
    (he : ∀ H1, Ex H H1 → ∀ x ∈ xs, ∀ us, RowU H1 us (row x) → Ev tb (setL (wipe σ ws) js us) H1 v) : EvL (tLc (iList K te) (gTup K js.length (gNames js)) tYes tb ws) σ H (List.replicate xs.length v) := fun H1 e Q q =>
  h H1 e _ fun H2 e2 => by
    refine ⟨p, rfl, ⟨vs, sq_of (e2 _ _ (e _ _ hp))⟩, fun Dl hD => ?_⟩
    have hp2 : H2 p = some (.lst vs) := e2 _ _ (e _ _ hp)
    have hR2 := hR.ex (e.trans e2)
    refine lc_it (G := fun H3 => SqL K H3 p vs) (hR.len ▸ walk_list) (Cw H2 (fun _ => true) (fun _ => v) Dl) ⟨hD, Ex.new hD, upd_same⟩ (fun _ _ _ w => sq_of (w.2.1 _ _ hp2)) (fun i x H3 H4 hi w y => ?_) (fun H' w => ?_)
    · obtain ⟨rfl, y2⟩ := y
      obtain ⟨u, z, g1, g2, g3⟩ := hR2.get i hi
      rw [g1] at y2
      cases y2
      obtain ⟨a, us, rfl, a1, a2⟩ := g3
      have hlen : us.length = js.length := by rw [a2.len, hj]
      refine ⟨a, us, rfl, st_of (w.2.1 _ _ a1), hlen, gNames_go js us _ hlen ⟨wipe_row hw, ?_⟩⟩
      exact cw_turn (te := tb) (t := tYes) (f := fun _ => true) (v := fun _ => v) (H := H2) (Dl := Dl) (i := i) w (by omega) et_yes fun _ => he H2 (e.trans e2) z g2 us a2
    · have q2 := q Dl H' (fresh_back e2 w.1) (e2.trans w.2.1)
      have e9 : given xs.length (fun _ => true) (fun _ => v) = List.replicate xs.length v := by
        show ((List.range xs.length).filter fun _ => true).map (fun _ => v) = _
        rw [List.filter_eq_self.mpr (fun _ _ => rfl), List.map_const', List.length_range]
      rw [← e9] at q2
      exact q2 w.2.2
theorem ev_anyNo {n : Nat} (h : EvL te σ H (List.replicate n (V.bl false))) : Ev (tCB (rAny K) (tCons te tNil)) σ H (.bl false) := fun H1 e Q q =>
  h H1 e _ fun p H2 _ e2 hp => ⟨p, List.replicate n false, rfl, by rw [List.map_replicate]; exact sq_of hp, by
    have : (List.replicate n false).any id = false := by simp
    rw [this]
    exact q H2 e2⟩
/-- for a, b, .. in rows: .. -/
theorem g_forRows {p : Addr} {vs : List V} {xs : List α} {js : List Nat} (h : Ev te σ H (.ref p)) (hp : H p = some (.lst vs)) (hR : RowsU H row vs xs) (hj : ∀ x, (row x).length = js.length) (W : L2.St → Prop) (h0 : W σ)
    (hs : ∀ H2, Ex H H2 → ∀ x ∈ xs, ∀ σ', W σ' → ∀ us, RowU H2 us (row x) → Go tu { D with nx := fun σ3 H3 => Ex H2 H3 ∧ W σ3, ct := fun σ3 H3 => Ex H2 H3 ∧ W σ3, bk := tz D } (setL σ' js us) H2)
    (hd : ∀ H2, Ex H H2 → ∀ σ', W σ' → Go tz D σ' H2) : Go (tSeq (tFor (iList K te) (gTup K js.length (gNames js)) tu) tz) D σ H := fun H1 e =>
  h H1 e _ fun H2 e2 => by
    have hp2 : H2 p = some (.lst vs) := e2 _ _ (e _ _ hp)
    have hR2 := hR.ex (e.trans e2)
    refine ⟨p, rfl, ⟨vs, sq_of hp2⟩, ?_⟩
    refine for_it (D := { D with nx := tz D }) (G := fun H3 => SqL K H3 p vs) (hR.len ▸ walk_list) (fun m σ' H3 => Ex H2 H3 ∧ W σ') ⟨Ex.refl _, h0⟩ (fun m σ' H3 _ w => sq_of (w.1 _ _ hp2)) (fun m x σ' H3 H4 hm w y => ?_) (fun σ' H3 w => (hd H3 ((e.trans e2).trans w.1) σ' w.2).at)
    obtain ⟨rfl, y2⟩ := y
    obtain ⟨u, z, g1, g2, g3⟩ := hR2.get m hm
    rw [g1] at y2
    cases y2
    obtain ⟨a, us, rfl, a1, a2⟩ := g3
    have hlen : us.length = js.length := by rw [a2.len, hj]
    refine ⟨a, us, rfl, st_of (w.1 _ _ a1), hlen, gNames_go js us _ hlen ?_⟩
    exact hs H2 (e.trans e2) z g2 σ' w.2 us a2 _ w.1
end
end RG
namespace RG
open PySem PySem.Spec PyProof.Rows L2 Evl RS LamX
/-! ### a comprehension within an except suite: the block's context bears the suite's pins -/
section
variable {X : Cx}
theorem inv_pn {pn' ps ps' : List (Addr × Obj)} {σ : L2.St} {H : Hp} {s : Shared} (I : L2.Inv X ps σ H s) (hp : ∀ p ∈ pn' ++ ps', s.heap.get? p.1 = some p.2 ∧ H p.1 = none ∧ p.1 ≠ X.env.locals ∧ p.1 ∉ X.fs ∧ ∀ v, p.2.data ≠ .cell v) : L2.Inv { X with pn := pn' } ps' σ H s :=
  ⟨⟨I.ok.mod, I.ok.kind, I.ok.glob, I.ok.blt, I.ok.above, I.ok.inj, I.ok.has, I.ok.cab, I.ok.hd, I.ok.frames, I.ok.stk, I.ok.exf, I.ok.bs, I.ok.bsz, I.ok.noex, I.ok.exfs, I.ok.funs, I.ok.frf⟩, I.os, I.bare, I.base, I.loc, I.cell, I.free, I.freeC, hp, I.hok, I.len⟩
abbrev hblk (X : Cx) (s : Shared) (H : Hp) (scope : Scope) (ce : Env) (fp : List Addr) : Cx := { X.blk s H scope ce fp with pn := X.pn }
variable {pins ps : List (Addr × Obj)} {σ σ' : L2.St} {H3 H' : Hp} {s3 s' : Shared} {scope : Scope} {ce : Env} {fp : List Addr}
theorem blk_hot (I3 : L2.Inv X pins σ H3 s3) (f3 : ∀ b ∈ fp, FpOk X pins H3 b) (cL : ce.locals = s3.heap.objs.size) (I' : L2.Inv (X.blk s3 H3 scope ce fp) ps σ' H' s') : L2.Inv (hblk X s3 H3 scope ce fp) ps σ' H' s' := by
  refine inv_pn I' fun p hp => ?_
  rcases List.mem_append.mp hp with h | h
  · obtain ⟨a1, a2, a3, a4, a5⟩ := I3.pin p (List.mem_append_left _ h)
    have nfr : p.1 ∉ frs X.stack := fun hb => (List.mem_cons.mp (I3.stkSub p.1 hb)).elim a3 a4
    have nfp : p.1 ∉ fp := fun hb => (f3 p.1 hb).2.2.2.2.2 p (List.mem_append_left _ h) rfl
    exact ⟨I'.base.keep p.1 p.2 a1 a2 nfr nfp, I'.base.free p.1 p.2 a1 a2 nfp, by show p.1 ≠ ce.locals; rw [cL]; exact Nat.ne_of_lt (Heap.lt_size a1), nfr, a5⟩
  · exact I'.pin p (List.mem_append_right _ h)
theorem hot_blk (I' : L2.Inv (hblk X s3 H3 scope ce fp) ps σ' H' s') : L2.Inv (X.blk s3 H3 scope ce fp) ps σ' H' s' := inv_pn (X := hblk X s3 H3 scope ce fp) (pn' := []) (ps' := ps) I' fun p hp => I'.pin p (List.mem_append_right _ hp)
end
section
variable {X : Cx}
theorem pe_lcH {elt tg iter : Expr} {scope : Scope} {own : List (Str × Nat)} {pos : Pos} {wi : TI} {g : TG} {te : TE} (hc : L2H.HotC X) (hN : X.N.Nodup) (hi : L2H.PIH X tg iter wi) (ok : BlkOk X.N X.env.scope scope own)
    (hg : ∀ (s : Shared) (H : Hp) (C : Addr) (cl : List (Str × Addr)) (fp : List Addr), PG (X.blk s H scope (compEnvC scope cl C X.env) fp) tg g)
    (he : ∀ (s : Shared) (H : Hp) (C : Addr) (cl : List (Str × Addr)) (fp : List Addr), PE (X.blk s H scope (compEnvC scope cl C X.env) fp) elt te) (hs : ∀ x, foldedSetIterable iter X.env x = pure x := by intro _; rfl) :
    PE X (.ListComp elt [⟨tg, iter, [], 0⟩] scope pos) (tLc wi g tYes te (own.map (·.2))) := by
  refine ⟨fun pins s σ H Q I h => ?_⟩
  rw [eval_ListComp]
  have hfree : ∀ y ∈ scope.names, y.2 = .free → ∃ c, X.env.cells.lookup y.1 = some c := fun y hy e => (ok.free y hy e).elim (fun k => I.ok.has _ (.inl k)) fun k => I.ok.has _ (.inr k)
  refine wpAny_comprehension_free (use := none) rfl hs (closure_ok hfree) ok.kind (fun y hy e => by rw [ok.uniq y hy, e]) (thn (hi.run pins s σ H _ I h) fun xv s1 hx => thn hx fun itv s2 h2 => ?_)
  obtain ⟨it, fp, tn, J, H2, rfl, I2, T, st2, f2, q⟩ := h2
  refine wpAny_newObj_type (newEnv_comp ?_) (by show 0 ≤ sizeLine; decide)
  obtain ⟨D, hD⟩ : ∃ D, s2.heap.objs.size = D := ⟨_, rfl⟩
  obtain ⟨W, ⟨m0, w0⟩, turn⟩ := q D (I2.hok.fresh (Nat.le_of_eq hD))
  rw [hD]
  -- the list that is made
  obtain ⟨s3, hs3⟩ : ∃ s3 : Shared, ({ s2 with heap := s2.heap.push { cls := .type "list", data := .seq ([] : List Value).toArray } } : Shared) = s3 := ⟨_, rfl⟩
  have e3 : s3.heap = s2.heap.push { cls := .type "list", data := .seq ([] : List Value).toArray } := by rw [← hs3]
  have I3 : L2.Inv X pins σ (upd H2 D (.lst [])) s3 := by
    rw [← hs3]
    exact I2.laid (t' := s2.toks) (fun b o e => Heap.get?_push_of_some _ e) (Nat.le_of_eq hD) ⟨Nat.zero_le _, [], 0, .nil, by rw [← hD]; exact Heap.get?_push_size _ rfl⟩
  obtain ⟨H3, hH3⟩ : ∃ H3, upd H2 D (.lst []) = H3 := ⟨_, rfl⟩
  rw [hH3] at I3 w0
  have f3 : ∀ b ∈ fp, FpOk X pins H3 b ∧ b < s3.heap.objs.size := fun b hb => by
    obtain ⟨o, e, _⟩ := T.obj _ _ st2 b hb
    have hlt := Heap.lt_size e
    refine ⟨⟨by rw [← hH3, upd_ne (by rw [← hD]; exact Nat.ne_of_lt hlt)]; exact (f2 b hb).1, (f2 b hb).2⟩, by rw [e3, Heap.size_push]; exact Nat.lt_succ_of_lt hlt⟩
  have st3 : tn 0 s3.heap := T.keep _ _ _ st2 fun b _ o e => by rw [e3]; exact Heap.get?_push_of_some _ e
  -- the block's frame
  have I4 := block_start I3 ok hN f3
  rw [hs3]
  have pg := hg s3 H3 s3.heap.objs.size (cellsFrom (s3.heap.objs.size + 1) scope.names (cloFrom X.env.cells scope.names [])) fp
  have pe := he s3 H3 s3.heap.objs.size (cellsFrom (s3.heap.objs.size + 1) scope.names (cloFrom X.env.cells scope.names [])) fp
  show codeAny _ _ (.compStart (.ListComp elt [⟨tg, iter, [], 0⟩] scope pos) 0 (.ref it) (.ref D) (compEnvC scope (cellsFrom (s3.heap.objs.size + 1) scope.names (cloFrom X.env.cells scope.names [])) s3.heap.objs.size X.env)) (compPost (model X.prog X.w) X.A X.xe none (EP X pins σ Q) (.ref D) s3.heap.objs.size) { s3 with heap := pushCells (s3.heap.push { cls := .type "dict", data := .dict #[] }) scope.names }
  generalize hce : compEnvC scope (cellsFrom (s3.heap.objs.size + 1) scope.names (cloFrom X.env.cells scope.names [])) s3.heap.objs.size X.env = ce at I4 pg pe ⊢
  have cL : ce.locals = s3.heap.objs.size := by subst hce; rfl
  generalize hs4 : ({ s3 with heap := pushCells (s3.heap.push { cls := .type "dict", data := .dict #[] }) scope.names } : Shared) = s4 at I4 ⊢
  have st4 : tn 0 s4.heap := T.keep _ _ _ st3 fun b _ o e => by rw [← hs4]; exact pushCells_keeps _ _ _ _ (Heap.get?_push_of_some _ e)
  have toHot : ∀ {ps : List (Addr × Obj)} {σ' : L2.St} {H' : Hp} {s' : Shared}, L2.Inv (X.blk s3 H3 scope ce fp) ps σ' H' s' → L2.Inv (hblk X s3 H3 scope ce fp) ps σ' H' s' := fun I' => blk_hot I3 (fun b hb => (f3 b hb).1) cL I'
  have hcB : L2H.HotC (hblk X s3 H3 scope ce fp) := hc
  have statH : ∀ {σ' : L2.St} {H' : Hp} {s' : Shared}, L2.Inv (X.blk s3 H3 scope ce fp) [] σ' H' s' → (∀ b ∈ fp, H' b = none) → ∀ b ∈ fp, FpOk (hblk X s3 H3 scope ce fp) [] H' b := fun {σ' H' s'} I' hn b hb =>
    ⟨hn b hb, (I'.ok.exf b hb).1, I'.ok.exfs b hb, .inl hb, fun x c e => (I'.ok.exf b hb).2 x c e, fun p hp => (f3 b hb).1.2.2.2.2.2 p (List.mem_append_left _ (by simpa using hp))⟩
  have stat : ∀ {σ' : L2.St} {H' : Hp} {s' : Shared}, L2.Inv (X.blk s3 H3 scope ce fp) [] σ' H' s' → (∀ b ∈ fp, H' b = none) → ∀ b ∈ fp, FpOk (X.blk s3 H3 scope ce fp) [] H' b := fun {σ' H' s'} I' hn b hb =>
    ⟨hn b hb, (I'.ok.exf b hb).1, I'.ok.exfs b hb, .inl hb, fun x c e => (I'.ok.exf b hb).2 x c e, fun p hp => absurd (show p ∈ ([] : List (Addr × Obj)) ++ [] from hp) (by simp)⟩
  have loop : codeAny (model X.prog X.w) X.A (.compLoop (.ListComp elt [⟨tg, iter, [], 0⟩] scope pos) 0 (.ref it) (.ref D) ce) (compPost (model X.prog X.w) X.A X.xe none (EP X pins σ Q) (.ref D) s3.heap.objs.size) s4 := by
    refine compLoop_any (fun n s' => ∃ i H', L2.Inv (X.blk s3 H3 scope ce fp) [] (wipe σ (own.map (·.2))) H' s' ∧ tn i s'.heap ∧ (∀ b ∈ fp, H' b = none) ∧ W i n H') ?_ m0 ⟨0, H3, I4, st4, fun b hb => (f3 b hb).1.1, w0⟩
    rintro n s5 ⟨i, H5, I5, st5, n5, w5⟩
    rcases turn i n H5 w5 with ⟨stop, qq⟩ | ⟨go, Nx, hNx, step⟩
    · refine thnF (T.done (hblk X s3 H3 scope ce fp) rfl rfl rfl hcB i [] s5 _ H5 (fun _ _ => False) (toHot I5) (statH I5 n5) st5 stop) fun r s6 ⟨hr, I6h⟩ => ?_
      subst hr
      have I6 := hot_blk I6h
      have I7 : L2.Inv X pins σ H5 s6 := I3.call' (ch := fp) I6.os I6.base I6.hok I6.bare fun b hb => ⟨(f3 b hb).1.2.2.2.1, (f3 b hb).1.2.1, (f3 b hb).1.2.2.2.2.1, (f3 b hb).1.2.2.2.2.2⟩
      have nC : H5 s3.heap.objs.size = none := by rw [← cL]; exact I6.free
      obtain ⟨m, hn, _⟩ := I6.loc
      have hn : s6.heap.Ns ce.locals m := hn
      rw [cL] at hn
      obtain ⟨g0, g1, g2, g3, g4, g5⟩ := I3.fpOk (Nat.le_refl _) nC
      exact ⟨m, hn, fun h'' sb => ⟨.ref D, H5, I7.turned (t' := s6.toks) (fun b o hb e => (sb.2 b hb).trans e) g0 g1 g3 g4 g5, rfl, qq⟩⟩
    · refine thnF (T.item (hblk X s3 H3 scope ce fp) rfl rfl rfl hcB i [] s5 _ H5 (fun _ _ => False) (toHot I5) (statH I5 n5) st5 go) fun r s6 ⟨u, hr, h6⟩ => ?_
      subst hr
      refine thnF h6 fun _ s7 ⟨x, H7, I7h, r7, y7, st7, n7⟩ => ?_
      have I7 := hot_blk I7h
      refine thnF (pg.run _ s7 _ H7 x u _ (I7.pinned (stat I7 n7) (T.obj _ _ st7)) r7 (step x H7 y7)) fun _ s8 ⟨σ8, H8, I8, hw8, q8⟩ => ?_
      refine wpAny_tests_nil ?_
      have q8 : te σ8 H8 fun y H4 => ∃ acc, H4 D = some (.lst acc) ∧ acc.length < sizeLine ∧ Nx (upd H4 D (.lst (acc ++ [y]))) := by
        unfold tYes at q8
        simpa only [if_true] using q8
      rw [if_pos rfl]
      refine thnF (pe.run _ s8 σ8 H8 _ I8 q8) fun z s10 ⟨yv, H10, I10, r10, acc, hD10, hz10, nx⟩ => ?_
      refine app_ok (X := X.blk s3 H3 scope ce fp) I10 hD10 hz10 r10 fun s11 I11 => ?_
      obtain ⟨m', hm, w'⟩ := hNx _ nx
      have pin' : ∀ b ∈ fp, ∀ o, s7.heap.get? b = some o → s11.heap.get? b = some o ∧ (upd H10 D (.lst (acc ++ [yv]))) b = none := fun b hb o e =>
        let z := I11.pin (b, o) (List.mem_append_right _ (List.mem_append_right _ (mem_pinsAt hb e)))
        ⟨z.1, z.2.1⟩
      have hl : (wipe σ (own.map (·.2))).length = σ8.length := by rw [← hw8, wipe_length]
      refine ⟨m', hm, i + 1, _, (I11.unpinned (pins := [])).weak hl (fun j v e => ?_), T.keep _ _ _ st7 fun b hb o e => (pin' b hb o e).1, fun b hb => ?_, w'⟩
      · rw [← hw8] at e
        exact (wipe_some e).1
      · obtain ⟨o, e, _⟩ := T.obj _ _ st7 b hb
        exact (pin' b hb o e).2
  exact codeAny_compStart_list loop (T.self X.A 0 _ _ _ st4 loop)
end
end RG
namespace RG
open PySem PySem.Spec PyProof.Rows L2 Evl RS LamX
/-! ### defs that raise in the calm: the exception's context is None (L2N) -/
theorem passN {X : Cx} : Passes (L2N.CX X.prog X.w) X E0 := fun _ _ _ _ _ _ _ h => by
  obtain ⟨_, _, _, _, _, _, _, _, _, _, _, _, z⟩ := h
  exact z.elim
theorem takesN0 {X : Cx} : L2N.Takes X (fun _ _ _ _ => False) := fun _ _ x => by
  obtain ⟨_, _, _, _, _, _, _, _, _, _, _, _, _, _, _, _, z⟩ := x
  exact z.elim
section
variable {P : Program} {w : World} {K : PySem.W.Frag} {mg : Str → Option Value} {base : Heap}
theorem okN {x qual : Str} {st : Stmt} {f : Addr} {fd : FuncData} {N ps : List Str} {k : Nat} {sp : Sp} (F : Fun K x qual st f fd) (S : FnScope N ps (defScope st)) (len : ∀ vs H Q E, sp vs H Q E → vs.length = ps.length)
    (hbody : ∀ (cdv : Value) (A : Around) (outer : List Env) (s : Shared) (H : Hp) (vs : List V) (Q : VK) (E : XK), Room k (A.deeper (envOfC qual (defScope st) s.heap.objs.size f cdv)) → sp vs H Q E →
      ∃ t, PSs (cxOf (L2N.CX P w) P w K mg base N qual (defScope st) f cdv A outer s H E) (defBody st) t ∧ t { nx := fun _ H' => Q .non H', rt := Q } (start N vs) H) : FnOk P w K mg base (L2N.CX P w) (k + 1) f fd ps sp := by
  obtain ⟨oc, od, kV, doc, pm, an, cdv, ct, osl, rfl, lk, hcd⟩ := F.ex
  exact fn_of lk hcd S len fun A outer s H vs Q E hr hsp => hbody cdv A outer s H vs Q E hr hsp
theorem quietN {k : Nat} {f : Addr} {fd : FuncData} {ps : List Str} {sp : Sp} (F : FnOk P w K mg base (L2N.CX P w) k f fd ps sp) : FnOk P w K mg base CX0 k f fd ps (fun vs H Q _ => sp vs H Q E0) := by
  refine ⟨fun vs H Q E h => F.len vs H Q E0 h, fun A outer s H args us vs Q E hr e0 hb r hsp => ?_⟩
  refine codeAny_mono (F.run A outer s H args us vs Q E0 hr e0 hb r hsp) fun r s' hr => ?_
  cases r with
  | ok c => cases c with
    | ret u => exact hr
    | _ => exact hr
  | error u =>
    obtain ⟨_, _, _, _, _, _, _, _, _, _, _, _, z⟩ := hr
    exact z.elim
/-- a def that a slot holds -/
structure HeldX (CX : CXT) (P : Program) (w : World) (K : PySem.W.Frag) (mg : Str → Option Value) (base : Heap) (k : Nat) (f : Addr) (sp : Sp) : Prop where
  ex : ∃ (fd : FuncData) (ps : List Str), FnOk P w K mg base CX k f fd ps sp ∧ PySem.W.keepIn K (.ref f) = true ∧ Binds K fd ps []
end
def tCallN (P : Program) (w : World) (K : PySem.W.Frag) (mg : Str → Option Value) (base : Heap) (k i : Nat) (W : WX) (t : TA) : TE := fun σ H Q => ∃ f sp, σ[i]? = some (some (.ref f)) ∧ HeldX (L2N.CX P w) P w K mg base k f sp ∧ t σ H fun vs H1 => sp vs H1 Q (WE W σ)
def tCallQ (P : Program) (w : World) (K : PySem.W.Frag) (mg : Str → Option Value) (base : Heap) (k i : Nat) (t : TA) : TE := fun σ H Q => ∃ f sp, σ[i]? = some (some (.ref f)) ∧ HeldX CX0 P w K mg base k f sp ∧ t σ H fun vs H1 => sp vs H1 Q E0
section
variable {X : Cx} {W : WX} {k i : Nat} {a : Str} {e : Expr} {es : List Expr} {t : TA} {p pos : Pos}
theorem pe_callN (tk : L2N.Takes X W) (hr : Room k X.A) (hN : X.N[i]? = some a) (hv : Vis X.env.scope a) (ha : PA X (e :: es) t) (hdb : (a == ("__debug__" : Str)) = false := by decide) (hcd : (a == ("__classdict__" : Str)) = false := by decide)
    (he : starEach (e :: es) X.env = (false, eval e X.env) :: starEach es X.env := by rfl) (hpl : (backTo pos (starEach es X.env)).any (·.1) = false := by rfl) : PE X (.Call (.Name a p) (e :: es) [] pos) (tCallN X.prog X.w X.K X.mg X.base k i W t) := by
  refine ⟨fun pins s σ H Q I h => ?_⟩
  obtain ⟨f, sp, hs, ⟨fd, ps, F, hk, hb⟩, h⟩ := h
  refine wpAny_Call_Name_kw (thn ((pe_var (pos := p) hN hv hdb hcd).run pins s σ H (fun v H1 => v = .ref f ∧ H1 = H) I ⟨.ref f, hs, rfl, rfl⟩) fun u s1 ⟨v, H1, I1, r1, q1⟩ => ?_)
  obtain ⟨rfl, rfl⟩ := q1
  cases r1
  refine PySem.W.callWith_K (h₀ := X.base) I.ok.mod.kin hk (thn (ha.run pos pins s1 σ _ _ I1 h) fun us s2 ⟨vs, H2, I2, r, q⟩ => ⟨I2.kIn, ?_⟩) he hpl
  exact run_fnS F hr hb (L2N.passAt tk σ) I2 r q
theorem pe_callQ (hr : Room k X.A) (hN : X.N[i]? = some a) (hv : Vis X.env.scope a) (ha : PA X (e :: es) t) (hdb : (a == ("__debug__" : Str)) = false := by decide) (hcd : (a == ("__classdict__" : Str)) = false := by decide)
    (he : starEach (e :: es) X.env = (false, eval e X.env) :: starEach es X.env := by rfl) (hpl : (backTo pos (starEach es X.env)).any (·.1) = false := by rfl) : PE X (.Call (.Name a p) (e :: es) [] pos) (tCallQ X.prog X.w X.K X.mg X.base k i t) := by
  refine ⟨fun pins s σ H Q I h => ?_⟩
  obtain ⟨f, sp, hs, ⟨fd, ps, F, hk, hb⟩, h⟩ := h
  refine wpAny_Call_Name_kw (thn ((pe_var (pos := p) hN hv hdb hcd).run pins s σ H (fun v H1 => v = .ref f ∧ H1 = H) I ⟨.ref f, hs, rfl, rfl⟩) fun u s1 ⟨v, H1, I1, r1, q1⟩ => ?_)
  obtain ⟨rfl, rfl⟩ := q1
  cases r1
  refine PySem.W.callWith_K (h₀ := X.base) I.ok.mod.kin hk (thn (ha.run pos pins s1 σ _ _ I1 h) fun us s2 ⟨vs, H2, I2, r, q⟩ => ⟨I2.kIn, ?_⟩) he hpl
  exact run_fnS (E := fun _ => E0) F hr hb (fun _ _ _ _ _ _ z => z.elim) I2 r q
end
/-- the suite's context is hot -/
theorem hot_suite {X : Cx} {a : Addr} {oe : Obj} {cls : Value} {d : Option Addr} {pn : List (Addr × Obj)} (hz : L2N.Zn cls d oe) (hf : ∃ vs, oe.data = .fields vs) : L2H.HotC (X.suite a ((a, oe) :: pn)) := by
  obtain ⟨vs, hf⟩ := hf
  exact ⟨(a, oe), ⟨rfl, vs, hf, hz.2.2 vs hf⟩, by simp⟩
/-! ### what raises -/
section
variable {K : PySem.W.Frag} {σ : L2.St} {H : Hp} {ta tb te : TE} {t : TT} {tr : TA} {tz : TS} {D : Ends} {sp : Sp} {E : XK}
/-- reached, it raises as is wished -/
def Rs (te : TE) (σ : L2.St) (H : Hp) : Prop := ∀ H1, Ex H H1 → ∀ Q : VK, te σ H1 Q
theorem rs_if {b : Bool} (h : EvT t σ H b) (h1 : b = true → Rs ta σ H) (h2 : b = false → Rs tb σ H) : Rs (tIf t ta tb) σ H := fun H1 e Q => h H1 e _ fun H2 e2 => by
  cases b with
  | true => exact h1 rfl H2 (e.trans e2) Q
  | false => exact h2 rfl H2 (e.trans e2) Q
theorem rs_call {vs : List V} (h : EvA tr σ H vs) (hs : ∀ H1, Ex H H1 → ∀ Q : VK, sp vs H1 Q E) : Rs (tCall sp [] E tr) σ H := fun H1 e Q => h H1 e _ fun H2 e2 => by
  show sp (vs ++ []) H2 Q E
  rw [List.append_nil]
  exact hs H2 (e.trans e2) Q
theorem g_retRs (h : Rs te σ H) : Go (tSeq (tRet te) tz) D σ H := fun H' e => h H' e _
/-- a list of things, each with a property that stays -/
def EvB (B : V → Hp → Prop) (n : Nat) (te : TE) (σ : L2.St) (H : Hp) : Prop := ∀ H1, Ex H H1 → ∀ Q : VK, (∀ p vs H2, Ex H1 H2 → H2 p = some (.lst vs) → vs.length = n → (∀ v ∈ vs, B v H2) → Q (.ref p) H2) → te σ H1 Q
/-- [f(x) for x in things], the same of each -/
theorem el_lcB {B : V → Hp → Prop} {n j : Nat} {ws : List Nat} {v : V} (up : ∀ x H H', Ex H H' → B x H → B x H') (h : EvB B n te σ H) (hl : n ≤ 1000) (hw : ws.contains j = true) (he : ∀ H1, Ex H H1 → ∀ x, B x H1 → Ev tb ((wipe σ ws).set j (some x)) H1 v) :
    EvL (tLc (iList K te) (gName j) tYes tb ws) σ H (List.replicate n v) := fun H1 e Q q =>
  h H1 e _ fun p vs H2 e2 hp2 hlen hB => by
    refine ⟨p, rfl, ⟨vs, sq_of hp2⟩, fun Dl hD => ?_⟩
    refine lc_it (G := fun H3 => SqL K H3 p vs) (hlen ▸ walk_list) (Cw H2 (fun _ => true) (fun _ => v) Dl) ⟨hD, Ex.new hD, upd_same⟩ (fun _ _ _ w => sq_of (w.2.1 _ _ hp2)) (fun i x H3 H4 hi w y => ?_) (fun H' w => ?_)
    · obtain ⟨rfl, y2⟩ := y
      have hx := List.mem_of_getElem? y2
      have hj : j ∈ ws := by simpa using hw
      refine ⟨by rw [wipe_set hj, wipe_wipe fun _ h => h], ?_⟩
      exact cw_turn (te := tb) (t := tYes) (f := fun _ => true) (v := fun _ => v) (H := H2) (Dl := Dl) (i := i) w (by omega) et_yes fun _ => he H2 (e.trans e2) x (hB x hx)
    · have q2 := q Dl H' (fresh_back e2 w.1) (e2.trans w.2.1)
      have e9 : given n (fun _ => true) (fun _ => v) = List.replicate n v := by
        show ((List.range n).filter fun _ => true).map (fun _ => v) = _
        rw [List.filter_eq_self.mpr (fun _ _ => rfl), List.map_const', List.length_range]
      rw [← e9] at q2
      exact q2 w.2.2
end
end RG
namespace RG
open PySem PySem.Spec PyProof.Rows L2 Evl RS LamX
/-! ### lambdas that captured names, kept as things beyond their frame -/
abbrev lamOC (q : Str) (params : Arguments) (body : Expr) (scope : Scope) (cl : List (Str × Addr)) (pm : Value) (d : Addr) (ctv : Value) : Obj := PySem.W.kla_obj "<lambda>" q params body scope cl pm d ctv
section
variable {X : Cx} {pins : List (Addr × Obj)} {σ : L2.St} {H : Hp} {s : Shared}
/-- a lambda that captures names is made and kept in view -/
theorem lam_keepC {T : List (Addr × Str)} {c P : Addr} {params : Arguments} {body : Expr} {scope : Scope} {pos : Pos} {E Q : Value → Shared → Prop} (I : L2.Inv X pins σ H s) (TB : TabB X.base X.mg c P) (hcode : X.env.code = .ref c)
    (hm : (P, X.env.qual ++ "<lambda>") ∈ T) (hu : ∀ p ∈ T, p.1 = P → p.2 = X.env.qual ++ "<lambda>") (hT : Tabs T H) (hdef : defaultsOf params X.env = ([], [])) (hfree : ∀ y ∈ scope.names, y.2 = .free → ∃ c, X.env.cells.lookup y.1 = some c)
    (k : ∀ (f d : Addr) (pm ctv : Value) (H1 : Hp) (s1 : Shared), L2.Inv X pins σ H1 s1 → ExtN H H1 → Tabs T H1 → H1 f = some (FunO f (lamOC (X.env.qual ++ "<lambda>") params body scope (cloFrom X.env.cells scope.names []) pm d ctv)) → H1 d = some (CodeO d (X.env.qual ++ "<lambda>")) → Q (.ref f) s1) :
    wpAny (model X.prog X.w) X.A (eval (.Lambda params body scope pos) X.env) Q E s := by
  have clo := closure_ok hfree
  obtain ⟨ps, tP, tO, tA⟩ := hT _ hm
  have oP : s.heap.get? P = some { cls := .none, data := .fields ps } := I.hok P _ tP
  have bP := TB.bm.keeps I.bk
  have gl := I.mod.glob.keeps I.bk
  refine PySem.W.kla_eval hdef ?_
  rcases hc : codeAmong pos ps.toList with _ | cv
  · refine PySem.W.kla_makeFunction (mg := X.mg) (c := c) (P := P) (ps := ps) clo I.ok.glob gl hcode (TB.code.keeps I.bk) oP tO hc TB.gP bP fun d ctv h1 tk hx hge hlt hrec htb => ?_
    obtain ⟨d', oc, vs, t, ed, g1, g2, g3⟩ := hrec
    cases ed
    have sz : s.heap.objs.size ≤ h1.objs.size := by omega
    have nd : H d = none := I.hok.fresh hge
    have J1 := inv_table (t' := tk) (more := #[rawInt pos.line, rawInt pos.col, .ref d]) (h' := h1) I tP (fun b o hb e => hx b o hb e) htb hge ⟨oc, vs, t, g1, g2, g3⟩
    generalize hU : upd (upd H P (.tbl (ps ++ #[rawInt pos.line, rawInt pos.col, .ref d]))) d (CodeO d (X.env.qual ++ "<lambda>")) = U at J1
    have nPd : P ≠ d := ne_of_none tP nd
    have U1 : ExtN H U := fun b o e n => by
      rw [← hU, upd_ne (ne_of_none e nd), upd_ne fun z => n ps (Option.some.inj (e.symm.trans (by rw [z]; exact tP)))]
      exact e
    have Ud : U d = some (CodeO d (X.env.qual ++ "<lambda>")) := by rw [← hU]; exact upd_same
    have UP : U P = some (.tbl (ps ++ #[rawInt pos.line, rawInt pos.col, .ref d])) := by rw [← hU, upd_ne nPd, upd_same]
    have UT : Tabs T U := fun p hp => by
      obtain ⟨qs, a1, a2, a3⟩ := hT p hp
      by_cases z : p.1 = P
      · rw [hu p hp z, z]
        refine ⟨_, UP, ?_, fun p' cv hcv => ?_⟩
        · rw [Array.toList_append]
          exact PySem.TriplesOk_snoc _ _ _ _ tO
        · rw [Array.toList_append] at hcv
          rcases among_app _ tO hcv with y | y
          · obtain ⟨c0, q1, q2⟩ := tA p' cv y
            exact ⟨c0, q1, U1 _ _ q2 codeO_ne⟩
          · exact ⟨d, y, Ud⟩
      · refine ⟨qs, ?_, a2, fun p' cv hcv => ?_⟩
        · rw [← hU, upd_ne (ne_of_none a1 nd), upd_ne z]
          exact a1
        · obtain ⟨c0, q1, q2⟩ := a3 p' cv hcv
          exact ⟨c0, q1, U1 _ _ q2 codeO_ne⟩
    have nf : U h1.objs.size = none := J1.hok.fresh (Nat.le_refl _)
    have e2 : Ex U (upd U h1.objs.size (FunO h1.objs.size (lamOC (X.env.qual ++ "<lambda>") params body scope (cloFrom X.env.cells scope.names []) ((X.mg "__name__").getD .none) d ctv))) := Ex.new nf
    refine k _ d _ _ _ _ (J1.laid (t' := tk) (fun b o e => Heap.get?_push_of_some _ e) (Nat.le_refl _) (funO_ok (Heap.get?_push_size _ rfl))) (U1.trans (ExtN.of e2)) (UT.ext e2) upd_same (e2 _ _ Ud)
  · obtain ⟨d, ed, hco⟩ := tA pos cv hc
    subst ed
    refine PySem.W.kla_makeFunctionHit (mg := X.mg) (c := c) (P := P) (ps := ps) clo I.ok.glob gl hcode (TB.code.keeps I.bk) oP tO hc bP fun ctv h1 tk hx hsz => ?_
    have J1 : L2.Inv X pins σ H { s with heap := h1, toks := tk } := I.kept hx
    have nf : H h1.objs.size = none := J1.hok.fresh (Nat.le_refl _)
    have e2 : Ex H (upd H h1.objs.size (FunO h1.objs.size (lamOC (X.env.qual ++ "<lambda>") params body scope (cloFrom X.env.cells scope.names []) ((X.mg "__name__").getD .none) d ctv))) := Ex.new nf
    exact k _ d _ _ _ _ (J1.laid (t' := tk) (fun b o e => Heap.get?_push_of_some _ e) (Nat.le_refl _) (funO_ok (Heap.get?_push_size _ rfl))) (ExtN.of e2) (hT.ext e2) upd_same (e2 _ _ hco)
end
def tLamC (T : List (Addr × Str)) (q : Str) (params : Arguments) (body : Expr) (scope : Scope) (cells : List (Str × Addr)) : TE := fun _ H Q => Tabs T H ∧ ∀ (f d : Addr) (pm ctv : Value) (H1 : Hp), ExtN H H1 → Tabs T H1 → H1 f = some (FunO f (lamOC q params body scope (cloFrom cells scope.names []) pm d ctv)) → H1 d = some (CodeO d q) → Q (.ref f) H1
theorem pe_lamC {X : Cx} {T : List (Addr × Str)} {c P : Addr} {q : Str} {params : Arguments} {body : Expr} {scope : Scope} {pos : Pos} (TB : TabB X.base X.mg c P) (hcode : X.env.code = .ref c) (hq : X.env.qual ++ "<lambda>" = q) (hm : (P, q) ∈ T) (hu : ∀ p ∈ T, p.1 = P → p.2 = q)
    (hdef : defaultsOf params X.env = ([], [])) (L : LamS X.env.scope scope) : PE X (.Lambda params body scope pos) (tLamC T q params body scope X.env.cells) := by
  subst hq
  exact ⟨fun pins s σ H Q I h => lam_keepC I TB hcode hm hu h.1 hdef (L.has I.ok) fun f d pm ctv H1 s1 I1 eN T1 hf hd => ⟨.ref f, H1, I1, rfl, h.2 f d pm ctv H1 eN T1 hf hd⟩⟩
/-! ### the body of such a lambda, entered later -/
section
variable {X : Cx} {σ : L2.St} {H : Hp} {s1 : Shared}
theorem clo_look {scope : Scope} (ok : X.Ok) (L : LamS X.env.scope scope) {y : Str} {c : Addr} (e : (cloFrom X.env.cells scope.names []).lookup y = some c) : X.env.cells.lookup y = some c ∧ (y, NameKind.free) ∈ scope.names := by
  rcases cloFrom_mem (PySem.mem_of_lookup e) with hm | ⟨h1, h2⟩
  · cases hm
  · obtain ⟨c1, hc⟩ := L.has ok _ h1 rfl
    have hc : X.env.cells.lookup y = some c1 := hc
    refine ⟨?_, h1⟩
    have e2 : c = c1 := by rw [h2, hc] <;> rfl
    rw [e2]; exact hc
theorem clo_start {A : Around} {outer : List Env} {E : XK} {scope : Scope} {f d : Addr} {h₁ : Heap} {tk : Nat} (ok : X.Ok) (L : LamS X.env.scope scope) (hlen : σ.length = X.N.length) (e0 : Env0 X.prog X.w X.K X.mg X.base A outer s1 H) (hd : A.handled = none)
    (hall : ∀ y c, (cloFrom X.env.cells scope.names []).lookup y = some c → (∃ v, s1.heap.IsCell c v) ∧ H c = none)
    (hcell : ∀ (i : Nat) (y : Str) (v : V), X.N[i]? = some y → σ[i]? = some (some v) → scope.names.lookup y = some .free → ∃ c u, X.env.cells.lookup y = some c ∧ RelV v u ∧ s1.heap.IsCell c (some u))
    (hns : h₁.Ns s1.heap.objs.size fun y => ([] : List (Str × Value)).reverse.lookup y) (kp : ∀ b o, s1.heap.get? b = some o → h₁.get? b = some o) : L2.Inv (lamCx X A outer s1 H E scope f d) [] σ H { s1 with heap := h₁, toks := tk } := by
  have cm : ∀ {y c}, (cloFrom X.env.cells scope.names []).lookup y = some c → X.env.cells.lookup y = some c := fun e => (clo_look ok L e).1
  have look : ∀ {y}, scope.names.lookup y = some .free → ∃ c, (cloFrom X.env.cells scope.names []).lookup y = some c := fun {y} hl => mem_lookup (cloFrom_has (cells := X.env.cells) (acc := []) (PySem.mem_of_lookup hl))
  have up : ∀ {c : Addr} {v : Option Value}, s1.heap.IsCell c v → h₁.IsCell c v := fun ⟨o, ho, hd⟩ => ⟨o, kp _ _ ho, hd⟩
  have noA : ∀ b : Addr, b ∉ (lamCx X A outer s1 H E scope f d).ex := fun b z => absurd (show b ∈ ([] : List Addr) from z) (by simp)
  refine ⟨⟨e0.mod, L.kind, rfl, rfl, Nat.le_refl _, fun y z c e1 e2 => ok.inj y z c (cm e1) (cm e2), fun y hy => ?_, fun y c z _ => ?_, fun _ => hd, Around.frames_deeper e0.frames, .inr ⟨rfl, rfl⟩, fun b z => absurd z (noA b), e0.bs, e0.bsz, fun b _ _ => noA b,
      fun b z => absurd z (noA b), e0.funs, e0.frf⟩,
    rfl, e0.bare, Un.kept kp, ⟨_, hns, fun i y v e1 e2 e3 => ?_⟩, fun y c e => ?_, e0.hok.fresh (Nat.le_refl _), fun y c e => (hall y c e).2, fun q hq => absurd (show q ∈ ([] : List (Addr × Obj)) ++ [] from hq) (by simp), e0.hok.kept kp, hlen⟩
  · have hy : scope.names.lookup y = some .cell ∨ scope.names.lookup y = some .free := hy
    rcases hy with hy | hy
    · exact absurd rfl (L.own _ (PySem.mem_of_lookup hy)).2
    · exact look hy
  · have z : false = true := z
    cases z
  · have e3 : Vis scope y := e3
    rcases e3 with k | k | k
    · exact absurd rfl (L.own _ (PySem.mem_of_lookup k)).1
    · exact absurd rfl (L.own _ (PySem.mem_of_lookup k)).2
    · obtain ⟨c, u, h1, h2, h3⟩ := hcell i y v e1 e2 k
      obtain ⟨c2, h4⟩ := look k
      have e5 := cm h4
      rw [h1] at e5
      cases e5
      exact ⟨u, h2, .inr ⟨.inr k, c, h4, up h3⟩⟩
  · obtain ⟨v, z⟩ := (hall y c e).1
    exact ⟨v, up z⟩
end
/-! ### what is tracked, without some things -/
open Classical in
noncomputable def hide (H : Hp) (cs : List (Addr × Obj)) : Hp := fun b => if b ∈ cs.map (·.1) then none else H b
open Classical in
noncomputable def back (H H' : Hp) (cs : List (Addr × Obj)) : Hp := fun b => if b ∈ cs.map (·.1) then H b else H' b
section
variable {H H' : Hp} {cs : List (Addr × Obj)} {b : Addr}
theorem hide_in (h : b ∈ cs.map (·.1)) : hide H cs b = none := if_pos h
theorem hide_out (h : b ∉ cs.map (·.1)) : hide H cs b = H b := if_neg h
theorem back_in (h : b ∈ cs.map (·.1)) : back H H' cs b = H b := if_pos h
theorem back_out (h : b ∉ cs.map (·.1)) : back H H' cs b = H' b := if_neg h
theorem hide_none (h : H b = none) : hide H cs b = none := by
  by_cases z : b ∈ cs.map (·.1)
  · exact hide_in z
  · rw [hide_out z]; exact h
theorem hide_some {o : HO} (h : hide H cs b = some o) : H b = some o ∧ b ∉ cs.map (·.1) := by
  by_cases z : b ∈ cs.map (·.1)
  · rw [hide_in z] at h; cases h
  · rw [hide_out z] at h; exact ⟨h, z⟩
/-- at these places stand just these objects -/
def CellsAt (H : Hp) (cs : List (Addr × Obj)) : Prop := ∀ p ∈ cs, H p.1 = some (FunO p.1 p.2)
theorem CellsAt.at (h : CellsAt H cs) (z : b ∈ cs.map (·.1)) : ∃ o, H b = some (FunO b o) := by
  obtain ⟨p, hp, rfl⟩ := List.mem_map.mp z
  exact ⟨p.2, h p hp⟩
theorem CellsAt.keep (h : CellsAt H cs) {o : HO} (e : H b = some o) (hn : ∀ u, o ≠ FunO b u) : hide H cs b = some o := by
  rw [hide_out fun z => ?_]
  · exact e
  · obtain ⟨u, hu⟩ := h.at z
    rw [e] at hu
    exact hn u (Option.some.inj hu)
variable {P : Program} {w : World} {K : PySem.W.Frag} {mg : Str → Option Value} {base : Heap}
theorem hok_hide {h : Heap} (x : HOk P w H h) (hc : CellsAt H cs) : HOk P w (hide H cs) h := fun a o e => by
  obtain ⟨e1, _⟩ := hide_some e
  refine (x a o e1).stay (fun _ _ _ q => q) (fun d q => hc.keep q fun u z => by unfold FunO at z; cases z) fun d xs q => hc.keep q fun u z => by unfold FunO at z; cases z
theorem env0_hide {A : Around} {outer : List Env} {s : Shared} (e0 : Env0 P w K mg base A outer s H) (hc : CellsAt H cs) : Env0 P w K mg base A outer s (hide H cs) :=
  ⟨e0.frames, e0.mod, fun b o e => ⟨(e0.bs b o e).1, hide_none (e0.bs b o e).2⟩, e0.bsz, e0.funs, fun b hb => hide_none (e0.frf b hb), hok_hide e0.hok hc, e0.bare⟩
theorem kn_hide {v : V} (h : Kn K H v) (hc : CellsAt H cs) : Kn K (hide H cs) v := by
  cases v with
  | ref a =>
    rcases h with ⟨xs, h⟩ | ⟨xs, h⟩ | ⟨kvs, h⟩
    · exact .inl ⟨xs, hc.keep h fun u z => by unfold FunO at z; cases z⟩
    · exact .inr (.inl ⟨xs, hc.keep h fun u z => by unfold FunO at z; cases z⟩)
    · exact .inr (.inr ⟨kvs, hc.keep h fun u z => by unfold FunO at z; cases z⟩)
  | _ => exact h
theorem kn_exN {v : V} (h : Kn K H v) (e : ExtN H H') : Kn K H' v := by
  cases v with
  | ref a =>
    rcases h with ⟨xs, h⟩ | ⟨xs, h⟩ | ⟨kvs, h⟩
    · exact .inl ⟨xs, e _ _ h fun ps z => by cases z⟩
    · exact .inr (.inl ⟨xs, e _ _ h fun ps z => by cases z⟩)
    · exact .inr (.inr ⟨kvs, e _ _ h fun ps z => by cases z⟩)
  | _ => exact h
/-- an exception that came by the hidden view, told of the whole -/
theorem cx_back {outer : List Env} {s s' : Shared} {E E' : XK} {u : Value} (hc : CellsAt H cs) (hok : HOk P w H s.heap) (frf : ∀ b ∈ frs outer, H b = none) (hE : ∀ cls d H', E' cls d H' → E cls d (back H H' cs)) (h : L2.CX P w outer (hide H cs) s E' u s') : L2.CX P w outer H s E u s' := by
  obtain ⟨a, B, H', cls, d, rfl, fl, hB, ub, na, os, ag, q⟩ := h
  have cB : ∀ b, b ∈ cs.map (·.1) → ∃ o, H b = some (FunO b o) ∧ s.heap.get? b = some o ∧ B.get? b = some o := fun b hb => by
    obtain ⟨o, ho⟩ := hc.at hb
    have g1 : s.heap.get? b = some o := (hok b _ ho).1
    exact ⟨o, ho, g1, ub.keep b o g1 (hide_in hb) fun z => by have := frf b z; rw [ho] at this; cases this⟩
  have nb : ∀ b o, H' b = some o → b ∉ cs.map (·.1) := fun b o e hb => by
    obtain ⟨u, h1, h2, h3⟩ := cB b hb
    rw [ub.free b u h2 (hide_in hb)] at e
    cases e
  have toH' : ∀ b o, H b = some o → (∀ u, o ≠ FunO b u) → b ∉ cs.map (·.1) := fun b o e hn hb => by
    obtain ⟨u, hu⟩ := hc.at hb
    rw [e] at hu
    exact hn u (Option.some.inj hu)
  refine ⟨a, B, back H H' cs, cls, d, rfl, fl, fun b o e => ?_, ⟨fun b o e n nf => ub.keep b o e (hide_none n) nf, ub.slot, fun b o e n => ?_, ub.there, fun b xs e => ?_, fun b o xs e => ?_, fun b ps e => ?_⟩, ?_, os, ag, hE _ _ _ q⟩
  · by_cases z : b ∈ cs.map (·.1)
    · obtain ⟨u, h1, h2, h3⟩ := cB b z
      rw [back_in z, h1] at e
      cases e
      exact funO_ok h3
    · rw [back_out z] at e
      refine (hB b o e).stay (fun _ _ _ q => q) (fun d q => ?_) fun d xs q => ?_
      · rw [back_out (nb d _ q)]; exact q
      · rw [back_out (nb d _ q)]; exact q
  · by_cases z : b ∈ cs.map (·.1)
    · rw [back_in z]; exact n
    · rw [back_out z]; exact ub.free b o e (hide_none n)
  · have z := toH' b _ e fun u q => by unfold FunO at q; cases q
    rw [back_out z]
    exact ub.tups b xs (by rw [hide_out z]; exact e)
  · have z := toH' b _ e fun u q => by unfold FunO at q; cases q
    rw [back_out z]
    exact ub.frzs b o xs (by rw [hide_out z]; exact e)
  · have z := toH' b _ e fun u q => by unfold FunO at q; cases q
    rw [back_out z]
    exact ub.tbls b ps (by rw [hide_out z]; exact e)
  · have z : a ∉ cs.map (·.1) := fun hb => by
      obtain ⟨u, h1, h2, h3⟩ := cB a hb
      rw [fl.2.1] at h3
      cases h3
    rw [back_out z]
    exact na
theorem ex_back (hc : CellsAt H cs) (e : Ex (hide H cs) H') : Ex H (back H H' cs) := fun b o h => by
  by_cases z : b ∈ cs.map (·.1)
  · rw [back_in z]; exact h
  · rw [back_out z]; exact e b o (by rw [hide_out z]; exact h)
end
end RG
namespace RG
open PySem PySem.Spec PyProof.Rows L2 Evl RS LamX
section
variable {P : Program} {w : World} {K : PySem.W.Frag} {mg : Str → Option Value} {base : Heap}
/-- a kept lambda without parameters, called, raises C -/
def LamRzOk (P : Program) (w : World) (K : PySem.W.Frag) (mg : Str → Option Value) (base : Heap) (k : Nat) (f d : Addr) (o : Obj) (q : Str) (cs : List (Addr × Obj)) (vs : List V) (C : Addr) : Prop :=
  ∀ (A : Around) (outer : List Env) (s : Shared) (H : Hp) (E : XK), Room k A → Env0 P w K mg base A outer s H → H f = some (FunO f o) → H d = some (CodeO d q) → CellsAt H cs → (∀ v ∈ vs, Kn K H v) → (∀ H', Ex H H' → E (.ref C) none H') →
    codeAny (model P w) A (.call (.ref f) ⟨[], []⟩) (CR (L2.CX P w) outer P w H s (fun _ _ => False) E) s
structure LamRz (P : Program) (w : World) (K : PySem.W.Frag) (mg : Str → Option Value) (base : Heap) (k : Nat) (H : Hp) (f C : Addr) : Prop where
  ex : ∃ (d : Addr) (q : Str) (params : Arguments) (body : Expr) (scope : Scope) (cl : List (Str × Addr)) (pm ctv : Value) (cs : List (Addr × Obj)) (vs : List V), H f = some (FunO f (lamOC q params body scope cl pm d ctv)) ∧ H d = some (CodeO d q) ∧ CellsAt H cs ∧ (∀ v ∈ vs, Kn K H v) ∧
    LamRzOk P w K mg base k f d (lamOC q params body scope cl pm d ctv) q cs vs C
theorem LamRz.exN {k : Nat} {H H' : Hp} {f C : Addr} (h : LamRz P w K mg base k H f C) (e : ExtN H H') : LamRz P w K mg base k H' f C := by
  obtain ⟨d, q, params, body, scope, cl, pm, ctv, cs, vs, h1, h2, h3, h4, h5⟩ := h
  exact ⟨d, q, params, body, scope, cl, pm, ctv, cs, vs, e _ _ h1 funO_ne, e _ _ h2 codeO_ne, fun p hp => e _ _ (h3 p hp) funO_ne, fun v hv => kn_exN (h4 v hv) e, h5⟩
end
theorem lamRz_of {X : Cx} {σ : L2.St} {cs : List (Addr × Obj)} {vs : List V} {C f d : Addr} {params : Arguments} {body : Expr} {scope : Scope} {pm ctv : Value} {k : Nat} (ok : X.Ok) (L : LamS X.env.scope scope) (hlen : σ.length = X.N.length)
    (hcs : ∀ y c, X.env.cells.lookup y = some c → (y, NameKind.free) ∈ scope.names → ∃ o v, (c, o) ∈ cs ∧ o.data = .cell v)
    (hcell : ∀ (i : Nat) (y : Str) (v : V), X.N[i]? = some y → σ[i]? = some (some v) → scope.names.lookup y = some .free → ∃ c o u, X.env.cells.lookup y = some c ∧ (c, o) ∈ cs ∧ o.data = .cell (some u) ∧ RelV v u)
    (hb : bindArgs (PySem.W.kla_fn "<lambda>" (X.env.qual ++ "<lambda>") params body scope (cloFrom X.env.cells scope.names []) pm (.ref d) ctv) ⟨[], []⟩ = pure [])
    (hbody : ∀ (A : Around) (outer : List Env) (s : Shared) (H : Hp) (E : XK), Room k (A.deeper (lamEnv X scope s.heap.objs.size f d)) → (∀ v ∈ vs, Kn X.K H v) → (∀ H', Ex H H' → E (.ref C) none H') → ∃ t, PE (lamCx X A outer s H E scope f d) body t ∧ ∀ Q, t σ H Q) :
    LamRzOk X.prog X.w X.K X.mg X.base (k + 1) f d (lamOC (X.env.qual ++ "<lambda>") params body scope (cloFrom X.env.cells scope.names []) pm d ctv) (X.env.qual ++ "<lambda>") cs vs C := by
  intro A outer s H E hr e0 gf gd hc hk hE
  have of1 : s.heap.get? f = some (lamOC (X.env.qual ++ "<lambda>") params body scope (cloFrom X.env.cells scope.names []) pm d ctv) := (e0.hok f _ gf).1
  obtain ⟨⟨oc, ws, t, k1, k2, k3⟩, _, _⟩ := e0.hok d _ gd
  have lim : s.heap.NoLimit := e0.mod.nolimit.keeps fun b o e => (e0.bs b o e).1
  have e1 := env0_hide e0 hc
  have cell : ∀ {c o}, (c, o) ∈ cs → s.heap.get? c = some o ∧ hide H cs c = none := fun {c o} h => ⟨(e0.hok c _ (hc (c, o) h)).1, hide_in (List.mem_map_of_mem h)⟩
  have run : codeAny (model X.prog X.w) A (.call (.ref f) ⟨[], []⟩) (CR (L2.CX X.prog X.w) outer X.prog X.w (hide H cs) s (fun _ _ => False) (fun cls dd H' => E cls dd (back H H' cs))) s := by
    refine PySem.W.kla_callFunE hr.depth of1 rfl L.co L.gen rfl ⟨d, oc, ws, t, rfl, k1, k2, k3⟩ ?_
    rw [hb]
    refine wpAny_pure (wpAny_newFunctionEnv (fun y hy => (L.own y hy).2) (fun y hy => absurd hy (by simp)) (fun hh hns hsb => ⟨lim.fresh _ hsb, PySem.W.kla_codeExpr ?_⟩) L.kind)
    have kp : ∀ b o, s.heap.get? b = some o → hh.get? b = some o := fun b o e => hsb.extBut b o (Nat.ne_of_lt (Heap.lt_size e)) (Heap.get?_push_of_some _ e)
    have J : L2.Inv (lamCx X A outer s (hide H cs) (fun cls dd H' => E cls dd (back H H' cs)) scope f d) [] σ (hide H cs) { s with heap := hh, toks := s.toks + ([] : List (Str × Value)).length } := by
      refine clo_start ok L hlen e1 hr.hd (fun y c e => ?_) (fun i y v h1 h2 h3 => ?_) hns kp
      · obtain ⟨h1, h2⟩ := clo_look ok L e
        obtain ⟨o, v, h3, h4⟩ := hcs y c h1 h2
        exact ⟨⟨v, o, (cell h3).1, h4⟩, (cell h3).2⟩
      · obtain ⟨c, o, u, g1, g2, g3, g4⟩ := hcell i y v h1 h2 h3
        exact ⟨c, u, g1, g4, o, (cell g2).1, g3⟩
    obtain ⟨t, ht, hq⟩ := hbody A outer s (hide H cs) (fun cls dd H' => E cls dd (back H H' cs)) (hr.deeper _) (fun v hv => kn_hide (hk v hv) hc) fun H' e => hE _ (ex_back hc e)
    refine wpAny_mono (ht.run [] _ _ (hide H cs) (fun _ _ => False) J (hq _)) (fun u s' hw => ?_) fun e s' he => he
    obtain ⟨_, _, _, _, z⟩ := hw
    exact z.elim
  refine codeAny_mono run fun r s' hr' => ?_
  match r, hr' with
  | .error e, hr' => exact cx_back hc e0.hok e0.frf (fun _ _ _ h => h) hr'
  | .ok (.ret u), hr' =>
    obtain ⟨_, _, _, _, _, _, _, z⟩ := hr'
    exact z.elim
  | .ok .next, hr' => exact False.elim hr'
  | .ok .brk, hr' => exact False.elim hr'
  | .ok .cont, hr' => exact False.elim hr'
/-- a(), the slot of a holds such a lambda -/
def tCallRz (P : Program) (w : World) (K : PySem.W.Frag) (mg : Str → Option Value) (base : Heap) (k i : Nat) (W : WX) : TE := fun σ H _ => ∃ f C, σ[i]? = some (some (.ref f)) ∧ LamRz P w K mg base k H f C ∧ ∀ H', Ex H H' → W (.ref C) none σ H'
theorem pe_callRz {X : Cx} {W : WX} {k i : Nat} {a : Str} {p pos : Pos} (tk : Takes X W) (hr : Room k X.A) (hN : X.N[i]? = some a) (hv : Vis X.env.scope a) (hdb : (a == ("__debug__" : Str)) = false := by decide) (hcd : (a == ("__classdict__" : Str)) = false := by decide) :
    PE X (.Call (.Name a p) [] [] pos) (tCallRz X.prog X.w X.K X.mg X.base k i W) := by
  refine ⟨fun pins s σ H Q I h => ?_⟩
  obtain ⟨f, C, hs, hl, hW⟩ := h
  refine wpAny_Call_Name_kw (thn ((pe_var (pos := p) hN hv hdb hcd).run pins s σ H (fun v H1 => v = .ref f ∧ H1 = H) I ⟨.ref f, hs, rfl, rfl⟩) fun u s1 ⟨v, H1, I1, r1, q1⟩ => ?_)
  obtain ⟨ev, rfl⟩ := q1
  subst ev
  obtain rfl : u = Value.ref f := r1
  obtain ⟨d, q, params, body, scope, cl, pm, ctv, cs, vs, h1, h2, h3, h4, h5⟩ := hl
  refine PySem.W.callWith_F0 ⟨_, _, _, _, (I1.hok f _ h1).1⟩ ?_
  refine wpAny_call (codeAny_mono (h5 X.A X.stack s1 H1 (WE W σ) hr I1.env0 h1 h2 h3 h4 fun H' e => hW H' e) fun r s3 hr3 => ?_)
  match r, hr3 with
  | .error e, hr3 => exact (passAt tk σ) pins H1 s1 e s3 I1 hr3
  | .ok (.ret z), hr3 =>
    obtain ⟨_, _, _, _, _, _, _, z⟩ := hr3
    exact z.elim
  | .ok .next, hr3 => exact False.elim hr3
  | .ok .brk, hr3 => exact False.elim hr3
  | .ok .cont, hr3 => exact False.elim hr3
/-- a cell of the running frame, and what stands in it -/
theorem cell_of {X : Cx} {pins : List (Addr × Obj)} {σ : L2.St} {H : Hp} {s : Shared} (I : L2.Inv X pins σ H s) {i : Nat} {y : Str} {v : V} (hN : X.N[i]? = some y) (hs : σ[i]? = some (some v)) (hk : X.env.scope.names.lookup y = some .cell) :
    ∃ c o u, X.env.cells.lookup y = some c ∧ s.heap.get? c = some o ∧ o.data = .cell (some u) ∧ RelV v u := by
  obtain ⟨m, hn, hl⟩ := I.loc
  obtain ⟨u, rv, lk⟩ := hl i y v hN hs (.inr (.inl hk))
  rcases lk with ⟨k, _⟩ | ⟨_, c, h1, o, h2, h3⟩
  · have k : X.env.scope.names.lookup y = some .local := k
    rw [hk] at k
    cases k
  · exact ⟨c, o, u, h1, h2, h3, rv⟩
/-! ### a frame's end: its cells are things from now on -/
def track (H : Hp) (cs : List (Addr × Obj)) : Hp := fun b => match cs.lookup b with
  | some o => some (FunO b o)
  | none => H b
section
variable {H H' : Hp} {cs : List (Addr × Obj)} {b : Addr}
theorem lookup_mem : ∀ {cs : List (Addr × Obj)} {b : Addr} {o : Obj}, cs.lookup b = some o → (b, o) ∈ cs
  | [], _, _, h => nomatch h
  | (a, x) :: r, b, o, h => by
    rw [List.lookup_cons] at h
    split at h
    · rename_i z
      have z : b = a := by simpa using z
      cases h
      rw [z]
      exact List.mem_cons_self
    · exact List.mem_cons_of_mem _ (lookup_mem h)
theorem lookup_has : ∀ {cs : List (Addr × Obj)} {b : Addr} {o : Obj}, (b, o) ∈ cs → ∃ x, cs.lookup b = some x
  | [], _, _, h => nomatch h
  | (a, x) :: r, b, o, h => by
    rw [List.lookup_cons]
    split
    · exact ⟨_, rfl⟩
    · rcases List.mem_cons.mp h with z | z
      · cases z
        rename_i q
        simp at q
      · exact lookup_has z
theorem track_out (h : ∀ p ∈ cs, p.1 ≠ b) : track H cs b = H b := by
  unfold track
  cases e : cs.lookup b with
  | none => rfl
  | some o => exact absurd rfl (h (b, o) (lookup_mem e))
theorem track_old {o : HO} (hn : ∀ p ∈ cs, H p.1 = none) (e : H b = some o) : track H cs b = some o := by
  rw [track_out fun p hp z => ?_]
  · exact e
  · have := hn p hp
    rw [z, e] at this
    cases this
theorem track_cells {h : Heap} (hg : ∀ p ∈ cs, h.get? p.1 = some p.2) : CellsAt (track H cs) cs := fun p hp => by
  unfold track
  cases e : cs.lookup p.1 with
  | none =>
    obtain ⟨o, ho⟩ := lookup_has (show (p.1, p.2) ∈ cs from hp)
    rw [e] at ho
    cases ho
  | some o =>
    have h1 := hg _ (lookup_mem e)
    rw [hg p hp] at h1
    rw [Option.some.inj h1]
theorem ex_track (hn : ∀ p ∈ cs, H p.1 = none) : Ex H (track H cs) := fun b o e => track_old hn e
variable {P : Program} {w : World}
theorem ce_track {outer : List Env} {s s' : Shared} {H0 : Hp} {Q : VK} {u : Value} {v : V} (os : s'.os = s.os) (bare : AllBare s'.gens) (un : Un (frs outer) [] H0 H s.heap s'.heap) (hok : HOk P w H s'.heap) (rv : RelV v u)
    (hg : ∀ p ∈ cs, s'.heap.get? p.1 = some p.2) (hn : ∀ p ∈ cs, H p.1 = none) (hs : ∀ p ∈ cs, s.heap.objs.size ≤ p.1) (q : Q v (track H cs)) : CE outer P w H0 s Q u s' := by
  have old : ∀ b o, s.heap.get? b = some o → track H cs b = H b := fun b o e => track_out fun p hp z => by
    have h1 := Heap.lt_size e
    have h2 := hs p hp
    rw [z] at h2
    exact Nat.lt_irrefl _ (Nat.lt_of_lt_of_le h1 h2)
  refine ⟨v, track H cs, os, bare, ⟨un.keep, un.slot, fun b o e n x => by rw [old b o e]; exact un.free b o e n x, un.there, fun b xs e => track_old hn (un.tups b xs e), fun b o u e => track_old hn (un.frzs b o u e), fun b ps e => ?_⟩, fun b o e => ?_, rv, q⟩
  · obtain ⟨more, h⟩ := un.tbls b ps e
    exact ⟨more, track_old hn h⟩
  · unfold track at e
    cases l : cs.lookup b with
    | some x =>
      rw [l] at e
      cases e
      exact funO_ok (hg _ (lookup_mem l))
    | none =>
      rw [l] at e
      exact (hok b o e).stay (fun _ _ _ q => q) (fun d q => track_old hn q) fun d xs q => track_old hn q
end
/-- as okC, the body's end told by the state -/
theorem okR {P : Program} {w : World} {K : PySem.W.Frag} {mg : Str → Option Value} {base : Heap} {c : Addr} {x qual : Str} {st : Stmt} {f : Addr} {fd : FuncData} {N ps : List Str} {k : Nat} {sp : Sp} (hcode : fd.code = .ref c) (F : Fun K x qual st f fd) (S : FnScope N ps (defScope st)) (len : ∀ vs H Q E, sp vs H Q E → vs.length = ps.length)
    (hbody : ∀ (A : Around) (outer : List Env) (s : Shared) (H : Hp) (vs : List V) (Q : VK) (E : XK), Room k (A.deeper (envOfC qual (defScope st) s.heap.objs.size f (.ref c))) → sp vs H Q E →
      ∀ s1, L2.Inv (cxOf CX0 P w K mg base N qual (defScope st) f (.ref c) A outer s H E).nox [] (start N vs) H s1 → wpAny (model P w) (A.deeper (envOfC qual (defScope st) s.heap.objs.size f (.ref c))) (execs (defBody st) (envOfC qual (defScope st) s.heap.objs.size f (.ref c))) (fun fl s' => ∃ u, fl = .ret u ∧ CE outer P w H s Q u s') (fun _ _ => False) s1) :
    FnOk P w K mg base CX0 (k + 1) f fd ps sp := by
  obtain ⟨oc, od, kV, doc, pm, an, cdv, ct, osl, rfl, lk, hcd⟩ := F.ex
  have hcode : cdv = .ref c := hcode
  subst hcode
  refine ⟨len, fun A outer s H args us vs Q E hr e0 hb r hsp => ?_⟩
  have hl := len _ _ _ _ hsp
  have KX : K.In s.heap := e0.mod.kin.keeps fun b o e => (e0.bs b o e).1
  have lim : s.heap.NoLimit := e0.mod.nolimit.keeps fun b o e => (e0.bs b o e).1
  have hkind : ∀ y ∈ ps.zip us, (defScope st).names.lookup y.1 = some .local ∨ ((defScope st).names.lookup y.1 = some .cell ∧ ((cellsFrom (s.heap.objs.size + 1) (defScope st).names []).lookup y.1).isSome = true) := fun ⟨n, v⟩ hy => by
    rcases S.par n (List.of_mem_zip hy).1 with q | q
    · exact .inl q
    · exact .inr ⟨q, PySem.W.cellsFrom_some _ _ _ (.inl q)⟩
  refine codeAny_call_function hr.depth (KX _ _ lk) rfl S.co S.gen rfl (PySem.W.codeRec_of KX hcd) (hb _ _ _ _ ?_)
  refine wpAny_newFunctionEnv_cells S.kind hkind fun env he s1 x => ?_
  subst he
  refine ⟨lim.keeps x.toInCall.keep, codeAny_func ?_⟩
  have I : L2.Inv (cxOf CX0 P w K mg base N qual (defScope st) f (.ref c) A outer s H E) [] (start N vs) H s1 := inv_start S hr.hd e0 hl r x
  refine wpAny_mono (hbody A outer s H vs Q E (hr.deeper _) hsp s1 (I.wish _)) (fun fl s' hs => ?_) fun e s' hs => hs.elim
  obtain ⟨u, rfl, h⟩ := hs
  exact h
section
variable {X : Cx} {pins : List (Addr × Obj)} {σ : L2.St} {H : Hp} {s : Shared}
theorem run_cons {st : Stmt} {rest : List Stmt} {t : TS} {u : L2.St → Hp → Prop} {Post : Flow → Shared → Prop} (h1 : PS X st t) (I : L2.Inv X pins σ H s) (hg : t { nx := u, rt := fun _ _ => False, bk := fun _ _ => False, ct := fun _ _ => False } σ H)
    (k : ∀ σ' H' s', L2.Inv X pins σ' H' s' → u σ' H' → wpAny (model X.prog X.w) X.A (execs rest X.env) Post X.xe s') : wpAny (model X.prog X.w) X.A (execs (st :: rest) X.env) Post X.xe s := by
  refine wpAny_execs_cons (thn (h1.run pins s σ H _ I hg) fun f s1 q => ?_)
  cases f with
  | next =>
    obtain ⟨σ', H', I', q⟩ := q
    exact k σ' H' s1 I' q
  | ret v =>
    obtain ⟨_, _, _, _, _, z⟩ := q
    exact z.elim
  | brk =>
    obtain ⟨_, _, _, z⟩ := q
    exact z.elim
  | cont =>
    obtain ⟨_, _, _, z⟩ := q
    exact z.elim
theorem run_ret {e : Expr} {te : TE} {pos : Pos} {Q : VK} {Post : Flow → Shared → Prop} (h1 : PE X e te) (I : L2.Inv X pins σ H s) (hg : te σ H Q) (k : ∀ v H' s' u, L2.Inv X pins σ H' s' → RelV v u → Q v H' → Post (.ret u) s') : wpAny (model X.prog X.w) X.A (execs [.Return (some e) pos] X.env) Post X.xe s :=
  wpAny_execs_cons (wpAny_Return_some (thn (h1.run pins s σ H _ I hg) fun v s1 ⟨x, H1, I1, r1, q1⟩ => k x H1 s1 v I1 r1 q1))
end
end RG
namespace RG
open PySem PySem.Spec PyProof.Rows L2 Evl RS LamX
/-! ### lists of things while tables grow -/
section
variable {K : PySem.W.Frag} {σ : L2.St} {H : Hp} {ta tr : TA} {te tb : TE} {tu tz : TS} {D : Ends} {B : V → Hp → Prop} {T : List (Addr × Str)}
theorem evb_of {v : V} (h : Ev te σ H v) (hB : ∀ H', B v H') : EvP te σ H B := fun H1 e Q q => h H1 e _ fun H2 e2 => q v H2 e2 (hB H2)
theorem evb_lst {xs : List V} (h : EvA ta σ H xs) (hl : xs.length ≤ 100000) (hB : ∀ p H', H' p = some (.lst xs) → B (.ref p) H') : EvP (tLst ta) σ H B := fun H1 e Q q =>
  h H1 e _ fun H2 e2 => ⟨sz_of hl, fun p np => q _ _ (e2.trans (Ex.new np)) (hB p _ upd_same)⟩
theorem evb_tup {xs : List V} (h : EvA ta σ H xs) (hl : xs.length ≤ 100000) (hB : ∀ p H', H' p = some (.tup xs) → B (.ref p) H') : EvP (tTup ta) σ H B := fun H1 e Q q =>
  h H1 e _ fun H2 e2 => ⟨sz_of hl, fun p np => q _ _ (e2.trans (Ex.new np)) (hB p _ upd_same)⟩
def EvBs (B : V → Hp → Prop) (n : Nat) (tr : TA) (σ : L2.St) (H : Hp) : Prop := ∀ H1, Ex H H1 → ∀ Q : List V → Hp → Prop, (∀ vs H2, Ex H1 H2 → vs.length = n → (∀ v ∈ vs, B v H2) → Q vs H2) → tr σ H1 Q
theorem ebs_nil : EvBs B 0 tNil σ H := fun H1 e Q q => q [] H1 (Ex.refl _) rfl fun v hv => nomatch hv
theorem ebs_cons {n : Nat} (up : ∀ x H H', ExtN H H' → B x H → B x H') (h : EvP te σ H B) (hr : EvBs B n tr σ H) : EvBs B (n + 1) (tCons te tr) σ H := fun H1 e Q q =>
  h H1 e _ fun v H2 e2 hv => hr H2 (e.trans e2) _ fun vs H3 e3 hl hvs => q _ H3 (e2.trans e3) (by rw [List.length_cons, hl]) fun u hu => by
    rcases List.mem_cons.mp hu with rfl | hu
    · exact up _ _ _ (ExtN.of e3) hv
    · exact hvs u hu
/-- l + [things] -/
theorem evB_cat {l : Addr} {us : List V} {n m : Nat} (up : ∀ x H H', ExtN H H' → B x H → B x H') (ha : Ev te σ H (.ref l)) (hx : H l = some (.lst us)) (hn : us.length = n) (hB : ∀ v ∈ us, B v H) (h : EvBs B m tr σ H) (hl : n + m ≤ 1000) : EvB B (n + m) (tOp rCat te (tLst tr)) σ H := fun H1 e Q q =>
  ha H1 e _ fun H2 e2 => h H2 (e.trans e2) _ fun vs H3 e3 hm hvs => ⟨sz_of (by omega), fun b nb => by
    have e4 : Ex H3 (upd H3 b (.lst vs)) := Ex.new nb
    have e04 : Ex H (upd H3 b (.lst vs)) := ((e.trans e2).trans e3).trans e4
    refine ⟨l, b, us, vs, rfl, rfl, e04 _ _ hx, upd_same, sz_of (by omega), fun p np => ?_⟩
    have e5 : Ex (upd H3 b (.lst vs)) (upd (upd H3 b (.lst vs)) p (.lst (us ++ vs))) := Ex.new np
    refine q p _ _ ((e2.trans e3).trans (e4.trans e5)) upd_same (by rw [List.length_append, hn, hm]) fun v hv => ?_
    rcases List.mem_append.mp hv with hv | hv
    · exact up _ _ _ (ExtN.of (e04.trans e5)) (hB v hv)
    · exact up _ _ _ (ExtN.of (e4.trans e5)) (hvs v hv)⟩
/-- for x in things, the tables may grow -/
theorem g_forBN {n i : Nat} (up : ∀ x H H', ExtN H H' → B x H → B x H') (h : EvB B n te σ H) (hT : Tabs T H) (W : L2.St → Prop) (h0 : W σ)
    (hs : ∀ B0, Ex H B0 → ∀ σ' H' x, ExtN B0 H' → Tabs T H' → W σ' → B x H' → Go tu { D with nx := fun σ2 H2 => ExtN B0 H2 ∧ Tabs T H2 ∧ W σ2, ct := fun σ2 H2 => ExtN B0 H2 ∧ Tabs T H2 ∧ W σ2, bk := tz D } (σ'.set i (some x)) H')
    (hd : ∀ B0, ExtN H B0 → Tabs T B0 → ∀ σ', W σ' → Go tz D σ' B0) : Go (tSeq (tFor (iList K te) (gName i) tu) tz) D σ H := fun H' e =>
  h H' e _ fun p vs B0 e2 hp hl hB => by
    have eB : Ex H B0 := e.trans e2
    refine ⟨p, rfl, ⟨vs, sq_of hp⟩, ?_⟩
    refine for_it (D := { D with nx := tz D }) (G := fun H3 => SqL K H3 p vs) walk_list (fun m σ' H3 => ExtN B0 H3 ∧ Tabs T H3 ∧ W σ') ⟨ExtN.refl _, hT.ext eB, h0⟩ (fun m σ' H3 _ w => sq_of (extN_lst w.1 hp)) (fun m x σ' H3 H4 hm w y => ?_) (fun σ' H3 w => (hd H3 ((ExtN.of eB).trans w.1) w.2.1 σ' w.2.2).at)
    obtain ⟨rfl, y2⟩ := y
    exact (hs B0 eB σ' _ x w.1 w.2.1 w.2.2 (up _ _ _ w.1 (hB x (List.mem_of_getElem? y2)))).at
theorem g_par2P {i j : Nat} {R1 R2 : V → Hp → Prop} (h1 : EvP te σ H R1) (h2 : EvP tb σ H R2) (m1 : ∀ v H H', Ex H H' → R1 v H → R1 v H') (k : ∀ u v H1, Ex H H1 → R1 u H1 → R2 v H1 → Go tz D ((σ.set i (some u)).set j (some v)) H1) : Go (tSeq (tPar i j (tCons te (tCons tb tNil))) tz) D σ H := fun H' e =>
  h1 H' e _ fun u H1 e1 r1 => h2 H1 (e.trans e1) _ fun v H2 e2 r2 => ⟨u, v, rfl, (k u v H2 ((e.trans e1).trans e2) (m1 _ _ _ e2 r1) r2).at⟩
theorem evp_lstB {n : Nat} (up : ∀ x H H', ExtN H H' → B x H → B x H') (h : EvBs B n tr σ H) (hn : n ≤ 1000) : EvP (tLst tr) σ H fun v H' => ∃ p vs, v = .ref p ∧ H' p = some (.lst vs) ∧ vs.length = n ∧ ∀ x ∈ vs, B x H' := fun H1 e Q q =>
  h H1 e _ fun vs H2 e2 hl hvs => ⟨sz_of (by omega), fun p np => q _ _ (e2.trans (Ex.new np)) ⟨p, vs, rfl, upd_same, hl, fun v hv => up _ _ _ (ExtN.of (Ex.new np)) (hvs v hv)⟩⟩
theorem g_ifNotNt (hT : Tabs T H) (h : EvNt T te σ H (.bl true)) (k : ∀ H1, ExtN H H1 → Tabs T H1 → Go tz D σ H1) : Go (tSeq (tIfS (tNot (tB te)) tu tNext) tz) D σ H := fun H' e =>
  h H' (ExtN.of e) (hT.ext e) _ fun H1 e1 T1 => ⟨true, rfl, (k H1 ((ExtN.of e).trans e1) T1).at⟩
variable {α : Type} {row : α → List Pr}
/-- a list of rows -/
def EvRw (row : α → List Pr) (te : TE) (σ : L2.St) (H : Hp) (xs : List α) : Prop := ∀ H1, Ex H H1 → ∀ Q : VK, (∀ p vs H2, Ex H1 H2 → H2 p = some (.lst vs) → RowsU H2 row vs xs → Q (.ref p) H2) → te σ H1 Q
theorem evRw_cat {l : Addr} {us : List V} {xs ys : List α} (ha : Ev te σ H (.ref l)) (hx : H l = some (.lst us)) (hF : RowsU H row us xs) (h : EvRs row tr σ H ys) (hl : xs.length + ys.length ≤ 1000) : EvRw row (tOp rCat te (tLst tr)) σ H (xs ++ ys) := fun H1 e Q q =>
  ha H1 e _ fun H2 e2 => h H2 (e.trans e2) _ fun vs H3 e3 hF2 => ⟨sz_of (by rw [hF2.len]; omega), fun b nb => by
    have e4 : Ex H3 (upd H3 b (.lst vs)) := Ex.new nb
    have e04 : Ex H (upd H3 b (.lst vs)) := ((e.trans e2).trans e3).trans e4
    refine ⟨l, b, us, vs, rfl, rfl, e04 _ _ hx, upd_same, sz_of (by rw [hF.len, hF2.len]; omega), fun p np => ?_⟩
    have e5 : Ex (upd H3 b (.lst vs)) (upd (upd H3 b (.lst vs)) p (.lst (us ++ vs))) := Ex.new np
    exact q p _ _ ((e2.trans e3).trans (e4.trans e5)) upd_same ((hF.ex (e04.trans e5)).app (hF2.ex (e4.trans e5)))⟩
/-- what is told of rows of plain values -/
def Flat (row : α → List Pr) : Prop := ∀ x, ∃ vs : List V, row x = vs.map prV
theorem rowU_flat {H' : Hp} : ∀ {vs us : List V}, RowU H' us (vs.map prV) → us = vs
  | [], us, h => h.nil
  | v :: vs, us, h => by
    obtain ⟨u, ur, rfl, h1, h2⟩ := RowU.uncons h
    rw [show u = v from h1, rowU_flat h2]
/-- for a, b in rows of plain values, the tables may grow -/
theorem g_forRowsN {xs : List α} {js : List Nat} {vals : α → List V} (hv : ∀ x, row x = (vals x).map prV) (h : EvRw row te σ H xs) (hj : ∀ x, (vals x).length = js.length) (hT : Tabs T H) (W : L2.St → Prop) (h0 : W σ)
    (hs : ∀ B0, Ex H B0 → ∀ x ∈ xs, ∀ σ' H', ExtN B0 H' → Tabs T H' → W σ' → Go tu { D with nx := fun σ2 H2 => ExtN B0 H2 ∧ Tabs T H2 ∧ W σ2, ct := fun σ2 H2 => ExtN B0 H2 ∧ Tabs T H2 ∧ W σ2, bk := tz D } (setL σ' js (vals x)) H')
    (hd : ∀ B0, ExtN H B0 → Tabs T B0 → ∀ σ', W σ' → Go tz D σ' B0) : Go (tSeq (tFor (iList K te) (gTup K js.length (gNames js)) tu) tz) D σ H := fun H' e =>
  h H' e _ fun p vs B0 e2 hp hR => by
    have eB : Ex H B0 := e.trans e2
    refine ⟨p, rfl, ⟨vs, sq_of hp⟩, ?_⟩
    refine for_it (D := { D with nx := tz D }) (G := fun H3 => SqL K H3 p vs) (hR.len ▸ walk_list) (fun m σ' H3 => ExtN B0 H3 ∧ Tabs T H3 ∧ W σ') ⟨ExtN.refl _, hT.ext eB, h0⟩ (fun m σ' H3 _ w => sq_of (extN_lst w.1 hp)) (fun m x σ' H3 H4 hm w y => ?_) (fun σ' H3 w => (hd H3 ((ExtN.of eB).trans w.1) w.2.1 σ' w.2.2).at)
    obtain ⟨rfl, y2⟩ := y
    obtain ⟨u, z, g1, g2, g3⟩ := hR.get m hm
    rw [g1] at y2
    cases y2
    obtain ⟨a, us, rfl, a1, a2⟩ := g3
    rw [hv] at a2
    have hu := rowU_flat a2
    subst hu
    refine ⟨a, _, rfl, st_of (extN_tup w.1 a1), hj z, gNames_go js _ _ (hj z) ?_⟩
    exact (hs B0 eB z g2 σ' _ w.1 w.2.1 w.2.2).at
/-- over a list of pairs that is made on the way -/
theorem ef_pairsLT {L : List (Int × Int)} {j k : Nat} (h : EvLT te σ H (L.map fun x => [V.int x.1, V.int x.2])) :
    EvF (iList K te) (gTup K 2 (gCons (gName j) (gCons (gName k) gNil))) σ H L.length fun i σ' => (σ'.set j (some (.int (L.getD i (0, 0)).1))).set k (some (.int (L.getD i (0, 0)).2)) := fun H1 e R r =>
  h H1 e _ fun p us H2 _ e2 hs hf => ⟨p, rfl, ⟨us, sq_of hs⟩, r _ H2 e2 ⟨_, (show us.length = L.length by rw [hf.1, List.length_map]) ▸ walk_list.mono (fun H' (e' : Ex H2 H') => sq_of (e' p _ hs)) (fun _ _ _ _ _ _ y => y), fun i σ' H' x H'' hi e' y Q q => by
    obtain ⟨rfl, y2⟩ := y
    have hg : L.getD i (0, 0) = L[i] := by simp [List.getD, hi]
    obtain ⟨a, h1, h2⟩ := hf.2 i [V.int L[i].1, V.int L[i].2] (by rw [List.getElem?_map, List.getElem?_eq_getElem hi]; rfl)
    rw [h1] at y2
    cases y2
    refine ⟨a, _, rfl, st_of (e' a _ h2), rfl, _, _, rfl, _, _, rfl, rfl, ?_⟩
    have z : Q ((σ'.set j (some (.int (L.getD i (0, 0)).1))).set k (some (.int (L.getD i (0, 0)).2))) H'' := q H'' (Ex.refl _)
    rw [hg] at z
    exact z⟩⟩
theorem el_pairsLT {L : List (Int × Int)} {j k : Nat} {tx : TE} (f : Int × Int → V) (h : EvLT te σ H (L.map fun x => [V.int x.1, V.int x.2])) (hl : L.length ≤ 50000)
    (hw : ∀ a b, wipe (((wipe σ [j, k]).set j a).set k b) [j, k] = wipe σ [j, k])
    (he : ∀ H2, Ex H H2 → ∀ x ∈ L, Ev tx (((wipe σ [j, k]).set j (some (.int x.1))).set k (some (.int x.2))) H2 (f x)) :
    EvL (tLc (iList K te) (gTup K 2 (gCons (gName j) (gCons (gName k) gNil))) tYes tx [j, k]) σ H (L.map f) := by
  rw [← given_mapI L (0, 0) f]
  exact el_lcF (fun _ => true) (fun i => f (L.getD i (0, 0))) (ef_pairsLT h) hl (fun i hi => hw _ _) (fun _ _ _ _ => et_yes) fun H2 e2 i hi _ => he H2 e2 _ (by
    have : L.getD i (0, 0) = L[i] := by simp [List.getD, hi]
    rw [this]
    exact List.getElem_mem hi)
end
end RG
namespace RG
open PySem PySem.Spec PyProof.Rows L2 Evl RS
theorem all_cons {α : Type} {P : α → Prop} {x : α} {xs : List α} (h : P x) (t : ∀ y ∈ xs, P y) : ∀ y ∈ x :: xs, P y := fun y hy => by
  rcases List.mem_cons.mp hy with rfl | hy
  · exact h
  · exact t y hy
theorem all_nil {α : Type} {P : α → Prop} : ∀ y ∈ ([] : List α), P y := fun y hy => nomatch hy
/-! ### gaps, as worked out on paper -/
def nearestB (p s n a d b e : Int) : Bool := decide (1 ≤ a ∧ 1 ≤ b ∧ 0 < d ∧ 0 < e ∧ d * b + e * a = p ∧ a * s % p = d ∧ b * s % p = p - e ∧ a < n ∧ b < n ∧ n ≤ a + b) && (List.range (a + b).toNat).all fun k => decide (k = 0) || decide (d ≤ (k : Int) * s % p ∧ (k : Int) * s % p ≤ p - e)
theorem nearest_of {p s n a d b e : Int} (h : nearestB p s n a d b e = true) : Nearest p s n a d b e := by
  unfold nearestB at h
  rw [Bool.and_eq_true, decide_eq_true_iff, List.all_eq_true] at h
  obtain ⟨⟨h1, h2, h3, h4, h5, h6, h7, h8, h9, h10⟩, h11⟩ := h
  refine ⟨⟨h1, h2, h3, h4, h5, h6, h7, fun k k0 k1 => ?_⟩, h8, h9, h10⟩
  have z := h11 k.toNat (List.mem_range.mpr (by omega))
  rw [Bool.or_eq_true, decide_eq_true_iff, decide_eq_true_iff] at z
  have e1 : ((k.toNat : Nat) : Int) = k := by omega
  rw [e1] at z
  rcases z with z | z
  · omega
  · exact z
abbrev GC := Int × Int × Int × List (Int × Int)
def gRow (K : PySem.W.Frag) (x : GC) : List Pr := [prV (.int x.1), prV (.int x.2.1), prV (.int x.2.2.1), prD K (.list (dPairs x.2.2.2))]
structure GapOk (x : GC) : Prop where
  R : Ring x.1 x.2.1
  l : Lv 1 x.1
  m1 : 1 ≤ x.2.2.1
  m2 : x.2.2.1 ≤ top x.1 x.2.1
  g : gapsOf x.1 x.2.1 x.2.2.1 = x.2.2.2
theorem gok_n {p s m a d b e : Int} {L : List (Int × Int)} (R : Ring p s) (l : Lv 1 p) (h2 : 2 ≤ m) (ht : m ≤ top p s) (h : Nearest p s m a d b e) (hL : gapsL m a d b e = L) : GapOk (p, s, m, L) :=
  ⟨R, l, by show 1 ≤ m; omega, ht, (gapsOf_eq (by have := R.p; omega) R.s0 R.s h2 ht h).trans hL⟩
theorem gok_c {p s m : Int} {L : List (Int × Int)} (a d b e : Int) (h : (decide (1 ≤ p ∧ 0 ≤ s ∧ s < p ∧ p ≤ 100 ∧ 2 ≤ m ∧ m ≤ top p s) && nearestB p s m a d b e && decide (gapsL m a d b e = L)) = true) : GapOk (p, s, m, L) := by
  rw [Bool.and_eq_true, Bool.and_eq_true, decide_eq_true_iff, decide_eq_true_iff] at h
  obtain ⟨⟨⟨h1, h2, h3, h4, h5, h6⟩, h7⟩, h8⟩ := h
  exact gok_n ⟨h1, h2, h3⟩ (lv_small (by omega)) h5 h6 (nearest_of h7) h8
theorem gok_1 {p s : Int} (R : Ring p s) (l : Lv 1 p) : GapOk (p, s, 1, [(p, 1)]) := ⟨R, l, Int.le_refl _, by have := top_pos (s := s) (show 0 < p by have := R.p; omega); show 1 ≤ top p s; omega, gapsOf_one⟩
theorem ringc {p s : Int} (h : (decide (1 ≤ p) && decide (0 ≤ s) && decide (s < p)) = true) : Ring p s := by
  rw [Bool.and_eq_true, Bool.and_eq_true, decide_eq_true_iff, decide_eq_true_iff, decide_eq_true_iff] at h
  exact ⟨h.1.1, h.1.2, h.2⟩
section
variable {n : Int}
theorem top_q (hn : 1 ≤ n) : top (4 * n) n = 4 := by rw [Int.mul_comm]; exact top_mult hn
theorem G_q {a b : Int} (hn : 1 ≤ n) : G (a * n) (b * n) = G a b * n := by
  unfold G
  rw [Int.gcd_mul_right, Int.natCast_mul, Int.natAbs_of_nonneg (by omega)]
theorem G_six (hn : 1 ≤ n) : G (6 * n) (4 * n) = 2 * n := by rw [G_q hn]; rfl
theorem top_six (hn : 1 ≤ n) : top (6 * n) (4 * n) = 3 := by
  unfold top
  rw [G_six hn]
  exact Int.ediv_eq_of_eq_mul_left (by omega) (by omega)
theorem gok_q4 (hn : 2 ≤ n) (l : Lv 1 (6 * n)) : GapOk (4 * n, n, 4, [(n, 4)]) := ⟨⟨by show 1 ≤ 4 * n; omega, by show 0 ≤ n; omega, by show n < 4 * n; omega⟩, lv_le l (by show 0 ≤ 4 * n; omega) (by show 4 * n ≤ 6 * n; omega), by show (1 : Int) ≤ 4; decide, by show 4 ≤ top (4 * n) n; rw [top_q (by omega)]; exact Int.le_refl _, by
  show gapsOf (4 * n) n 4 = [(n, 4)]
  rw [Int.mul_comm]
  exact gaps_even (by omega) (by decide)⟩
theorem gok_q3 (hn : 2 ≤ n) (l : Lv 1 (6 * n)) : GapOk (4 * n, n, 3, [(n, 2), (2 * n, 1)]) := by
  refine gok_n (a := 1) (d := n) (b := 2) (e := 2 * n) ⟨by omega, by omega, by omega⟩ (lv_le l (by omega) (by omega)) (by decide) (by rw [top_q (by omega)]; decide) ⟨⟨by omega, by omega, by omega, by omega, by omega, ?_, ?_, fun k k0 k1 => ?_⟩, by omega, by omega, by omega⟩ ?_
  · rw [Int.emod_eq_of_lt (by omega) (by omega)]; omega
  · rw [Int.emod_eq_of_lt (by omega) (by omega)]; omega
  · have : k = 1 ∨ k = 2 := by omega
    rcases this with rfl | rfl <;> rw [Int.emod_eq_of_lt (by omega) (by omega)] <;> omega
  · unfold gapsL
    rw [if_neg (by omega), if_pos (by omega)]
    rfl
theorem gok_n9 (hn : 2 ≤ n) (l : Lv 1 (n + 9)) : GapOk (n + 9, 1, 4, [(1, 3), (n + 6, 1)]) := by
  refine gok_n (a := 1) (d := 1) (b := 3) (e := n + 6) ⟨by omega, by omega, by omega⟩ l (by decide) (by rw [top_one]; omega) ⟨⟨by omega, by omega, by omega, by omega, by omega, ?_, ?_, fun k k0 k1 => ?_⟩, by omega, by omega, by omega⟩ ?_
  · rw [Int.emod_eq_of_lt (by omega) (by omega)]; omega
  · rw [Int.emod_eq_of_lt (by omega) (by omega)]; omega
  · rw [Int.emod_eq_of_lt (by omega) (by omega)]; omega
  · unfold gapsL
    rw [if_neg (by omega), if_pos (by omega)]
    rfl
end
end RG
namespace RG
open PySem PySem.Spec PyProof.Rows L2 Evl RS
/-! ### turns and stretches, as worked out on paper -/
section
variable {n : Int}
theorem cnt_q3 (hn : 2 ≤ n) (x : Int) : cnt (4 * n) n 3 x = (if 0 ≤ x then 1 else 0) + (if n ≤ x then 1 else 0) + (if 2 * n ≤ x then 1 else 0) := by
  show 0 + hit (4 * n) n x 0 + hit (4 * n) n x 1 + hit (4 * n) n x 2 = _
  have h0 : ((0 : Nat) : Int) * n % (4 * n) = 0 := by simp
  have h1 : ((1 : Nat) : Int) * n % (4 * n) = n := by rw [Int.emod_eq_of_lt (by omega) (by omega)]; omega
  have h2 : ((2 : Nat) : Int) * n % (4 * n) = 2 * n := by rw [Int.emod_eq_of_lt (by omega) (by omega)]; omega
  unfold hit
  rw [h0, h1, h2]
  omega
end
noncomputable def bsA (p s m x : Int) : Int := theMark p s m (cnt p s m.toNat x - 1)
noncomputable def bsB (p s m x : Int) : Int := theMark p s m (cnt p s m.toNat x % m)
abbrev BC := Int × Int × Int × Int × (Int × Int)
def bRow (K : PySem.W.Frag) (x : BC) : List Pr := [prV (.int x.1), prV (.int x.2.1), prV (.int x.2.2.1), prV (.int x.2.2.2.1), prD K (.tuple [.int x.2.2.2.2.1, .int x.2.2.2.2.2])]
structure BesOk (x : BC) : Prop where
  R : Ring x.1 x.2.1
  l : Lv 1 x.1
  m1 : 1 ≤ x.2.2.1
  m2 : x.2.2.1 ≤ top x.1 x.2.1
  x0 : 0 ≤ x.2.2.2.1
  x1 : x.2.2.2.1 < x.1
  a : bsA x.1 x.2.1 x.2.2.1 x.2.2.2.1 = x.2.2.2.2.1
  b : bsB x.1 x.2.1 x.2.2.1 x.2.2.2.1 = x.2.2.2.2.2
theorem bok_n {p s m x a b : Int} (R : Ring p s) (l : Lv 1 p) (m1 : 1 ≤ m) (m2 : m ≤ top p s) (x0 : 0 ≤ x) (x1 : x < p) (a0 : 0 ≤ a) (a1 : a < m) (b0 : 0 ≤ b) (b1 : b < m) (ha : cnt p s m.toNat (a * s % p) = cnt p s m.toNat x - 1 + 1) (hb : cnt p s m.toNat (b * s % p) = cnt p s m.toNat x % m + 1) : BesOk (p, s, m, x, (a, b)) :=
  ⟨R, l, m1, m2, x0, x1, theMark_eq (by have := R.p; omega) m2 a0 a1 ha, theMark_eq (by have := R.p; omega) m2 b0 b1 hb⟩
theorem bok_c {p s m x a b : Int} (h : decide ((1 ≤ p ∧ 0 ≤ s ∧ s < p ∧ p ≤ 100) ∧ (1 ≤ m ∧ m ≤ top p s ∧ 0 ≤ x ∧ x < p) ∧ (0 ≤ a ∧ a < m ∧ 0 ≤ b ∧ b < m) ∧ cnt p s m.toNat (a * s % p) = cnt p s m.toNat x - 1 + 1 ∧ cnt p s m.toNat (b * s % p) = cnt p s m.toNat x % m + 1) = true) : BesOk (p, s, m, x, (a, b)) := by
  obtain ⟨⟨h1, h2, h3, h4⟩, ⟨h5, h6, h7, h8⟩, ⟨h9, h10, h11, h12⟩, h13, h14⟩ := of_decide_eq_true h
  exact bok_n ⟨h1, h2, h3⟩ (lv_small (by omega)) h5 h6 h7 h8 h9 h10 h11 h12 h13 h14
theorem ring_q {n : Int} (hn : 2 ≤ n) : Ring (4 * n) n := ⟨by omega, by omega, by omega⟩
theorem bok_q1 {n : Int} (hn : 2 ≤ n) (l : Lv 1 (4 * n)) : BesOk (4 * n, n, 3, 3 * n, (2, 0)) := by
  have e2 : 2 * n % (4 * n) = 2 * n := Int.emod_eq_of_lt (by omega) (by omega)
  have e0 : 0 * n % (4 * n) = 0 := by simp
  refine bok_n (ring_q hn) l (by decide) (by rw [top_q (by omega)]; decide) (by omega) (by omega) (by decide) (by decide) (by decide) (by decide) ?_ ?_
  · show cnt _ _ 3 _ = cnt _ _ 3 _ - 1 + 1
    rw [e2, cnt_q3 hn, cnt_q3 hn]; omega
  · show cnt _ _ 3 _ = cnt _ _ 3 _ % 3 + 1
    rw [e0, cnt_q3 hn, cnt_q3 hn]; omega
theorem bok_q2 {n : Int} (hn : 2 ≤ n) (l : Lv 1 (4 * n)) : BesOk (4 * n, n, 3, n, (1, 2)) := by
  have e2 : 2 * n % (4 * n) = 2 * n := Int.emod_eq_of_lt (by omega) (by omega)
  have e1 : 1 * n % (4 * n) = n := by rw [Int.emod_eq_of_lt (by omega) (by omega)]; omega
  refine bok_n (ring_q hn) l (by decide) (by rw [top_q (by omega)]; decide) (by omega) (by omega) (by decide) (by decide) (by decide) (by decide) ?_ ?_
  · show cnt _ _ 3 _ = cnt _ _ 3 _ - 1 + 1
    rw [e1, cnt_q3 hn]; omega
  · show cnt _ _ 3 _ = cnt _ _ 3 _ % 3 + 1
    rw [e2, cnt_q3 hn, cnt_q3 hn]; omega
abbrev CC := Int × Int × Int × Int × Int × Int
def cRow (x : CC) : List Pr := [prV (.int x.1), prV (.int x.2.1), prV (.int x.2.2.1), prV (.int x.2.2.2.1), prV (.int x.2.2.2.2.1), prV (.int x.2.2.2.2.2)]
structure CntOk (x : CC) : Prop where
  R : Ring x.1 x.2.1
  l : Lv 1 x.1
  m1 : 1 ≤ x.2.2.1
  m2 : x.2.2.1 ≤ top x.1 x.2.1
  b0 : 0 ≤ x.2.2.2.1
  be : x.2.2.2.1 ≤ x.2.2.2.2.1
  ep : x.2.2.2.2.1 < x.1
  c : inCnt x.1 x.2.1 x.2.2.1.toNat x.2.2.2.1 x.2.2.2.2.1 = x.2.2.2.2.2
theorem cok_c {p s m b e d : Int} (h : decide ((1 ≤ p ∧ 0 ≤ s ∧ s < p ∧ p ≤ 100) ∧ (1 ≤ m ∧ m ≤ top p s ∧ 0 ≤ b ∧ b ≤ e ∧ e < p) ∧ inCnt p s m.toNat b e = d) = true) : CntOk (p, s, m, b, e, d) := by
  obtain ⟨⟨h1, h2, h3, h4⟩, ⟨h5, h6, h7, h8, h9⟩, h10⟩ := of_decide_eq_true h
  exact ⟨⟨h1, h2, h3⟩, lv_small (by show p.natAbs ≤ _; omega), h5, h6, h7, h8, h9, h10⟩
theorem cok_n9 {n : Int} (hn : 2 ≤ n) (l : Lv 1 (n + 9)) : CntOk (n + 9, 1, n + 9, 3, n + 5, n + 3) := ⟨⟨by show 1 ≤ n + 9; omega, by show (0 : Int) ≤ 1; decide, by show 1 < n + 9; omega⟩, l, by show 1 ≤ n + 9; omega, by show n + 9 ≤ top (n + 9) 1; rw [top_one]; exact Int.le_refl _, by show (0 : Int) ≤ 3; decide, by show 3 ≤ n + 5; omega, by show n + 5 < n + 9; omega, by
  show cnt (n + 9) 1 (n + 9).toNat (n + 5) - cnt (n + 9) 1 (n + 9).toNat (3 - 1) = n + 3
  rw [cnt_one (by omega) (by omega), cnt_one (by omega) (by omega)]
  omega⟩
theorem cok_q1 {n : Int} (hn : 2 ≤ n) (l : Lv 1 (4 * n)) : CntOk (4 * n, n, 3, n, 2 * n, 2) := ⟨ring_q hn, l, by show (1 : Int) ≤ 3; decide, by show 3 ≤ top (4 * n) n; rw [top_q (by omega)]; decide, by show 0 ≤ n; omega, by show n ≤ 2 * n; omega, by show 2 * n < 4 * n; omega, by
  show cnt (4 * n) n 3 (2 * n) - cnt (4 * n) n 3 (n - 1) = 2
  rw [cnt_q3 hn, cnt_q3 hn]
  omega⟩
theorem cok_q2 {n : Int} (hn : 2 ≤ n) (l : Lv 1 (4 * n)) : CntOk (4 * n, n, 3, n + 1, 4 * n - 1, 1) := ⟨ring_q hn, l, by show (1 : Int) ≤ 3; decide, by show 3 ≤ top (4 * n) n; rw [top_q (by omega)]; decide, by show 0 ≤ n + 1; omega, by show n + 1 ≤ 4 * n - 1; omega, by show 4 * n - 1 < 4 * n; omega, by
  show cnt (4 * n) n 3 (4 * n - 1) - cnt (4 * n) n 3 (n + 1 - 1) = 1
  rw [cnt_q3 hn, cnt_q3 hn]
  omega⟩
theorem mk1035 (t k : Int) (h0 : 0 ≤ k) (h1 : k < 5) (h : cnt 10 3 5 (k * 3 % 10) = t + 1) : theMark 10 3 5 t = k := theMark_eq (by decide) (by decide +kernel) h0 h1 h
theorem mk1045 (t k : Int) (h0 : 0 ≤ k) (h1 : k < 5) (h : cnt 10 4 5 (k * 4 % 10) = t + 1) : theMark 10 4 5 t = k := theMark_eq (by decide) (by decide +kernel) h0 h1 h
theorem mk1 : theMark 1 0 1 0 = 0 := theMark_eq (by decide) (by decide +kernel) (by decide) (by decide) (by decide +kernel)
theorem given_ints {n : Nat} {g : Nat → Int} {L : List Int} (h : (List.range n).map g = L) : given n (fun _ => true) (fun k => V.int (g k)) = L.map V.int := by
  subst h
  show ((List.range n).filter fun _ => true).map _ = _
  rw [List.filter_eq_self.mpr (fun _ _ => rfl), List.map_map]
  rfl
theorem turn_full {n : Int} (hn : 2 ≤ n) : cnt n 1 n.toNat ((n - 1) * 1 % n) - 1 = n - 1 := by
  rw [Int.mul_one, Int.emod_eq_of_lt (by omega) (by omega), cnt_one (by omega) (by omega)]
  omega
theorem mark_full1 {n : Int} (hn : 2 ≤ n) : theMark n 1 n (n - 1) = n - 1 := mark_full (by omega) (RS.G_one n) (by omega) (by omega) (by rw [Int.mul_one, Int.emod_eq_of_lt (by omega) (by omega)])
end RG
namespace RG
open PySem PySem.Spec PyProof.Rows L2 Evl RS
/-! ### answers, as worked out on paper -/
abbrev SC := Int × Int × Int × Int × (Bool × Int) × Bool
def showY (p s b e : Int) (y : Bool × Int) : Bool := if y.1 then showsF p s b e y.2 else showsN p s b e y.2
structure ShowOk (x : SC) : Prop where
  R : Ring x.1 x.2.1
  l : Lv 1 x.1
  b0 : 0 ≤ x.2.2.1
  be : x.2.2.1 ≤ x.2.2.2.1
  ep : x.2.2.2.1 < x.1
  lk : Lv 1 x.2.2.2.2.1.2
  c : showY x.1 x.2.1 x.2.2.1 x.2.2.2.1 x.2.2.2.2.1 = x.2.2.2.2.2
theorem sok_c {p s b e k : Int} {t d : Bool} (h : (decide ((1 ≤ p ∧ 0 ≤ s ∧ s < p ∧ p ≤ 100) ∧ (0 ≤ b ∧ b ≤ e ∧ e < p) ∧ k.natAbs ≤ 100) && decide (showY p s b e (t, k) = d)) = true) : ShowOk (p, s, b, e, (t, k), d) := by
  rw [Bool.and_eq_true, decide_eq_true_iff, decide_eq_true_iff] at h
  obtain ⟨⟨⟨h1, h2, h3, h4⟩, ⟨h5, h6, h7⟩, h8⟩, h9⟩ := h
  exact ⟨⟨h1, h2, h3⟩, lv_small (by show p.natAbs ≤ _; omega), h5, h6, h7, lv_small (by show k.natAbs ≤ _; omega), h9⟩
abbrev FC := Int × Int × Int × Int × Int
structure FirOk (x : FC) : Prop where
  R : Ring x.1 x.2.1
  l : Lv 1 x.1
  b0 : 0 ≤ x.2.2.1
  be : x.2.2.1 ≤ x.2.2.2.1
  ep : x.2.2.2.1 < x.1
  lk : Lv 1 x.2.2.2.2
  f : FirstIn x.1 x.2.1 x.2.2.1 x.2.2.2.1 x.2.2.2.2
theorem fok_c {p s b e k : Int} (h : (decide ((1 ≤ p ∧ 0 ≤ s ∧ s < p ∧ p ≤ 100) ∧ (0 ≤ b ∧ b ≤ e ∧ e < p) ∧ k.natAbs ≤ 100) && showsF p s b e k) = true) : FirOk (p, s, b, e, k) := by
  rw [Bool.and_eq_true, decide_eq_true_iff] at h
  obtain ⟨⟨⟨h1, h2, h3, h4⟩, ⟨h5, h6, h7⟩, h8⟩, h9⟩ := h
  exact ⟨⟨h1, h2, h3⟩, lv_small (by show p.natAbs ≤ _; omega), h5, h6, h7, lv_small (by show k.natAbs ≤ _; omega), (showsF_iff h6).mp h9⟩
abbrev NC := Int × Int × Int × Int
structure NevOk (x : NC) : Prop where
  R : Ring x.1 x.2.1
  l : Lv 1 x.1
  b0 : 0 ≤ x.2.2.1
  be : x.2.2.1 ≤ x.2.2.2
  ep : x.2.2.2 < x.1
  no : ¬ HasM (G x.1 x.2.1) x.2.2.1 x.2.2.2
  sh : showsN x.1 x.2.1 x.2.2.1 x.2.2.2 (G x.1 x.2.1) = true
theorem no_mult {g b e : Int} (hg : 0 < g) (h : e / g * g < b) : ¬ HasM g b e := by
  rintro ⟨c, h1, h2⟩
  have h3 : c ≤ e / g := Int.le_ediv_of_mul_le hg (by rw [Int.mul_comm]; exact h2)
  have h4 : c * g ≤ e / g * g := Int.mul_le_mul_of_nonneg_right h3 (Int.le_of_lt hg)
  have h5 : g * c = c * g := Int.mul_comm _ _
  omega
theorem nok_n {p s b e : Int} (R : Ring p s) (l : Lv 1 p) (b0 : 0 ≤ b) (be : b ≤ e) (ep : e < p) (h : showsN p s b e (G p s) = true) : NevOk (p, s, b, e) := by
  refine ⟨R, l, b0, be, ep, ?_, h⟩
  have hg : 0 < G p s := G_pos (s := s) (by have := R.p; omega)
  unfold showsN at h
  rw [Bool.and_eq_true, decide_eq_true_iff] at h
  exact no_mult hg h.2
theorem nok_c {p s b e : Int} (h : (decide ((1 ≤ p ∧ 0 ≤ s ∧ s < p ∧ p ≤ 100) ∧ (0 ≤ b ∧ b ≤ e ∧ e < p)) && showsN p s b e (G p s)) = true) : NevOk (p, s, b, e) := by
  rw [Bool.and_eq_true, decide_eq_true_iff] at h
  obtain ⟨⟨⟨h1, h2, h3, h4⟩, h5, h6, h7⟩, h9⟩ := h
  exact nok_n ⟨h1, h2, h3⟩ (lv_small (by show p.natAbs ≤ _; omega)) h5 h6 h7 h9
section
variable {n : Int}
theorem showsN_of {p s b e c : Int} (h1 : 1 ≤ c) (h2 : p % c = 0) (h3 : s % c = 0) (h4 : e / c * c < b) : showsN p s b e c = true := by
  unfold showsN
  rw [decide_eq_true h1, decide_eq_true h2, decide_eq_true h3, decide_eq_true h4]
  rfl
theorem six_mod (hn : 2 ≤ n) : 6 * n % (2 * n) = 0 ∧ 4 * n % (2 * n) = 0 ∧ (2 * n - 1) / (2 * n) = 0 ∧ 2 * n / (2 * n) = 1 := by
  refine ⟨?_, ?_, Int.ediv_eq_zero_of_lt (by omega) (by omega), Int.ediv_self (by omega)⟩
  · rw [show 6 * n = 2 * n * 3 by omega]; exact Int.mul_emod_right _ _
  · rw [show 4 * n = 2 * n * 2 by omega]; exact Int.mul_emod_right _ _
theorem first_n9 (hn : 2 ≤ n) : FirstIn (n + 9) 1 n (n + 1) n := first_one (by omega) (by omega) (by omega)
theorem sok_n9 (hn : 2 ≤ n) (l : Lv 1 (n + 9)) : ShowOk (n + 9, 1, n, n + 1, (true, n), true) := ⟨⟨by show 1 ≤ n + 9; omega, by show (0 : Int) ≤ 1; decide, by show 1 < n + 9; omega⟩, l, by show 0 ≤ n; omega, by show n ≤ n + 1; omega, by show n + 1 < n + 9; omega, lv_le l (by show 0 ≤ n; omega) (by show n ≤ n + 9; omega), (showsF_iff (p := n + 9) (s := 1) (b := n) (e := n + 1) (m := n) (by omega)).mpr (first_n9 hn)⟩
theorem sok_n9' (hn : 2 ≤ n) (l : Lv 1 (n + 9)) : ShowOk (n + 9, 1, n, n + 1, (true, n + 1), false) := ⟨⟨by show 1 ≤ n + 9; omega, by show (0 : Int) ≤ 1; decide, by show 1 < n + 9; omega⟩, l, by show 0 ≤ n; omega, by show n ≤ n + 1; omega, by show n + 1 < n + 9; omega, lv_le l (by show 0 ≤ n + 1; omega) (by show n + 1 ≤ n + 9; omega), by
  show showsF (n + 9) 1 n (n + 1) (n + 1) = false
  cases q : showsF (n + 9) 1 n (n + 1) (n + 1) with
  | false => rfl
  | true =>
    have := ((showsF_iff (by omega)).mp q).uniq (first_n9 hn)
    omega⟩
theorem shN2 (hn : 2 ≤ n) : showsN (2 * n) 2 (2 * n - 1) (2 * n - 1) 2 = true := showsN_of (by decide) (by omega) (by decide) (by omega)
theorem sok_2n (hn : 2 ≤ n) (l : Lv 1 (2 * n)) : ShowOk (2 * n, 2, 2 * n - 1, 2 * n - 1, (false, 2), true) := ⟨⟨by show 1 ≤ 2 * n; omega, by show (0 : Int) ≤ 2; decide, by show 2 < 2 * n; omega⟩, l, by show 0 ≤ 2 * n - 1; omega, Int.le_refl _, by show 2 * n - 1 < 2 * n; omega, lv_small (by show (2 : Int).natAbs ≤ _; decide), shN2 hn⟩
theorem shN6 (hn : 2 ≤ n) : showsN (6 * n) (4 * n) 1 (2 * n - 1) (2 * n) = true := by
  obtain ⟨h1, h2, h3, h4⟩ := six_mod hn
  exact showsN_of (by omega) h1 h2 (by rw [h3]; omega)
theorem sok_6n (hn : 2 ≤ n) (l : Lv 1 (6 * n)) : ShowOk (6 * n, 4 * n, 1, 2 * n - 1, (false, 2 * n), true) := ⟨⟨by show 1 ≤ 6 * n; omega, by show 0 ≤ 4 * n; omega, by show 4 * n < 6 * n; omega⟩, l, by show (0 : Int) ≤ 1; decide, by show 1 ≤ 2 * n - 1; omega, by show 2 * n - 1 < 6 * n; omega, lv_le l (by show 0 ≤ 2 * n; omega) (by show 2 * n ≤ 6 * n; omega), shN6 hn⟩
theorem sok_6n' (hn : 2 ≤ n) (l : Lv 1 (6 * n)) : ShowOk (6 * n, 4 * n, 1, 2 * n, (false, 2 * n), false) := ⟨⟨by show 1 ≤ 6 * n; omega, by show 0 ≤ 4 * n; omega, by show 4 * n < 6 * n; omega⟩, l, by show (0 : Int) ≤ 1; decide, by show 1 ≤ 2 * n; omega, by show 2 * n < 6 * n; omega, lv_le l (by show 0 ≤ 2 * n; omega) (by show 2 * n ≤ 6 * n; omega), by
  show showsN (6 * n) (4 * n) 1 (2 * n) (2 * n) = false
  unfold showsN
  rw [(six_mod hn).2.2.2, decide_eq_false (show ¬ 1 * (2 * n) < 1 by omega), Bool.and_false]⟩
theorem fok_n9 (hn : 2 ≤ n) (l : Lv 1 (n + 9)) : FirOk (n + 9, 1, n, n + 1, n) := ⟨⟨by show 1 ≤ n + 9; omega, by show (0 : Int) ≤ 1; decide, by show 1 < n + 9; omega⟩, l, by show 0 ≤ n; omega, by show n ≤ n + 1; omega, by show n + 1 < n + 9; omega, lv_le l (by show 0 ≤ n; omega) (by show n ≤ n + 9; omega), first_n9 hn⟩
theorem fok_q (hn : 2 ≤ n) (l : Lv 1 (4 * n)) : FirOk (4 * n, n, 2 * n, 3 * n, 2) := by
  refine ⟨ring_q hn, l, by show 0 ≤ 2 * n; omega, by show 2 * n ≤ 3 * n; omega, by show 3 * n < 4 * n; omega, lv_small (by show (2 : Int).natAbs ≤ _; decide), ⟨by show (0 : Int) ≤ 2; decide, ?_, fun j j0 j1 hj => ?_⟩⟩
  · show 2 * n ≤ 2 * n % (4 * n) ∧ 2 * n % (4 * n) ≤ 3 * n
    rw [Int.emod_eq_of_lt (by omega) (by omega)]
    omega
  · have j1 : j < 2 := j1
    have hj : 2 * n ≤ j * n % (4 * n) ∧ j * n % (4 * n) ≤ 3 * n := hj
    have : j = 0 ∨ j = 1 := by omega
    rcases this with rfl | rfl
    · rw [Int.zero_mul, Int.zero_emod] at hj
      omega
    · rw [Int.one_mul, Int.emod_eq_of_lt (by omega) (by omega)] at hj
      omega
theorem fok_b (hn : 2 ≤ n) (l : Lv 1 (n + 2)) : FirOk (n + 2, n + 1, 1, 1, n + 1) := ⟨⟨by show 1 ≤ n + 2; omega, by show 0 ≤ n + 1; omega, by show n + 1 < n + 2; omega⟩, l, by show (0 : Int) ≤ 1; decide, Int.le_refl _, by show 1 < n + 2; omega, lv_le l (by show 0 ≤ n + 1; omega) (by show n + 1 ≤ n + 2; omega), by
  have := first_back (p := n + 2) (b := 1) (e := 1) (by decide) (Int.le_refl _) (by omega)
  rw [show n + 2 - 1 = n + 1 by omega] at this
  exact this⟩
theorem nok_2n (hn : 2 ≤ n) (l : Lv 1 (2 * n)) : NevOk (2 * n, 2, 2 * n - 1, 2 * n - 1) := nok_n ⟨by omega, by decide, by omega⟩ l (by omega) (Int.le_refl _) (by omega) (by rw [G_mult (by decide)]; exact shN2 hn)
theorem nok_6n (hn : 2 ≤ n) (l : Lv 1 (6 * n)) : NevOk (6 * n, 4 * n, 1, 2 * n - 1) := nok_n ⟨by omega, by omega, by omega⟩ l (by decide) (by omega) (by omega) (by rw [G_six (by omega)]; exact shN6 hn)
end
end RG
namespace RG
open PySem PySem.Spec PyProof.Rows L2 Evl RS
/-! ### a very great ring -/
section
variable {N a : Int}
theorem ring1 (hN : 10000000000 ≤ N) : Ring N 1 := ⟨by omega, by omega, by omega⟩
theorem ring0 (hN : 10000000000 ≤ N) : Ring N 0 := ⟨by omega, by omega, by omega⟩
theorem ringb (hN : 10000000000 ≤ N) : Ring N (N - 1) := ⟨by omega, by omega, by omega⟩
theorem top_back (hN : 10000000000 ≤ N) : top N (N - 1) = N := by unfold top; rw [G_back (by omega)]; omega
theorem gok_N3 (hN : 10000000000 ≤ N) (l : Lv 1 N) : GapOk (N, 1, 3, [(1, 2), (N - 2, 1)]) := by
  refine gok_n (a := 1) (d := 1) (b := 2) (e := N - 2) (ring1 hN) l (by decide) (by rw [top_one]; omega) ⟨⟨by omega, by omega, by omega, by omega, by omega, ?_, ?_, fun k k0 k1 => ?_⟩, by omega, by omega, by omega⟩ ?_
  · rw [Int.emod_eq_of_lt (by omega) (by omega)]; omega
  · rw [Int.emod_eq_of_lt (by omega) (by omega)]; omega
  · rw [Int.emod_eq_of_lt (by omega) (by omega)]; omega
  · unfold gapsL
    rw [if_neg (by omega), if_pos (by omega)]
    rfl
theorem gok_NN (hN : 10000000000 ≤ N) (l : Lv 1 N) : GapOk (N, 1, N, [(1, N)]) := ⟨ring1 hN, l, by show 1 ≤ N; omega, by show N ≤ top N 1; rw [top_one]; exact Int.le_refl _, by
  have := gaps_even (t := 1) (m := N) (by decide) (by omega)
  rw [Int.one_mul] at this
  exact this⟩
theorem cnt01 {x : Int} (h : 0 ≤ x) : cnt N 0 1 x = 1 := by
  show 0 + hit N 0 x 0 = 1
  unfold hit
  rw [if_pos (by simp; exact h)]
  rfl
theorem bok_N0 (hN : 10000000000 ≤ N) (l : Lv 1 N) (a0 : 0 ≤ a) (a1 : a < 1000000000) : BesOk (N, 0, 1, a, (0, 0)) := by
  have e0 : 0 * 0 % N = 0 := by simp
  refine bok_n (ring0 hN) l (by decide) (by rw [top_zero (by omega)]; decide) a0 (by omega) (by decide) (by decide) (by decide) (by decide) ?_ ?_
  · show cnt N 0 1 _ = cnt N 0 1 a - 1 + 1
    rw [cnt01 a0, e0, cnt01 (Int.le_refl _)]; rfl
  · show cnt N 0 1 _ = cnt N 0 1 a % 1 + 1
    rw [cnt01 a0, e0, cnt01 (Int.le_refl _)]; rfl
theorem turnN (hN : 10000000000 ≤ N) (a0 : 0 ≤ a) (a1 : a < 1000000000) : cnt N 1 N.toNat ((N - 1 - a) * 1 % N) - 1 = N - 1 - a := by
  rw [Int.mul_one, Int.emod_eq_of_lt (by omega) (by omega), cnt_one (by omega) (by omega)]
  omega
theorem markN (hN : 10000000000 ≤ N) (a0 : 0 ≤ a) (a1 : a < 1000000000) : theMark N (N - 1) N (a + 1) = N - 1 - a := mark_full (by omega) (G_back (by omega)) (by omega) (by omega) (by rw [place_back1 (by omega) (by omega) (by omega)]; omega)
theorem countN (hN : 10000000000 ≤ N) (a0 : 0 ≤ a) (a1 : a < 1000000000) : inCnt N 1 N.toNat a (N - 1) = N - a := by
  unfold inCnt
  rw [cnt_one (by omega) (by omega)]
  by_cases h : a = 0
  · rw [cnt_neg _ _ _ _ (by omega) (by omega)]
    omega
  · rw [cnt_one (by omega) (by omega)]
    omega
theorem bok_N1 (hN : 10000000000 ≤ N) (l : Lv 1 N) : BesOk (N, 1, N, N - 1, (N - 1, 0)) := by
  have e0 : 0 * 1 % N = 0 := by simp
  have e1 : (N - 1) * 1 % N = N - 1 := by rw [Int.mul_one, Int.emod_eq_of_lt (by omega) (by omega)]
  have c1 : cnt N 1 N.toNat (N - 1) = N := by rw [cnt_one (by omega) (by omega)]; omega
  refine bok_n (ring1 hN) l (by omega) (by rw [top_one]; exact Int.le_refl _) (by omega) (by omega) (by omega) (by omega) (by decide) (by omega) ?_ ?_
  · rw [e1, c1]; omega
  · rw [e0, c1, cnt_one (by omega) (by omega), Int.emod_self]; omega
theorem firstN (hN : 10000000000 ≤ N) (a0 : 0 ≤ a) (a1 : a < 1000000000) : FirstIn N 1 a (N - 1) a := first_one a0 (by omega) (by omega)
theorem lastN (hN : 10000000000 ≤ N) (a0 : 0 ≤ a) (a1 : a < 1000000000) : FirstIn N (N - 1) (N - 1 - a) (N - 1) 1 := by
  have := first_back (p := N) (b := N - 1 - a) (e := N - 1) (by omega) (by omega) (by omega)
  rw [show N - (N - 1) = 1 by omega] at this
  exact this
theorem G_N0 (hN : 10000000000 ≤ N) : G N 0 = N := G_zero (by omega)
theorem noN (hN : 10000000000 ≤ N) (a0 : 0 ≤ a) (a1 : a < 1000000000) : ¬ HasM N 1 (5 + a) := no_mult (by omega) (by rw [Int.ediv_eq_zero_of_lt (by omega) (by omega)]; omega)
theorem shN0 (hN : 10000000000 ≤ N) (a0 : 0 ≤ a) (a1 : a < 1000000000) : showsN N 0 1 (5 + a) N = true := showsN_of (by omega) Int.emod_self (by simp) (by rw [Int.ediv_eq_zero_of_lt (by omega) (by omega)]; omega)
end
theorem G12 : G 12 5 = 1 := by decide +kernel
theorem turn12 {k : Int} (h0 : 0 ≤ k) (h1 : k < 12) : cnt 12 5 12 (k * 5 % 12) - 1 = k * 5 % 12 := by
  have b0 := Int.emod_nonneg (k * 5) (show (12 : Int) ≠ 0 by decide)
  have b1 := Int.emod_lt_of_pos (k * 5) (show (0 : Int) < 12 by decide)
  have := cnt_full (p := 12) (s := 5) (x := k * 5 % 12) (by decide) G12 b0 b1
  have this : cnt 12 5 12 (k * 5 % 12) = k * 5 % 12 + 1 := this
  omega
theorem mark12 {k : Int} (h0 : 0 ≤ k) (h1 : k < 12) : theMark 12 5 12 (k * 5 % 12) = k := mark_full (by decide) G12 h0 h1 rfl
theorem first12 {k : Int} (h0 : 0 ≤ k) (h1 : k < 12) : FirstIn 12 5 (k * 5 % 12) (k * 5 % 12) k := first_full (by decide) G12 h0 h1
end RG
namespace RP
open PySem PySem.Spec PyProof.Rows L2 Evl RG RS
def topS (i : Nat) : Stmt := PySem.Challenge.pw_ringsteps_k07_one_reason.main.body.getD i (.Pass ⟨0, 0, 0, 0⟩)
section
variable {P : Program} {w : World} {K : PySem.W.Frag} {mg : Str → Option Value} {base : Heap} {f f1 f2 f3 f4 f5 f6 f7 f8 f9 : Addr} {fd fd1 fd2 fd3 fd4 fd5 fd6 fd7 fd8 fd9 : FuncData}
/-! ### the numbers -/
abbrev s_is_number : Stmt := topS 8
theorem sc_is_number : FnScope ["thing", "least", "most"] ["thing", "least", "most"] (defScope s_is_number) := ⟨rfl, rfl, rfl, by decide +kernel, rfl, by decide +kernel, by decide +kernel⟩
def spIsNum (K : PySem.W.Frag) : Sp := fun vs H Q _ => ∃ x l m, vs = [x, .int l, m] ∧ Kn K H x ∧ (∀ i, x = .int i → ∃ j, m = .int j) ∧ ∀ H', Ex H H' → Q (.bl (numW x l m)) H'
theorem spv_isNum {K : PySem.W.Frag} {H : Hp} {x m : V} {l : Int} (h : Kn K H x) (h2 : ∀ i, x = .int i → ∃ j, m = .int j) : SpV (spIsNum K) [x, .int l, m] H (.bl (numW x l m)) :=
  fun H1 e Q q E => ⟨x, l, m, rfl, h.ex e, h2, q⟩
theorem ok_is_number (hA : Blt mg) (F : Fun K "is_number" "is_number" s_is_number f fd) : FnOk P w K mg base CX0 1 f fd ["thing", "least", "most"] (spIsNum K) := by
  refine F.ok sc_is_number (fun vs H Q E h => ?_) (fun cdv A outer s H vs Q E hr h => ?_)
  · obtain ⟨x, l, m, rfl, _⟩ := h
    rfl
  · obtain ⟨x, l, m, rfl, hx, hm, k⟩ := h
    refine ⟨_, (pss_cons (ps_ret (pe_and (pe_callB call_isi rfl hA.z_isinstance (by decide +kernel) (pa_cons (pv 0) (pa_cons (pe_bltn (v := .ty "int") (u := .type "int") rfl hA.z_int (by decide +kernel) rfl) pa_nil))) (pe_and (pe_not (pe_callB call_isi rfl hA.z_isinstance (by decide +kernel) (pa_cons (pv 0) (pa_cons (pe_bltn (v := .ty "bool") (u := .type "bool") rfl hA.z_bool (by decide +kernel) rfl) pa_nil)))) (pe_one (pe_chain op_le op_le (pv 1) (pv 0) (pv 2))))))
      pss_nil), Go.at (g_ret (v := .bl (numW x l m)) ?_ k)⟩
    have e1 : Ev (tCB (rIsi K) (tCons (tVar 0) (tCons (tC (.ty "int")) tNil))) (start ["thing", "least", "most"] [x, .int l, m]) H (.bl (isI x)) := ev_isInt (ev_var rfl) hx
    have e2 : Ev (tCB (rIsi K) (tCons (tVar 0) (tCons (tC (.ty "bool")) tNil))) (start ["thing", "least", "most"] [x, .int l, m]) H (.bl (isB x)) := ev_isBool (ev_var rfl) hx
    cases x with
    | int i =>
      obtain ⟨j, rfl⟩ := hm i rfl
      exact ev_is (ev_andV e1 fun _ => ev_andV (ev_notV e2) fun _ => ev_chainI (ev_var rfl) (ev_var rfl) (ev_var rfl)) rfl
    | bl b => exact ev_andV (b := false) e1 fun _ => ev_andV (b := false) (ev_notV e2) fun h => nomatch h
    | _ => exact ev_andV (b := false) e1 fun h => nomatch h
abbrev s_common : Stmt := topS 9
theorem sc_common : FnScope ["one", "other"] ["one", "other"] (defScope s_common) := ⟨rfl, rfl, rfl, by decide +kernel, rfl, by decide +kernel, by decide +kernel⟩
def spCommon : Sp := fun vs H Q _ => ∃ a b : Int, vs = [.int a, .int b] ∧ 0 ≤ a ∧ 0 ≤ b ∧ ∀ H', Ex H H' → Q (.int (G a b)) H'
theorem spv_common {H : Hp} {a b : Int} (h : 0 ≤ a) (h2 : 0 ≤ b) : SpV spCommon [.int a, .int b] H (.int (G a b)) := fun H1 e Q q E => ⟨a, b, rfl, h, h2, q⟩
theorem ok_common (F : Fun K "common" "common" s_common f fd) : FnOk P w K mg base CX0 1 f fd ["one", "other"] spCommon := by
  refine F.ok sc_common (fun vs H Q E h => ?_) (fun cdv A outer s H vs Q E hr h => ?_)
  · obtain ⟨a, b, rfl, _⟩ := h
    rfl
  · obtain ⟨a, b, rfl, ha, hb, k⟩ := h
    refine ⟨_, (pss_cons (ps_while PassesOwn.never (pt_cmpR op_gt (pv 1) pe_int (nomark _)) (pss_cons (ps_par (i := 0) (j := 1) (by rfl) sc_common.nd rfl rfl (by decide) rfl rfl (pa_cons (pv 1) (pa_cons (pe_op op_mod (pv 0) (pv 1)) pa_nil)) (by rfl))
      pss_nil))
      (pss_cons (ps_ret (pv 0))
      pss_nil)), Go.at ?_⟩
    refine g_while (fun σ => ∃ x y : Int, σ = [some (.int x), some (.int y)] ∧ 0 ≤ x ∧ 0 ≤ y ∧ G x y = G a b) (fun σ => match σ with | [_, some (.int y)] => y.toNat | _ => 0) ⟨a, b, rfl, ha, hb, rfl⟩ ?_
    rintro σ ⟨x, y, rfl, hx, hy, hg⟩
    refine ⟨_, et_test (ev_op (ev_var rfl) ev_c rv_I0), fun hb => ?_, fun hb => ?_⟩
    · have hy : 0 < y := of_decide_eq_true hb
      refine g_par (ea_cons (ev_var rfl) (ea_cons (ev_op (ev_var rfl) (ev_var rfl) (rv_I hy)) ea_nil)) (g_next fun H' e => ⟨e, ⟨y, x % y, rfl, by omega, Int.emod_nonneg _ (by omega), by rw [G_step x y hy, hg]⟩, ?_⟩)
      have := Int.emod_lt_of_pos x hy
      have := Int.emod_nonneg x (show y ≠ 0 by omega)
      show (x % y).toNat < y.toNat
      omega
    · have hy0 : y = 0 := by have := of_decide_eq_false hb; omega
      subst hy0
      rw [G_zero hx] at hg
      subst hg
      exact g_ret (ev_var rfl) k
abbrev s_check_ring : Stmt := topS 11
theorem sc_check_ring : FnScope ["places", "step"] ["places", "step"] (defScope s_check_ring) := ⟨rfl, rfl, rfl, by decide +kernel, rfl, by decide +kernel, by decide +kernel⟩
def spRing (K : PySem.W.Frag) (c : Cs) : Sp := fun vs H Q E => ∃ p s, vs = [p, s] ∧ Kn K H p ∧ Kn K H s ∧ Fin (ringO c p s) H Q E
theorem spx_ring {K : PySem.W.Frag} {c : Cs} {H : Hp} {p s : V} (h : Kn K H p) (h2 : Kn K H s) : SpX (spRing K c) [p, s] H (ringO c p s) := fun H1 e Q E q r => ⟨p, s, rfl, h.ex e, h2.ex e, q, r⟩
theorem ok_check_ring {c : Cs} (F : Fun K "check_ring" "check_ring" s_check_ring f fd) (G_is_number : FnOk P w K mg base CX0 1 f1 fd1 ["thing", "least", "most"] (spIsNum K)) (A_is_number : At K mg "is_number" s_is_number ["thing", "least", "most"] f1 fd1)
    (E_BadPlaces : ErrAt K mg "BadPlaces" c.cp) (E_BadStep : ErrAt K mg "BadStep" c.cs) : FnOk P w K mg base (L2.CX P w) 2 f fd ["places", "step"] (spRing K c) := by
  refine F.okX sc_check_ring (fun vs H Q E h => ?_) (fun cdv A outer s H vs Q E hr h => ?_)
  · obtain ⟨p, s, rfl, _⟩ := h
    rfl
  · obtain ⟨p, s, rfl, hp, hs, k⟩ := h
    refine ⟨_, (pss_cons (ps_if (pt_not (pt_val (pe_call G_is_number (hr.mono (by omega)) rfl A_is_number.g A_is_number.fn.kp A_is_number.b .nil pass0 (pa_cons (pv 0) (pa_cons pe_int (pa_cons (pv 0) pa_nil)))))) (pss_cons (ps_raise rfl (takes_of rfl rfl rfl rfl) (pmk_own PySem.F.excBase_ValueError E_BadPlaces.x E_BadPlaces.g E_BadPlaces.k (raises_own E_BadPlaces.b E_BadPlaces.t) rfl))
      pss_nil) pss_nil)
      (pss_cons (ps_if (pt_not (pt_val (pe_call G_is_number (hr.mono (by omega)) rfl A_is_number.g A_is_number.fn.kp A_is_number.b .nil pass0 (pa_cons (pv 1) (pa_cons pe_int (pa_cons (pe_op op_sub (pv 0) pe_int) pa_nil)))))) (pss_cons (ps_raise rfl (takes_of rfl rfl rfl rfl) (pmk_own PySem.F.excBase_ValueError E_BadStep.x E_BadStep.g E_BadStep.k (raises_own E_BadStep.b E_BadStep.t) rfl))
      pss_nil) pss_nil)
      pss_nil)), Go.at ?_⟩
    refine g_when (et_not (et_B (ev_call1 (ea_cons (ev_var rfl) (ea_cons ev_c (ea_cons (ev_var rfl) ea_nil))) (spv_isNum hp fun i e => ⟨i, e⟩)))) (fun h => ?_) (fun h => ?_)
    · refine g_raise fun H1 e => k.2 _ ?_ H1 e
      rw [numW_okP] at h
      unfold ringO
      rw [if_neg (by first | exact nf h | exact nt h)]
    · rw [numW_okP] at h
      have h' : okP p = true := by simpa using h
      obtain ⟨P, rfl, hP⟩ := okP_iff.mp h'
      refine g_when (et_not (et_B (ev_call1 (ea_cons (ev_var rfl) (ea_cons ev_c (ea_cons (ev_op (ev_var rfl) ev_c rv_I0) ea_nil))) (spv_isNum hs fun i e => ⟨_, rfl⟩)))) (fun h2 => ?_) (fun h2 => ?_)
      · refine g_raise fun H1 e => k.2 _ ?_ H1 e
        rw [numW_okIn] at h2
        unfold ringO
        rw [if_pos h']; exact if_neg (nf h2)
      · refine g_next fun H1 e => k.1 .non ?_ H1 e
        rw [numW_okIn] at h2
        unfold ringO
        rw [if_pos h']; exact if_pos (nt h2)
abbrev s_most_of : Stmt := topS 10
theorem sc_most_of : FnScope ["places", "step"] ["places", "step"] (defScope s_most_of) := ⟨rfl, rfl, rfl, by decide +kernel, rfl, by decide +kernel, by decide +kernel⟩
def spMostOf : Sp := fun vs H Q _ => ∃ p s : Int, vs = [.int p, .int s] ∧ Ring p s ∧ Lv 1 p ∧ ∀ H', Ex H H' → Q (.int (top p s)) H'
theorem spv_mostOf {H : Hp} {p s : Int} (h : Ring p s) (h2 : Lv 1 p) : SpV spMostOf [.int p, .int s] H (.int (top p s)) := fun H1 e Q q E => ⟨p, s, rfl, h, h2, q⟩
theorem ok_most_of (F : Fun K "most_of" "most_of" s_most_of f fd) (G_common : FnOk P w K mg base CX0 1 f1 fd1 ["one", "other"] spCommon) (A_common : At K mg "common" s_common ["one", "other"] f1 fd1) : FnOk P w K mg base CX0 2 f fd ["places", "step"] spMostOf := by
  refine F.ok sc_most_of (fun vs H Q E h => ?_) (fun cdv A outer s H vs Q E hr h => ?_)
  · obtain ⟨p, s, rfl, _⟩ := h
    rfl
  · obtain ⟨p, s, rfl, R, l, k⟩ := h
    have R1 := R.p
    refine ⟨_, (pss_cons (ps_ret (pe_op op_fdivW (pv 0) (pe_call G_common (hr.mono (by omega)) rfl A_common.g A_common.fn.kp A_common.b .nil pass0 (pa_cons (pv 0) (pa_cons (pv 1) pa_nil)))))
      pss_nil), Go.at (g_ret (ev_op (ev_var rfl) (ev_call1 (ea_cons (ev_var rfl) (ea_cons (ev_var rfl) ea_nil)) (spv_common (by omega) R.s0)) (rv_I (div_ok (G_pos (by omega)) (lv_G R l)))) k)⟩
abbrev s_check_marks : Stmt := topS 12
theorem sc_check_marks : FnScope ["places", "step", "marks"] ["places", "step", "marks"] (defScope s_check_marks) := ⟨rfl, rfl, rfl, by decide +kernel, rfl, by decide +kernel, by decide +kernel⟩
def spMarks (K : PySem.W.Frag) (c : Cs) : Sp := fun vs H Q E => ∃ p s m, vs = [p, s, m] ∧ Kn K H p ∧ Kn K H s ∧ Kn K H m ∧ Fin (marksO c p s m) H Q E
theorem spx_marks {K : PySem.W.Frag} {c : Cs} {H : Hp} {p s m : V} (h : Kn K H p) (h2 : Kn K H s) (h3 : Kn K H m) : SpX (spMarks K c) [p, s, m] H (marksO c p s m) := fun H1 e Q E q r => ⟨p, s, m, rfl, h.ex e, h2.ex e, h3.ex e, q, r⟩
theorem ok_check_marks {c : Cs} (F : Fun K "check_marks" "check_marks" s_check_marks f fd) (G_is_number : FnOk P w K mg base CX0 1 f1 fd1 ["thing", "least", "most"] (spIsNum K)) (A_is_number : At K mg "is_number" s_is_number ["thing", "least", "most"] f1 fd1)
    (G_most_of : FnOk P w K mg base CX0 2 f2 fd2 ["places", "step"] spMostOf) (A_most_of : At K mg "most_of" s_most_of ["places", "step"] f2 fd2) (G_check_ring : FnOk P w K mg base (L2.CX P w) 2 f3 fd3 ["places", "step"] (spRing K c)) (A_check_ring : At K mg "check_ring" s_check_ring ["places", "step"] f3 fd3)
    (E_BadMarks : ErrAt K mg "BadMarks" c.cm) : FnOk P w K mg base (L2.CX P w) 3 f fd ["places", "step", "marks"] (spMarks K c) := by
  refine F.okX sc_check_marks (fun vs H Q E h => ?_) (fun cdv A outer s H vs Q E hr h => ?_)
  · obtain ⟨p, s, m, rfl, _⟩ := h
    rfl
  · obtain ⟨p, s, m, rfl, hp, hs, hm, k⟩ := h
    refine ⟨_, (pss_cons (ps_expr (pe_call G_check_ring (hr.mono (by omega)) rfl A_check_ring.g A_check_ring.fn.kp A_check_ring.b .nil (passes_call (takes_of rfl rfl rfl rfl) (fun _ _ _ _ h => h)) (pa_cons (pv 0) (pa_cons (pv 1) pa_nil))))
      (pss_cons (ps_if (pt_not (pt_val (pe_call G_is_number (hr.mono (by omega)) rfl A_is_number.g A_is_number.fn.kp A_is_number.b .nil pass0 (pa_cons (pv 2) (pa_cons pe_int (pa_cons (pe_call G_most_of (hr.mono (by omega)) rfl A_most_of.g A_most_of.fn.kp A_most_of.b .nil pass0 (pa_cons (pv 0) (pa_cons (pv 1) pa_nil))) pa_nil)))))) (pss_cons (ps_raise rfl (takes_of rfl rfl rfl rfl) (pmk_own PySem.F.excBase_ValueError E_BadMarks.x E_BadMarks.g E_BadMarks.k (raises_own E_BadMarks.b E_BadMarks.t) rfl))
      pss_nil) pss_nil)
      pss_nil)), Go.at ?_⟩
    refine g_dropX (evx_call (ea_cons (ev_var rfl) (ea_cons (ev_var rfl) ea_nil)) (spx_ring hp hs)) (fun v hv => ?_) (fun C hC H1 e => k.2 C (by unfold marksO; rw [hC]) H1 e)
    obtain ⟨rfl, P, S, rfl, rfl, R⟩ := ringO_val hv
    have eO : marksO c (.int P) (.int S) m = if okIn m 1 (top P S) then .val .non else .err c.cm := by
      unfold marksO
      rw [hv]
      rfl
    rw [eO] at k
    refine g_when (et_not (et_B (ev_call1 (ea_cons (ev_var rfl) (ea_cons ev_c (ea_cons (ev_call1 (ea_cons (ev_var rfl) (ea_cons (ev_var rfl) ea_nil)) (spv_mostOf R hp)) ea_nil))) (spv_isNum hm fun i e => ⟨_, rfl⟩)))) (fun h => ?_) (fun h => ?_)
    · rw [numW_okIn] at h
      rw [if_neg (by first | exact nf h | exact nt h)] at k
      exact g_raise fun H1 e => k.err H1 e
    · rw [numW_okIn] at h
      rw [if_pos (by first | exact nf h | exact nt h)] at k
      exact g_next fun H1 e => k.val H1 e
abbrev s_check_stretch : Stmt := topS 13
theorem sc_check_stretch : FnScope ["places", "begin", "end"] ["places", "begin", "end"] (defScope s_check_stretch) := ⟨rfl, rfl, rfl, by decide +kernel, rfl, by decide +kernel, by decide +kernel⟩
def spStretch (K : PySem.W.Frag) (c : Cs) : Sp := fun vs H Q E => ∃ P b e, vs = [.int P, b, e] ∧ Kn K H b ∧ Kn K H e ∧ Fin (stretchO c (.int P) b e) H Q E
theorem spx_stretch {K : PySem.W.Frag} {c : Cs} {H : Hp} {P : Int} {b e : V} (h : Kn K H b) (h2 : Kn K H e) : SpX (spStretch K c) [.int P, b, e] H (stretchO c (.int P) b e) := fun H1 x Q E q r => ⟨P, b, e, rfl, h.ex x, h2.ex x, q, r⟩
theorem ok_check_stretch {c : Cs} (F : Fun K "check_stretch" "check_stretch" s_check_stretch f fd) (G_is_number : FnOk P w K mg base CX0 1 f1 fd1 ["thing", "least", "most"] (spIsNum K)) (A_is_number : At K mg "is_number" s_is_number ["thing", "least", "most"] f1 fd1)
    (E_BadPlace : ErrAt K mg "BadPlace" c.cl) : FnOk P w K mg base (L2.CX P w) 2 f fd ["places", "begin", "end"] (spStretch K c) := by
  refine F.okX sc_check_stretch (fun vs H Q E h => ?_) (fun cdv A outer s H vs Q E hr h => ?_)
  · obtain ⟨p, b, e, rfl, _⟩ := h
    rfl
  · obtain ⟨P, b, e, rfl, hb, he, k⟩ := h
    refine ⟨_, (pss_cons (ps_if (PW.pt (pw_or (pt_not (pt_val (pe_call G_is_number (hr.mono (by omega)) rfl A_is_number.g A_is_number.fn.kp A_is_number.b .nil pass0 (pa_cons (pv 1) (pa_cons pe_int (pa_cons (pe_op op_sub (pv 0) pe_int) pa_nil)))))) (pw_or (pt_not (pt_val (pe_call G_is_number (hr.mono (by omega)) rfl A_is_number.g A_is_number.fn.kp A_is_number.b .nil pass0 (pa_cons (pv 2) (pa_cons pe_int (pa_cons (pe_op op_sub (pv 0) pe_int) pa_nil)))))) (pw_or1 (pt_cmpR op_gt (pv 1) (pv 2) (nomark _)))))) (pss_cons (ps_raise rfl (takes_of rfl rfl rfl rfl) (pmk_own PySem.F.excBase_ValueError E_BadPlace.x E_BadPlace.g E_BadPlace.k (raises_own E_BadPlace.b E_BadPlace.t) rfl))
      pss_nil) pss_nil)
      pss_nil), Go.at ?_⟩
    have n1 : EvT (tNot (tB (tCall (spIsNum K) [] E0 (tCons (tVar 1) (tCons (tC (.int 0)) (tCons (tOp (rI0 fun i j => .int (i - j)) (tVar 0) (tC (.int 1))) tNil)))))) (start ["places", "begin", "end"] [.int P, b, e]) H (!numW b 0 (.int (P - 1))) := et_not (et_B (ev_call1 (ea_cons (ev_var rfl) (ea_cons ev_c (ea_cons (ev_op (ev_var rfl) ev_c rv_I0) ea_nil))) (spv_isNum hb fun i e => ⟨_, rfl⟩)))
    have n2 : EvT (tNot (tB (tCall (spIsNum K) [] E0 (tCons (tVar 2) (tCons (tC (.int 0)) (tCons (tOp (rI0 fun i j => .int (i - j)) (tVar 0) (tC (.int 1))) tNil)))))) (start ["places", "begin", "end"] [.int P, b, e]) H (!numW e 0 (.int (P - 1))) := et_not (et_B (ev_call1 (ea_cons (ev_var rfl) (ea_cons ev_c (ea_cons (ev_op (ev_var rfl) ev_c rv_I0) ea_nil))) (spv_isNum he fun i e => ⟨_, rfl⟩)))
    rw [numW_okIn] at n1 n2
    have eO : stretchO c (.int P) b e = if okIn b 0 (P - 1) && okIn e 0 (P - 1) && decide (iv b ≤ iv e) then .val .non else .err c.cl := rfl
    refine g_when (b := !(okIn b 0 (P - 1) && okIn e 0 (P - 1) && decide (iv b ≤ iv e))) ?_ (fun h => ?_) (fun h => ?_)
    · cases q1 : okIn b 0 (P - 1) with
      | false => rw [q1] at n1; exact et_or (b := false) n1 fun h => nomatch h
      | true =>
        rw [q1] at n1
        refine et_or n1 fun _ => ?_
        cases q2 : okIn e 0 (P - 1) with
        | false => rw [q2] at n2; exact et_or (b := false) n2 fun h => nomatch h
        | true =>
          rw [q2] at n2
          obtain ⟨B, rfl, _⟩ := okIn_iff.mp q1
          obtain ⟨E', rfl, _⟩ := okIn_iff.mp q2
          refine et_or n2 fun _ => et_is (et_test (ev_op (ev_var rfl) (ev_var rfl) rv_I0)) ?_
          show decide (E' < B) = !(true && true && decide (B ≤ E'))
          by_cases z : B ≤ E'
          · rw [decide_eq_true z, decide_eq_false (by omega)]; rfl
          · rw [decide_eq_false z, decide_eq_true (by omega)]; rfl
    · rw [eO, if_neg (nf h)] at k
      exact g_raise fun H1 e => k.err H1 e
    · rw [eO, if_pos (nt h)] at k
      exact g_next fun H1 e => k.val H1 e
abbrev s_quotients : Stmt := topS 14
theorem sc_quotients : FnScope ["many", "by", "times", "more", "rest", "found", "last"] ["many", "by", "times", "more"] (defScope s_quotients) := ⟨rfl, rfl, rfl, by decide +kernel, rfl, by decide +kernel, by decide +kernel⟩
def spQuot : Sp := fun vs H Q _ => ∃ (n : Nat) (m a b : Int), vs = [.int n, .int m, .int a, .int b] ∧ 0 < m ∧ 0 ≤ a ∧ Lv 1 n ∧ Lv 1 m ∧ Lv 1 a ∧ Lv 4 b ∧ ∀ H', Ex H H' → Q (.int (S n m a b)) H'
theorem spv_quot {H : Hp} {n m a b : Int} (h0 : 0 ≤ n) (h : 0 < m) (h2 : 0 ≤ a) (l1 : Lv 1 n) (l2 : Lv 1 m) (l3 : Lv 1 a) (l4 : Lv 4 b) : SpV spQuot [.int n, .int m, .int a, .int b] H (.int (S n.toNat m a b)) := fun H1 e Q q E => by
  have : ((n.toNat : Nat) : Int) = n := by omega
  exact ⟨n.toNat, m, a, b, by rw [this], h, h2, by rw [this]; exact l1, l2, l3, l4, q⟩
theorem ok_quotients (F : Fun K "quotients" "quotients" s_quotients f fd) : FnOk P w K mg base CX0 1 f fd ["many", "by", "times", "more"] spQuot := by
  refine F.ok sc_quotients (fun vs H Q E h => ?_) (fun cdv A outer s H vs Q E hr h => ?_)
  · obtain ⟨n, m, a, b, rfl, _⟩ := h
    rfl
  · obtain ⟨n, m, a, b, rfl, hm, ha, l1, l2, l3, l4, k⟩ := h
    refine ⟨_, (pss_cons (ps_set (i := 4) sc_quotients.nd rfl (Or.inl rfl) (pe_op op_mod (pv 3) (pv 1)))
      (pss_cons (ps_set (i := 5) sc_quotients.nd rfl (Or.inl rfl) (pe_op op_mulB (pv 0) (pe_op op_fdivW (pe_op op_sub (pv 3) (pv 4)) (pv 1))))
      (pss_cons (ps_set (i := 3) sc_quotients.nd rfl (Or.inl rfl) (pv 4))
      (pss_cons (ps_while PassesOwn.never (pt_cmpR op_gt (pv 0) pe_int (nomark _)) (pss_cons (ps_aug (i := 5) sc_quotients.nd rfl (Or.inl rfl) (pe_op op_add (pe_op op_mulB (pe_op op_fdivW (pe_op op_mulB (pv 0) (pe_op op_sub (pv 0) pe_int)) pe_int) (pe_op op_fdivW (pv 2) (pv 1))) (pe_op op_mulB (pv 0) (pe_op op_fdivW (pv 3) (pv 1)))) ip_add)
      (pss_cons (ps_par (i := 2) (j := 3) (by rfl) sc_quotients.nd rfl rfl (by decide) rfl rfl (pa_cons (pe_op op_mod (pv 2) (pv 1)) (pa_cons (pe_op op_mod (pv 3) (pv 1)) pa_nil)) (by rfl))
      (pss_cons (ps_set (i := 6) sc_quotients.nd rfl (Or.inl rfl) (pe_op op_add (pe_op op_mulB (pv 2) (pv 0)) (pv 3)))
      (pss_cons (ps_if (pt_cmpR op_lt (pv 6) (pv 1) (nomark _)) (pss_cons (ps_ret (pv 5))
      pss_nil) pss_nil)
      (pss_cons (ps_asg (pe_tup (pa_cons (pe_op op_fdivW (pv 6) (pv 1)) (pa_cons (pe_op op_mod (pv 6) (pv 1)) (pa_cons (pv 2) (pa_cons (pv 1) pa_nil))))) (pg_tup rfl (pgs_cons (pg_name (i := 0) sc_quotients.nd rfl (Or.inl rfl)) (pgs_cons (pg_name (i := 3) sc_quotients.nd rfl (Or.inl rfl)) (pgs_cons (pg_name (i := 1) sc_quotients.nd rfl (Or.inl rfl)) (pgs_cons (pg_name (i := 2) sc_quotients.nd rfl (Or.inl rfl)) pgs_nil))))))
      pss_nil))))))
      (pss_cons (ps_ret (pv 5))
      pss_nil))))), Go.at ?_⟩
    refine g_asg (ev_op (ev_var rfl) (ev_var rfl) (rv_I hm)) ?_
    refine g_asg (ev_op (ev_var rfl) (ev_op (ev_op (ev_var rfl) (ev_var rfl) rv_I0) (ev_var rfl) (rv_I (div_ok hm l2))) (rv_I (mul_ok l1 (lv_div (lv_sub l4 (lv_mod l2 hm)) hm) (by decide) (by decide)))) ?_
    refine g_asg (ev_var rfl) ?_
    have d : (b - b % m) / m = b / m := by
      have h := Int.emod_add_mul_ediv b m
      have e : b - b % m = m * (b / m) := by omega
      rw [e]; exact Int.mul_ediv_cancel_left _ (by omega)
    refine g_while (fun σ => ∃ (n' : Nat) (m' a' b' r t : Int) (l : Option V), σ = [some (.int n'), some (.int m'), some (.int a'), some (.int b'), some (.int r), some (.int t), l] ∧ 0 < m' ∧ 0 ≤ a' ∧ 0 ≤ b' ∧ Lv 1 n' ∧ Lv 1 m' ∧ Lv 1 a' ∧ Lv 1 b' ∧ t + S n' m' a' b' = S n m a b)
      (fun σ => match σ with | some (.int n') :: some (.int m') :: _ => m'.toNat | _ => 0) ⟨n, m, a, b % m, b % m, n * ((b - b % m) / m), none, rfl, hm, ha, Int.emod_nonneg _ (by omega), l1, l2, l3, lv_mod l2 hm, by rw [d, S_redb n m a b hm]⟩ ?_
    rintro σ ⟨n', m', a', b', r, t, l, rfl, hm', ha', hb', ln, lm, la, lb, hT⟩
    refine ⟨_, et_test (ev_op (ev_var rfl) ev_c rv_I0), fun h => ?_, fun h => ?_⟩
    · have hn : 0 < (n' : Int) := of_decide_eq_true h
      refine g_aug (f := fun i j => i + j) rfl (ev_op (ev_op (ev_op (ev_op (ev_var rfl) (ev_op (ev_var rfl) ev_c rv_I0) (rv_I (mul_ok ln (lv_sub ln (lv_small (by decide))) (by decide) (by decide)))) ev_c (rv_I (div_ok (by decide) (lv_small (by decide)))))
        (ev_op (ev_var rfl) (ev_var rfl) (rv_I (div_ok hm' lm))) (rv_I (mul_ok (lv_div (lv_mul ln (lv_sub ln (lv_small (by decide)))) (by decide)) (lv_div la hm') (by decide) (by decide))))
        (ev_op (ev_var rfl) (ev_op (ev_var rfl) (ev_var rfl) (rv_I (div_ok hm' lm))) (rv_I (mul_ok ln (lv_div lb hm') (by decide) (by decide)))) rv_I0) ?_
      refine g_par (ea_cons (ev_op (ev_var rfl) (ev_var rfl) (rv_I hm')) (ea_cons (ev_op (ev_var rfl) (ev_var rfl) (rv_I hm')) ea_nil)) ?_
      refine g_asg (ev_op (ev_op (ev_var rfl) (ev_var rfl) (rv_I (mul_ok (lv_mod lm hm') ln (by decide) (by decide)))) (ev_var rfl) rv_I0) ?_
      have red := S_red n' m' a' b' hm'
      have a0 := Int.emod_nonneg a' (show m' ≠ 0 by omega)
      have a1 := Int.emod_lt_of_pos a' hm'
      have b0 := Int.emod_nonneg b' (show m' ≠ 0 by omega)
      have b1 := Int.emod_lt_of_pos b' hm'
      have x0 : 0 ≤ a' % m' * (n' : Int) := Int.mul_nonneg a0 (by omega)
      refine g_when (et_test (ev_op (ev_var rfl) (ev_var rfl) rv_I0)) (fun h => ?_) (fun h => ?_)
      · have h1 : a' % m' * (n' : Int) + b' % m' < m' := of_decide_eq_true h
        have z := S_zero n' m' (a' % m') (b' % m') hm' a0 b0 h1
        rw [z] at red
        refine g_ret (v := .int (S n m a b)) (ev_is (ev_var rfl) ?_) k
        rw [← hT, red]
        simp
      · have h1 : m' ≤ a' % m' * (n' : Int) + b' % m' := by have := of_decide_eq_false h; omega
        have ap : 0 < a' % m' := by
          rcases Int.lt_or_le 0 (a' % m') with q | q
          · exact q
          · have : a' % m' = 0 := by omega
            rw [this, Int.zero_mul] at h1
            omega
        have fl := S_flip n' m' (a' % m') (b' % m') ap a1 b0 b1
        have q0 : 0 ≤ (a' % m' * (n' : Int) + b' % m') / m' := Int.ediv_nonneg (by omega) (by omega)
        have qn : (a' % m' * (n' : Int) + b' % m') / m' ≤ n' := by
          have : (a' % m' * (n' : Int) + b' % m') / m' < n' + 1 := by
            refine Int.ediv_lt_of_lt_mul hm' ?_
            have h2 : a' % m' * (n' : Int) ≤ (m' - 1) * n' := Int.mul_le_mul_of_nonneg_right (by omega) (by omega)
            have h3 : (m' - 1) * (n' : Int) = m' * n' - n' := by rw [Int.sub_mul, Int.one_mul]
            have h4 : ((n' : Int) + 1) * m' = m' * n' + m' := by rw [Int.add_mul, Int.one_mul, Int.mul_comm]
            omega
          omega
        obtain ⟨N, hN⟩ : ∃ N : Nat, (a' % m' * (n' : Int) + b' % m') / m' = N := ⟨((a' % m' * (n' : Int) + b' % m') / m').toNat, by omega⟩
        have eN : ((a' % m' * (n' : Int) + b' % m') / m').toNat = N := by omega
        rw [eN] at fl
        refine g_asg4 (eu_tup (ea_cons (ev_is (ev_op (ev_var rfl) (ev_var rfl) (rv_I (div_ok hm' lm))) (congrArg V.int hN)) (ea_cons (ev_op (ev_var rfl) (ev_var rfl) (rv_I hm')) (ea_cons (ev_var rfl) (ea_cons (ev_var rfl) ea_nil)))) (by show 4 ≤ 100000; decide)) (g_next fun H' e => ⟨e, ⟨N, a' % m', m', (a' % m' * (n' : Int) + b' % m') % m', r, t + (n' * (n' - 1) / 2 * (a' / m') + n' * (b' / m')), some (.int (a' % m' * (n' : Int) + b' % m')), rfl, ap, by omega, Int.emod_nonneg _ (by omega), lv_le ln (by omega) (by omega), lv_mod lm hm', lm, lv_mod lm hm', ?_⟩, ?_⟩)
        · rw [← fl, ← hT, red]
          omega
        · show (a' % m').toNat < m'.toNat
          omega
    · have hn : n' = 0 := by have := of_decide_eq_false h; omega
      subst hn
      refine g_ret (v := .int (S n m a b)) (ev_is (ev_var rfl) ?_) k
      rw [← hT]
      simp [S, sumN]
abbrev s_marks_to : Stmt := topS 15
theorem sc_marks_to : FnScope ["places", "step", "marks", "place"] ["places", "step", "marks", "place"] (defScope s_marks_to) := ⟨rfl, rfl, rfl, by decide +kernel, rfl, by decide +kernel, by decide +kernel⟩
def spMarksTo : Sp := fun vs H Q _ => ∃ p s n x : Int, vs = [.int p, .int s, .int n, .int x] ∧ Ring p s ∧ 0 ≤ n ∧ 0 ≤ x ∧ x < p ∧ Lv 1 p ∧ Lv 1 n ∧ ∀ H', Ex H H' → Q (.int (cnt p s n.toNat x)) H'
theorem spv_marksTo {H : Hp} {p s n x : Int} (R : Ring p s) (h0 : 0 ≤ n) (h : 0 ≤ x) (h2 : x < p) (l1 : Lv 1 p) (l2 : Lv 1 n) : SpV spMarksTo [.int p, .int s, .int n, .int x] H (.int (cnt p s n.toNat x)) := fun H1 e Q q E => ⟨p, s, n, x, rfl, R, h0, h, h2, l1, l2, q⟩
theorem ok_marks_to (F : Fun K "marks_to" "marks_to" s_marks_to f fd) (G_quotients : FnOk P w K mg base CX0 1 f1 fd1 ["many", "by", "times", "more"] spQuot) (A_quotients : At K mg "quotients" s_quotients ["many", "by", "times", "more"] f1 fd1) : FnOk P w K mg base CX0 2 f fd ["places", "step", "marks", "place"] spMarksTo := by
  refine F.ok sc_marks_to (fun vs H Q E h => ?_) (fun cdv A outer s H vs Q E hr h => ?_)
  · obtain ⟨p, s, n, x, rfl, _⟩ := h
    rfl
  · obtain ⟨p, s, n, x, rfl, R, hn, hx, hxp, lp, ln, k⟩ := h
    have lx : Lv 1 x := lv_le lp hx (by omega)
    refine ⟨_, (pss_cons (ps_ret (pe_op op_sub (pe_call G_quotients (hr.mono (by omega)) rfl A_quotients.g A_quotients.fn.kp A_quotients.b .nil pass0 (pa_cons (pv 2) (pa_cons (pv 0) (pa_cons (pv 1) (pa_cons pe_int pa_nil))))) (pe_call G_quotients (hr.mono (by omega)) rfl A_quotients.g A_quotients.fn.kp A_quotients.b .nil pass0 (pa_cons (pv 2) (pa_cons (pv 0) (pa_cons (pv 1) (pa_cons (pe_op op_sub (pe_un un_neg (pv 3)) pe_int) pa_nil)))))))
      pss_nil), Go.at (g_ret (v := .int (cnt p s n.toNat x)) (ev_is (ev_op (ev_call1 (ea_cons (ev_var rfl) (ea_cons (ev_var rfl) (ea_cons (ev_var rfl) (ea_cons ev_c ea_nil)))) (spv_quot hn (by omega) R.s0 ln lp (R.ls lp) (lv_small (by decide) |> (lv_mono · (by decide)))))
      (ev_call1 (ea_cons (ev_var rfl) (ea_cons (ev_var rfl) (ea_cons (ev_var rfl) (ea_cons (ev_op (ev_un (ev_var rfl) ru_neg) ev_c rv_I0) ea_nil)))) (spv_quot hn (by omega) R.s0 ln lp (R.ls lp) (lv_mono (lv_sub (lv_neg lx) (lv_small (by decide))) (by decide)))) rv_I0) ?_) k)⟩
    rw [cnt_S p s n.toNat x hx hxp]
abbrev s_count : Stmt := topS 29
theorem sc_count : FnScope ["places", "step", "marks", "begin", "end", "before"] ["places", "step", "marks", "begin", "end"] (defScope s_count) := ⟨rfl, rfl, rfl, by decide +kernel, rfl, by decide +kernel, by decide +kernel⟩
def countO (c : Cs) (p s m b e : V) : Out := match marksO c p s m with
  | .err C => .err C
  | .val _ => (match stretchO c p b e with
    | .err C => .err C
    | .val _ => .val (.int (inCnt (iv p) (iv s) (iv m).toNat (iv b) (iv e))))
def spCount (K : PySem.W.Frag) (c : Cs) : Sp := fun vs H Q E => ∃ p s m b e, vs = [p, s, m, b, e] ∧ Kn K H p ∧ Kn K H s ∧ Kn K H m ∧ Kn K H b ∧ Kn K H e ∧ Fin (countO c p s m b e) H Q E
theorem spx_count {K : PySem.W.Frag} {c : Cs} {H : Hp} {p s m b e : V} (h1 : Kn K H p) (h2 : Kn K H s) (h3 : Kn K H m) (h4 : Kn K H b) (h5 : Kn K H e) : SpX (spCount K c) [p, s, m, b, e] H (countO c p s m b e) :=
  fun H1 x Q E q r => ⟨p, s, m, b, e, rfl, h1.ex x, h2.ex x, h3.ex x, h4.ex x, h5.ex x, q, r⟩
theorem spv_count {K : PySem.W.Frag} {c : Cs} {H : Hp} {p s m b e : Int} (R : Ring p s) (l : Lv 1 p) (m1 : 1 ≤ m) (m2 : m ≤ top p s) (b0 : 0 ≤ b) (be : b ≤ e) (ep : e < p) :
    SpV (fun vs H Q _ => spCount K c vs H Q E0) [.int p, .int s, .int m, .int b, .int e] H (.int (inCnt p s m.toNat b e)) := by
  have h := spx_count (K := K) (c := c) (H := H) (p := .int p) (s := .int s) (m := .int m) (b := .int b) (e := .int e) l (R.ls l) (lv_le (lv_top R l) (by omega) m2) (lv_le l b0 (by omega)) (lv_le l (by omega) (by omega))
  have eO : countO c (.int p) (.int s) (.int m) (.int b) (.int e) = .val (.int (inCnt p s m.toNat b e)) := by
    unfold countO
    rw [marksO_ok R m1 m2]
    show (match stretchO c (.int p) (.int b) (.int e) with | .err C => Out.err C | .val _ => _) = _
    rw [stretchO_ok b0 be (show e < iv (.int p) from ep)]
    rfl
  rw [eO] at h
  exact fun H1 x Q q E => spv_of h H1 x Q q E0
theorem ok_count {c : Cs} (F : Fun K "count" "count" s_count f fd) (G_check_marks : FnOk P w K mg base (L2.CX P w) 3 f1 fd1 ["places", "step", "marks"] (spMarks K c)) (A_check_marks : At K mg "check_marks" s_check_marks ["places", "step", "marks"] f1 fd1)
    (G_check_stretch : FnOk P w K mg base (L2.CX P w) 2 f2 fd2 ["places", "begin", "end"] (spStretch K c)) (A_check_stretch : At K mg "check_stretch" s_check_stretch ["places", "begin", "end"] f2 fd2)
    (G_marks_to : FnOk P w K mg base CX0 2 f3 fd3 ["places", "step", "marks", "place"] spMarksTo) (A_marks_to : At K mg "marks_to" s_marks_to ["places", "step", "marks", "place"] f3 fd3) : FnOk P w K mg base (L2.CX P w) 4 f fd ["places", "step", "marks", "begin", "end"] (spCount K c) := by
  refine F.okX sc_count (fun vs H Q E h => ?_) (fun cdv A outer s H vs Q E hr h => ?_)
  · obtain ⟨p, s, m, b, e, rfl, _⟩ := h
    rfl
  · obtain ⟨p, s, m, b, e, rfl, h1, h2, h3, h4, h5, k⟩ := h
    refine ⟨_, (pss_cons (ps_expr (pe_call G_check_marks (hr.mono (by omega)) rfl A_check_marks.g A_check_marks.fn.kp A_check_marks.b .nil (passes_call (takes_of rfl rfl rfl rfl) (fun _ _ _ _ h => h)) (pa_cons (pv 0) (pa_cons (pv 1) (pa_cons (pv 2) pa_nil)))))
      (pss_cons (ps_expr (pe_call G_check_stretch (hr.mono (by omega)) rfl A_check_stretch.g A_check_stretch.fn.kp A_check_stretch.b .nil (passes_call (takes_of rfl rfl rfl rfl) (fun _ _ _ _ h => h)) (pa_cons (pv 0) (pa_cons (pv 3) (pa_cons (pv 4) pa_nil)))))
      (pss_cons (ps_set (i := 5) sc_count.nd rfl (Or.inl rfl) (pe_ifExp (pt_cmpR op_gt (pv 3) pe_int (nomark _)) (pe_call G_marks_to (hr.mono (by omega)) rfl A_marks_to.g A_marks_to.fn.kp A_marks_to.b .nil pass0 (pa_cons (pv 0) (pa_cons (pv 1) (pa_cons (pv 2) (pa_cons (pe_op op_sub (pv 3) pe_int) pa_nil))))) pe_int))
      (pss_cons (ps_ret (pe_op op_sub (pe_call G_marks_to (hr.mono (by omega)) rfl A_marks_to.g A_marks_to.fn.kp A_marks_to.b .nil pass0 (pa_cons (pv 0) (pa_cons (pv 1) (pa_cons (pv 2) (pa_cons (pv 4) pa_nil))))) (pv 5)))
      pss_nil)))), Go.at ?_⟩
    refine g_dropX (evx_call (ea_cons (ev_var rfl) (ea_cons (ev_var rfl) (ea_cons (ev_var rfl) ea_nil))) (spx_marks h1 h2 h3)) (fun v hv => ?_) (fun C hC H1 x => k.2 C (by unfold countO; rw [hC]) H1 x)
    obtain ⟨rfl, P, S, M, rfl, rfl, rfl, R, m1, m2⟩ := marksO_val hv
    refine g_dropX (evx_call (ea_cons (ev_var rfl) (ea_cons (ev_var rfl) (ea_cons (ev_var rfl) ea_nil))) (spx_stretch h4 h5)) (fun v hv2 => ?_) (fun C hC H1 x => k.2 C (by unfold countO; rw [hv]; show (match stretchO c (.int P) b e with | .err C => Out.err C | .val _ => _) = _; rw [hC]) H1 x)
    obtain ⟨rfl, B, E', rfl, rfl, b0, be, ep⟩ := stretchO_val hv2
    have ep : E' < P := ep
    have eO : countO c (.int P) (.int S) (.int M) (.int B) (.int E') = .val (.int (inCnt P S M.toNat B E')) := by
      unfold countO
      rw [hv]
      show (match stretchO c (.int P) (.int B) (.int E') with | .err C => Out.err C | .val _ => _) = _
      rw [hv2]
      rfl
    rw [eO] at k
    have lm : Lv 1 M := h3
    refine g_asg (v := .int (cnt P S M.toNat (B - 1))) (ev_if (et_test (ev_op (ev_var rfl) ev_c rv_I0)) (fun h => ?_) (fun h => ?_)) ?_
    · have : 0 < B := of_decide_eq_true h
      exact ev_call1 (ea_cons (ev_var rfl) (ea_cons (ev_var rfl) (ea_cons (ev_var rfl) (ea_cons (ev_op (ev_var rfl) ev_c rv_I0) ea_nil)))) (spv_marksTo R (by omega) (by omega) (by omega) h1 lm)
    · have : ¬ 0 < B := of_decide_eq_false h
      rw [cnt_neg P S M.toNat (B - 1) (by omega) (by omega)]
      exact ev_c
    · exact g_ret (ev_op (ev_call1 (ea_cons (ev_var rfl) (ea_cons (ev_var rfl) (ea_cons (ev_var rfl) (ea_cons (ev_var rfl) ea_nil)))) (spv_marksTo R (by omega) (by omega) (by omega) h1 lm)) (ev_var rfl) rv_I0) k.val
/-! ### answers -/
abbrev s_First___init__ : Stmt := inClass (topS 18) 0
theorem sc_First___init__ : FnScope ["self", "mark"] ["self", "mark"] (defScope s_First___init__) := ⟨rfl, rfl, rfl, by decide +kernel, rfl, by decide +kernel, by decide +kernel⟩
theorem ok_First___init__ {C : Addr} (Cl : Cls K C) (na : NoAttr K C "mark") (F : Fun K "__init__" "First.__init__" s_First___init__ f fd) : FnOk P w K mg base CX0 1 f fd ["self", "mark"] (spIni C "mark") := by
  refine F.ok sc_First___init__ (fun vs H Q E h => ?_) (fun cdv A outer s H vs Q E hr h => ?_)
  · obtain ⟨p, dx, x, rfl, _⟩ := h
    rfl
  · obtain ⟨p, dx, x, rfl, h1, k⟩ := h
    exact ⟨_, (pss_cons (ps_fld (pv 0) (pv 1) rfl)
      pss_nil), ini_body Cl na h1 k⟩
abbrev s_Never___init__ : Stmt := inClass (topS 19) 0
theorem sc_Never___init__ : FnScope ["self", "common"] ["self", "common"] (defScope s_Never___init__) := ⟨rfl, rfl, rfl, by decide +kernel, rfl, by decide +kernel, by decide +kernel⟩
theorem ok_Never___init__ {C : Addr} (Cl : Cls K C) (na : NoAttr K C "common") (F : Fun K "__init__" "Never.__init__" s_Never___init__ f fd) : FnOk P w K mg base CX0 1 f fd ["self", "common"] (spIni C "common") := by
  refine F.ok sc_Never___init__ (fun vs H Q E h => ?_) (fun cdv A outer s H vs Q E hr h => ?_)
  · obtain ⟨p, dx, x, rfl, _⟩ := h
    rfl
  · obtain ⟨p, dx, x, rfl, h1, k⟩ := h
    exact ⟨_, (pss_cons (ps_fld (pv 0) (pv 1) rfl)
      pss_nil), ini_body Cl na h1 k⟩
abbrev s_First_shows : Stmt := inClass (topS 18) 1
theorem sc_First_shows : FnScope ["self", "places", "step", "begin", "end", "before"] ["self", "places", "step", "begin", "end"] (defScope s_First_shows) := ⟨rfl, rfl, rfl, by decide +kernel, rfl, by decide +kernel, by decide +kernel⟩
/-- an answer's one attribute -/
def AnsAt (H : Hp) (C p : Addr) (f : Str) (m : Int) : Prop := ∃ dx, H p = some (.ins C dx [(f, .int m)])
theorem AnsAt.ex {H H' : Hp} {C p : Addr} {f : Str} {m : Int} (h : AnsAt H C p f m) (e : Ex H H') : AnsAt H' C p f m := let ⟨dx, h⟩ := h; ⟨dx, e p _ h⟩
def spShF (C : Addr) : Sp := fun vs H Q _ => ∃ (a : Addr) (m p s b e : Int), vs = [.ref a, .int p, .int s, .int b, .int e] ∧ AnsAt H C a "mark" m ∧ Ring p s ∧ 0 ≤ b ∧ b ≤ e ∧ e < p ∧ Lv 1 p ∧ Lv 1 m ∧ ∀ H', Ex H H' → Q (.bl (showsF p s b e m)) H'
theorem spv_shF {C : Addr} {H : Hp} {a : Addr} {m p s b e : Int} (h : AnsAt H C a "mark" m) (R : Ring p s) (b0 : 0 ≤ b) (be : b ≤ e) (ep : e < p) (l1 : Lv 1 p) (l2 : Lv 1 m) : SpV (spShF C) [.ref a, .int p, .int s, .int b, .int e] H (.bl (showsF p s b e m)) :=
  fun H1 x Q q E => ⟨a, m, p, s, b, e, rfl, h.ex x, R, b0, be, ep, l1, l2, q⟩
theorem ok_First_shows {C : Addr} (Cl : Cls K C) (na : NoAttr K C "mark") (F : Fun K "shows" "First.shows" s_First_shows f fd) (G_is_number : FnOk P w K mg base CX0 1 f1 fd1 ["thing", "least", "most"] (spIsNum K)) (A_is_number : At K mg "is_number" s_is_number ["thing", "least", "most"] f1 fd1)
    (G_marks_to : FnOk P w K mg base CX0 2 f2 fd2 ["places", "step", "marks", "place"] spMarksTo) (A_marks_to : At K mg "marks_to" s_marks_to ["places", "step", "marks", "place"] f2 fd2) : FnOk P w K mg base CX0 3 f fd ["self", "places", "step", "begin", "end"] (spShF C) := by
  refine F.ok sc_First_shows (fun vs H Q E h => ?_) (fun cdv A outer s H vs Q E hr h => ?_)
  · obtain ⟨a, m, p, s, b, e, rfl, _⟩ := h
    rfl
  · obtain ⟨a, m, p, s, b, e, rfl, ⟨dx, hA⟩, R, b0, be, ep, lp, lm, k⟩ := h
    have ls := R.ls lp
    have p1 := R.p
    have lk : List.lookup ("mark" : Str) [(("mark" : Str), V.int m)] = some (V.int m) := by simp [List.lookup]
    refine ⟨_, (pss_cons (ps_if (PW.pt (pw_or (pt_not (pt_val (pe_call G_is_number (hr.mono (by omega)) rfl A_is_number.g A_is_number.fn.kp A_is_number.b .nil pass0 (pa_cons (pe_fld (pv 0) rfl) (pa_cons pe_int (pa_cons (pe_fld (pv 0) rfl) pa_nil)))))) (pw_or1 (pt_not (pt_chain op_le op_le (pv 3) (pe_op op_mod (pe_op op_mulB (pe_fld (pv 0) rfl) (pv 2)) (pv 1)) (pv 4)))))) (pss_cons (ps_ret pe_bl)
      pss_nil) pss_nil)
      (pss_cons (ps_set (i := 5) sc_First_shows.nd rfl (Or.inl rfl) (pe_ifExp (pt_cmpR op_gt (pv 3) pe_int (nomark _)) (pe_call G_marks_to (hr.mono (by omega)) rfl A_marks_to.g A_marks_to.fn.kp A_marks_to.b .nil pass0 (pa_cons (pv 1) (pa_cons (pv 2) (pa_cons (pe_fld (pv 0) rfl) (pa_cons (pe_op op_sub (pv 3) pe_int) pa_nil))))) pe_int))
      (pss_cons (ps_ret (pe_cmpR op_eq (pe_call G_marks_to (hr.mono (by omega)) rfl A_marks_to.g A_marks_to.fn.kp A_marks_to.b .nil pass0 (pa_cons (pv 1) (pa_cons (pv 2) (pa_cons (pe_fld (pv 0) rfl) (pa_cons (pv 4) pa_nil))))) (pv 5) (nomark _)))
      pss_nil))), Go.at ?_⟩
    have mk : Ev (tFld K (tVar 0) "mark") (start ["self", "places", "step", "begin", "end", "before"] [.ref a, .int p, .int s, .int b, .int e]) H (.int m) := ev_fld (ev_var rfl) hA Cl na lk
    refine g_when (b := !(decide (0 ≤ m) && decide (m ≤ m)) || !(decide (b ≤ m * s % p) && decide (m * s % p ≤ e))) (et_or (et_not (et_B (ev_call1 (ea_cons mk (ea_cons ev_c (ea_cons mk ea_nil))) (spv_isNum (x := .int m) lm fun i e => ⟨_, rfl⟩)))) fun _ => et_not (et_test (ev_chainI (ev_var rfl) (ev_op (ev_op mk (ev_var rfl) (rv_I (mul_ok lm ls (by decide) (by decide)))) (ev_var rfl) (rv_I (show (0 : Int) < p by omega))) (ev_var rfl)))) (fun h => ?_) (fun h => ?_)
    · refine g_ret (v := .bl (showsF p s b e m)) (ev_is ev_c ?_) k
      unfold showsF
      rw [Bool.or_eq_true] at h
      rcases h with h | h
      · have : decide (0 ≤ m) = false := by
          cases q : decide (0 ≤ m) with
          | false => rfl
          | true => rw [q] at h; simp at h
        rw [this]; rfl
      · have : (decide (b ≤ m * s % p) && decide (m * s % p ≤ e)) = false := by
          cases q : (decide (b ≤ m * s % p) && decide (m * s % p ≤ e)) with
          | false => rfl
          | true => rw [q] at h; cases h
        rw [this, Bool.and_false]; rfl
    · rw [Bool.or_eq_false_iff] at h
      have h1 : decide (0 ≤ m) = true := by
        have := nt h.1
        rw [Bool.and_eq_true] at this
        exact this.1
      have h2 := nt h.2
      have m0 : 0 ≤ m := of_decide_eq_true h1
      refine g_asg (v := .int (RS.cnt p s m.toNat (b - 1))) (ev_if (et_test (ev_op (ev_var rfl) ev_c rv_I0)) (fun h => ?_) (fun h => ?_)) ?_
      · have : 0 < b := of_decide_eq_true h
        exact ev_call1 (ea_cons (ev_var rfl) (ea_cons (ev_var rfl) (ea_cons mk (ea_cons (ev_op (ev_var rfl) ev_c rv_I0) ea_nil)))) (spv_marksTo R m0 (by omega) (by omega) lp lm)
      · have : ¬ 0 < b := of_decide_eq_false h
        rw [cnt_neg p s m.toNat (b - 1) (by omega) (by omega)]
        exact ev_c
      · have mk : Ev (tFld K (tVar 0) "mark") ((start ["self", "places", "step", "begin", "end", "before"] [.ref a, .int p, .int s, .int b, .int e]).set 5 (some (.int (RS.cnt p s m.toNat (b - 1))))) H (.int m) := ev_fld (ev_var rfl) hA Cl na lk
        refine g_ret (v := .bl (showsF p s b e m)) (ev_is (ev_op (ev_call1 (ea_cons (ev_var rfl) (ea_cons (ev_var rfl) (ea_cons mk (ea_cons (ev_var rfl) ea_nil)))) (spv_marksTo R m0 (by omega) ep lp lm)) (ev_var rfl) (rv_eq rfl)) ?_) k
        unfold showsF
        rw [h1, h2]
        unfold inCnt
        refine congrArg V.bl ?_
        rw [Bool.and_self, Bool.true_and]
        by_cases z : RS.cnt p s m.toNat e = RS.cnt p s m.toNat (b - 1)
        · rw [z, decide_eq_true rfl, decide_eq_true (by omega)]
        · rw [decide_eq_false (fun q => z (by injection q)), decide_eq_false (by omega)]
abbrev s_Never_shows : Stmt := inClass (topS 19) 1
theorem sc_Never_shows : FnScope ["self", "places", "step", "begin", "end"] ["self", "places", "step", "begin", "end"] (defScope s_Never_shows) := ⟨rfl, rfl, rfl, by decide +kernel, rfl, by decide +kernel, by decide +kernel⟩
def spShN (C : Addr) : Sp := fun vs H Q _ => ∃ (a : Addr) (c p s b e : Int), vs = [.ref a, .int p, .int s, .int b, .int e] ∧ AnsAt H C a "common" c ∧ Lv 1 e ∧ Lv 1 c ∧ ∀ H', Ex H H' → Q (.bl (showsN p s b e c)) H'
theorem spv_shN {C : Addr} {H : Hp} {a : Addr} {c p s b e : Int} (h : AnsAt H C a "common" c) (l1 : Lv 1 e) (l2 : Lv 1 c) : SpV (spShN C) [.ref a, .int p, .int s, .int b, .int e] H (.bl (showsN p s b e c)) :=
  fun H1 x Q q E => ⟨a, c, p, s, b, e, rfl, h.ex x, l1, l2, q⟩
theorem ne_int {a b : Int} : (!decide (V.int a = V.int b)) = !decide (a = b) := by
  by_cases z : a = b
  · rw [z, decide_eq_true rfl, decide_eq_true rfl]
  · rw [decide_eq_false z, decide_eq_false (fun q => z (by injection q))]
theorem ok_Never_shows {C : Addr} (Cl : Cls K C) (na : NoAttr K C "common") (F : Fun K "shows" "Never.shows" s_Never_shows f fd) (G_is_number : FnOk P w K mg base CX0 1 f1 fd1 ["thing", "least", "most"] (spIsNum K)) (A_is_number : At K mg "is_number" s_is_number ["thing", "least", "most"] f1 fd1) :
    FnOk P w K mg base CX0 3 f fd ["self", "places", "step", "begin", "end"] (spShN C) := by
  refine F.ok sc_Never_shows (fun vs H Q E h => ?_) (fun cdv A outer s H vs Q E hr h => ?_)
  · obtain ⟨a, m, p, s, b, e, rfl, _⟩ := h
    rfl
  · obtain ⟨a, m, p, s, b, e, rfl, ⟨dx, hA⟩, le, lm, k⟩ := h
    have lk : List.lookup ("common" : Str) [(("common" : Str), V.int m)] = some (V.int m) := by simp [List.lookup]
    refine ⟨_, (pss_cons (ps_if (PW.pt (pw_or (pt_not (pt_val (pe_call G_is_number (hr.mono (by omega)) rfl A_is_number.g A_is_number.fn.kp A_is_number.b .nil pass0 (pa_cons (pe_fld (pv 0) rfl) (pa_cons pe_int (pa_cons (pe_fld (pv 0) rfl) pa_nil)))))) (pw_or (pt_cmpR op_ne (pe_op op_mod (pv 1) (pe_fld (pv 0) rfl)) pe_int (nomark _)) (pw_or1 (pt_cmpR op_ne (pe_op op_mod (pv 2) (pe_fld (pv 0) rfl)) pe_int (nomark _)))))) (pss_cons (ps_ret pe_bl)
      pss_nil) pss_nil)
      (pss_cons (ps_ret (pe_cmpR op_lt (pe_op op_mulB (pe_op op_fdivW (pv 4) (pe_fld (pv 0) rfl)) (pe_fld (pv 0) rfl)) (pv 3) (nomark _)))
      pss_nil)), Go.at ?_⟩
    have mk : Ev (tFld K (tVar 0) "common") (start ["self", "places", "step", "begin", "end"] [.ref a, .int p, .int s, .int b, .int e]) H (.int m) := ev_fld (ev_var rfl) hA Cl na lk
    have n1 : EvT (tNot (tB (tCall (spIsNum K) [] E0 (tCons (tFld K (tVar 0) "common") (tCons (tC (.int 1)) (tCons (tFld K (tVar 0) "common") tNil)))))) (start ["self", "places", "step", "begin", "end"] [.ref a, .int p, .int s, .int b, .int e]) H (!(decide (1 ≤ m) && decide (m ≤ m))) := et_not (et_B (ev_call1 (ea_cons mk (ea_cons ev_c (ea_cons mk ea_nil))) (spv_isNum (x := .int m) lm fun i e => ⟨_, rfl⟩)))
    by_cases m1 : 1 ≤ m
    · rw [decide_eq_true m1, decide_eq_true (Int.le_refl m)] at n1
      have sN : showsN p s b e m = (decide (p % m = 0) && decide (s % m = 0) && decide (e / m * m < b)) := by
        unfold showsN
        rw [decide_eq_true m1, Bool.true_and]
      refine g_when (b := !(decide (p % m = 0)) || !(decide (s % m = 0))) (et_or (b := !(decide (p % m = 0)) || !(decide (s % m = 0))) n1 fun _ => et_or (et_is (et_test (ev_op (ev_op (ev_var rfl) mk (rv_I (show (0 : Int) < m by omega))) ev_c (rv_ne rfl))) ne_int) fun _ => et_is (et_test (ev_op (ev_op (ev_var rfl) mk (rv_I (show (0 : Int) < m by omega))) ev_c (rv_ne rfl))) ne_int) (fun h => ?_) (fun h => ?_)
      · refine g_ret (v := .bl (showsN p s b e m)) (ev_is ev_c ?_) k
        rw [sN]
        cases q1 : decide (p % m = 0) <;> cases q2 : decide (s % m = 0) <;> simp [q1, q2] at h ⊢
      · have ld : Lv 1 (e / m) := lv_div le (by omega)
        refine g_ret (v := .bl (showsN p s b e m)) (ev_is (ev_op (ev_op (ev_op (ev_var rfl) mk (rv_I (div_ok (by omega) lm))) mk (rv_I (mul_ok ld lm (by decide) (by decide)))) (ev_var rfl) rv_I0) ?_) k
        rw [sN]
        cases q1 : decide (p % m = 0) <;> cases q2 : decide (s % m = 0) <;> simp [q1, q2] at h ⊢
    · rw [decide_eq_false m1] at n1
      refine g_when (b := true) (et_or (a := true) (b := true) n1 fun h => nomatch h) (fun _ => ?_) (fun h => nomatch h)
      refine g_ret (v := .bl (showsN p s b e m)) (ev_is ev_c ?_) k
      unfold showsN
      rw [decide_eq_false m1]
      rfl
/-! ### the first mark -/
abbrev s_led_back : Stmt := topS 21
theorem sc_led_back : FnScope ["led", "mark", "places", "step", "begin"] ["led", "mark"] (defScope s_led_back) := ⟨rfl, rfl, rfl, by decide +kernel, rfl, by decide +kernel, by decide +kernel⟩
/-- the rows to which it was led stand at a -/
def LedAt (H : Hp) (a : Addr) (l : List (Int × Int × Int)) : Prop := ∃ xs, H a = some (.lst xs) ∧ TupsAt H xs (l.map fun x => [V.int x.1, V.int x.2.1, V.int x.2.2])
def spLedBack (P0 A0 B0 E1 : Int) : Sp := fun vs H Q _ => ∃ (a : Addr) (l : List (Int × Int × Int)) (p s b e m : Int), vs = [.ref a, .int m] ∧ LedAt H a l ∧ Led P0 A0 B0 E1 l p s b e ∧ 0 < p ∧ FirstIn p s b e m ∧ Lv 1 P0 ∧
  ∀ k H', FirstIn P0 A0 B0 E1 k → Ex H H' → Q (.int k) H'
theorem first_lv {P0 p s b e m : Int} (h : FirstIn p s b e m) (hp : 0 < p) (hP : p ≤ P0) (l : Lv 1 P0) : Lv 1 m := lv_le l h.nn (by have := h.lt hp; have := top_le (p := p) (s := s) hp; omega)
theorem ok_led_back (hA : Blt mg) {P0 A0 B0 E1 : Int} (F : Fun K "led_back" "led_back" s_led_back f fd) : FnOk P w K mg base CX0 1 f fd ["led", "mark"] (spLedBack P0 A0 B0 E1) := by
  refine F.ok sc_led_back (fun vs H Q E h => ?_) (fun cdv A outer s H vs Q E hr h => ?_)
  · obtain ⟨a, l, p, s, b, e, m, rfl, _⟩ := h
    rfl
  · obtain ⟨a, l, p, s, b, e, m, rfl, ⟨xs, hxs, hT⟩, L, p0, hF, lP, k⟩ := h
    refine ⟨_, (pss_cons (ps_for PassesOwn.never rfl (pi_reversed rfl hA.z_reversed (pa_cons (pv 0) pa_nil)) (pg_tup rfl (pgs_cons (pg_name (i := 2) sc_led_back.nd rfl (Or.inl rfl)) (pgs_cons (pg_name (i := 3) sc_led_back.nd rfl (Or.inl rfl)) (pgs_cons (pg_name (i := 4) sc_led_back.nd rfl (Or.inl rfl)) pgs_nil)))) (pss_cons (ps_set (i := 1) sc_led_back.nd rfl (Or.inl rfl) (pe_op op_fdivW (pe_op op_sub (pe_op op_add (pe_op op_add (pv 4) (pe_op op_mulB (pv 2) (pv 1))) (pv 3)) pe_int) (pv 3)))
      pss_nil))
      (pss_cons (ps_ret (pv 1))
      pss_nil)), Go.at ?_⟩
    refine g_for (ef_rev3 (ea_cons (ev_var rfl) ea_nil) (sq_of hxs) hT) (fun i σ' => ∃ (mk p s b e : Int) (o2 o3 o4 : Option V), σ' = [some (.ref a), some (.int mk), o2, o3, o4] ∧ Led P0 A0 B0 E1 (l.take (l.length - i)) p s b e ∧ 0 < p ∧ FirstIn p s b e mk) ⟨m, p, s, b, e, none, none, none, rfl, by rw [Nat.sub_zero, List.take_length]; exact L, p0, hF⟩ ?_ ?_
    · rintro H2 e2 i σ' hi ⟨mk, p, s, b, e, o2, o3, o4, rfl, L', p0', hF'⟩
      have hj : l.length - 1 - i < l.length := by omega
      have hcut : l.take (l.length - i) = l.take (l.length - (i + 1)) ++ [l[l.length - 1 - i]] := by
        have e1 : l.length - i = (l.length - 1 - i) + 1 := by omega
        have e2 : l.length - (i + 1) = l.length - 1 - i := by omega
        rw [e1, e2, List.take_add_one, List.getElem?_eq_getElem hj]
        rfl
      rcases L'.back p0' hF' with ⟨z, _⟩ | ⟨l', p', s', b', e', hl', L2', p2, s2, b2, bp, hF2, hF3⟩
      · rw [hcut] at z; simp at z
      · rw [hcut] at hl'
        obtain ⟨z1, z2⟩ := List.append_inj' hl' rfl
        have z3 : l[l.length - 1 - i] = (p', s', b') := by simpa using z2
        have gx : l[l.length - 1 - i]? = some (p', s', b') := by rw [List.getElem?_eq_getElem hj, z3]
        rw [gx]
        rw [← z1] at L2'
        have bd := L2'.bound
        have lp : Lv 1 p' := lv_le lP (by omega) bd.1
        have bd2 := (L'.bound).2 (p', s', b') (by rw [hcut, z3]; simp)
        have sp : s' < p' := bd2.2.1
        have ls : Lv 1 s' := lv_le lp (by omega) (by omega)
        have lm : Lv 1 mk := first_lv hF2 s2 (show s' ≤ P0 by omega) lP
        refine g_asg (ev_op (ev_op (ev_op (ev_op (ev_var rfl) (ev_op (ev_var rfl) (ev_var rfl) (rv_I (mul_ok lp lm (by decide) (by decide)))) rv_I0) (ev_var rfl) rv_I0) ev_c rv_I0) (ev_var rfl) (rv_I (div_ok s2 ls))) ?_
        exact g_next fun H3 e3 => ⟨e3, _, p', s', b', e', _, _, _, rfl, L2', p2, hF3⟩
    · rintro H2 e2 σ' ⟨mk, p, s, b, e, o2, o3, o4, rfl, L', p0', hF'⟩
      rw [Nat.sub_self, List.take_zero] at L'
      refine g_ret (ev_var rfl) fun H3 e3 => ?_
      rcases L'.back p0' hF' with ⟨_, z⟩ | ⟨l', p', s', b', e', hl', _⟩
      · exact k mk H3 z (e2.trans e3)
      · simp at hl'
abbrev s_least_mark : Stmt := topS 22
theorem sc_least_mark : FnScope ["places", "step", "begin", "end", "led", "times"] ["places", "step", "begin", "end"] (defScope s_least_mark) := ⟨rfl, rfl, rfl, by decide +kernel, rfl, by decide +kernel, by decide +kernel⟩
def spLeast : Sp := fun vs H Q _ => ∃ p s b e : Int, vs = [.int p, .int s, .int b, .int e] ∧ Ring p s ∧ 0 ≤ b ∧ b ≤ e ∧ e < p ∧ HasM (G p s) b e ∧ Lv 1 p ∧ ∀ k H', FirstIn p s b e k → Ex H H' → Q (.int k) H'
theorem ok_least_mark (F : Fun K "least_mark" "least_mark" s_least_mark f fd) (G_led_back : ∀ P0 A0 B0 E1 : Int, FnOk P w K mg base CX0 1 f1 fd1 ["led", "mark"] (spLedBack P0 A0 B0 E1)) (A_led_back : At K mg "led_back" s_led_back ["led", "mark"] f1 fd1) : FnOk P w K mg base CX0 2 f fd ["places", "step", "begin", "end"] spLeast := by
  refine F.ok sc_least_mark (fun vs H Q E h => ?_) (fun cdv A outer s H vs Q E hr h => ?_)
  · obtain ⟨p, s, b, e, rfl, _⟩ := h
    rfl
  · obtain ⟨P0, A0, B0, E1, rfl, R, b0, be, ep, hM, lP, k⟩ := h
    have R1 := R.p
    have R2 := R.s0
    have R3 := R.s
    replace G_led_back := G_led_back P0 A0 B0 E1
    refine ⟨_, (pss_cons (ps_set (i := 4) sc_least_mark.nd rfl (Or.inl rfl) (pe_lst pa_nil))
      (pss_cons (ps_while PassesOwn.never (pt_cmpR op_gt (pv 2) pe_int (nomark _)) (pss_cut (ps_if (pt_cmpR op_gt (pe_op op_mulB pe_int (pv 1)) (pv 0) (nomark _)) (pss_cons (ps_par3 (i := 1) (j := 2) (l := 3) (by rfl) sc_least_mark.nd rfl rfl rfl (by decide) (by decide) (by decide) rfl rfl rfl (pa_cons (pe_op op_sub (pv 0) (pv 1)) (pa_cons (pe_op op_sub (pv 0) (pv 3)) (pa_cons (pe_op op_sub (pv 0) (pv 2)) pa_nil))) (by rfl))
      pss_nil) pss_nil)
      (pss_cons (ps_set (i := 5) sc_least_mark.nd rfl (Or.inl rfl) (pe_op op_fdivW (pe_op op_sub (pe_op op_add (pv 2) (pv 1)) pe_int) (pv 1)))
      (pss_cons (ps_if (pt_cmpR op_le (pe_op op_mulB (pv 5) (pv 1)) (pv 3) (nomark _)) (pss_cons (ps_ret (pe_call G_led_back (hr.mono (by omega)) rfl A_led_back.g A_led_back.fn.kp A_led_back.b .nil pass0 (pa_cons (pv 4) (pa_cons (pv 5) pa_nil))))
      pss_nil) pss_nil)
      (pss_cons (ps_expr (pe_bm PySem.F.plainAttrs_list PySem.F.slot_list_append PySem.F.type_list_append mt_append (pv 4) (pa_cons (pe_tup (pa_cons (pv 0) (pa_cons (pv 1) (pa_cons (pv 2) pa_nil)))) pa_nil)))
      (pss_cons (ps_asg (pe_tup (pa_cons (pv 1) (pa_cons (pe_op op_mod (pe_un un_neg (pv 0)) (pv 1)) (pa_cons (pe_op op_mod (pv 2) (pv 1)) (pa_cons (pe_op op_mod (pv 3) (pv 1)) pa_nil))))) (pg_tup rfl (pgs_cons (pg_name (i := 0) sc_least_mark.nd rfl (Or.inl rfl)) (pgs_cons (pg_name (i := 1) sc_least_mark.nd rfl (Or.inl rfl)) (pgs_cons (pg_name (i := 2) sc_least_mark.nd rfl (Or.inl rfl)) (pgs_cons (pg_name (i := 3) sc_least_mark.nd rfl (Or.inl rfl)) pgs_nil))))))
      pss_nil))))))
      (pss_cons (ps_ret (pe_call G_led_back (hr.mono (by omega)) rfl A_led_back.g A_led_back.fn.kp A_led_back.b .nil pass0 (pa_cons (pv 4) (pa_cons pe_int pa_nil))))
      pss_nil))), Go.at ?_⟩
    refine g_asgL (el_lst ea_nil (by show 0 ≤ 100000; decide)) ?_
    intro d H1 nd e1 hd
    refine g_whileH (fun σ' H' => ∃ (l : List (Int × Int × Int)) (p s b e : Int) (o5 : Option V), σ' = [some (.int p), some (.int s), some (.int b), some (.int e), some (.ref d), o5] ∧ Ex H H' ∧ LedAt H' d l ∧ Led P0 A0 B0 E1 l p s b e ∧ 0 < p ∧ p ≤ P0 ∧ 0 ≤ s ∧ s < p ∧ 0 ≤ b ∧ b ≤ e ∧ e < p ∧ HasM (G p s) b e ∧ (2 : Int) ^ l.length * p ≤ P0)
      (fun σ' => match σ' with | _ :: some (.int s) :: _ => s.toNat | _ => 0) (fun H2 e2 => ⟨[], P0, A0, B0, E1, none, rfl, e1.trans e2, ⟨[], e2 d _ hd, rfl, fun i ps h => by simp at h⟩, .nil, by omega, by omega, R2, R3, b0, be, ep, hM, by simp⟩) ?_
    rintro σ' H' ⟨l, p, s, b, e, o5, rfl, e2, ⟨xs, hxs, hT⟩, L, p0, pP, s0, sp, b0, be, ep, hM, hlen⟩
    have lp : Lv 1 p := lv_le lP (by omega) pP
    refine ⟨_, et_test (ev_op (ev_var rfl) ev_c rv_I0), fun hb => ?_, fun hb => ?_⟩
    · have hb0 : 0 < b := of_decide_eq_true hb
      have hs0 : 0 < s := step_there p0 s0 hb0 ep hM
      have ls : Lv 1 s := lv_le lp (by omega) (by omega)
      refine g_cut (fun σ' H2 => Ex H' H2 ∧ ∃ s2 b2 e2' : Int, σ' = [some (.int p), some (.int s2), some (.int b2), some (.int e2'), some (.ref d), o5] ∧ Led P0 A0 B0 E1 l p s2 b2 e2' ∧ 0 < s2 ∧ 2 * s2 ≤ p ∧ s2 ≤ s ∧ 0 < b2 ∧ b2 ≤ e2' ∧ e2' < p ∧ HasM (G p s2) b2 e2') (g_one (g_when (et_test (ev_op (ev_op ev_c (ev_var rfl) (rv_I (mul_ok (lv_small (by decide) : Lv 1 (2 : Int)) ls (by decide) (by decide)))) (ev_var rfl) rv_I0)) (fun h => ?_) (fun h => g_next fun H2 e3 => ⟨e3, s, b, e, rfl, L, hs0, by have := of_decide_eq_false h; omega, Int.le_refl _, hb0, be, ep, hM⟩))) ?_
      · have h2 : p < 2 * s := of_decide_eq_true h
        exact g_par3 (ea_cons (ev_op (ev_var rfl) (ev_var rfl) rv_I0) (ea_cons (ev_op (ev_var rfl) (ev_var rfl) rv_I0) (ea_cons (ev_op (ev_var rfl) (ev_var rfl) rv_I0) ea_nil))) (g_next fun H2 e3 => ⟨e3, p - s, p - e, p - b, rfl, .turn L hb0 ep, by omega, by omega, by omega, by omega, by omega, by omega, hasM_reflect hM⟩)
      rintro σ' H2 ⟨e3, s2, b2, e2', rfl, L2', s20, s2h, s2s, b20, b2e, e2p, hM2⟩
      refine (?_ : Go _ _ _ H') H2 e3
      have ls2 : Lv 1 s2 := lv_le lp (by omega) (by omega)
      have lb2 : Lv 1 b2 := lv_le lp (by omega) (by omega)
      have s2p : s2 < p := by omega
      refine g_asg (ev_op (ev_op (ev_op (ev_var rfl) (ev_var rfl) rv_I0) ev_c rv_I0) (ev_var rfl) (rv_I (div_ok s20 ls2))) ?_
      have lt := lv_div (lv_sub (lv_add lb2 ls2) (lv_small (by decide) : Lv 1 (1 : Int))) s20
      refine g_when (et_test (ev_op (ev_op (ev_var rfl) (ev_var rfl) (rv_I (mul_ok lt ls2 (by decide) (by decide)))) (ev_var rfl) rv_I0)) (fun h => ?_) (fun h => ?_)
      · have ht : (b2 + s2 - 1) / s2 * s2 ≤ e2' := of_decide_eq_true h
        have hF := first_direct (p := p) s20 b20 e2p ht
        exact fun H4 e4 => ⟨_, rfl, _, rfl, d, l, p, s2, b2, e2', _, rfl, ⟨xs, e4 d _ hxs, hT.ex e4⟩, L2', p0, hF, lP, fun k' H5 hk e5 => k k' H5 hk ((e2.trans e4).trans e5)⟩
      · have ht : e2' < (b2 + s2 - 1) / s2 * s2 := by have := of_decide_eq_false h; omega
        obtain ⟨hq, hb1, hbe1⟩ := same_block s20 b2e ht
        have he1 := Int.emod_lt_of_pos e2' s20
        have hn0 := Int.emod_nonneg (-p) (show s2 ≠ 0 by omega)
        have hn1 := Int.emod_lt_of_pos (-p) s20
        have hxl : xs.length = l.length := by rw [hT.1, List.length_map]
        have h2n : (2 : Int) ^ l.length ≤ P0 := by
          have : (2 : Int) ^ l.length * 1 ≤ 2 ^ l.length * p := Int.mul_le_mul_of_nonneg_left (by omega) (Int.le_of_lt (Int.pow_pos (by omega)))
          omega
        have hl8 := pow_small h2n lP
        refine g_appU hxs (ev_var rfl) (eu_tup (ea_cons (ev_var rfl) (ea_cons (ev_var rfl) (ea_cons (ev_var rfl) ea_nil))) (by show 3 ≤ 100000; decide)) (by omega) ?_
        intro q H3 nq e4 hq'
        refine g_asg4 (eu_tup (ea_cons (ev_var rfl) (ea_cons (ev_op (ev_un (ev_var rfl) ru_neg) (ev_var rfl) (rv_I s20)) (ea_cons (ev_op (ev_var rfl) (ev_var rfl) (rv_I s20)) (ea_cons (ev_op (ev_var rfl) (ev_var rfl) (rv_I s20)) ea_nil)))) (by show 4 ≤ 100000; decide)) (g_next fun H4 e5 => ⟨⟨l ++ [(p, s2, b2)], s2, -p % s2, b2 % s2, e2' % s2, _, rfl, ?_, ?_, .snoc L2' p0 s20 (by omega) b20 e2p b2e ht, s20, by omega, hn0, hn1, by omega, hbe1, he1, hasM_lead s20 hq hM2, ?_⟩, ?_⟩)
        · exact (Ex.mut (e2.trans e4) nd).trans e5
        · refine ⟨xs ++ [.ref q], e5 d _ upd_same, ?_⟩
          rw [List.map_append]
          refine TupsAt.ex ?_ e5
          have nqd : q ≠ d := fun z => by rw [z, hxs] at nq; cases nq
          exact ((hT.ex e4).upd (e4 d _ hxs)).snoc (by rw [upd_ne nqd]; exact hq')
        · rw [List.length_append]
          show (2 : Int) ^ (l.length + 1) * s2 ≤ P0
          rw [Int.pow_succ, Int.mul_assoc]
          have : (2 : Int) ^ l.length * (2 * s2) ≤ 2 ^ l.length * p := Int.mul_le_mul_of_nonneg_left (by omega) (Int.le_of_lt (Int.pow_pos (by omega)))
          omega
        · show (-p % s2).toNat < s.toNat
          omega
    · have hb0 : b = 0 := by have := of_decide_eq_false hb; omega
      subst hb0
      exact fun H4 e4 => ⟨_, rfl, d, l, p, s, 0, e, 0, rfl, ⟨xs, e4 d _ hxs, hT.ex e4⟩, L, p0, first_zero (Int.le_refl _) be, lP, fun k' H5 hk e5 => k k' H5 hk ((e2.trans e4).trans e5)⟩
abbrev s_first : Stmt := topS 23
theorem sc_first : FnScope ["places", "step", "begin", "end", "by"] ["places", "step", "begin", "end"] (defScope s_first) := ⟨rfl, rfl, rfl, by decide +kernel, rfl, by decide +kernel, by decide +kernel⟩
/-- how the first comes: an error, nobody, a mark -/
def spFirst (K : PySem.W.Frag) (c : Cs) (CF CN : Addr) : Sp := fun vs H Q E => ∃ p s b e, vs = [p, s, b, e] ∧ Kn K H p ∧ Kn K H s ∧ Kn K H b ∧ Kn K H e ∧ (∀ C, ringO c p s = .err C → ∀ H', Ex H H' → E (.ref C) none H') ∧
  (∀ v, ringO c p s = .val v → (∀ C, stretchO c p b e = .err C → ∀ H', Ex H H' → E (.ref C) none H') ∧
    (∀ v, stretchO c p b e = .val v → (¬ HasM (G (iv p) (iv s)) (iv b) (iv e) → ∀ x H', H x = none → Ex H H' → AnsAt H' CN x "common" (G (iv p) (iv s)) → Q (.ref x) H') ∧
      (HasM (G (iv p) (iv s)) (iv b) (iv e) → ∀ x k H', FirstIn (iv p) (iv s) (iv b) (iv e) k → H x = none → Ex H H' → AnsAt H' CF x "mark" k → Q (.ref x) H')))
theorem ok_first {c : Cs} {CF CN : Addr} (F : Fun K "first" "first" s_first f fd) (G_check_ring : FnOk P w K mg base (L2.CX P w) 2 f1 fd1 ["places", "step"] (spRing K c)) (A_check_ring : At K mg "check_ring" s_check_ring ["places", "step"] f1 fd1)
    (G_check_stretch : FnOk P w K mg base (L2.CX P w) 2 f2 fd2 ["places", "begin", "end"] (spStretch K c)) (A_check_stretch : At K mg "check_stretch" s_check_stretch ["places", "begin", "end"] f2 fd2)
    (G_common : FnOk P w K mg base CX0 1 f3 fd3 ["one", "other"] spCommon) (A_common : At K mg "common" s_common ["one", "other"] f3 fd3) (G_least_mark : FnOk P w K mg base CX0 2 f4 fd4 ["places", "step", "begin", "end"] spLeast) (A_least_mark : At K mg "least_mark" s_least_mark ["places", "step", "begin", "end"] f4 fd4)
    (M_First : Mk K CF f5) (G_First___init__ : FnOk P w K mg base CX0 1 f5 fd5 ["self", "mark"] (spIni CF "mark")) (M_First_g : mg "First" = some (.ref CF)) (B_First___init__ : Binds K fd5 ["self", "mark"] [])
    (M_Never : Mk K CN f6) (G_Never___init__ : FnOk P w K mg base CX0 1 f6 fd6 ["self", "common"] (spIni CN "common")) (M_Never_g : mg "Never" = some (.ref CN)) (B_Never___init__ : Binds K fd6 ["self", "common"] []) :
    FnOk P w K mg base (L2.CX P w) 3 f fd ["places", "step", "begin", "end"] (spFirst K c CF CN) := by
  refine F.okX sc_first (fun vs H Q E h => ?_) (fun cdv A outer s H vs Q E hr h => ?_)
  · obtain ⟨p, s, b, e, rfl, _⟩ := h
    rfl
  · obtain ⟨p, s, b, e, rfl, h1, h2, h3, h4, k1, k2⟩ := h
    refine ⟨_, (pss_cons (ps_expr (pe_call G_check_ring (hr.mono (by omega)) rfl A_check_ring.g A_check_ring.fn.kp A_check_ring.b .nil (passes_call (takes_of rfl rfl rfl rfl) (fun _ _ _ _ h => h)) (pa_cons (pv 0) (pa_cons (pv 1) pa_nil))))
      (pss_cons (ps_expr (pe_call G_check_stretch (hr.mono (by omega)) rfl A_check_stretch.g A_check_stretch.fn.kp A_check_stretch.b .nil (passes_call (takes_of rfl rfl rfl rfl) (fun _ _ _ _ h => h)) (pa_cons (pv 0) (pa_cons (pv 2) (pa_cons (pv 3) pa_nil)))))
      (pss_cons (ps_set (i := 4) sc_first.nd rfl (Or.inl rfl) (pe_call G_common (hr.mono (by omega)) rfl A_common.g A_common.fn.kp A_common.b .nil pass0 (pa_cons (pv 0) (pa_cons (pv 1) pa_nil))))
      (pss_cons (ps_if (pt_cmpR op_lt (pe_op op_mulB (pe_op op_fdivW (pv 3) (pv 4)) (pv 4)) (pv 2) (nomark _)) (pss_cons (ps_ret (pe_make M_Never G_Never___init__ (hr.mono (by omega)) rfl M_Never_g B_Never___init__ .nil pass0 (pa_cons (pv 4) pa_nil)))
      pss_nil) pss_nil)
      (pss_cons (ps_ret (pe_make M_First G_First___init__ (hr.mono (by omega)) rfl M_First_g B_First___init__ .nil pass0 (pa_cons (pe_call G_least_mark (hr.mono (by omega)) rfl A_least_mark.g A_least_mark.fn.kp A_least_mark.b .nil pass0 (pa_cons (pv 0) (pa_cons (pv 1) (pa_cons (pv 2) (pa_cons (pv 3) pa_nil))))) pa_nil)))
      pss_nil))))), Go.at ?_⟩
    refine g_dropX (evx_call (ea_cons (ev_var rfl) (ea_cons (ev_var rfl) ea_nil)) (spx_ring h1 h2)) (fun v hv => ?_) (fun C hC H1 x => k1 C hC H1 x)
    obtain ⟨k3, k4⟩ := k2 v hv
    obtain ⟨rfl, P', S', rfl, rfl, R⟩ := ringO_val hv
    refine g_dropX (evx_call (ea_cons (ev_var rfl) (ea_cons (ev_var rfl) (ea_cons (ev_var rfl) ea_nil))) (spx_stretch h3 h4)) (fun v hv2 => ?_) (fun C hC H1 x => k3 C hC H1 x)
    obtain ⟨k5, k6⟩ := k4 v hv2
    obtain ⟨rfl, B, E', rfl, rfl, b0, be, ep⟩ := stretchO_val hv2
    have ep : E' < P' := ep
    have p1 := R.p
    have lp : Lv 1 P' := h1
    have lE : Lv 1 E' := h4
    have g0 : 0 < G P' S' := G_pos (by omega)
    have lG := lv_G R lp
    have lEG : Lv 1 (E' / G P' S') := lv_div lE g0
    refine g_asg (ev_call1 (ea_cons (ev_var rfl) (ea_cons (ev_var rfl) ea_nil)) (spv_common (by omega) R.s0)) ?_
    refine g_when (et_test (ev_op (ev_op (ev_op (ev_var rfl) (ev_var rfl) (rv_I (div_ok g0 lG))) (ev_var rfl) (rv_I (mul_ok lEG lG (by decide) (by decide)))) (ev_var rfl) rv_I0)) (fun h => ?_) (fun h => ?_)
    · have hn : ¬ HasM (G P' S') B E' := fun z => by
        have := (hasM_iff g0).mp z
        have h2 : E' / G P' S' * G P' S' < B := of_decide_eq_true h
        omega
      refine fun H1 e1 => ev_make (H := H1) (ea_cons (ev_var rfl) ea_nil) H1 (Ex.refl H1) _ fun x H2 nx e2 hx => ?_
      exact k5 hn x H2 (fresh_back e1 nx) (e1.trans e2) hx
    · have hn : HasM (G P' S') B E' := by
        refine (hasM_iff g0).mpr ?_
        have h2 : ¬ E' / G P' S' * G P' S' < B := of_decide_eq_false h
        omega
      refine fun H1 e1 => ⟨_, rfl, _, rfl, _, rfl, _, rfl, P', S', B, E', rfl, R, b0, be, ep, hn, lp, fun k H2 hk e2 => ?_⟩
      refine ev_make (v := .int k) (H := H2) (ta := tCons (tC (.int k)) tNil) (σ := []) (E := E) (ea_cons ev_c ea_nil) H2 (Ex.refl H2) _ fun x H3 nx e3 hx => ?_
      exact k6 hn x k H3 hk (fresh_back (e1.trans e2) nx) ((e1.trans e2).trans e3) hx
/-! ### turns -/
abbrev s_check_mark : Stmt := topS 33
theorem sc_check_mark : FnScope ["mark", "marks"] ["mark", "marks"] (defScope s_check_mark) := ⟨rfl, rfl, rfl, by decide +kernel, rfl, by decide +kernel, by decide +kernel⟩
def spMark (K : PySem.W.Frag) (c : Cs) : Sp := fun vs H Q E => ∃ k M, vs = [k, .int M] ∧ Kn K H k ∧ Fin (markO c k (.int M)) H Q E
theorem spx_mark {K : PySem.W.Frag} {c : Cs} {H : Hp} {k : V} {M : Int} (h : Kn K H k) : SpX (spMark K c) [k, .int M] H (markO c k (.int M)) := fun H1 x Q E q r => ⟨k, M, rfl, h.ex x, q, r⟩
theorem ok_check_mark {c : Cs} (F : Fun K "check_mark" "check_mark" s_check_mark f fd) (G_is_number : FnOk P w K mg base CX0 1 f1 fd1 ["thing", "least", "most"] (spIsNum K)) (A_is_number : At K mg "is_number" s_is_number ["thing", "least", "most"] f1 fd1)
    (E_BadMark : ErrAt K mg "BadMark" c.ck) : FnOk P w K mg base (L2.CX P w) 2 f fd ["mark", "marks"] (spMark K c) := by
  refine F.okX sc_check_mark (fun vs H Q E h => ?_) (fun cdv A outer s H vs Q E hr h => ?_)
  · obtain ⟨k, M, rfl, _⟩ := h
    rfl
  · obtain ⟨k, M, rfl, hk, q⟩ := h
    have eO : markO c k (.int M) = if okIn k 0 (M - 1) then .val .non else .err c.ck := rfl
    rw [eO] at q
    refine ⟨_, (pss_cons (ps_if (pt_not (pt_val (pe_call G_is_number (hr.mono (by omega)) rfl A_is_number.g A_is_number.fn.kp A_is_number.b .nil pass0 (pa_cons (pv 0) (pa_cons pe_int (pa_cons (pe_op op_sub (pv 1) pe_int) pa_nil)))))) (pss_cons (ps_raise rfl (takes_of rfl rfl rfl rfl) (pmk_own PySem.F.excBase_ValueError E_BadMark.x E_BadMark.g E_BadMark.k (raises_own E_BadMark.b E_BadMark.t) rfl))
      pss_nil) pss_nil)
      pss_nil), Go.at ?_⟩
    refine g_when (et_not (et_B (ev_call1 (ea_cons (ev_var rfl) (ea_cons ev_c (ea_cons (ev_op (ev_var rfl) ev_c rv_I0) ea_nil))) (spv_isNum hk fun i e => ⟨_, rfl⟩)))) (fun h => ?_) (fun h => ?_)
    · rw [numW_okIn] at h
      rw [if_neg (by first | exact nf h | exact nt h)] at q
      exact g_raise fun H1 e => q.err H1 e
    · rw [numW_okIn] at h
      rw [if_pos (by first | exact nf h | exact nt h)] at q
      exact g_next fun H1 e => q.val H1 e
abbrev s_turn_of : Stmt := topS 34
theorem sc_turn_of : FnScope ["places", "step", "marks", "mark"] ["places", "step", "marks", "mark"] (defScope s_turn_of) := ⟨rfl, rfl, rfl, by decide +kernel, rfl, by decide +kernel, by decide +kernel⟩
def turnO (c : Cs) (p s m k : V) : Out := match marksO c p s m with
  | .err C => .err C
  | .val _ => (match markO c k m with
    | .err C => .err C
    | .val _ => .val (.int (RS.cnt (iv p) (iv s) (iv m).toNat (iv k * iv s % iv p) - 1)))
def spTurnOf (K : PySem.W.Frag) (c : Cs) : Sp := fun vs H Q E => ∃ p s m k, vs = [p, s, m, k] ∧ Kn K H p ∧ Kn K H s ∧ Kn K H m ∧ Kn K H k ∧ Fin (turnO c p s m k) H Q E
def spTurnQ (K : PySem.W.Frag) (c : Cs) : Sp := fun vs H Q _ => spTurnOf K c vs H Q E0
theorem spx_turnOf {K : PySem.W.Frag} {c : Cs} {H : Hp} {p s m k : V} (h1 : Kn K H p) (h2 : Kn K H s) (h3 : Kn K H m) (h4 : Kn K H k) : SpX (spTurnOf K c) [p, s, m, k] H (turnO c p s m k) :=
  fun H1 x Q E q r => ⟨p, s, m, k, rfl, h1.ex x, h2.ex x, h3.ex x, h4.ex x, q, r⟩
theorem turnO_ok {c : Cs} {p s m k : Int} (R : Ring p s) (m1 : 1 ≤ m) (m2 : m ≤ top p s) (k0 : 0 ≤ k) (km : k < m) : turnO c (.int p) (.int s) (.int m) (.int k) = .val (.int (RS.cnt p s m.toNat (k * s % p) - 1)) := by
  unfold turnO
  rw [marksO_ok R m1 m2]
  show (match markO c (.int k) (.int m) with | .err C => Out.err C | .val _ => _) = _
  rw [markO_ok k0 (show k < iv (.int m) from km)]
  rfl
theorem spv_turnOf {K : PySem.W.Frag} {c : Cs} {H : Hp} {p s m k : Int} (R : Ring p s) (l : Lv 1 p) (m1 : 1 ≤ m) (m2 : m ≤ top p s) (k0 : 0 ≤ k) (km : k < m) :
    SpV (spTurnQ K c) [.int p, .int s, .int m, .int k] H (.int (RS.cnt p s m.toNat (k * s % p) - 1)) := by
  have lm : Lv 1 m := lv_le (lv_top R l) (by omega) m2
  have h := spx_turnOf (K := K) (c := c) (H := H) (p := .int p) (s := .int s) (m := .int m) (k := .int k) l (R.ls l) lm (lv_le lm k0 (by omega))
  rw [turnO_ok R m1 m2 k0 km] at h
  exact fun H1 x Q q E => spv_of h H1 x Q q E0
theorem ok_turn_of {c : Cs} (F : Fun K "turn_of" "turn_of" s_turn_of f fd) (G_check_marks : FnOk P w K mg base (L2.CX P w) 3 f1 fd1 ["places", "step", "marks"] (spMarks K c)) (A_check_marks : At K mg "check_marks" s_check_marks ["places", "step", "marks"] f1 fd1)
    (G_check_mark : FnOk P w K mg base (L2.CX P w) 2 f2 fd2 ["mark", "marks"] (spMark K c)) (A_check_mark : At K mg "check_mark" s_check_mark ["mark", "marks"] f2 fd2)
    (G_marks_to : FnOk P w K mg base CX0 2 f3 fd3 ["places", "step", "marks", "place"] spMarksTo) (A_marks_to : At K mg "marks_to" s_marks_to ["places", "step", "marks", "place"] f3 fd3) : FnOk P w K mg base (L2.CX P w) 4 f fd ["places", "step", "marks", "mark"] (spTurnOf K c) := by
  refine F.okX sc_turn_of (fun vs H Q E h => ?_) (fun cdv A outer s H vs Q E hr h => ?_)
  · obtain ⟨p, s, m, k, rfl, _⟩ := h
    rfl
  · obtain ⟨p, s, m, k, rfl, h1, h2, h3, h4, q⟩ := h
    refine ⟨_, (pss_cons (ps_expr (pe_call G_check_marks (hr.mono (by omega)) rfl A_check_marks.g A_check_marks.fn.kp A_check_marks.b .nil (passes_call (takes_of rfl rfl rfl rfl) (fun _ _ _ _ h => h)) (pa_cons (pv 0) (pa_cons (pv 1) (pa_cons (pv 2) pa_nil)))))
      (pss_cons (ps_expr (pe_call G_check_mark (hr.mono (by omega)) rfl A_check_mark.g A_check_mark.fn.kp A_check_mark.b .nil (passes_call (takes_of rfl rfl rfl rfl) (fun _ _ _ _ h => h)) (pa_cons (pv 3) (pa_cons (pv 2) pa_nil))))
      (pss_cons (ps_ret (pe_op op_sub (pe_call G_marks_to (hr.mono (by omega)) rfl A_marks_to.g A_marks_to.fn.kp A_marks_to.b .nil pass0 (pa_cons (pv 0) (pa_cons (pv 1) (pa_cons (pv 2) (pa_cons (pe_op op_mod (pe_op op_mulB (pv 3) (pv 1)) (pv 0)) pa_nil))))) pe_int))
      pss_nil))), Go.at ?_⟩
    refine g_dropX (evx_call (ea_cons (ev_var rfl) (ea_cons (ev_var rfl) (ea_cons (ev_var rfl) ea_nil))) (spx_marks h1 h2 h3)) (fun v hv => ?_) (fun C hC H1 x => q.2 C (by unfold turnO; rw [hC]) H1 x)
    obtain ⟨rfl, P, S, M, rfl, rfl, rfl, R, m1, m2⟩ := marksO_val hv
    refine g_dropX (evx_call (ea_cons (ev_var rfl) (ea_cons (ev_var rfl) ea_nil)) (spx_mark h4)) (fun v hv2 => ?_) (fun C hC H1 x => q.2 C (by unfold turnO; rw [hv]; show (match markO c k (.int M) with | .err C => Out.err C | .val _ => _) = _; rw [hC]) H1 x)
    obtain ⟨rfl, i, rfl, i0, im⟩ := markO_val hv2
    rw [turnO_ok R m1 m2 i0 im] at q
    have p1 := R.p
    have lS := R.ls h1
    have x0 := Int.emod_nonneg (i * S) (show P ≠ 0 by omega)
    have x1 := Int.emod_lt_of_pos (i * S) (show 0 < P by omega)
    exact g_ret (ev_op (ev_call1 (ea_cons (ev_var rfl) (ea_cons (ev_var rfl) (ea_cons (ev_var rfl) (ea_cons (ev_op (ev_op (ev_var rfl) (ev_var rfl) (rv_I (mul_ok h4 lS (by decide) (by decide)))) (ev_var rfl) (rv_I (show (0 : Int) < P by omega))) ea_nil)))) (spv_marksTo R (by omega) x0 x1 h1 h3)) ev_c rv_I0) q.val
/-! ### marks by turn -/
abbrev s_turned_about : Stmt := topS 30
theorem sc_turned_about : FnScope ["number", "by", "one", "other", "first", "second", "times"] ["number", "by"] (defScope s_turned_about) := ⟨rfl, rfl, rfl, by decide +kernel, rfl, by decide +kernel, by decide +kernel⟩
def spTurned : Sp := fun vs H Q _ => ∃ a m : Int, vs = [.int a, .int m] ∧ 0 < m ∧ 0 ≤ a ∧ Int.gcd m a = 1 ∧ Lv 1 m ∧ ∀ H', Ex H H' → Q (.int (theInv a m)) H'
theorem spv_turned {H : Hp} {a m : Int} (h1 : 0 < m) (h2 : 0 ≤ a) (h3 : Int.gcd m a = 1) (l : Lv 1 m) : SpV spTurned [.int a, .int m] H (.int (theInv a m)) := fun H1 e Q q E => ⟨a, m, rfl, h1, h2, h3, l, q⟩
theorem ok_turned_about (F : Fun K "turned_about" "turned_about" s_turned_about f fd) : FnOk P w K mg base CX0 1 f fd ["number", "by"] spTurned := by
  refine F.ok sc_turned_about (fun vs H Q E h => ?_) (fun cdv A outer s H vs Q E hr h => ?_)
  · obtain ⟨a, m, rfl, _⟩ := h
    rfl
  · obtain ⟨a, m, rfl, m0, a0, hg, lm, k⟩ := h
    refine ⟨_, (pss_cons (ps_asg (pe_tup (pa_cons (pv 1) (pa_cons (pe_op op_mod (pv 0) (pv 1)) (pa_cons pe_int (pa_cons pe_int pa_nil))))) (pg_tup rfl (pgs_cons (pg_name (i := 2) sc_turned_about.nd rfl (Or.inl rfl)) (pgs_cons (pg_name (i := 3) sc_turned_about.nd rfl (Or.inl rfl)) (pgs_cons (pg_name (i := 4) sc_turned_about.nd rfl (Or.inl rfl)) (pgs_cons (pg_name (i := 5) sc_turned_about.nd rfl (Or.inl rfl)) pgs_nil))))))
      (pss_cons (ps_while PassesOwn.never (pt_cmpR op_gt (pv 3) pe_int (nomark _)) (pss_cons (ps_set (i := 6) sc_turned_about.nd rfl (Or.inl rfl) (pe_op op_fdivW (pv 2) (pv 3)))
      (pss_cons (ps_par (i := 2) (j := 3) (by rfl) sc_turned_about.nd rfl rfl (by decide) rfl rfl (pa_cons (pv 3) (pa_cons (pe_op op_sub (pv 2) (pe_op op_mulB (pv 6) (pv 3))) pa_nil)) (by rfl))
      (pss_cons (ps_par (i := 4) (j := 5) (by rfl) sc_turned_about.nd rfl rfl (by decide) rfl rfl (pa_cons (pv 5) (pa_cons (pe_op op_sub (pv 4) (pe_op op_mulB (pv 6) (pv 5))) pa_nil)) (by rfl))
      pss_nil))))
      (pss_cons (ps_ret (pe_op op_mod (pv 4) (pv 1)))
      pss_nil))), Go.at ?_⟩
    refine g_asg4 (eu_tup (ea_cons (ev_var rfl) (ea_cons (ev_op (ev_var rfl) (ev_var rfl) (rv_I m0)) (ea_cons ev_c (ea_cons ev_c ea_nil)))) (by show 4 ≤ 100000; decide)) ?_
    refine g_while (fun σ => ∃ (one other x y : Int) (o : Option V), σ = [some (.int a), some (.int m), some (.int one), some (.int other), some (.int x), some (.int y), o] ∧ Eu a m one other x y ∧ 0 < one ∧ one ≤ m ∧ other < m)
      (fun σ => match σ with | [_, _, _, some (.int y), _, _, _] => y.toNat | _ => 0) ⟨_, _, _, _, _, rfl, Eu.start m0, m0, Int.le_refl m, Int.emod_lt_of_pos a m0⟩ ?_
    rintro σ ⟨one, other, x, y, o, rfl, E0', p1, p2, p3⟩
    have b := E0'.b
    have r0 := E0'.r
    have ly : Lv 1 y := by
      have h1 : (y.natAbs : Int) * 1 ≤ y.natAbs * one := Int.mul_le_mul_of_nonneg_left p1 (by omega)
      have h2 : 0 ≤ (x.natAbs : Int) * other := Int.mul_nonneg (by omega) r0
      exact lv_abs lm (by omega)
    refine ⟨_, et_test (ev_op (ev_var rfl) ev_c rv_I0), fun h => ?_, fun h => ?_⟩
    · have o0 : 0 < other := of_decide_eq_true h
      have lo : Lv 1 one := lv_le lm (by omega) p2
      have lt : Lv 1 other := lv_le lm (by omega) (by omega)
      have ld : Lv 1 (one / other) := lv_div lo o0
      refine g_asg (ev_op (ev_var rfl) (ev_var rfl) (rv_I (div_ok o0 lt))) ?_
      refine g_par (ea_cons (ev_var rfl) (ea_cons (ev_op (ev_var rfl) (ev_op (ev_var rfl) (ev_var rfl) (rv_I (mul_ok ld lt (by decide) (by decide)))) rv_I0) ea_nil)) ?_
      refine g_par (ea_cons (ev_var rfl) (ea_cons (ev_op (ev_var rfl) (ev_op (ev_var rfl) (ev_var rfl) (rv_I (mul_ok ld ly (by decide) (by decide)))) rv_I0) ea_nil)) ?_
      have hd := Int.emod_add_mul_ediv one other
      have h1 := Int.emod_nonneg one (show other ≠ 0 by omega)
      have h2 := Int.emod_lt_of_pos one o0
      have e1 : one - one / other * other = one % other := by rw [Int.mul_comm (one / other)]; omega
      refine g_next fun H' e => ⟨e, ⟨_, _, _, _, _, rfl, E0'.next o0, o0, by omega, by omega⟩, ?_⟩
      show (one - one / other * other).toNat < other.toNat
      omega
    · have z : other = 0 := by have := of_decide_eq_false h; omega
      subst z
      have hd := E0'.done m0 hg
      have h1 := Int.emod_nonneg x (show m ≠ 0 by omega)
      have h2 := Int.emod_lt_of_pos x m0
      refine g_ret (v := .int (theInv a m)) (ev_is (ev_op (ev_var rfl) (ev_var rfl) (rv_I m0)) ?_) k
      rw [theInv_eq m0 hg h1 h2 hd]
abbrev s_mark_at : Stmt := topS 31
theorem sc_mark_at : FnScope ["places", "step", "place", "by", "wide"] ["places", "step", "place"] (defScope s_mark_at) := ⟨rfl, rfl, rfl, by decide +kernel, rfl, by decide +kernel, by decide +kernel⟩
def spMarkAt : Sp := fun vs H Q _ => ∃ p s x : Int, vs = [.int p, .int s, .int x] ∧ Ring p s ∧ Lv 1 p ∧ 0 ≤ x ∧ x < p ∧ x % G p s = 0 ∧ ∀ H', Ex H H' → Q (.int (theAt p s x)) H'
theorem spv_markAt {H : Hp} {p s x : Int} (R : Ring p s) (l : Lv 1 p) (h1 : 0 ≤ x) (h2 : x < p) (h3 : x % G p s = 0) : SpV spMarkAt [.int p, .int s, .int x] H (.int (theAt p s x)) := fun H1 e Q q E => ⟨p, s, x, rfl, R, l, h1, h2, h3, q⟩
theorem ok_mark_at (F : Fun K "mark_at" "mark_at" s_mark_at f fd) (G_common : FnOk P w K mg base CX0 1 f1 fd1 ["one", "other"] spCommon) (A_common : At K mg "common" s_common ["one", "other"] f1 fd1) (G_turned_about : FnOk P w K mg base CX0 1 f2 fd2 ["number", "by"] spTurned) (A_turned_about : At K mg "turned_about" s_turned_about ["number", "by"] f2 fd2) :
    FnOk P w K mg base CX0 2 f fd ["places", "step", "place"] spMarkAt := by
  refine F.ok sc_mark_at (fun vs H Q E h => ?_) (fun cdv A outer s H vs Q E hr h => ?_)
  · obtain ⟨p, s, x, rfl, _⟩ := h
    rfl
  · obtain ⟨p, s, x, rfl, R, lp, x0, x1, xg, k⟩ := h
    have p1 := R.p
    have g0 : 0 < G p s := G_pos (by omega)
    have t0 : 0 < top p s := top_pos (by omega)
    have lG := lv_G R lp
    have lt := lv_top R lp
    have hg := coprime_of (p := p) (s := s) (by omega)
    have s0 : 0 ≤ s / G p s := Int.ediv_nonneg R.s0 (by omega)
    -- the inverse
    have inv : ∃ r, 0 ≤ r ∧ r < top p s ∧ r * (s / G p s) % top p s = 1 % top p s := by
      have st := Eu.start (a := s / G p s) t0
      obtain ⟨one, x', y', hE⟩ : ∃ one x' y', Eu (s / G p s) (top p s) one 0 x' y' := by
        have go : ∀ (n : Nat) (one other x y : Int), other.toNat ≤ n → Eu (s / G p s) (top p s) one other x y → ∃ one x' y', Eu (s / G p s) (top p s) one 0 x' y' := by
          intro n
          induction n with
          | zero =>
            intro one other x y hn hE
            have : other = 0 := by have := hE.r; omega
            subst this
            exact ⟨_, _, _, hE⟩
          | succ n ih =>
            intro one other x y hn hE
            by_cases z : 0 < other
            · refine ih _ _ _ _ ?_ (hE.next z)
              have hd := Int.emod_add_mul_ediv one other
              have h1 := Int.emod_nonneg one (show other ≠ 0 by omega)
              have h2 := Int.emod_lt_of_pos one z
              have e1 : one - one / other * other = one % other := by rw [Int.mul_comm (one / other)]; omega
              omega
            · have : other = 0 := by have := hE.r; omega
              subst this
              exact ⟨_, _, _, hE⟩
        exact go _ _ _ _ _ (Nat.le_refl _) st
      exact ⟨x' % top p s, Int.emod_nonneg _ (by omega), Int.emod_lt_of_pos _ t0, hE.done t0 hg⟩
    obtain ⟨r, r0, r1, r2⟩ := inv
    have eR := theInv_eq t0 hg r0 r1 r2
    have lr : Lv 1 r := lv_le lt r0 (by omega)
    have lx : Lv 1 x := lv_le lp x0 (by omega)
    refine ⟨_, (pss_cons (ps_set (i := 3) sc_mark_at.nd rfl (Or.inl rfl) (pe_call G_common (hr.mono (by omega)) rfl A_common.g A_common.fn.kp A_common.b .nil pass0 (pa_cons (pv 0) (pa_cons (pv 1) pa_nil))))
      (pss_cons (ps_set (i := 4) sc_mark_at.nd rfl (Or.inl rfl) (pe_op op_fdivW (pv 0) (pv 3)))
      (pss_cons (ps_ret (pe_op op_mod (pe_op op_mulB (pe_op op_fdivW (pv 2) (pv 3)) (pe_call G_turned_about (hr.mono (by omega)) rfl A_turned_about.g A_turned_about.fn.kp A_turned_about.b .nil pass0 (pa_cons (pe_op op_fdivW (pv 1) (pv 3)) (pa_cons (pv 4) pa_nil)))) (pv 4)))
      pss_nil))), Go.at ?_⟩
    refine g_asg (ev_call1 (ea_cons (ev_var rfl) (ea_cons (ev_var rfl) ea_nil)) (spv_common (by omega) R.s0)) ?_
    refine g_asg (v := .int (top p s)) (ev_op (ev_var rfl) (ev_var rfl) (rv_I (div_ok g0 lG))) ?_
    refine g_ret (v := .int (theAt p s x)) (ev_is (ev_op (ev_op (ev_op (ev_var rfl) (ev_var rfl) (rv_I (div_ok g0 lG))) (ev_is (ev_call1 (ea_cons (ev_op (ev_var rfl) (ev_var rfl) (rv_I (div_ok g0 lG))) (ea_cons (ev_var rfl) ea_nil)) (spv_turned t0 s0 hg lt)) (congrArg V.int eR)) (rv_I (mul_ok (lv_div lx g0) lr (by decide) (by decide)))) (ev_var rfl) (rv_I t0)) ?_) k
    rw [theAt_eq (k := x / G p s * r % top p s) (by omega) (Int.emod_nonneg _ (by omega)) (Int.emod_lt_of_pos _ t0) (mark_at_place (by omega) r2 x0 x1 xg)]
abbrev s_place_by : Stmt := topS 32
theorem sc_place_by : FnScope ["places", "step", "marks", "turn", "high", "middle", "low"] ["places", "step", "marks", "turn"] (defScope s_place_by) := ⟨rfl, rfl, rfl, by decide +kernel, rfl, by decide +kernel, by decide +kernel⟩
def spPlaceBy : Sp := fun vs H Q _ => ∃ p s m t : Int, vs = [.int p, .int s, .int m, .int t] ∧ Ring p s ∧ Lv 1 p ∧ 0 ≤ t ∧ t < m ∧ Lv 1 m ∧ ∀ H', Ex H H' → Q (.int (thePlace p s m t)) H'
theorem spv_placeBy {H : Hp} {p s m t : Int} (R : Ring p s) (l : Lv 1 p) (h1 : 0 ≤ t) (h2 : t < m) (l2 : Lv 1 m) : SpV spPlaceBy [.int p, .int s, .int m, .int t] H (.int (thePlace p s m t)) := fun H1 e Q q E => ⟨p, s, m, t, rfl, R, l, h1, h2, l2, q⟩
theorem ok_place_by (F : Fun K "place_by" "place_by" s_place_by f fd) (G_marks_to : FnOk P w K mg base CX0 2 f3 fd3 ["places", "step", "marks", "place"] spMarksTo) (A_marks_to : At K mg "marks_to" s_marks_to ["places", "step", "marks", "place"] f3 fd3) : FnOk P w K mg base CX0 3 f fd ["places", "step", "marks", "turn"] spPlaceBy := by
  refine F.ok sc_place_by (fun vs H Q E h => ?_) (fun cdv A outer s H vs Q E hr h => ?_)
  · obtain ⟨p, s, m, t, rfl, _⟩ := h
    rfl
  · obtain ⟨p, s, m, t, rfl, R, lp, t0, tm, lm, k⟩ := h
    have p1 := R.p
    refine ⟨_, (pss_cons (ps_par (i := 6) (j := 4) (by rfl) sc_place_by.nd rfl rfl (by decide) rfl rfl (pa_cons pe_int (pa_cons (pe_op op_sub (pv 0) pe_int) pa_nil)) (by rfl))
      (pss_cons (ps_while PassesOwn.never (pt_cmpR op_lt (pv 6) (pv 4) (nomark _)) (pss_cons (ps_set (i := 5) sc_place_by.nd rfl (Or.inl rfl) (pe_op op_fdivW (pe_op op_add (pv 6) (pv 4)) pe_int))
      (pss_cons (ps_if (pt_cmpR op_gt (pe_call G_marks_to (hr.mono (by omega)) rfl A_marks_to.g A_marks_to.fn.kp A_marks_to.b .nil pass0 (pa_cons (pv 0) (pa_cons (pv 1) (pa_cons (pv 2) (pa_cons (pv 5) pa_nil))))) (pv 3) (nomark _)) (pss_cons (ps_set (i := 4) sc_place_by.nd rfl (Or.inl rfl) (pv 5))
      pss_nil) (pss_cons (ps_set (i := 6) sc_place_by.nd rfl (Or.inl rfl) (pe_op op_add (pv 5) pe_int))
      pss_nil))
      pss_nil)))
      (pss_cons (ps_ret (pv 6))
      pss_nil))), Go.at ?_⟩
    refine g_par (ea_cons ev_c (ea_cons (ev_op (ev_var rfl) ev_c rv_I0) ea_nil)) ?_
    refine g_while (fun σ => ∃ (hi lo : Int) (o : Option V), σ = [some (.int p), some (.int s), some (.int m), some (.int t), some (.int hi), o, some (.int lo)] ∧ 0 ≤ lo ∧ lo ≤ hi ∧ hi < p ∧ t < RS.cnt p s m.toNat hi ∧ RS.cnt p s m.toNat (lo - 1) ≤ t)
      (fun σ => match σ with | [_, _, _, _, some (.int hi), _, some (.int lo)] => (hi - lo).toNat | _ => 0) ⟨p - 1, 0, none, rfl, Int.le_refl 0, by omega, by omega, by rw [cnt_all p s m.toNat (p - 1) (by omega) (by omega)]; omega, by rw [cnt_neg p s m.toNat (0 - 1) (by omega) (by omega)]; omega⟩ ?_
    rintro σ ⟨hi, lo, o, rfl, q0, q1, q2, q3, q4⟩
    refine ⟨_, et_test (ev_op (ev_var rfl) (ev_var rfl) rv_I0), fun h => ?_, fun h => ?_⟩
    · have hlt : lo < hi := of_decide_eq_true h
      refine g_asg (ev_op (ev_op (ev_var rfl) (ev_var rfl) rv_I0) ev_c (rv_I (div_ok (by decide) (lv_small (by decide))))) ?_
      have d1 : lo ≤ (lo + hi) / 2 := by omega
      have d2 : (lo + hi) / 2 < hi := by omega
      generalize (lo + hi) / 2 = md at *
      refine g_if (et_test (ev_op (ev_call1 (ea_cons (ev_var rfl) (ea_cons (ev_var rfl) (ea_cons (ev_var rfl) (ea_cons (ev_var rfl) ea_nil)))) (spv_marksTo R (by omega) (by omega) (by omega) lp lm)) (ev_var rfl) rv_I0)) (fun h2 => ?_) (fun h2 => ?_)
      · have c1 : RS.cnt p s m.toNat md > t := of_decide_eq_true h2
        exact g_asg (ev_var rfl) (g_next fun H' e => And.intro e (And.intro ⟨md, lo, _, rfl, q0, d1, by omega, c1, q4⟩ (by show (md - lo).toNat < (hi - lo).toNat; omega)))
      · have c1 : ¬ RS.cnt p s m.toNat md > t := of_decide_eq_false h2
        exact g_asg (ev_op (ev_var rfl) ev_c rv_I0) (g_next fun H' e => And.intro e (And.intro ⟨hi, md + 1, _, rfl, by omega, by omega, q2, q3, by rw [show md + 1 - 1 = md by omega]; omega⟩ (by show (hi - (md + 1)).toNat < (hi - lo).toNat; omega)))
    · have heq : lo = hi := by have := of_decide_eq_false h; omega
      subst heq
      exact g_ret (v := .int (thePlace p s m t)) (ev_is (ev_var rfl) (congrArg V.int (thePlace_eq q0 q2 q3 q4).symm)) k
abbrev s_mark_by : Stmt := topS 35
theorem sc_mark_by : FnScope ["places", "step", "marks", "turn"] ["places", "step", "marks", "turn"] (defScope s_mark_by) := ⟨rfl, rfl, rfl, by decide +kernel, rfl, by decide +kernel, by decide +kernel⟩
noncomputable def markByO (c : Cs) (p s m t : V) : Out := match marksO c p s m with
  | .err C => .err C
  | .val _ => (match markO c t m with
    | .err C => .err C
    | .val _ => .val (.int (theMark (iv p) (iv s) (iv m) (iv t))))
def spMarkBy (K : PySem.W.Frag) (c : Cs) : Sp := fun vs H Q E => ∃ p s m t, vs = [p, s, m, t] ∧ Kn K H p ∧ Kn K H s ∧ Kn K H m ∧ Kn K H t ∧ Fin (markByO c p s m t) H Q E
def spMarkByQ (K : PySem.W.Frag) (c : Cs) : Sp := fun vs H Q _ => spMarkBy K c vs H Q E0
theorem spx_markBy {K : PySem.W.Frag} {c : Cs} {H : Hp} {p s m t : V} (h1 : Kn K H p) (h2 : Kn K H s) (h3 : Kn K H m) (h4 : Kn K H t) : SpX (spMarkBy K c) [p, s, m, t] H (markByO c p s m t) :=
  fun H1 x Q E q r => ⟨p, s, m, t, rfl, h1.ex x, h2.ex x, h3.ex x, h4.ex x, q, r⟩
theorem markByO_ok {c : Cs} {p s m t : Int} (R : Ring p s) (m1 : 1 ≤ m) (m2 : m ≤ top p s) (t0 : 0 ≤ t) (tm : t < m) : markByO c (.int p) (.int s) (.int m) (.int t) = .val (.int (theMark p s m t)) := by
  unfold markByO
  rw [marksO_ok R m1 m2]
  show (match markO c (.int t) (.int m) with | .err C => Out.err C | .val _ => _) = _
  rw [markO_ok t0 (show t < iv (.int m) from tm)]
  rfl
theorem spv_markBy {K : PySem.W.Frag} {c : Cs} {H : Hp} {p s m t : Int} (R : Ring p s) (l : Lv 1 p) (m1 : 1 ≤ m) (m2 : m ≤ top p s) (t0 : 0 ≤ t) (tm : t < m) :
    SpV (spMarkByQ K c) [.int p, .int s, .int m, .int t] H (.int (theMark p s m t)) := by
  have lm : Lv 1 m := lv_le (lv_top R l) (by omega) m2
  have h := spx_markBy (K := K) (c := c) (H := H) (p := .int p) (s := .int s) (m := .int m) (t := .int t) l (R.ls l) lm (lv_le lm t0 (by omega))
  rw [markByO_ok R m1 m2 t0 tm] at h
  exact fun H1 x Q q E => spv_of h H1 x Q q E0
theorem ok_mark_by {c : Cs} (F : Fun K "mark_by" "mark_by" s_mark_by f fd) (G_check_marks : FnOk P w K mg base (L2.CX P w) 3 f1 fd1 ["places", "step", "marks"] (spMarks K c)) (A_check_marks : At K mg "check_marks" s_check_marks ["places", "step", "marks"] f1 fd1)
    (G_check_mark : FnOk P w K mg base (L2.CX P w) 2 f2 fd2 ["mark", "marks"] (spMark K c)) (A_check_mark : At K mg "check_mark" s_check_mark ["mark", "marks"] f2 fd2)
    (G_mark_at : FnOk P w K mg base CX0 2 f3 fd3 ["places", "step", "place"] spMarkAt) (A_mark_at : At K mg "mark_at" s_mark_at ["places", "step", "place"] f3 fd3) (G_place_by : FnOk P w K mg base CX0 3 f4 fd4 ["places", "step", "marks", "turn"] spPlaceBy) (A_place_by : At K mg "place_by" s_place_by ["places", "step", "marks", "turn"] f4 fd4) : FnOk P w K mg base (L2.CX P w) 4 f fd ["places", "step", "marks", "turn"] (spMarkBy K c) := by
  refine F.okX sc_mark_by (fun vs H Q E h => ?_) (fun cdv A outer s H vs Q E hr h => ?_)
  · obtain ⟨p, s, m, t, rfl, _⟩ := h
    rfl
  · obtain ⟨p, s, m, t, rfl, h1, h2, h3, h4, q⟩ := h
    refine ⟨_, (pss_cons (ps_expr (pe_call G_check_marks (hr.mono (by omega)) rfl A_check_marks.g A_check_marks.fn.kp A_check_marks.b .nil (passes_call (takes_of rfl rfl rfl rfl) (fun _ _ _ _ h => h)) (pa_cons (pv 0) (pa_cons (pv 1) (pa_cons (pv 2) pa_nil)))))
      (pss_cons (ps_expr (pe_call G_check_mark (hr.mono (by omega)) rfl A_check_mark.g A_check_mark.fn.kp A_check_mark.b .nil (passes_call (takes_of rfl rfl rfl rfl) (fun _ _ _ _ h => h)) (pa_cons (pv 3) (pa_cons (pv 2) pa_nil))))
      (pss_cons (ps_ret (pe_call G_mark_at (hr.mono (by omega)) rfl A_mark_at.g A_mark_at.fn.kp A_mark_at.b .nil pass0 (pa_cons (pv 0) (pa_cons (pv 1) (pa_cons (pe_call G_place_by (hr.mono (by omega)) rfl A_place_by.g A_place_by.fn.kp A_place_by.b .nil pass0 (pa_cons (pv 0) (pa_cons (pv 1) (pa_cons (pv 2) (pa_cons (pv 3) pa_nil))))) pa_nil)))))
      pss_nil))), Go.at ?_⟩
    refine g_dropX (evx_call (ea_cons (ev_var rfl) (ea_cons (ev_var rfl) (ea_cons (ev_var rfl) ea_nil))) (spx_marks h1 h2 h3)) (fun v hv => ?_) (fun C hC H1 x => q.2 C (by unfold markByO; rw [hC]) H1 x)
    obtain ⟨rfl, P, S, M, rfl, rfl, rfl, R, m1, m2⟩ := marksO_val hv
    refine g_dropX (evx_call (ea_cons (ev_var rfl) (ea_cons (ev_var rfl) ea_nil)) (spx_mark h4)) (fun v hv2 => ?_) (fun C hC H1 x => q.2 C (by unfold markByO; rw [hv]; show (match markO c t (.int M) with | .err C => Out.err C | .val _ => _) = _; rw [hC]) H1 x)
    obtain ⟨rfl, i, rfl, i0, im⟩ := markO_val hv2
    have im : i < M := im
    rw [markByO_ok R m1 m2 i0 im] at q
    have p1 := R.p
    obtain ⟨b0, b1, b2⟩ := thePlace_mult (s := S) (show 0 < P by omega) m2 i0 im
    exact g_ret (v := .int (theMark P S M i)) (ev_is (ev_call1 (ea_cons (ev_var rfl) (ea_cons (ev_var rfl) (ea_cons (ev_call1 (ea_cons (ev_var rfl) (ea_cons (ev_var rfl) (ea_cons (ev_var rfl) (ea_cons (ev_var rfl) ea_nil)))) (spv_placeBy R h1 i0 im h3)) ea_nil))) (spv_markAt R h1 b0 b1 b2)) (congrArg V.int (theMark_at (by omega) m2 i0 im))) q.val
abbrev s_beside : Stmt := topS 36
theorem sc_beside : FnScope ["places", "step", "marks", "place", "turn"] ["places", "step", "marks", "place"] (defScope s_beside) := ⟨rfl, rfl, rfl, by decide +kernel, rfl, by decide +kernel, by decide +kernel⟩
def placeO (c : Cs) (x p : V) : Out := if okIn x 0 (iv p - 1) then .val .non else .err c.cl
def besideO (c : Cs) (p s m x : V) : Out := match marksO c p s m with
  | .err C => .err C
  | .val _ => placeO c x p
noncomputable def besA (p s m x : Int) : Int := theMark p s m (RS.cnt p s m.toNat x - 1)
noncomputable def besB (p s m x : Int) : Int := theMark p s m (RS.cnt p s m.toNat x % m)
def spBeside (K : PySem.W.Frag) (c : Cs) : Sp := fun vs H Q E => ∃ p s m x, vs = [p, s, m, x] ∧ Kn K H p ∧ Kn K H s ∧ Kn K H m ∧ Kn K H x ∧ (∀ C, besideO c p s m x = .err C → ∀ H', Ex H H' → E (.ref C) none H') ∧
  (∀ v, besideO c p s m x = .val v → ∀ q H', H q = none → Ex H H' → H' q = some (.tup [.int (besA (iv p) (iv s) (iv m) (iv x)), .int (besB (iv p) (iv s) (iv m) (iv x))]) → Q (.ref q) H')
def spBesideQ (K : PySem.W.Frag) (c : Cs) : Sp := fun vs H Q _ => spBeside K c vs H Q E0
theorem besideO_ok {c : Cs} {p s m x : Int} (R : Ring p s) (m1 : 1 ≤ m) (m2 : m ≤ top p s) (x0 : 0 ≤ x) (xp : x < p) : besideO c (.int p) (.int s) (.int m) (.int x) = .val .non := by
  unfold besideO
  rw [marksO_ok R m1 m2]
  show placeO c (.int x) (.int p) = _
  exact if_pos (okIn_iff.mpr ⟨x, rfl, x0, by show x ≤ p - 1; omega⟩)
theorem eu_beside {c : Cs} {σ : L2.St} {H : Hp} {ta : TA} {E : XK} {p s m x : Int} (R : Ring p s) (l : Lv 1 p) (m1 : 1 ≤ m) (m2 : m ≤ top p s) (x0 : 0 ≤ x) (xp : x < p) (h : EvA ta σ H [.int p, .int s, .int m, .int x]) :
    EvU (tCall (spBesideQ K c) [] E ta) σ H [.int (besA p s m x), .int (besB p s m x)] := fun H1 e Q q =>
  h H1 e _ fun H2 e2 => by
    have lm : Lv 1 m := lv_le (lv_top R l) (by omega) m2
    refine ⟨.int p, .int s, .int m, .int x, rfl, l, R.ls l, lm, lv_le l x0 (by omega), fun C hC => ?_, fun v _ q' H3 nq e3 hq => q q' H3 (fresh_back e2 nq) (e2.trans e3) hq⟩
    rw [besideO_ok R m1 m2 x0 xp] at hC
    cases hC
theorem cnt_pos {p s m x : Int} (hp : 0 < p) (m1 : 1 ≤ m) (x0 : 0 ≤ x) : 1 ≤ RS.cnt p s m.toNat x := by
  have h := rank_nn (p := p) (s := s) (n := m.toNat) (i := 0) (by omega)
  have e : ((0 : Nat) : Int) * s % p = 0 := by simp
  rw [e] at h
  have := cnt_mono p s m.toNat x0
  omega
theorem ok_beside {c : Cs} (F : Fun K "beside" "beside" s_beside f fd) (G_check_marks : FnOk P w K mg base (L2.CX P w) 3 f1 fd1 ["places", "step", "marks"] (spMarks K c)) (A_check_marks : At K mg "check_marks" s_check_marks ["places", "step", "marks"] f1 fd1)
    (G_is_number : FnOk P w K mg base CX0 1 f2 fd2 ["thing", "least", "most"] (spIsNum K)) (A_is_number : At K mg "is_number" s_is_number ["thing", "least", "most"] f2 fd2)
    (G_marks_to : FnOk P w K mg base CX0 2 f3 fd3 ["places", "step", "marks", "place"] spMarksTo) (A_marks_to : At K mg "marks_to" s_marks_to ["places", "step", "marks", "place"] f3 fd3)
    (G_mark_by : FnOk P w K mg base (L2.CX P w) 4 f4 fd4 ["places", "step", "marks", "turn"] (spMarkBy K c)) (A_mark_by : At K mg "mark_by" s_mark_by ["places", "step", "marks", "turn"] f4 fd4) (E_BadPlace : ErrAt K mg "BadPlace" c.cl) :
    FnOk P w K mg base (L2.CX P w) 5 f fd ["places", "step", "marks", "place"] (spBeside K c) := by
  refine F.okX sc_beside (fun vs H Q E h => ?_) (fun cdv A outer s H vs Q E hr h => ?_)
  · obtain ⟨p, s, m, x, rfl, _⟩ := h
    rfl
  · obtain ⟨p, s, m, x, rfl, h1, h2, h3, h4, qe, qv⟩ := h
    refine ⟨_, (pss_cons (ps_expr (pe_call G_check_marks (hr.mono (by omega)) rfl A_check_marks.g A_check_marks.fn.kp A_check_marks.b .nil (passes_call (takes_of rfl rfl rfl rfl) (fun _ _ _ _ h => h)) (pa_cons (pv 0) (pa_cons (pv 1) (pa_cons (pv 2) pa_nil)))))
      (pss_cons (ps_if (pt_not (pt_val (pe_call G_is_number (hr.mono (by omega)) rfl A_is_number.g A_is_number.fn.kp A_is_number.b .nil pass0 (pa_cons (pv 3) (pa_cons pe_int (pa_cons (pe_op op_sub (pv 0) pe_int) pa_nil)))))) (pss_cons (ps_raise rfl (takes_of rfl rfl rfl rfl) (pmk_own PySem.F.excBase_ValueError E_BadPlace.x E_BadPlace.g E_BadPlace.k (raises_own E_BadPlace.b E_BadPlace.t) rfl))
      pss_nil) pss_nil)
      (pss_cons (ps_set (i := 4) sc_beside.nd rfl (Or.inl rfl) (pe_call G_marks_to (hr.mono (by omega)) rfl A_marks_to.g A_marks_to.fn.kp A_marks_to.b .nil pass0 (pa_cons (pv 0) (pa_cons (pv 1) (pa_cons (pv 2) (pa_cons (pv 3) pa_nil))))))
      (pss_cons (ps_ret (pe_tup (pa_cons (pe_call G_mark_by (hr.mono (by omega)) rfl A_mark_by.g A_mark_by.fn.kp A_mark_by.b .nil (passes_call (takes_of rfl rfl rfl rfl) (fun _ _ _ _ h => h)) (pa_cons (pv 0) (pa_cons (pv 1) (pa_cons (pv 2) (pa_cons (pe_op op_sub (pv 4) pe_int) pa_nil))))) (pa_cons (pe_call G_mark_by (hr.mono (by omega)) rfl A_mark_by.g A_mark_by.fn.kp A_mark_by.b .nil (passes_call (takes_of rfl rfl rfl rfl) (fun _ _ _ _ h => h)) (pa_cons (pv 0) (pa_cons (pv 1) (pa_cons (pv 2) (pa_cons (pe_op op_mod (pv 4) (pv 2)) pa_nil))))) pa_nil))))
      pss_nil)))), Go.at ?_⟩
    refine g_dropX (evx_call (ea_cons (ev_var rfl) (ea_cons (ev_var rfl) (ea_cons (ev_var rfl) ea_nil))) (spx_marks h1 h2 h3)) (fun v hv => ?_) (fun C hC H1 x => qe C (by unfold besideO; rw [hC]) H1 x)
    obtain ⟨rfl, P, S, M, rfl, rfl, rfl, R, m1, m2⟩ := marksO_val hv
    have eO : besideO c (.int P) (.int S) (.int M) x = if okIn x 0 (P - 1) then .val .non else .err c.cl := by
      unfold besideO
      rw [hv]
      rfl
    have p1 := R.p
    refine g_when (et_not (et_B (ev_call1 (ea_cons (ev_var rfl) (ea_cons ev_c (ea_cons (ev_op (ev_var rfl) ev_c rv_I0) ea_nil))) (spv_isNum h4 fun i e => ⟨_, rfl⟩)))) (fun h => ?_) (fun h => ?_)
    · rw [numW_okIn] at h
      rw [if_neg (by first | exact nf h | exact nt h)] at eO
      exact g_raise fun H1 e => qe _ eO H1 e
    · rw [numW_okIn] at h
      have hx : okIn x 0 (P - 1) = true := by first | exact nt h | exact nf h
      rw [if_pos hx] at eO
      obtain ⟨X, rfl, x0, x1⟩ := okIn_iff.mp hx
      have t1 := cnt_pos (p := P) (s := S) (show 0 < P by omega) m1 x0
      have t2 := cnt_le P S M.toNat X
      have t3 := Int.emod_nonneg (RS.cnt P S M.toNat X) (show M ≠ 0 by omega)
      have t4 := Int.emod_lt_of_pos (RS.cnt P S M.toNat X) (show 0 < M by omega)
      have mb : ∀ {t : Int} {H : Hp}, 0 ≤ t → t < M → SpV (spMarkBy K c) [.int P, .int S, .int M, .int t] H (.int (theMark P S M t)) := fun {t H} a b => by
        have hh := spx_markBy (K := K) (c := c) (H := H) (p := .int P) (s := .int S) (m := .int M) (t := .int t) h1 h2 h3 (lv_le h3 a (by omega))
        rw [markByO_ok R m1 m2 a b] at hh
        exact spv_of hh
      refine g_asg (ev_call1 (ea_cons (ev_var rfl) (ea_cons (ev_var rfl) (ea_cons (ev_var rfl) (ea_cons (ev_var rfl) ea_nil)))) (spv_marksTo R (by omega) x0 (by omega) h1 h3)) ?_
      exact g_retU (eu_tup (ea_cons (ev_call1 (ea_cons (ev_var rfl) (ea_cons (ev_var rfl) (ea_cons (ev_var rfl) (ea_cons (ev_op (ev_var rfl) ev_c rv_I0) ea_nil)))) (mb (by omega) (by omega))) (ea_cons (ev_call1 (ea_cons (ev_var rfl) (ea_cons (ev_var rfl) (ea_cons (ev_var rfl) (ea_cons (ev_op (ev_var rfl) (ev_var rfl) (rv_I (show (0 : Int) < M by omega))) ea_nil)))) (mb t3 t4)) ea_nil)) (by show 2 ≤ 100000; decide)) fun q H1 nq e hq => qv _ eO q H1 nq e hq
/-! ### gaps -/
abbrev s_most : Stmt := topS 25
theorem sc_most : FnScope ["places", "step"] ["places", "step"] (defScope s_most) := ⟨rfl, rfl, rfl, by decide +kernel, rfl, by decide +kernel, by decide +kernel⟩
def mostO (c : Cs) (p s : V) : Out := match ringO c p s with
  | .err C => .err C
  | .val _ => .val (.int (top (iv p) (iv s)))
def spMost (K : PySem.W.Frag) (c : Cs) : Sp := fun vs H Q E => ∃ p s, vs = [p, s] ∧ Kn K H p ∧ Kn K H s ∧ Fin (mostO c p s) H Q E
def spMostQ (K : PySem.W.Frag) (c : Cs) : Sp := fun vs H Q _ => spMost K c vs H Q E0
theorem spx_most {K : PySem.W.Frag} {c : Cs} {H : Hp} {p s : V} (h1 : Kn K H p) (h2 : Kn K H s) : SpX (spMost K c) [p, s] H (mostO c p s) := fun H1 x Q E q r => ⟨p, s, rfl, h1.ex x, h2.ex x, q, r⟩
theorem mostO_ok {c : Cs} {p s : Int} (R : Ring p s) : mostO c (.int p) (.int s) = .val (.int (top p s)) := by unfold mostO; rw [ringO_ok R]; rfl
theorem spv_most {K : PySem.W.Frag} {c : Cs} {H : Hp} {p s : Int} (R : Ring p s) (l : Lv 1 p) : SpV (spMostQ K c) [.int p, .int s] H (.int (top p s)) := by
  have h := spx_most (K := K) (c := c) (H := H) (p := .int p) (s := .int s) l (R.ls l)
  rw [mostO_ok R] at h
  exact fun H1 x Q q E => spv_of h H1 x Q q E0
theorem ok_most {c : Cs} (F : Fun K "most" "most" s_most f fd) (G_check_ring : FnOk P w K mg base (L2.CX P w) 2 f1 fd1 ["places", "step"] (spRing K c)) (A_check_ring : At K mg "check_ring" s_check_ring ["places", "step"] f1 fd1)
    (G_most_of : FnOk P w K mg base CX0 2 f2 fd2 ["places", "step"] spMostOf) (A_most_of : At K mg "most_of" s_most_of ["places", "step"] f2 fd2) : FnOk P w K mg base (L2.CX P w) 3 f fd ["places", "step"] (spMost K c) := by
  refine F.okX sc_most (fun vs H Q E h => ?_) (fun cdv A outer s H vs Q E hr h => ?_)
  · obtain ⟨p, s, rfl, _⟩ := h
    rfl
  · obtain ⟨p, s, rfl, h1, h2, q⟩ := h
    refine ⟨_, (pss_cons (ps_expr (pe_call G_check_ring (hr.mono (by omega)) rfl A_check_ring.g A_check_ring.fn.kp A_check_ring.b .nil (passes_call (takes_of rfl rfl rfl rfl) (fun _ _ _ _ h => h)) (pa_cons (pv 0) (pa_cons (pv 1) pa_nil))))
      (pss_cons (ps_ret (pe_call G_most_of (hr.mono (by omega)) rfl A_most_of.g A_most_of.fn.kp A_most_of.b .nil pass0 (pa_cons (pv 0) (pa_cons (pv 1) pa_nil))))
      pss_nil)), Go.at ?_⟩
    refine g_dropX (evx_call (ea_cons (ev_var rfl) (ea_cons (ev_var rfl) ea_nil)) (spx_ring h1 h2)) (fun v hv => ?_) (fun C hC H1 x => q.2 C (by unfold mostO; rw [hC]) H1 x)
    obtain ⟨rfl, P, S, rfl, rfl, R⟩ := ringO_val hv
    rw [mostO_ok R] at q
    exact g_ret (ev_call1 (ea_cons (ev_var rfl) (ea_cons (ev_var rfl) ea_nil)) (spv_mostOf R h1)) q.val
abbrev s_nearest : Stmt := topS 26
theorem sc_nearest : FnScope ["places", "step", "marks", "ahead", "on", "behind", "back", "times"] ["places", "step", "marks"] (defScope s_nearest) := ⟨rfl, rfl, rfl, by decide +kernel, rfl, by decide +kernel, by decide +kernel⟩
def spNearest : Sp := fun vs H Q _ => ∃ p s n : Int, vs = [.int p, .int s, .int n] ∧ Ring p s ∧ Lv 1 p ∧ 2 ≤ n ∧ n ≤ top p s ∧ ∀ q H', H q = none → Ex H H' → H' q = some (.tup [.int (theNear p s n).1, .int (theNear p s n).2.1, .int (theNear p s n).2.2.1, .int (theNear p s n).2.2.2]) → Q (.ref q) H'
theorem eu_nearest {σ : L2.St} {H : Hp} {ta : TA} {E : XK} {p s n : Int} (R : Ring p s) (l : Lv 1 p) (n2 : 2 ≤ n) (nt : n ≤ top p s) (h : EvA ta σ H [.int p, .int s, .int n]) : EvU (tCall spNearest [] E ta) σ H [.int (theNear p s n).1, .int (theNear p s n).2.1, .int (theNear p s n).2.2.1, .int (theNear p s n).2.2.2] := fun H1 e Q q =>
  h H1 e _ fun H2 e2 => ⟨p, s, n, rfl, R, l, n2, nt, fun q' H3 nq e3 hq => q q' H3 (fresh_back e2 nq) (e2.trans e3) hq⟩
theorem ok_nearest (hA : Blt mg) (F : Fun K "nearest" "nearest" s_nearest f fd) : FnOk P w K mg base CX0 1 f fd ["places", "step", "marks"] spNearest := by
  refine F.ok sc_nearest (fun vs H Q E h => ?_) (fun cdv A outer s H vs Q E hr h => ?_)
  · obtain ⟨p, s, n, rfl, _⟩ := h
    rfl
  · obtain ⟨p, s, n, rfl, R, lp, n2, nt, k⟩ := h
    have p1 := R.p
    have s0 := R.s0
    have sp := R.s
    have s1 := step_pos (show 0 < p by omega) s0 nt n2
    have tl := top_le (p := p) (s := s) (by omega)
    refine ⟨_, (pss_cons (ps_asg (pe_tup (pa_cons pe_int (pa_cons (pv 1) (pa_cons pe_int (pa_cons (pe_op op_sub (pv 0) (pv 1)) pa_nil))))) (pg_tup rfl (pgs_cons (pg_name (i := 3) sc_nearest.nd rfl (Or.inl rfl)) (pgs_cons (pg_name (i := 4) sc_nearest.nd rfl (Or.inl rfl)) (pgs_cons (pg_name (i := 5) sc_nearest.nd rfl (Or.inl rfl)) (pgs_cons (pg_name (i := 6) sc_nearest.nd rfl (Or.inl rfl)) pgs_nil))))))
      (pss_cons (ps_while PassesOwn.never (pt_cmpR op_lt (pe_op op_add (pv 3) (pv 5)) (pv 2) (nomark _)) (pss_cons (ps_if (pt_cmpR op_gt (pv 4) (pv 6) (nomark _)) (pss_cons (ps_set (i := 7) sc_nearest.nd rfl (Or.inl rfl) (pe_callB (call_min2 rfl) rfl hA.z_min (by decide +kernel) (pa_cons (pe_op op_fdivW (pe_op op_sub (pv 4) pe_int) (pv 6)) (pa_cons (pe_op op_fdivW (pe_op op_sub (pe_op op_sub (pv 2) pe_int) (pv 3)) (pv 5)) pa_nil))))
      (pss_cons (ps_par (i := 3) (j := 4) (by rfl) sc_nearest.nd rfl rfl (by decide) rfl rfl (pa_cons (pe_op op_add (pv 3) (pe_op op_mulB (pv 7) (pv 5))) (pa_cons (pe_op op_sub (pv 4) (pe_op op_mulB (pv 7) (pv 6))) pa_nil)) (by rfl))
      pss_nil)) (pss_cons (ps_set (i := 7) sc_nearest.nd rfl (Or.inl rfl) (pe_callB (call_min2 rfl) rfl hA.z_min (by decide +kernel) (pa_cons (pe_op op_fdivW (pe_op op_sub (pv 6) pe_int) (pv 4)) (pa_cons (pe_op op_fdivW (pe_op op_sub (pe_op op_sub (pv 2) pe_int) (pv 5)) (pv 3)) pa_nil))))
      (pss_cons (ps_par (i := 5) (j := 6) (by rfl) sc_nearest.nd rfl rfl (by decide) rfl rfl (pa_cons (pe_op op_add (pv 5) (pe_op op_mulB (pv 7) (pv 3))) (pa_cons (pe_op op_sub (pv 6) (pe_op op_mulB (pv 7) (pv 4))) pa_nil)) (by rfl))
      pss_nil)))
      pss_nil))
      (pss_cons (ps_ret (pe_tup (pa_cons (pv 3) (pa_cons (pv 4) (pa_cons (pv 5) (pa_cons (pv 6) pa_nil))))))
      pss_nil))), Go.at ?_⟩
    refine g_asg4 (eu_tup (ea_cons ev_c (ea_cons (ev_var rfl) (ea_cons ev_c (ea_cons (ev_op (ev_var rfl) (ev_var rfl) rv_I0) ea_nil)))) (by show 4 ≤ 100000; decide)) ?_
    refine g_while (fun σ => ∃ (a d b e : Int) (o : Option V), σ = [some (.int p), some (.int s), some (.int n), some (.int a), some (.int d), some (.int b), some (.int e), o] ∧ Near p s a d b e ∧ a < n ∧ b < n)
      (fun σ => match σ with | [_, _, _, some (.int a), _, some (.int b), _, _] => (2 * n - a - b).toNat | _ => 0) ⟨1, s, 1, p - s, none, rfl, near_start s1 sp, by omega, by omega⟩ ?_
    rintro σ ⟨a, d, b, e, o, rfl, hN, ha, hb⟩
    have a1 := hN.a1
    have b1 := hN.b1
    have d0 := hN.d0
    have e0 := hN.e0
    have hl := hN.lt
    have la : Lv 1 a := lv_le lp (by omega) (by omega)
    have lb : Lv 1 b := lv_le lp (by omega) (by omega)
    have ld : Lv 1 d := lv_le lp (by omega) (by omega)
    have le : Lv 1 e := lv_le lp (by omega) (by omega)
    refine ⟨_, et_test (ev_op (ev_op (ev_var rfl) (ev_var rfl) rv_I0) (ev_var rfl) rv_I0), fun h => ?_, fun h => ?_⟩
    · have hlt : a + b < n := of_decide_eq_true h
      have hne := near_ne hN (by omega)
      refine g_if (et_test (ev_op (ev_var rfl) (ev_var rfl) rv_I0)) (fun h2 => ?_) (fun h2 => ?_)
      · have hed : e < d := of_decide_eq_true h2
        obtain ⟨q1, q2⟩ := times_spec (x := d) e0
        obtain ⟨q3, q4⟩ := div_spec (x := n - 1 - a) (show 0 < b by omega) (by omega)
        have q2 := q2 hed
        refine g_asg (ev_min (ev_op (ev_op (ev_var rfl) ev_c rv_I0) (ev_var rfl) (rv_I (div_ok e0 le))) (ev_op (ev_op (ev_op (ev_var rfl) ev_c rv_I0) (ev_var rfl) rv_I0) (ev_var rfl) (rv_I (div_ok (by omega) lb)))) ?_
        have t1 : 1 ≤ min ((d - 1) / e) ((n - 1 - a) / b) := by omega
        have t2 : min ((d - 1) / e) ((n - 1 - a) / b) ≤ (d - 1) / e := by omega
        have t3 : min ((d - 1) / e) ((n - 1 - a) / b) ≤ (n - 1 - a) / b := by omega
        generalize min ((d - 1) / e) ((n - 1 - a) / b) = t at *
        have m1 : t * e ≤ (d - 1) / e * e := Int.mul_le_mul_of_nonneg_right t2 (by omega)
        have m2 : t * b ≤ (n - 1 - a) / b * b := Int.mul_le_mul_of_nonneg_right t3 (by omega)
        have m3 : 1 * b ≤ t * b := Int.mul_le_mul_of_nonneg_right t1 (by omega)
        have m4 : t * 1 ≤ t * e := Int.mul_le_mul_of_nonneg_left e0 (by omega)
        have lt : Lv 1 t := lv_le ld (by omega) (by omega)
        have e1 : ((t.toNat : Nat) : Int) = t := by omega
        have hN' := near_ons hN t.toNat (by rw [e1]; omega)
        rw [e1] at hN'
        exact g_par (ea_cons (ev_op (ev_var rfl) (ev_op (ev_var rfl) (ev_var rfl) (rv_I (mul_ok lt lb (by decide) (by decide)))) rv_I0) (ea_cons (ev_op (ev_var rfl) (ev_op (ev_var rfl) (ev_var rfl) (rv_I (mul_ok lt le (by decide) (by decide)))) rv_I0) ea_nil)) (g_next fun H' e' => And.intro e' (And.intro ⟨_, _, _, _, _, rfl, hN', by omega, hb⟩ (by show (2 * n - (a + t * b) - b).toNat < (2 * n - a - b).toNat; omega)))
      · have hde : d < e := by have : ¬ d > e := of_decide_eq_false h2; omega
        obtain ⟨q1, q2⟩ := times_spec (x := e) d0
        obtain ⟨q3, q4⟩ := div_spec (x := n - 1 - b) (show 0 < a by omega) (by omega)
        have q2 := q2 hde
        refine g_asg (ev_min (ev_op (ev_op (ev_var rfl) ev_c rv_I0) (ev_var rfl) (rv_I (div_ok d0 ld))) (ev_op (ev_op (ev_op (ev_var rfl) ev_c rv_I0) (ev_var rfl) rv_I0) (ev_var rfl) (rv_I (div_ok (by omega) la)))) ?_
        have t1 : 1 ≤ min ((e - 1) / d) ((n - 1 - b) / a) := by omega
        have t2 : min ((e - 1) / d) ((n - 1 - b) / a) ≤ (e - 1) / d := by omega
        have t3 : min ((e - 1) / d) ((n - 1 - b) / a) ≤ (n - 1 - b) / a := by omega
        generalize min ((e - 1) / d) ((n - 1 - b) / a) = t at *
        have m1 : t * d ≤ (e - 1) / d * d := Int.mul_le_mul_of_nonneg_right t2 (by omega)
        have m2 : t * a ≤ (n - 1 - b) / a * a := Int.mul_le_mul_of_nonneg_right t3 (by omega)
        have m3 : 1 * a ≤ t * a := Int.mul_le_mul_of_nonneg_right t1 (by omega)
        have m4 : t * 1 ≤ t * d := Int.mul_le_mul_of_nonneg_left d0 (by omega)
        have lt : Lv 1 t := lv_le le (by omega) (by omega)
        have e1 : ((t.toNat : Nat) : Int) = t := by omega
        have hN' := near_backs hN t.toNat (by rw [e1]; omega)
        rw [e1] at hN'
        exact g_par (ea_cons (ev_op (ev_var rfl) (ev_op (ev_var rfl) (ev_var rfl) (rv_I (mul_ok lt la (by decide) (by decide)))) rv_I0) (ea_cons (ev_op (ev_var rfl) (ev_op (ev_var rfl) (ev_var rfl) (rv_I (mul_ok lt ld (by decide) (by decide)))) rv_I0) ea_nil)) (g_next fun H' e' => And.intro e' (And.intro ⟨_, _, _, _, _, rfl, hN', ha, by omega⟩ (by show (2 * n - a - (b + t * a)).toNat < (2 * n - a - b).toNat; omega)))
    · have hall : n ≤ a + b := by have : ¬ a + b < n := of_decide_eq_false h; omega
      have hE := theNear_eq (show 0 < p by omega) s0 sp n2 nt (⟨hN, ha, hb, hall⟩ : Nearest p s n a d b e)
      rw [hE] at k
      exact g_retU (eu_tup (ea_cons (ev_var rfl) (ea_cons (ev_var rfl) (ea_cons (ev_var rfl) (ea_cons (ev_var rfl) ea_nil)))) (by show 4 ≤ 100000; decide)) fun q H1 nq e' hq => k q H1 nq e' hq
abbrev s_gaps : Stmt := topS 27
theorem sc_gaps : FnScope ["places", "step", "marks", "ahead", "on", "behind", "back", "counts", "size", "many"] ["places", "step", "marks"] (defScope s_gaps) := ⟨rfl, rfl, rfl, by decide +kernel, rfl, by decide +kernel, by decide +kernel⟩
def spGaps (K : PySem.W.Frag) (c : Cs) : Sp := fun vs H Q E => ∃ p s m, vs = [p, s, m] ∧ Kn K H p ∧ Kn K H s ∧ Kn K H m ∧ (∀ C, marksO c p s m = .err C → ∀ H', Ex H H' → E (.ref C) none H') ∧
  (∀ v, marksO c p s m = .val v → ∀ q us H', H q = none → Ex H H' → H' q = some (.lst us) → TupsAt H' us ((gapsOf (iv p) (iv s) (iv m)).map fun x => [V.int x.1, V.int x.2]) → Q (.ref q) H')
def spGapsQ (K : PySem.W.Frag) (c : Cs) : Sp := fun vs H Q _ => spGaps K c vs H Q E0
theorem elt_gaps {c : Cs} {σ : L2.St} {H : Hp} {ta : TA} {E : XK} {p s m : Int} (R : Ring p s) (l : Lv 1 p) (m1 : 1 ≤ m) (m2 : m ≤ top p s) (h : EvA ta σ H [.int p, .int s, .int m]) :
    EvLT (tCall (spGapsQ K c) [] E ta) σ H ((gapsOf p s m).map fun x => [V.int x.1, V.int x.2]) := fun H1 e Q q =>
  h H1 e _ fun H2 e2 => by
    have lm : Lv 1 m := lv_le (lv_top R l) (by omega) m2
    refine ⟨.int p, .int s, .int m, rfl, l, R.ls l, lm, fun C hC => ?_, fun v _ q' us H3 nq e3 hq hT => q q' us H3 (fresh_back e2 nq) (e2.trans e3) hq hT⟩
    rw [marksO_ok R m1 m2] at hC
    cases hC
theorem putK_one {κ : Type} [DecidableEq κ] {a b : κ} {x y : V} (h : ¬ a = b) : putK [(a, x)] b y = [(a, x), (b, y)] := by
  unfold putK
  simp [h]
theorem putK_same {κ : Type} [DecidableEq κ] {a : κ} {x y : V} : putK [(a, x)] a y = [(a, y)] := by
  unfold putK
  simp
theorem putK_two {κ : Type} [DecidableEq κ] {a b c : κ} {x y z : V} (h : ¬ a = c) (h2 : ¬ b = c) : putK [(a, x), (b, y)] c z = [(a, x), (b, y), (c, z)] := by
  unfold putK
  simp [h, h2]
theorem inl_ne {a b : Int} (h : a ≠ b) : ¬ (Sum.inl a : Key) = Sum.inl b := fun z => h (Sum.inl.inj z)
theorem ok_gaps {c : Cs} (hA : Blt mg) (F : Fun K "gaps" "gaps" s_gaps f fd) (G_check_marks : FnOk P w K mg base (L2.CX P w) 3 f1 fd1 ["places", "step", "marks"] (spMarks K c)) (A_check_marks : At K mg "check_marks" s_check_marks ["places", "step", "marks"] f1 fd1)
    (G_nearest : FnOk P w K mg base CX0 1 f2 fd2 ["places", "step", "marks"] spNearest) (A_nearest : At K mg "nearest" s_nearest ["places", "step", "marks"] f2 fd2) : FnOk P w K mg base (L2.CX P w) 4 f fd ["places", "step", "marks"] (spGaps K c) := by
  refine F.okX sc_gaps (fun vs H Q E h => ?_) (fun cdv A outer s H vs Q E hr h => ?_)
  · obtain ⟨p, s, m, rfl, _⟩ := h
    rfl
  · obtain ⟨p, s, m, rfl, h1, h2, h3, qe, qv⟩ := h
    refine ⟨_, (pss_cons (ps_expr (pe_call G_check_marks (hr.mono (by omega)) rfl A_check_marks.g A_check_marks.fn.kp A_check_marks.b .nil (passes_call (takes_of rfl rfl rfl rfl) (fun _ _ _ _ h => h)) (pa_cons (pv 0) (pa_cons (pv 1) (pa_cons (pv 2) pa_nil)))))
      (pss_cons (ps_if (pt_cmpR op_eq (pv 2) pe_int (nomark _)) (pss_cons (ps_ret (pe_lst (pa_cons (pe_tup (pa_cons (pv 0) (pa_cons pe_int pa_nil))) pa_nil)))
      pss_nil) pss_nil)
      (pss_cons (ps_asg (pe_call G_nearest (hr.mono (by omega)) rfl A_nearest.g A_nearest.fn.kp A_nearest.b .nil pass0 (pa_cons (pv 0) (pa_cons (pv 1) (pa_cons (pv 2) pa_nil)))) (pg_tup rfl (pgs_cons (pg_name (i := 3) sc_gaps.nd rfl (Or.inl rfl)) (pgs_cons (pg_name (i := 4) sc_gaps.nd rfl (Or.inl rfl)) (pgs_cons (pg_name (i := 5) sc_gaps.nd rfl (Or.inl rfl)) (pgs_cons (pg_name (i := 6) sc_gaps.nd rfl (Or.inl rfl)) pgs_nil))))))
      (pss_cons (ps_set (i := 7) sc_gaps.nd rfl (Or.inl rfl) (pe_disp (pps_cons (pv 4) (pe_op op_sub (pv 2) (pv 3)) pps_nil) rfl rfl (by simp) (by decide)))
      (pss_cons (ps_dput (hu1 hr) (pv 7) (pv 6) (pe_op op_sub (pe_op op_add (pe_dget2 (hu1 hr) (pv 7) (pv 6) pe_int ⟨rfl, rfl, rfl, rfl⟩) (pv 2)) (pv 5)) rfl)
      (pss_cons (ps_dput (hu1 hr) (pv 7) (pe_op op_add (pv 4) (pv 6)) (pe_op op_sub (pe_op op_add (pv 3) (pv 5)) (pv 2)) rfl)
      (pss_cons (ps_ret (pe_callB cr_sortedPO rfl hA.z_sorted (by decide +kernel) (pa_cons (pe_lock (pe_lc (own := [("size", 8), ("many", 9)]) (g := (gTup K 2 (gCons (gName 8) (gCons (gName 9) gNil)))) rfl sc_gaps.nd (pi_items (pv 7)) (blkOk_by (own := [("size", 8), ("many", 9)]) (N := ["places", "step", "marks", "ahead", "on", "behind", "back", "counts", "size", "many"]) (sc := defScope s_gaps) (by decide +kernel)) (fun _ _ _ _ _ => (pg_tup rfl (pgs_cons (pg_name (i := 8) sc_gaps.nd rfl (Or.inl rfl)) (pgs_cons (pg_name (i := 9) sc_gaps.nd rfl (Or.inl rfl)) pgs_nil)))) (fun _ _ _ _ _ => (pts_one (pt_cmpR op_gt (pv 9) pe_int (nomark _)))) (fun _ _ _ _ _ => (pe_tup (pa_cons (pv 8) (pa_cons (pv 9) pa_nil)))))) pa_nil)))
      pss_nil))))))), Go.at ?_⟩
    refine g_dropX (evx_call (ea_cons (ev_var rfl) (ea_cons (ev_var rfl) (ea_cons (ev_var rfl) ea_nil))) (spx_marks h1 h2 h3)) (fun v hv => ?_) (fun C hC H1 x => qe C hC H1 x)
    have qv := qv v hv
    obtain ⟨rfl, P, S, M, rfl, rfl, rfl, R, m1, m2⟩ := marksO_val hv
    have p1 := R.p
    have qv : ∀ q us H', H q = none → Ex H H' → H' q = some (.lst us) → TupsAt H' us ((gapsOf P S M).map fun x => [V.int x.1, V.int x.2]) → Q (.ref q) H' := qv
    refine g_when (et_test (ev_op (ev_var rfl) ev_c (rv_eq rfl))) (fun h => ?_) (fun h => ?_)
    · have hM : M = 1 := by have := of_decide_eq_true h; injection this
      subst hM
      rw [gapsOf_one] at qv
      exact g_retLT (pss := [[.int P, .int 1]]) (elt_lst (eat_cons (eu_tup (ea_cons (ev_var rfl) (ea_cons ev_c ea_nil)) (by show 2 ≤ 100000; decide)) eat_nil) (by show 1 ≤ 100000; decide)) fun q us H1 nq e hq hT => qv q us H1 nq e hq hT
    · have hM : M ≠ 1 := fun z => by rw [z] at h; exact absurd rfl (of_decide_eq_false h)
      have n2 : 2 ≤ M := by omega
      refine g_asg4 (eu_nearest R h1 n2 m2 (ea_cons (ev_var rfl) (ea_cons (ev_var rfl) (ea_cons (ev_var rfl) ea_nil)))) ?_
      have hN := theNear_spec (show 0 < P by omega) R.s0 R.s n2 m2
      have hG := gapsOf_eq (show 0 < P by omega) R.s0 R.s n2 m2 hN
      rw [hG] at qv
      generalize (theNear P S M).1 = a at *
      generalize (theNear P S M).2.1 = d at *
      generalize (theNear P S M).2.2.1 = b at *
      generalize (theNear P S M).2.2.2 = e at *
      have d0 := hN.near.d0
      have e0 := hN.near.e0
      refine g_asgDisp1 (ev_var rfl) (ev_op (ev_var rfl) (ev_var rfl) rv_I0) ?_
      intro dp H1 nd e1 hd
      refine g_dput hd (by show 1 < 100000; decide) (v := .int ((if d = e then M - a else 0) + M - b)) (ev_op (ev_op (ev_is (w := .int (if d = e then M - a else 0)) (ev_dget2 hd (ev_var rfl) (ev_var rfl) ev_c) ?_) (ev_var rfl) rv_I0) (ev_var rfl) rv_I0) (ev_var rfl) (ev_var rfl) ?_
      · by_cases z : d = e
        · subst z
          rw [if_pos rfl, valV_pos (p := ((Sum.inl d : Key), V.int (M - a))) rfl]
          rfl
        · rw [if_neg z, valV_neg (p := ((Sum.inl d : Key), V.int (M - a))) (inl_ne z)]
          rfl
      intro H2 e2
      have hd2 : (upd H2 dp (.dK (putK [(.inl d, .int (M - a))] (.inl e) (.int ((if d = e then M - a else 0) + M - b))))) dp = some (.dK (putK [(.inl d, .int (M - a))] (.inl e) (.int ((if d = e then M - a else 0) + M - b)))) := upd_same
      have x2 : Ex H (upd H2 dp (.dK (putK [(.inl d, .int (M - a))] (.inl e) (.int ((if d = e then M - a else 0) + M - b))))) := Ex.mut (e1.trans e2) nd
      have hk2 : ∃ kv2, putK [((.inl d : Key), V.int (M - a))] (.inl e) (.int ((if d = e then M - a else 0) + M - b)) = kv2 ∧ kv2.length ≤ 2 ∧ putK kv2 (.inl (d + e)) (.int (a + b - M)) = (rawL M a d b e).map fun x => ((.inl x.1 : Key), V.int x.2) := by
        refine ⟨_, rfl, ?_⟩
        unfold rawL
        by_cases z : d = e
        · subst z
          rw [if_pos rfl, if_pos rfl, putK_same, putK_one (inl_ne (by omega)), show M - a + M - b = M - a + (M - b) by omega]
          exact ⟨by simp, rfl⟩
        · rw [if_neg z, if_neg z, putK_one (inl_ne z), putK_two (inl_ne (by omega)) (inl_ne (by omega)), show 0 + M - b = M - b by omega]
          exact ⟨by simp, rfl⟩
      obtain ⟨kv2, hkv, hkl, hkr⟩ := hk2
      rw [hkv] at hd2 x2 ⊢
      generalize upd H2 dp (.dK kv2) = H3 at *
      refine g_dput hd2 (by omega) (v := .int (a + b - M)) (ev_op (ev_op (ev_var rfl) (ev_var rfl) rv_I0) (ev_var rfl) rv_I0) (ev_var rfl) (ev_op (ev_var rfl) (ev_var rfl) rv_I0) ?_
      intro H4 e4
      rw [hkr]
      have hd3 : (upd H4 dp (.dK ((rawL M a d b e).map fun x => ((.inl x.1 : Key), V.int x.2)))) dp = some (.dK ((rawL M a d b e).map fun x => ((.inl x.1 : Key), V.int x.2))) := upd_same
      have x3 : Ex H (upd H4 dp (.dK ((rawL M a d b e).map fun x => ((.inl x.1 : Key), V.int x.2)))) := Ex.mut (x2.trans e4) nd
      generalize upd H4 dp (.dK ((rawL M a d b e).map fun x => ((.inl x.1 : Key), V.int x.2))) = H5 at *
      have hlen : ((rawL M a d b e).map fun x => ((Sum.inl x.1 : Key), V.int x.2)).length = (rawL M a d b e).length := List.length_map _
      have hl3 : (rawL M a d b e).length ≤ 3 := by unfold rawL; split <;> simp
      have hget : ∀ n, n < ((rawL M a d b e).map fun x => ((Sum.inl x.1 : Key), V.int x.2)).length → ((rawL M a d b e).map fun x => ((Sum.inl x.1 : Key), V.int x.2))[n]? = some (.inl ((rawL M a d b e).getD n (0, 0)).1, V.int ((rawL M a d b e).getD n (0, 0)).2) := fun n hn => by
        rw [hlen] at hn
        rw [List.getElem?_map, List.getElem?_eq_getElem hn]
        simp [List.getD, hn]
      have it := elt_items (σ := [some (.int P), some (.int S), some (.int M), some (.int a), some (.int d), some (.int b), some (.int e), some (.ref dp), none, none]) (i := 8) (j := 9) (iD := 7) (d := dp) (vs := [8, 9]) (t := tTest (tOp (rI0 fun i j => .bl (decide (i > j))) (tVar 9) (tC (.int 0)))) (te := tTup (tCons (tVar 8) (tCons (tVar 9) tNil))) (K := K) rfl hd3 (by rw [hlen]; omega) (fun n => decide (0 < ((rawL M a d b e).getD n (0, 0)).2)) (fun n => [V.int ((rawL M a d b e).getD n (0, 0)).1, V.int ((rawL M a d b e).getD n (0, 0)).2])
        (fun n hn => rfl) (fun H6 n hn => by rw [hget n hn]; exact et_test (ev_op (ev_var rfl) ev_c rv_I0)) (fun H6 n hn _ => by rw [hget n hn]; exact eu_tup (ea_cons (ev_var rfl) (ea_cons (ev_var rfl) ea_nil)) (by show 2 ≤ 100000; decide))
      rw [hlen, givenT_list (rawL M a d b e) (fun x => decide (0 < x.2)) (fun x => [V.int x.1, V.int x.2])] at it
      exact g_retLT (elt_sorted gapsL_perm (gapsL_rise d0 e0) it) fun q us H6 nq e6 hq hT => qv q us H6 (fresh_back x3 nq) (x3.trans e6) hq hT
/-! ### first, asked well -/
def spFirstQ (K : PySem.W.Frag) (c : Cs) (CF CN : Addr) : Sp := fun vs H Q _ => spFirst K c CF CN vs H Q E0
/-- what first hands back -/
def FirstR (CF CN : Addr) (p s b e : Int) (v : V) (H : Hp) : Prop := ∃ x, v = .ref x ∧ ((¬ HasM (G p s) b e ∧ AnsAt H CN x "common" (G p s)) ∨ (HasM (G p s) b e ∧ ∃ k, FirstIn p s b e k ∧ AnsAt H CF x "mark" k))
theorem evp_first {c : Cs} {CF CN : Addr} {σ : L2.St} {H : Hp} {ta : TA} {E : XK} {p s b e : Int} (R : Ring p s) (l : Lv 1 p) (b0 : 0 ≤ b) (be : b ≤ e) (ep : e < p) (h : EvA ta σ H [.int p, .int s, .int b, .int e]) : EvP (tCall (spFirstQ K c CF CN) [] E ta) σ H (FirstR CF CN p s b e) := fun H1 x Q q =>
  h H1 x _ fun H2 x2 => by
    refine ⟨.int p, .int s, .int b, .int e, rfl, l, R.ls l, lv_le l b0 (by omega), lv_le l (by omega) (by omega), fun C hC => ?_, fun v _ => ⟨fun C hC => ?_, fun v _ => ⟨fun hn y H3 _ x3 ha => q _ H3 (x2.trans x3) ⟨y, rfl, .inl ⟨hn, ha⟩⟩, fun hm y k H3 hk _ x3 ha => q _ H3 (x2.trans x3) ⟨y, rfl, .inr ⟨hm, k, hk, ha⟩⟩⟩⟩⟩
    · rw [ringO_ok R] at hC; cases hC
    · rw [stretchO_ok b0 be (show e < iv (.int p) from ep)] at hC; cases hC
open LamX
def cN (c : Cs) : Nat → Addr
  | 0 => c.cp
  | 1 => c.cs
  | 2 => c.cm
  | 3 => c.cl
  | _ => c.ck
/-- the five errors' classes, told apart -/
structure ErrsIs (K : PySem.W.Frag) (c : Cs) (CS : Addr) : Prop where
  ex : ∀ j, j < 5 → ExcC K (cN c j)
  is : ∀ i j, i < 5 → j < 5 → PySem.W.kitOne K (.ref (cN c i)) (.ref (cN c j)) = some (decide (i = j))
  up : ∀ j, j < 5 → PySem.W.exmOne K (.ref (cN c j)) (.ref CS) = some true
structure ErrsG (mg : Str → Option Value) (c : Cs) (CS : Addr) : Prop where
  s : mg "StepError" = some (.ref CS)
  e0 : mg "BadPlaces" = some (.ref c.cp)
  e1 : mg "BadStep" = some (.ref c.cs)
  e2 : mg "BadMarks" = some (.ref c.cm)
  e3 : mg "BadPlace" = some (.ref c.cl)
  e4 : mg "BadMark" = some (.ref c.ck)
/-- it raises that class -/
def Raises (C : Addr) (tl : XK → Hp → VK → Prop) (H : Hp) : Prop := ∀ H1, Ex H H1 → ∀ (E : XK) (Q : VK), (∀ H', Ex H1 H' → E (.ref C) none H') → tl E H1 Q
def TRef (c : Cs) : Int → (XK → Hp → VK → Prop) → Hp → VK → Prop := fun n tl H Q => ∃ j : Nat, j < 5 ∧ n = (j : Int) ∧ Raises (cN c j) tl H ∧ ∀ H', Ex H H' → Q (.bl true) H'
def hit5 (j : Nat) : List Bool := [decide (j = 0), decide (j = 1), decide (j = 2), decide (j = 3), decide (j = 4)]
theorem hit5_data {j : Nat} (hj : j < 5) : PyData.eqv (.list ((hit5 j).map PyData.bool)) (.list ((hit5 j).map PyData.bool)) = true ∧ SeqAt.shaped (.list ((hit5 j).map PyData.bool)) = true ∧ given 5 (fun _ => true) (fun k => V.bl (decide (V.int (k : Int) = V.int (j : Int)))) = (hit5 j).map V.bl := by
  match j, hj with
  | 0, _ => exact ⟨rfl, rfl, rfl⟩
  | 1, _ => exact ⟨rfl, rfl, rfl⟩
  | 2, _ => exact ⟨rfl, rfl, rfl⟩
  | 3, _ => exact ⟨rfl, rfl, rfl⟩
  | 4, _ => exact ⟨rfl, rfl, rfl⟩
theorem dp_bls {H : Hp} : ∀ bs : List Bool, DpAll K H (bs.map V.bl) (bs.map PyData.bool)
  | [] => .nil
  | b :: bs => .cons (.bl b) (dp_bls bs)
theorem ed_bls {σ : L2.St} {H : Hp} {te : TE} {bs : List Bool} (h : EvL te σ H (bs.map V.bl)) : EvD K te σ H (.list (bs.map PyData.bool)) := fun H1 e Q q =>
  h H1 e _ fun p H2 _ e2 hp => q _ H2 e2 (.lst (sq_of hp) (dp_bls bs))
theorem ev_isE2 {σ : L2.St} {H : Hp} {ta : TE} {a D C : Addr} {b : Bool} (hD : ExcC K D) (hk : PySem.W.kitOne K (.ref D) (.ref C) = some b) (h : Ev ta σ H (.ref a)) : Ev (tCB (rIsE2 K (.ref D) none a) (tCons ta (tCons (tC (.ref C)) tNil))) σ H (.bl b) := fun H1 e Q q =>
  h H1 e _ fun H2 e2 => ⟨D, rfl, rfl, hD, .ref C, .ref C, b, rfl, fun u r => r, hk, q H2 e2⟩
theorem raises_call {σ : L2.St} {H : Hp} {sp : Sp} {ta : TA} {vs : List V} {C : Addr} (h : EvA ta σ H vs) (hs : ∀ H1, Ex H H1 → ∀ (Q : VK) (E : XK), (∀ H', Ex H1 H' → E (.ref C) none H') → sp vs H1 Q E) : Raises C (fun E H' Q' => tCall sp [] E ta σ H' Q') H := fun H1 e E Q q =>
  h H1 e _ fun H2 e2 => by
    show sp (vs ++ []) H2 Q E
    rw [List.append_nil]
    exact hs H2 (e.trans e2) Q E fun H' e' => q H' (e2.trans e')
theorem errs_of {sp : Sp} {vs : List V} {H : Hp} {C : Addr} (h : SpX sp vs H (.err C)) : ∀ H1, Ex H H1 → ∀ (Q : VK) (E : XK), (∀ H', Ex H1 H' → E (.ref C) none H') → sp vs H1 Q E := fun H1 e Q E q => h H1 e Q E (fun v hv => nomatch hv) fun C' hC H2 e2 => by cases hC; exact q H2 e2
open LamX
abbrev s__law_refused : Stmt := topS 38
theorem sc__law_refused : FnScope ["_law_ask", "_law_due", "_law_found", "error", "_law_one"] ["_law_ask", "_law_due"] (defScope s__law_refused) := ⟨rfl, rfl, rfl, by decide +kernel, rfl, by decide +kernel, by decide +kernel⟩
theorem ref_gives {X : Cx} {q : Str} {g CS : Addr} {cdg : Value} {c : Cs} (hr0 : Room 1 X.A) (hA : Blt X.mg) (M : ErrsG X.mg c CS) (B : ErrsIs X.K c CS) : Gives2 X ["_law_ask", "_law_due", "_law_found", "error", "_law_one"] "_law_refused" (defScope s__law_refused) g cdg (defBody s__law_refused) "_law_ask" q (TRef c) := by
  intro f d s H Q n tl act hc h
  obtain ⟨j, hj, rfl, h, k⟩ := h
  have hr : Room 0 (X.A.deeper (envOfC "_law_refused" (defScope s__law_refused) s.heap.objs.size g cdg)) := hr0.deeper _
  refine ⟨_, (pss_cons (ps_set (i := 2) sc__law_refused.nd rfl (Or.inl rfl) (pe_lst pa_nil))
    (pss_cons (ps_try_as (i := 3) (Wout := fun _ _ _ _ => False) rfl rfl sc__law_refused.nd rfl rfl ⟨rfl, by decide, .inl M.s⟩ L2.takes0 (fun W pn xe tk _ => pss_one (ps_expr (act W pn xe _ _ tk)))
      (fun a oe cls dd pn hz hf => pss_cons (ps_set (i := 2) sc__law_refused.nd rfl (Or.inl rfl) (pe_lst (pa_cons (pe_callB (show CallR _ (.builtin "isinstance") (rIsE2 X.K cls dd a) from call_isE2 hz hf) rfl hA.z_isinstance (by decide +kernel) (pa_cons (pv 3) (pa_cons (pe_glob (v := .ref _) rfl M.e0 rfl) pa_nil))) (pa_cons (pe_callB (show CallR _ (.builtin "isinstance") (rIsE2 X.K cls dd a) from call_isE2 hz hf) rfl hA.z_isinstance (by decide +kernel) (pa_cons (pv 3) (pa_cons (pe_glob (v := .ref _) rfl M.e1 rfl) pa_nil))) (pa_cons (pe_callB (show CallR _ (.builtin "isinstance") (rIsE2 X.K cls dd a) from call_isE2 hz hf) rfl hA.z_isinstance (by decide +kernel) (pa_cons (pv 3) (pa_cons (pe_glob (v := .ref _) rfl M.e2 rfl) pa_nil))) pa_nil)))))
        (pss_cons (ps_set (i := 2) sc__law_refused.nd rfl (Or.inl rfl) (pe_op op_cat (pv 2) (pe_lst (pa_cons (pe_callB (show CallR _ (.builtin "isinstance") (rIsE2 X.K cls dd a) from call_isE2 hz hf) rfl hA.z_isinstance (by decide +kernel) (pa_cons (pv 3) (pa_cons (pe_glob (v := .ref _) rfl M.e3 rfl) pa_nil))) (pa_cons (pe_callB (show CallR _ (.builtin "isinstance") (rIsE2 X.K cls dd a) from call_isE2 hz hf) rfl hA.z_isinstance (by decide +kernel) (pa_cons (pv 3) (pa_cons (pe_glob (v := .ref _) rfl M.e4 rfl) pa_nil))) pa_nil))))) pss_nil)))
    (pss_cons (ps_ret (pe_cmpR (op_eqD hr.units) (pv 2) (pe_lc (own := [("_law_one", 4)]) (g := (gName 4)) rfl sc__law_refused.nd (pi_range1 rfl hA.z_range (pa_cons pe_int pa_nil)) (blkOk_by (own := [("_law_one", 4)]) (N := ["_law_ask", "_law_due", "_law_found", "error", "_law_one"]) (sc := defScope s__law_refused) (by decide +kernel)) (fun _ _ _ _ _ => (pg_name (i := 4) sc__law_refused.nd rfl (Or.inl rfl))) (fun _ _ _ _ _ => pts_nil) (fun _ _ _ _ _ => (pe_cmpR op_eq (pv 4) (pv 1) (nomark _)))) (nomark _))) pss_nil))), Go.at ?_⟩
  refine g_asgL (el_lst ea_nil (by show 0 ≤ 100000; decide)) ?_
  intro pf H1 nf e1 hf1
  refine g_seq ?_
  intro H2 e2
  refine ⟨rfl, e2 _ _ (e1 _ _ hc), h H2 (e1.trans e2) _ _ fun H3 e3 => ?_⟩
  refine ⟨true, B.up j hj, fun _ a na => Go.at ?_, fun z => nomatch z⟩
  refine g_asgL (xs := [.bl (decide (j = 0)), .bl (decide (j = 1)), .bl (decide (j = 2))]) (el_lst (ea_cons (ev_isE2 (B.ex j hj) (B.is j 0 hj (by decide)) (ev_var rfl)) (ea_cons (ev_isE2 (B.ex j hj) (B.is j 1 hj (by decide)) (ev_var rfl)) (ea_cons (ev_isE2 (B.ex j hj) (B.is j 2 hj (by decide)) (ev_var rfl)) ea_nil))) (by show 3 ≤ 100000; decide)) ?_
  intro p4 H4 n4 e4 h4
  refine g_asgL (xs := (hit5 j).map V.bl) (el_cat1N (xs := [.bl (decide (j = 0)), .bl (decide (j = 1)), .bl (decide (j = 2))]) (ys := [.bl (decide (j = 3)), .bl (decide (j = 4))]) (ev_var rfl) h4 (el_lst (ea_cons (ev_isE2 (B.ex j hj) (B.is j 3 hj (by decide)) (ev_var rfl)) (ea_cons (ev_isE2 (B.ex j hj) (B.is j 4 hj (by decide)) (ev_var rfl)) ea_nil)) (by show 2 ≤ 100000; decide)) (by show 5 ≤ 100000; decide)) ?_
  intro p5 H5 n5 e5 h5
  refine g_next fun H6 e6 => Go.at ?_
  obtain ⟨d1, d2, d3⟩ := hit5_data hj
  have lc := el_lcF (n := (5 : Int).toNat) (σ := [some (.ref f), some (.int (j : Int)), some (.ref p5), none, none]) (H := H6) (vs := [4]) (t := tYes) (te := tOp rEq (tVar 4) (tVar 1)) (fun _ => true) (fun k => V.bl (decide (V.int (k : Int) = V.int (j : Int)))) (ef_range (n := (5 : Int)) (j := 4) (ta := tCons (tC (.int 5)) tNil) (ea_cons ev_c ea_nil) (by omega) (by omega)) (by decide) (fun i hi => rfl) (fun H7 e7 i hi => et_yes) (fun H7 e7 i hi _ => ev_op (ev_var rfl) (ev_var rfl) (rv_eq rfl))
  rw [show given (5 : Int).toNat (fun _ => true) (fun k => V.bl (decide (V.int (k : Int) = V.int (j : Int)))) = (hit5 j).map V.bl from d3] at lc
  refine g_ret (v := .bl true) (ev_is (ev_eqD (ed_of (ev_var rfl) (.lst (sq_of (e6 _ _ h5)) (dp_bls _))) (ed_bls lc) d2 d2) (congrArg V.bl d1)) fun H7 e7 => k H7 ((((e1.trans e2).trans e3).trans (e4.trans (e5.trans e6))).trans e7)
section
variable {σ : L2.St} {H : Hp} {tu tz : TS} {D : Ends} {T : List (Addr × Str)} {c : Cs} {t : XK → TE} {n : Int}
/-- if not _law_refused(lambda: .., n): .. -/
theorem g_refused (hT : Tabs T H) (h : ∀ H1, ExtN H H1 → Tabs T H1 → ∃ j : Nat, j < 5 ∧ n = (j : Int) ∧ Raises (cN c j) (fun E H' Q' => t E σ H' Q') H1) (k : ∀ H1, ExtN H H1 → Tabs T H1 → Go tz D σ H1) :
    Go (tSeq (tIfS (tNot (tB (tLam2 T (TRef c n) t))) tu tNext) tz) D σ H := fun H' e => by
  refine ⟨hT.ext e, fun H1 eN T1 => ?_⟩
  have eN' : ExtN H H1 := (ExtN.of e).trans eN
  obtain ⟨j, hj, hn, hr⟩ := h H1 eN' T1
  exact ⟨j, hj, hn, hr, fun H2 e2 => ⟨true, rfl, (k H2 (eN'.trans (ExtN.of e2)) (T1.ext e2)).at⟩⟩
/-- return _law_refused(lambda: .., n) -/
theorem g_retRefused (hT : Tabs T H) (h : ∀ H1, ExtN H H1 → Tabs T H1 → ∃ j : Nat, j < 5 ∧ n = (j : Int) ∧ Raises (cN c j) (fun E H' Q' => t E σ H' Q') H1) (k : ∀ H1, D.rt (.bl true) H1) :
    Go (tSeq (tRet (tLam2 T (TRef c n) t)) tz) D σ H := fun H' e => by
  refine ⟨hT.ext e, fun H1 eN T1 => ?_⟩
  obtain ⟨j, hj, hn, hr⟩ := h H1 ((ExtN.of e).trans eN) T1
  exact ⟨j, hj, hn, hr, fun H2 e2 => k H2⟩
/-- a for over a written tuple of pairs of ints, the tables may grow -/
theorem g_forTdN {ta : TA} {ps : List (Int × Int)} {i j : Nat} (h : EvAT ta σ H (ps.map fun x => [V.int x.1, V.int x.2])) (hl : ps.length ≤ 1000) (hT : Tabs T H) (W : Nat → L2.St → Prop) (h0 : W 0 σ)
    (hs : ∀ B, Ex H B → ∀ m σ' H' (hm : m < ps.length), ExtN B H' → Tabs T H' → W m σ' → Go tu { D with nx := fun σ2 H2 => ExtN B H2 ∧ Tabs T H2 ∧ W (m + 1) σ2, ct := fun σ2 H2 => ExtN B H2 ∧ Tabs T H2 ∧ W (m + 1) σ2, bk := tz D } ((σ'.set i (some (.int ps[m].1))).set j (some (.int ps[m].2))) H')
    (hd : ∀ B, ExtN H B → Tabs T B → ∀ σ', W ps.length σ' → Go tz D σ' B) : Go (tSeq (tFor (iTup K (tTup ta)) (gTup K 2 (gCons (gName i) (gCons (gName j) gNil))) tu) tz) D σ H := fun H' e => by
  refine h H' e _ fun vs H2 e2 hvs => ⟨sz_of (by rw [hvs.1, List.length_map]; omega), fun p np => ?_⟩
  have e3 : Ex H2 (upd H2 p (.tup vs)) := Ex.new np
  have eB : Ex H (upd H2 p (.tup vs)) := (e.trans e2).trans e3
  have hT' := hvs.ex e3
  have hp : (upd H2 p (.tup vs)) p = some (.tup vs) := upd_same
  generalize upd H2 p (.tup vs) = B at *
  have hlen : vs.length = ps.length := by rw [hvs.1, List.length_map]
  refine ⟨p, rfl, ⟨vs, st_of hp⟩, ?_⟩
  refine for_it (D := { D with nx := tz D }) (G := fun H3 => SqT K H3 p vs) (hlen ▸ walk_tup) (fun m σ' H3 => ExtN B H3 ∧ Tabs T H3 ∧ W m σ') ⟨ExtN.refl _, hT.ext eB, h0⟩ (fun m σ' H3 _ w => st_of (extN_tup w.1 hp)) (fun m x σ' H3 H4 hm w y => ?_) (fun σ' H3 w => (hd H3 ((ExtN.of eB).trans w.1) w.2.1 σ' w.2.2).at)
  obtain ⟨rfl, y2⟩ := y
  obtain ⟨a, h1, h2⟩ := hT'.2 m [V.int ps[m].1, V.int ps[m].2] (by rw [List.getElem?_map, List.getElem?_eq_getElem hm]; rfl)
  rw [h1] at y2
  cases y2
  exact ⟨a, _, rfl, st_of (extN_tup w.1 h2), rfl, _, _, rfl, _, _, rfl, rfl, (hs B eB m σ' _ hm w.1 w.2.1 w.2.2).at⟩
end
open LamX
/-! ### errors at the doors -/
theorem marksO_err {c : Cs} {p s m : Int} (R : Ring p s) (h : top p s < m) : marksO c (.int p) (.int s) (.int m) = .err c.cm := by
  unfold marksO
  rw [ringO_ok R]
  exact if_neg fun z => by
    obtain ⟨i, e, _, h2⟩ := okIn_iff.mp z
    cases e
    have h2 : m ≤ top p s := h2
    omega
theorem ringO_errS {c : Cs} {p s : Int} (h : 1 ≤ p) (h2 : p ≤ s) : ringO c (.int p) (.int s) = .err c.cs := by
  unfold ringO
  rw [if_pos (okP_iff.mpr ⟨p, rfl, h⟩)]
  exact if_neg fun z => by
    obtain ⟨i, e, _, h3⟩ := okIn_iff.mp z
    cases e
    have h3 : s ≤ p - 1 := h3
    omega
theorem stretchO_err {c : Cs} {p b e : Int} (h : ¬ (b ≤ e ∧ e < p)) : stretchO c (.int p) (.int b) (.int e) = .err c.cl := by
  unfold stretchO
  refine if_neg fun z => h ?_
  rw [Bool.and_eq_true, Bool.and_eq_true] at z
  obtain ⟨⟨_, h2⟩, h3⟩ := z
  obtain ⟨i, e', _, h4⟩ := okIn_iff.mp h2
  cases e'
  have h4 : e ≤ p - 1 := h4
  have h3 : b ≤ e := of_decide_eq_true h3
  exact ⟨h3, by omega⟩
theorem countO_errM {c : Cs} {p s m : Int} {b e : V} (R : Ring p s) (h : top p s < m) : countO c (.int p) (.int s) (.int m) b e = .err c.cm := by unfold countO; rw [marksO_err R h]
theorem countO_errL {c : Cs} {p s m b e : Int} (R : Ring p s) (m1 : 1 ≤ m) (m2 : m ≤ top p s) (h : ¬ (b ≤ e ∧ e < p)) : countO c (.int p) (.int s) (.int m) (.int b) (.int e) = .err c.cl := by unfold countO; rw [marksO_ok R m1 m2, stretchO_err h]
theorem mostO_errS {c : Cs} {p s : Int} (h : 1 ≤ p) (h2 : p ≤ s) : mostO c (.int p) (.int s) = .err c.cs := by unfold mostO; rw [ringO_errS h h2]
theorem markO_err {c : Cs} {k m : Int} (h : m ≤ k) : markO c (.int k) (.int m) = .err c.ck := by
  unfold markO
  exact if_neg fun z => by
    obtain ⟨i, e, _, h3⟩ := okIn_iff.mp z
    cases e
    have h3 : k ≤ m - 1 := h3
    omega
theorem turnO_errK {c : Cs} {p s m k : Int} (R : Ring p s) (m1 : 1 ≤ m) (m2 : m ≤ top p s) (h : m ≤ k) : turnO c (.int p) (.int s) (.int m) (.int k) = .err c.ck := by unfold turnO; rw [marksO_ok R m1 m2, markO_err h]
theorem markByO_errK {c : Cs} {p s m k : Int} (R : Ring p s) (m1 : 1 ≤ m) (m2 : m ≤ top p s) (h : m ≤ k) : markByO c (.int p) (.int s) (.int m) (.int k) = .err c.ck := by unfold markByO; rw [marksO_ok R m1 m2, markO_err h]
theorem besideO_errL {c : Cs} {p s m x : Int} (R : Ring p s) (m1 : 1 ≤ m) (m2 : m ≤ top p s) (h : p ≤ x) : besideO c (.int p) (.int s) (.int m) (.int x) = .err c.cl := by
  unfold besideO
  rw [marksO_ok R m1 m2]
  show placeO c (.int x) (.int p) = _
  unfold placeO
  exact if_neg fun z => by
    obtain ⟨i, e, _, h3⟩ := okIn_iff.mp z
    cases e
    have h3 : x ≤ p - 1 := h3
    omega
section
variable {σ : L2.St} {H : Hp} {c : Cs} {ta : TA} {CF CN : Addr}
theorem raises_gaps {p s m : V} {D : Addr} (h : EvA ta σ H [p, s, m]) (k1 : Kn K H p) (k2 : Kn K H s) (k3 : Kn K H m) (e : marksO c p s m = .err D) : Raises D (fun E H' Q' => tCall (spGaps K c) [] E ta σ H' Q') H :=
  raises_call h fun H1 x Q E q => ⟨p, s, m, rfl, k1.ex x, k2.ex x, k3.ex x, fun C hC H' e' => by rw [e] at hC; cases hC; exact q H' e', fun v hv => by rw [e] at hv; cases hv⟩
theorem raises_beside {p s m y : V} {D : Addr} (h : EvA ta σ H [p, s, m, y]) (k1 : Kn K H p) (k2 : Kn K H s) (k3 : Kn K H m) (k4 : Kn K H y) (e : besideO c p s m y = .err D) : Raises D (fun E H' Q' => tCall (spBeside K c) [] E ta σ H' Q') H :=
  raises_call h fun H1 x Q E q => ⟨p, s, m, y, rfl, k1.ex x, k2.ex x, k3.ex x, k4.ex x, fun C hC H' e' => by rw [e] at hC; cases hC; exact q H' e', fun v hv => by rw [e] at hv; cases hv⟩
theorem raises_firstL {p s b y : V} {D : Addr} {v : V} (h : EvA ta σ H [p, s, b, y]) (k1 : Kn K H p) (k2 : Kn K H s) (k3 : Kn K H b) (k4 : Kn K H y) (e0 : ringO c p s = .val v) (e : stretchO c p b y = .err D) : Raises D (fun E H' Q' => tCall (spFirst K c CF CN) [] E ta σ H' Q') H :=
  raises_call h fun H1 x Q E q => ⟨p, s, b, y, rfl, k1.ex x, k2.ex x, k3.ex x, k4.ex x, fun C hC => by (rw [e0] at hC; cases hC), fun v _ => ⟨fun C hC H' e' => by rw [e] at hC; cases hC; exact q H' e', fun v hv => by rw [e] at hv; cases hv⟩⟩
end
open LamX
def FirstI (CF : Addr) (k : Int) (v : V) (H : Hp) : Prop := ∃ x, v = .ref x ∧ AnsAt H CF x "mark" k
def NeverI (CN : Addr) (g : Int) (v : V) (H : Hp) : Prop := ∃ x, v = .ref x ∧ AnsAt H CN x "common" g
section
variable {σ : L2.St} {H : Hp} {ta tb te : TE} {tz : TS} {D : Ends}
theorem evp_firstI {c : Cs} {CF CN : Addr} {tr : TA} {E : XK} {p s b e k : Int} (R : Ring p s) (l : Lv 1 p) (b0 : 0 ≤ b) (be : b ≤ e) (ep : e < p) (hk : FirstIn p s b e k) (h : EvA tr σ H [.int p, .int s, .int b, .int e]) : EvP (tCall (spFirstQ K c CF CN) [] E tr) σ H (FirstI CF k) := fun H1 x Q q =>
  evp_first R l b0 be ep h H1 x Q fun v H2 x2 hv => by
    obtain ⟨y, rfl, ⟨hn, _⟩ | ⟨_, m, hm, ha⟩⟩ := hv
    · exact absurd hk.is (none_in (by have := R.p; omega) hn)
    · have := hm.uniq hk
      subst this
      exact q _ H2 x2 ⟨y, rfl, ha⟩
theorem evp_neverI {c : Cs} {CF CN : Addr} {tr : TA} {E : XK} {p s b e g : Int} (R : Ring p s) (l : Lv 1 p) (b0 : 0 ≤ b) (be : b ≤ e) (ep : e < p) (hg : G p s = g) (hn : ¬ HasM g b e) (h : EvA tr σ H [.int p, .int s, .int b, .int e]) : EvP (tCall (spFirstQ K c CF CN) [] E tr) σ H (NeverI CN g) := fun H1 x Q q =>
  evp_first R l b0 be ep h H1 x Q fun v H2 x2 hv => by
    subst hg
    obtain ⟨y, rfl, ⟨_, ha⟩ | ⟨hm, _⟩⟩ := hv
    · exact q _ H2 x2 ⟨y, rfl, ha⟩
    · exact absurd hm hn
/-- a, b, c = three things that are made on the way -/
theorem g_par3P {tc : TE} {i j l : Nat} {R1 R2 R3 : V → Hp → Prop} (h1 : EvP ta σ H R1) (h2 : EvP tb σ H R2) (h3 : EvP tc σ H R3) (m1 : ∀ v H H', Ex H H' → R1 v H → R1 v H') (m2 : ∀ v H H', Ex H H' → R2 v H → R2 v H')
    (k : ∀ u v w H1, Ex H H1 → R1 u H1 → R2 v H1 → R3 w H1 → Go tz D (((σ.set i (some u)).set j (some v)).set l (some w)) H1) : Go (tSeq (tPar3 i j l (tCons ta (tCons tb (tCons tc tNil)))) tz) D σ H := fun H' e =>
  h1 H' e _ fun u H1 e1 r1 => h2 H1 (e.trans e1) _ fun v H2 e2 r2 => h3 H2 ((e.trans e1).trans e2) _ fun w H3 e3 r3 =>
    ⟨u, v, w, rfl, (k u v w H3 (((e.trans e1).trans e2).trans e3) (m1 _ _ _ (e2.trans e3) r1) (m2 _ _ _ e3 r2) r3).at⟩
end
theorem firstI_ex {CF : Addr} {k : Int} : ∀ (v : V) (H H' : Hp), Ex H H' → FirstI CF k v H → FirstI CF k v H' := fun v H H' e ⟨x, h1, h2⟩ => ⟨x, h1, h2.ex e⟩
theorem shows_not {p s b e k m : Int} (be : b ≤ e) (hk : FirstIn p s b e k) (hm : m ≠ k) : showsF p s b e m = false := by
  cases q : showsF p s b e m with
  | false => rfl
  | true => exact absurd (((showsF_iff be).mp q).uniq hk) hm
/-! ### bad things at the doors -/
def smallV : V → Bool
  | .int i => decide (i.natAbs ≤ 1000000000000000000)
  | .bl _ => true
  | .non => true
  | .str _ => true
  | _ => false
theorem kn_small {H : Hp} {v : V} (h : smallV v = true) : Kn K H v := by
  cases v with
  | int i => exact lv_small (of_decide_eq_true h)
  | bl b => trivial
  | non => trivial
  | str s => trivial
  | _ => cases h
section
variable {σ : L2.St} {H : Hp} {tr : TA} {E : XK} {c : Cs} {C : Addr} {p s m b y : V}
theorem rs_most (h : EvA tr σ H [p, s]) (k1 : Kn K H p) (k2 : Kn K H s) (e : mostO c p s = .err C) (q : ∀ H', Ex H H' → E (.ref C) none H') : Rs (tCall (spMost K c) [] E tr) σ H := rs_call h fun H1 x Q => errs_of (e ▸ spx_most (k1.ex x) (k2.ex x)) H1 (Ex.refl _) Q E fun H' e' => q H' (x.trans e')
theorem rs_count (h : EvA tr σ H [p, s, m, b, y]) (k1 : Kn K H p) (k2 : Kn K H s) (k3 : Kn K H m) (k4 : Kn K H b) (k5 : Kn K H y) (e : countO c p s m b y = .err C) (q : ∀ H', Ex H H' → E (.ref C) none H') : Rs (tCall (spCount K c) [] E tr) σ H := rs_call h fun H1 x Q => errs_of (e ▸ spx_count (k1.ex x) (k2.ex x) (k3.ex x) (k4.ex x) (k5.ex x)) H1 (Ex.refl _) Q E fun H' e' => q H' (x.trans e')
theorem rs_turn_of (h : EvA tr σ H [p, s, m, b]) (k1 : Kn K H p) (k2 : Kn K H s) (k3 : Kn K H m) (k4 : Kn K H b) (e : turnO c p s m b = .err C) (q : ∀ H', Ex H H' → E (.ref C) none H') : Rs (tCall (spTurnOf K c) [] E tr) σ H := rs_call h fun H1 x Q => errs_of (e ▸ spx_turnOf (k1.ex x) (k2.ex x) (k3.ex x) (k4.ex x)) H1 (Ex.refl _) Q E fun H' e' => q H' (x.trans e')
theorem rs_mark_by (h : EvA tr σ H [p, s, m, b]) (k1 : Kn K H p) (k2 : Kn K H s) (k3 : Kn K H m) (k4 : Kn K H b) (e : markByO c p s m b = .err C) (q : ∀ H', Ex H H' → E (.ref C) none H') : Rs (tCall (spMarkBy K c) [] E tr) σ H := rs_call h fun H1 x Q => errs_of (e ▸ spx_markBy (k1.ex x) (k2.ex x) (k3.ex x) (k4.ex x)) H1 (Ex.refl _) Q E fun H' e' => q H' (x.trans e')
theorem rs_gaps (h : EvA tr σ H [p, s, m]) (k1 : Kn K H p) (k2 : Kn K H s) (k3 : Kn K H m) (e : marksO c p s m = .err C) (q : ∀ H', Ex H H' → E (.ref C) none H') : Rs (tCall (spGaps K c) [] E tr) σ H := rs_call h fun H1 x Q => ⟨p, s, m, rfl, k1.ex x, k2.ex x, k3.ex x, fun C' hC H' e' => by rw [e] at hC; cases hC; exact q H' (x.trans e'), fun v hv => by rw [e] at hv; cases hv⟩
theorem rs_beside (h : EvA tr σ H [p, s, m, y]) (k1 : Kn K H p) (k2 : Kn K H s) (k3 : Kn K H m) (k4 : Kn K H y) (e : besideO c p s m y = .err C) (q : ∀ H', Ex H H' → E (.ref C) none H') : Rs (tCall (spBeside K c) [] E tr) σ H := rs_call h fun H1 x Q => ⟨p, s, m, y, rfl, k1.ex x, k2.ex x, k3.ex x, k4.ex x, fun C' hC H' e' => by rw [e] at hC; cases hC; exact q H' (x.trans e'), fun v hv => by rw [e] at hv; cases hv⟩
theorem rs_firstR {CF CN : Addr} (h : EvA tr σ H [p, s, b, y]) (k1 : Kn K H p) (k2 : Kn K H s) (k3 : Kn K H b) (k4 : Kn K H y) (e : ringO c p s = .err C) (q : ∀ H', Ex H H' → E (.ref C) none H') : Rs (tCall (spFirst K c CF CN) [] E tr) σ H := rs_call h fun H1 x Q => ⟨p, s, b, y, rfl, k1.ex x, k2.ex x, k3.ex x, k4.ex x, fun C' hC H' e' => by rw [e] at hC; cases hC; exact q H' (x.trans e'), fun v hv => by rw [e] at hv; cases hv⟩
theorem rs_firstS {CF CN : Addr} {v0 : V} (h : EvA tr σ H [p, s, b, y]) (k1 : Kn K H p) (k2 : Kn K H s) (k3 : Kn K H b) (k4 : Kn K H y) (e0 : ringO c p s = .val v0) (e : stretchO c p b y = .err C) (q : ∀ H', Ex H H' → E (.ref C) none H') : Rs (tCall (spFirst K c CF CN) [] E tr) σ H := rs_call h fun H1 x Q => ⟨p, s, b, y, rfl, k1.ex x, k2.ex x, k3.ex x, k4.ex x, fun C' hC => (by rw [e0] at hC; cases hC), fun v hv => ⟨fun C' hC H' e' => by rw [e] at hC; cases hC; exact q H' (x.trans e'), fun v hv => by rw [e] at hv; cases hv⟩⟩
theorem mostO_ring (h : ringO c p s = .err C) : mostO c p s = .err C := by unfold mostO; rw [h]
theorem marksO_ring (h : ringO c p s = .err C) : marksO c p s m = .err C := by unfold marksO; rw [h]
theorem countO_marks (h : marksO c p s m = .err C) : countO c p s m b y = .err C := by unfold countO; rw [h]
theorem turnO_marks (h : marksO c p s m = .err C) : turnO c p s m b = .err C := by unfold turnO; rw [h]
theorem markByO_marks (h : marksO c p s m = .err C) : markByO c p s m b = .err C := by unfold markByO; rw [h]
theorem besideO_marks (h : marksO c p s m = .err C) : besideO c p s m b = .err C := by unfold besideO; rw [h]
end
open LamX
/-! ### whole numbers all through -/
mutual
def sndB : PyData → Bool
  | .int _ | .none => true
  | .list xs | .tuple xs => sndAll xs
  | _ => false
def sndAll : List PyData → Bool
  | [] => true
  | x :: xs => sndB x && sndAll xs
end
mutual
def wtD : PyData → Nat
  | .list xs | .tuple xs => 1 + wtAll xs
  | _ => 1
def wtAll : List PyData → Nat
  | [] => 0
  | x :: xs => wtD x + wtAll xs
end
theorem sndAll_app : ∀ (a b : List PyData), sndAll (a ++ b) = (sndAll a && sndAll b)
  | [], b => by simp [sndAll]
  | x :: a, b => by simp [sndAll, sndAll_app a b, Bool.and_assoc]
theorem wtAll_app : ∀ (a b : List PyData), wtAll (a ++ b) = wtAll a + wtAll b
  | [], b => by simp [wtAll]
  | x :: a, b => by simp [wtAll, wtAll_app a b]; omega
theorem depthAll_app : ∀ (a b : List PyData), PyData.depthAll (a ++ b) = max (PyData.depthAll a) (PyData.depthAll b)
  | [], b => by show PyData.depthAll b = max 0 _; omega
  | x :: a, b => by
    show max (PyData.depth x) (PyData.depthAll (a ++ b)) = max (max (PyData.depth x) (PyData.depthAll a)) _
    rw [depthAll_app a b]
    omega
mutual
theorem lay_snd : ∀ d : PyData, sndB d = true → d.canLay0 = true
  | .int _, _ => rfl
  | .none, _ => rfl
  | .list xs, h => lay_sndAll xs h
  | .tuple xs, h => lay_sndAll xs h
theorem lay_sndAll : ∀ ds : List PyData, sndAll ds = true → PyData.canLayAll0 ds = true
  | [], _ => rfl
  | x :: xs, h => by
    have h : (sndB x && sndAll xs) = true := h
    obtain ⟨h1, h2⟩ := Bool.and_eq_true_iff.mp h
    show (x.canLay0 && PyData.canLayAll0 xs) = true
    rw [lay_snd x h1, lay_sndAll xs h2]
    rfl
end
theorem dps_last {H : Hp} : ∀ {us : List V} {ds : List PyData}, DpAll K H us ds → ds ≠ [] → ∃ us' u ds' d, us = us' ++ [u] ∧ ds = ds' ++ [d] ∧ DpAll K H us' ds' ∧ Dp K H u d
  | _, _, .nil, h => absurd rfl h
  | _, _, .cons (v := v) (d := d) (vs := vs) (ds := ds) h hs, _ => by
    by_cases z : ds = []
    · subst z
      cases hs
      exact ⟨[], v, [], d, rfl, rfl, .nil, h⟩
    · obtain ⟨us', u, ds', d', rfl, rfl, h1, h2⟩ := dps_last hs z
      exact ⟨v :: us', u, d :: ds', d', rfl, rfl, .cons h h1, h2⟩
theorem dps_app {H : Hp} : ∀ {us us2 : List V} {ds ds2 : List PyData}, DpAll K H us ds → DpAll K H us2 ds2 → DpAll K H (us ++ us2) (ds ++ ds2)
  | _, _, _, _, .nil, h2 => h2
  | _, _, _, _, .cons h hs, h2 => .cons h (dps_app hs h2)
section
variable {σ : L2.St} {H : Hp} {ta te : TE} {t : TT} {tu tz : TS} {D : Ends}
/-- a while whose measure stands in the heap -/
theorem g_whileN (W : Nat → L2.St → Hp → Prop) (n0 : Nat) (h0 : ∀ H1, Ex H H1 → W n0 σ H1)
    (hs : ∀ n σ' H', W n σ' H' → ∃ b, EvT t σ' H' b ∧ (b = true → Go tu { D with nx := fun σ2 H2 => ∃ m, m < n ∧ W m σ2 H2, ct := fun σ2 H2 => ∃ m, m < n ∧ W m σ2 H2, bk := tz D } σ' H') ∧ (b = false → Go tz D σ' H')) : Go (tSeq (tWhile t tu) tz) D σ H := fun H' e =>
  q_while (fun n σ' H2 => W n σ' H2) n0 (h0 H' e) fun n σ' H2 w => by
    obtain ⟨b, hb, h1, h2⟩ := hs n σ' H2 w
    exact ⟨b, hb, fun eb H3 e3 => ⟨_, fun σ2 H2 ⟨m, x2, x3⟩ => ⟨m, x2, x3⟩, h1 eb H3 e3⟩, fun eb H3 e3 => h2 eb H3 e3⟩
/-- x = l.pop() -/
theorem g_asgPop {i : Nat} {l : Addr} {xs : List V} {y : V} (hl : H l = some (.lst (xs ++ [y]))) (ha : Ev ta σ H (.ref l)) (k : ∀ H1, Ex H H1 → Go tz D (σ.set i (some y)) (upd H1 l (.lst xs))) : Go (tSeq (tAsg (tBM0 K "list" rPop ta) (gName i)) tz) D σ H := fun H' e =>
  ha H' e _ fun H1 e1 => ⟨.inl ⟨rfl, _, sq_of ((e.trans e1) _ _ hl)⟩, l, xs ++ [y], y, rfl, rfl, (e.trans e1) _ _ hl, by simp, by rw [List.dropLast_concat]; exact (k H1 (e.trans e1)).at⟩
/-- l.extend(a new list) -/
theorem g_extend {l : Addr} {xs ys : List V} (hl : H l = some (.lst xs)) (ha : Ev ta σ H (.ref l)) (h : EvL te σ H ys) (hz : xs.length + ys.length ≤ 100000) (k : ∀ H1, Ex H H1 → Go tz D σ (upd H1 l (.lst (xs ++ ys)))) : Go (tSeq (tDrop (tBM K "list" rExtend ta (tCons te tNil))) tz) D σ H := fun H' e =>
  ha H' e _ fun H1 e1 => ⟨.inl ⟨rfl, _, sq_of ((e.trans e1) _ _ hl)⟩, h H1 (e.trans e1) _ fun p H2 np e2 hp => ⟨l, p, xs, ys, rfl, rfl, ((e.trans e1).trans e2) _ _ hl, hp, sz_of hz, (k H2 ((e.trans e1).trans e2)).at⟩⟩
/-- list(a list or a tuple) -/
theorem el_listOf2 {p : Addr} {xs : List V} (h : Ev te σ H (.ref p)) (hs : SqL K H p xs ∨ SqT K H p xs) : EvL (tCB (fun xs H Q => ∃ p ys, xs = [.ref p] ∧ (SqL K H p ys ∨ SqT K H p ys) ∧ ∀ l, H l = none → Q (.ref l) (upd H l (.lst ys))) (tCons te tNil)) σ H xs := fun H1 e Q q =>
  h H1 e _ fun H2 e2 => ⟨p, xs, rfl, hs.imp (ex_l (e.trans e2)) (ex_t (e.trans e2)), fun l nl => q l _ (fresh_back e2 nl) (e2.trans (Ex.new nl)) upd_same⟩
theorem ty_ev {v : V} {T : String} {ty : Value} {b : Bool} (ha : Ev ta σ H v) (ht : ∀ H1, Ex H H1 → TyX K H1 v ty) (hk : PySem.W.kitOne K ty (.type T) = some b) : Ev (tCB (rIsi K) (tCons ta (tCons (tC (.ty T)) tNil))) σ H (.bl b) := ev_isi ha ev_c (.ty T) ht hk
end
theorem rv_nn {H : Hp} {x : V} : RV (fun x y H Q => y = .non ∧ Q (.bl (!decide (x = .non))) H) x .non H (.bl (!decide (x = .non))) := fun H1 _ _ q => ⟨rfl, q H1 (Ex.refl H1)⟩
abbrev s__law_sound : Stmt := topS 39
theorem sc__law_sound : FnScope ["_law_thing", "_law_waiting", "_law_one"] ["_law_thing"] (defScope s__law_sound) := ⟨rfl, rfl, rfl, by decide +kernel, rfl, by decide +kernel, by decide +kernel⟩
def spSound (K : PySem.W.Frag) : Sp := fun vs H Q _ => ∃ (v : V) (d : PyData), vs = [v] ∧ Dp K H v d ∧ sndB d = true ∧ d.depth ≤ 50 ∧ wtD d ≤ 1000 ∧ ∀ H', Ex H H' → Q (.bl true) H'
theorem tyL {H : Hp} {a : Addr} {xs : List V} (h : SqL K H a xs) : TyX K H (.ref a) (.type "list") := by
  rcases h with (h | ⟨o, h⟩) | ⟨o, its, n, h, h2, _⟩
  · exact .base (.lst h)
  · exact .base (.frz h)
  · exact .kList h h2
theorem tyT {H : Hp} {a : Addr} {xs : List V} (h : SqT K H a xs) : TyX K H (.ref a) (.type "tuple") := by
  rcases h with (h | ⟨o, h⟩) | ⟨o, its, n, h, h2, _⟩
  · exact .base (.tup h)
  · exact .fTuple h
  · exact .kTuple h h2
theorem ok__law_sound (hA : Blt mg) (F : Fun K "_law_sound" "_law_sound" s__law_sound f fd) : FnOk P w K mg base CX0 1 f fd ["_law_thing"] (spSound K) := by
  refine F.ok sc__law_sound (fun vs H Q E h => ?_) (fun cdv A outer s H vs Q E hr h => ?_)
  · obtain ⟨v, d, rfl, _⟩ := h
    rfl
  · obtain ⟨v, d, rfl, hd, hs, hdp, hwt, k⟩ := h
    refine ⟨_, (pss_cons (ps_set (i := 1) sc__law_sound.nd rfl (Or.inl rfl) (pe_lst (pa_cons (pv 0) pa_nil)))
      (pss_cons (ps_while PassesOwn.never (pt_cmpR (op_neD hr.units) (pv 1) (pe_lst pa_nil) (nomark _)) (pss_cons (ps_set (i := 2) sc__law_sound.nd rfl (Or.inl rfl) (pe_bm0 PySem.F.plainAttrs_list PySem.F.slot_list_pop PySem.F.type_list_pop mt_pop (pv 1)))
      (pss_cons (ps_if (PW.pt (pw_or (pt_val (pe_callB call_isi rfl hA.z_isinstance (by decide +kernel) (pa_cons (pv 2) (pa_cons (pe_bltn (v := .ty "list") (u := .type "list") rfl hA.z_list (by decide +kernel) rfl) pa_nil)))) (pw_or1 (pt_val (pe_callB call_isi rfl hA.z_isinstance (by decide +kernel) (pa_cons (pv 2) (pa_cons (pe_bltn (v := .ty "tuple") (u := .type "tuple") rfl hA.z_tuple (by decide +kernel) rfl) pa_nil))))))) (pss_cons (ps_expr (pe_bm PySem.F.plainAttrs_list PySem.F.slot_list_extend PySem.F.type_list_extend mt_extend (pv 1) (pa_cons (pe_callTy call_list_of rfl hA.z_list (by decide +kernel) (pa_cons (pv 2) pa_nil)) pa_nil)))
      pss_nil) (pss_cons (ps_if (PW.pt (pw_or (pt_val (pe_callB call_isi rfl hA.z_isinstance (by decide +kernel) (pa_cons (pv 2) (pa_cons (pe_bltn (v := .ty "bool") (u := .type "bool") rfl hA.z_bool (by decide +kernel) rfl) pa_nil)))) (pw_or1 (PW.pt (pw_and (pt_cmpR op_notN (pv 2) pe_non (nomark _)) (pw_and (pt_not (pt_val (pe_callB call_isi rfl hA.z_isinstance (by decide +kernel) (pa_cons (pv 2) (pa_cons (pe_bltn (v := .ty "int") (u := .type "int") rfl hA.z_int (by decide +kernel) rfl) pa_nil))))) (pw_and1 (pt_not (pt_val (pe_callB call_isi rfl hA.z_isinstance (by decide +kernel) (pa_cons (pv 2) (pa_cons (pe_bltn (v := .ty "str") (u := .type "str") rfl hA.z_str (by decide +kernel) rfl) pa_nil)))))))))))) (pss_cons (ps_ret pe_bl)
      pss_nil) pss_nil)
      pss_nil))
      pss_nil)))
      (pss_cons (ps_ret pe_bl)
      pss_nil))), Go.at ?_⟩
    refine g_asgL (el_lst (ea_cons (ev_var rfl) ea_nil) (by show 1 ≤ 100000; decide)) ?_
    intro l H1 nl e1 hl
    refine g_whileN (fun n σ' H' => Ex H H' ∧ ∃ (us : List V) (ds : List PyData) (o : Option V), σ' = [some v, some (.ref l), o] ∧ H' l = some (.lst us) ∧ DpAll K H us ds ∧ sndAll ds = true ∧ PyData.depthAll ds ≤ 50 ∧ wtAll ds = n ∧ n ≤ 1000) (wtD d)
      (fun H2 e2 => ⟨e1.trans e2, [v], [d], none, rfl, e2 _ _ hl, .cons hd .nil, by show (sndB d && true) = true; rw [hs]; rfl, by show max d.depth 0 ≤ 50; omega, by show wtD d + 0 = wtD d; omega, hwt⟩) ?_
    rintro n σ' H2 ⟨e2, us, ds, o, rfl, hl2, hds, hsd, hdd, hwn, hn⟩
    have hlen : us.length ≤ 1000 := by
      have h1 := dps_len hds
      have h2 : ∀ ds : List PyData, ds.length ≤ wtAll ds := by
        intro ds
        induction ds with
        | nil => exact Nat.le_refl _
        | cons x t ih =>
          have : 1 ≤ wtD x := by cases x <;> simp [wtD]
          show t.length + 1 ≤ wtD x + wtAll t
          omega
      have := h2 ds
      omega
    have hshape : SeqAt.shaped (.list ds) = true := by
      show (PyData.canLayAll0 ds && decide (PyData.depthAll ds + 1 ≤ 64)) = true
      rw [lay_sndAll ds hsd, decide_eq_true (by omega)]
      rfl
    refine ⟨_, et_test (ev_neD (ed_of (ev_var rfl) (.lst (sq_of hl2) (dps_ex e2 hds))) (ed_lst (ds := []) eds_nil (by show 0 ≤ 100000; decide)) hshape rfl), fun hb => ?_, fun hb => ?_⟩
    · have hne : ds ≠ [] := fun z => by
        subst z
        simp [PyData.eqv, PyData.eqvAll] at hb
      obtain ⟨us', u, ds', d', rfl, rfl, h1, h2⟩ := dps_last hds hne
      rw [sndAll_app] at hsd
      obtain ⟨hs1, hs2⟩ := Bool.and_eq_true_iff.mp hsd
      have hs2 : (sndB d' && true) = true := hs2
      rw [Bool.and_true] at hs2
      rw [depthAll_app] at hdd
      have hdd2 : PyData.depthAll [d'] = max d'.depth 0 := rfl
      rw [wtAll_app] at hwn
      have hw2 : wtAll [d'] = wtD d' + 0 := rfl
      rw [List.length_append] at hlen
      refine g_asgPop hl2 (ev_var rfl) ?_
      intro H3 e3
      have e4 : Ex H (upd H3 l (.lst us')) := Ex.mut (e2.trans e3) nl
      have hl4 : (upd H3 l (.lst us')) l = some (.lst us') := upd_same
      generalize upd H3 l (.lst us') = H4 at *
      have wlen : ∀ ds : List PyData, ds.length ≤ wtAll ds := by
        intro ds
        induction ds with
        | nil => exact Nat.le_refl _
        | cons x t ih =>
          have : 1 ≤ wtD x := by cases x <;> simp [wtD]
          show t.length + 1 ≤ wtD x + wtAll t
          omega
      cases h2 with
      | bl b => cases hs2
      | str x => cases hs2
      | non =>
        refine g_if (b := false) (et_or (a := false) (b := false) (et_B (ty_ev (ev_var rfl) (fun _ _ => .base .non) (kit_ty (r := false) (by decide +kernel)))) fun _ => et_B (ty_ev (ev_var rfl) (fun _ _ => .base .non) (kit_ty (r := false) (by decide +kernel)))) (fun h => nomatch h) (fun _ => ?_)
        refine g_when (b := false) (et_or (a := false) (b := false) (et_B (ty_ev (ev_var rfl) (fun _ _ => .base .non) (kit_ty (r := false) (by decide +kernel)))) fun _ => et_is (et_and (a := false) (b := false) (et_is (et_test (ev_op (ev_var rfl) ev_c rv_nn)) rfl) fun h => nomatch h) rfl) (fun h => nomatch h) (fun _ => ?_)
        exact g_next fun H6 e6 => ⟨_, by have : wtD PyData.none = 1 := rfl; omega, e4.trans e6, us', ds', _, rfl, e6 _ _ hl4, h1, hs1, by omega, rfl, by omega⟩
      | int i =>
        refine g_if (b := false) (et_or (a := false) (b := false) (et_B (ty_ev (ev_var rfl) (fun _ _ => .base (.int i)) (kit_ty (r := false) (by decide +kernel)))) fun _ => et_B (ty_ev (ev_var rfl) (fun _ _ => .base (.int i)) (kit_ty (r := false) (by decide +kernel)))) (fun h => nomatch h) (fun _ => ?_)
        refine g_when (b := false) (et_or (a := false) (b := false) (et_B (ty_ev (ev_var rfl) (fun _ _ => .base (.int i)) (kit_ty (r := false) (by decide +kernel)))) fun _ => et_is (et_and (a := true) (b := false) (et_is (et_test (ev_op (ev_var rfl) ev_c rv_nn)) rfl) fun _ => et_is (et_and (a := false) (b := false) (et_not (a := true) (et_B (ty_ev (ev_var rfl) (fun _ _ => .base (.int i)) (kit_ty (r := true) (by decide +kernel))))) fun h => nomatch h) rfl) rfl) (fun h => nomatch h) (fun _ => ?_)
        exact g_next fun H6 e6 => ⟨_, by have : wtD (PyData.int i) = 1 := rfl; omega, e4.trans e6, us', ds', _, rfl, e6 _ _ hl4, h1, hs1, by omega, rfl, by omega⟩
      | @lst a xs es hsq hall =>
        have hxe := dps_len hall
        have hwe := wlen es
        have hw : wtD (PyData.list es) = 1 + wtAll es := rfl
        have hde : (PyData.list es).depth = PyData.depthAll es + 1 := rfl
        have hse : sndAll es = true := hs2
        refine g_if (b := true) (et_is (et_or (a := true) (b := true) (et_B (ty_ev (ev_var rfl) (fun _ e5 => tyL (ex_l (e4.trans e5) hsq)) (kit_ty (r := true) (by decide +kernel)))) fun h => nomatch h) rfl) (fun _ => ?_) (fun h => nomatch h)
        refine g_extend hl4 (ev_var rfl) (el_listOf2 (ev_var rfl) (.inl (ex_l e4 hsq))) (by omega) ?_
        intro H5 e5
        exact g_next fun H6 e6 => ⟨wtAll (ds' ++ es), by rw [wtAll_app]; omega, (Ex.mut (e4.trans e5) nl).trans e6, us' ++ xs, ds' ++ es, _, rfl, e6 _ _ upd_same, dps_app h1 hall, by rw [sndAll_app, hs1, hse]; rfl, by rw [depthAll_app]; omega, rfl, by rw [wtAll_app]; omega⟩
      | @tup a xs es hsq hall =>
        have hxe := dps_len hall
        have hwe := wlen es
        have hw : wtD (PyData.tuple es) = 1 + wtAll es := rfl
        have hde : (PyData.tuple es).depth = PyData.depthAll es + 1 := rfl
        have hse : sndAll es = true := hs2
        refine g_if (b := true) (et_is (et_or (a := false) (b := true) (et_B (ty_ev (ev_var rfl) (fun _ e5 => tyT (ex_t (e4.trans e5) hsq)) (kit_ty (r := false) (by decide +kernel)))) fun _ => et_B (ty_ev (ev_var rfl) (fun _ e5 => tyT (ex_t (e4.trans e5) hsq)) (kit_ty (r := true) (by decide +kernel)))) rfl) (fun _ => ?_) (fun h => nomatch h)
        refine g_extend hl4 (ev_var rfl) (el_listOf2 (ev_var rfl) (.inr (ex_t e4 hsq))) (by omega) ?_
        intro H5 e5
        exact g_next fun H6 e6 => ⟨wtAll (ds' ++ es), by rw [wtAll_app]; omega, (Ex.mut (e4.trans e5) nl).trans e6, us' ++ xs, ds' ++ es, _, rfl, e6 _ _ upd_same, dps_app h1 hall, by rw [sndAll_app, hs1, hse]; rfl, by rw [depthAll_app]; omega, rfl, by rw [wtAll_app]; omega⟩
    · have hne : ds = [] := by
        cases ds with
        | nil => rfl
        | cons x t => simp [PyData.eqv, PyData.eqvAll] at hb
      exact g_ret ev_c fun H3 e3 => k H3 (e2.trans e3)
open LamX
/-! ### a kept lambda, refused -/
def spRefK (P : Program) (w : World) (K : PySem.W.Frag) (mg : Str → Option Value) (base : Heap) (c : Cs) : Sp := fun vs H Q _ => ∃ (g : Addr) (j : Nat), vs = [.ref g, .int (j : Int)] ∧ j < 5 ∧ LamRz P w K mg base 6 H g (cN c j) ∧ ∀ H', Ex H H' → Q (.bl true) H'
theorem ok__law_refused {c : Cs} {CS : Addr} (hA : Blt mg) (M : ErrsG mg c CS) (B : ErrsIs K c CS) (F : Fun K "_law_refused" "_law_refused" s__law_refused f fd) : FnOk P w K mg base CX0 7 f fd ["_law_ask", "_law_due"] (spRefK P w K mg base c) := by
  refine F.ok sc__law_refused (fun vs H Q E h => ?_) (fun cdv A outer s H vs Q E hr h => ?_)
  · obtain ⟨g, j, rfl, _⟩ := h
    rfl
  · obtain ⟨g, j, rfl, hj, hl, k⟩ := h
    refine ⟨_, (pss_cons (ps_set (i := 2) sc__law_refused.nd rfl (Or.inl rfl) (pe_lst pa_nil))
      (pss_cons (ps_try_as (i := 3) (Wout := fun _ _ _ _ => False) rfl rfl sc__law_refused.nd rfl rfl ⟨rfl, by decide, .inl M.s⟩ L2.takes0 (fun W pn xe tk _ => pss_one (ps_expr (show PE _ _ (tCallRz P w K mg base 6 0 W) from pe_callRz (k := 6) (i := 0) tk (hr.mono (by omega)) rfl (.inl rfl))))
        (fun a oe cls dd pn hz hf => pss_cons (ps_set (i := 2) sc__law_refused.nd rfl (Or.inl rfl) (pe_lst (pa_cons (pe_callB (show CallR _ (.builtin "isinstance") (rIsE2 K cls dd a) from call_isE2 hz hf) rfl hA.z_isinstance (by decide +kernel) (pa_cons (pv 3) (pa_cons (pe_glob (v := .ref _) rfl M.e0 rfl) pa_nil))) (pa_cons (pe_callB (show CallR _ (.builtin "isinstance") (rIsE2 K cls dd a) from call_isE2 hz hf) rfl hA.z_isinstance (by decide +kernel) (pa_cons (pv 3) (pa_cons (pe_glob (v := .ref _) rfl M.e1 rfl) pa_nil))) (pa_cons (pe_callB (show CallR _ (.builtin "isinstance") (rIsE2 K cls dd a) from call_isE2 hz hf) rfl hA.z_isinstance (by decide +kernel) (pa_cons (pv 3) (pa_cons (pe_glob (v := .ref _) rfl M.e2 rfl) pa_nil))) pa_nil)))))
          (pss_cons (ps_set (i := 2) sc__law_refused.nd rfl (Or.inl rfl) (pe_op op_cat (pv 2) (pe_lst (pa_cons (pe_callB (show CallR _ (.builtin "isinstance") (rIsE2 K cls dd a) from call_isE2 hz hf) rfl hA.z_isinstance (by decide +kernel) (pa_cons (pv 3) (pa_cons (pe_glob (v := .ref _) rfl M.e3 rfl) pa_nil))) (pa_cons (pe_callB (show CallR _ (.builtin "isinstance") (rIsE2 K cls dd a) from call_isE2 hz hf) rfl hA.z_isinstance (by decide +kernel) (pa_cons (pv 3) (pa_cons (pe_glob (v := .ref _) rfl M.e4 rfl) pa_nil))) pa_nil))))) pss_nil)))
      (pss_cons (ps_ret (pe_cmpR (op_eqD hr.units) (pv 2) (pe_lc (own := [("_law_one", 4)]) (g := (gName 4)) rfl sc__law_refused.nd (pi_range1 rfl hA.z_range (pa_cons pe_int pa_nil)) (blkOk_by (own := [("_law_one", 4)]) (N := ["_law_ask", "_law_due", "_law_found", "error", "_law_one"]) (sc := defScope s__law_refused) (by decide +kernel)) (fun _ _ _ _ _ => (pg_name (i := 4) sc__law_refused.nd rfl (Or.inl rfl))) (fun _ _ _ _ _ => pts_nil) (fun _ _ _ _ _ => (pe_cmpR op_eq (pv 4) (pv 1) (nomark _)))) (nomark _))) pss_nil))), Go.at ?_⟩
    refine g_asgL (el_lst ea_nil (by show 0 ≤ 100000; decide)) ?_
    intro pf H1 nf e1 hf1
    refine g_seq ?_
    intro H2 e2
    refine ⟨g, cN c j, rfl, hl.exN (ExtN.of (e1.trans e2)), fun H3 e3 => ?_⟩
    refine ⟨true, B.up j hj, fun _ a na => Go.at ?_, fun z => nomatch z⟩
    refine g_asgL (xs := [.bl (decide (j = 0)), .bl (decide (j = 1)), .bl (decide (j = 2))]) (el_lst (ea_cons (ev_isE2 (B.ex j hj) (B.is j 0 hj (by decide)) (ev_var rfl)) (ea_cons (ev_isE2 (B.ex j hj) (B.is j 1 hj (by decide)) (ev_var rfl)) (ea_cons (ev_isE2 (B.ex j hj) (B.is j 2 hj (by decide)) (ev_var rfl)) ea_nil))) (by show 3 ≤ 100000; decide)) ?_
    intro p4 H4 n4 e4 h4
    refine g_asgL (xs := (hit5 j).map V.bl) (el_cat1N (xs := [.bl (decide (j = 0)), .bl (decide (j = 1)), .bl (decide (j = 2))]) (ys := [.bl (decide (j = 3)), .bl (decide (j = 4))]) (ev_var rfl) h4 (el_lst (ea_cons (ev_isE2 (B.ex j hj) (B.is j 3 hj (by decide)) (ev_var rfl)) (ea_cons (ev_isE2 (B.ex j hj) (B.is j 4 hj (by decide)) (ev_var rfl)) ea_nil)) (by show 2 ≤ 100000; decide)) (by show 5 ≤ 100000; decide)) ?_
    intro p5 H5 n5 e5 h5
    refine g_next fun H6 e6 => Go.at ?_
    obtain ⟨d1, d2, d3⟩ := hit5_data hj
    have lc := el_lcF (n := (5 : Int).toNat) (σ := [some (.ref g), some (.int (j : Int)), some (.ref p5), none, none]) (H := H6) (vs := [4]) (t := tYes) (te := tOp rEq (tVar 4) (tVar 1)) (fun _ => true) (fun k => V.bl (decide (V.int (k : Int) = V.int (j : Int)))) (ef_range (n := (5 : Int)) (j := 4) (ta := tCons (tC (.int 5)) tNil) (ea_cons ev_c ea_nil) (by omega) (by omega)) (by decide) (fun i hi => rfl) (fun H7 e7 i hi => et_yes) (fun H7 e7 i hi _ => ev_op (ev_var rfl) (ev_var rfl) (rv_eq rfl))
    rw [show given (5 : Int).toNat (fun _ => true) (fun k => V.bl (decide (V.int (k : Int) = V.int (j : Int)))) = (hit5 j).map V.bl from d3] at lc
    refine g_ret (v := .bl true) (ev_is (ev_eqD (ed_of (ev_var rfl) (.lst (sq_of (e6 _ _ h5)) (dp_bls _))) (ed_bls lc) d2 d2) (congrArg V.bl d1)) fun H7 e7 => k H7 ((((e1.trans e2).trans e3).trans (e4.trans (e5.trans e6))).trans e7)
/-! ### doors: a list of lambdas that captured its parameters -/
abbrev s__law_doors : Stmt := topS 40
theorem sc__law_doors : FnScope ["_law_places", "_law_step", "_law_marks", "_law_asks"] ["_law_places", "_law_step", "_law_marks"] (defScope s__law_doors) := ⟨rfl, rfl, rfl, by decide +kernel, rfl, by decide +kernel, by decide +kernel⟩
/-- a lambda's text: called with the captured values, it raises C -/
structure BodyRz (X : Cx) (σ : L2.St) (vs : List V) (C : Addr) (k : Nat) (params : Arguments) (body : Expr) (scope : Scope) : Prop where
  L : LamS X.env.scope scope
  hb : ∀ (pm : Value) (d : Addr) (ctv : Value), bindArgs (PySem.W.kla_fn "<lambda>" (X.env.qual ++ "<lambda>") params body scope (cloFrom X.env.cells scope.names []) pm (.ref d) ctv) ⟨[], []⟩ = pure []
  body : ∀ (f d : Addr) (A : Around) (outer : List Env) (s : Shared) (H : Hp) (E : XK), Room k (A.deeper (lamEnv X scope s.heap.objs.size f d)) → (∀ v ∈ vs, Kn X.K H v) → (∀ H', Ex H H' → E (.ref C) none H') → ∃ t, PE (lamCx X A outer s H E scope f d) body t ∧ ∀ Q, t σ H Q
def MadeRz (X : Cx) (σ : L2.St) (vs : List V) (C : Addr) (k : Nat) (H : Hp) (f : Addr) : Prop := ∃ (d : Addr) (params : Arguments) (body : Expr) (scope : Scope) (pm ctv : Value), H f = some (FunO f (lamOC (X.env.qual ++ "<lambda>") params body scope (cloFrom X.env.cells scope.names []) pm d ctv)) ∧ H d = some (CodeO d (X.env.qual ++ "<lambda>")) ∧ BodyRz X σ vs C k params body scope
def spDoors (P : Program) (w : World) (K : PySem.W.Frag) (mg : Str → Option Value) (base : Heap) (c : Cs) (T : List (Addr × Str)) : Sp := fun vs H Q _ => ∃ (p s m : V) (C : Addr), vs = [p, s, m] ∧ Kn K H p ∧ Kn K H s ∧ Kn K H m ∧ marksO c p s m = .err C ∧ Tabs T H ∧
  ∀ q fs H', ExtN H H' → Tabs T H' → H' q = some (.lst fs) → fs.length = 5 → (∀ x ∈ fs, ∃ g, x = .ref g ∧ LamRz P w K mg base 6 H' g C) → Q (.ref q) H'
/-- how far the list is -/
def DoorsAt (X : Cx) (σ : L2.St) (vs : List V) (C : Addr) (k : Nat) (T : List (Addr × Str)) (H0 : Hp) (n : Nat) (a0 a1 a2 : Option V) : L2.St → Hp → Prop := fun σ' H => ∃ (l : Addr) (fs : List V), σ' = [a0, a1, a2, some (.ref l)] ∧ (∀ o, H0 l = some o → ∃ ps, o = .tbl ps) ∧ ExtN H0 H ∧ Tabs T H ∧ H l = some (.lst fs) ∧ fs.length = n ∧ ∀ x ∈ fs, ∃ g, x = .ref g ∧ MadeRz X σ vs C k H g
section
variable {X : Cx} {σ σ' : L2.St} {vs : List V} {C : Addr} {k n : Nat} {T : List (Addr × Str)} {H0 H : Hp} {a0 a1 a2 : Option V} {q : Str} {params : Arguments} {body : Expr} {scope : Scope} {no : V → Hp → Prop} {nb : L2.St → Hp → Prop}
theorem MadeRz.keep {H' : Hp} {g : Addr} (h : MadeRz X σ vs C k H g) (e : ∀ b o, H b = some o → (∀ ps, o ≠ .tbl ps) → (∀ xs, o ≠ .lst xs) → H' b = some o) : MadeRz X σ vs C k H' g := by
  obtain ⟨d, params, body, scope, pm, ctv, h1, h2, h3⟩ := h
  exact ⟨d, params, body, scope, pm, ctv, e _ _ h1 funO_ne (fun xs z => by unfold FunO at z; cases z), e _ _ h2 codeO_ne (fun xs z => by unfold CodeO at z; cases z), h3⟩
theorem doors_first {D : Ends} (hD : D.nx = DoorsAt X σ vs C k T H0 1 a0 a1 a2) (hq : X.env.qual ++ "<lambda>" = q) (hT : Tabs T H0) (hb : BodyRz X σ vs C k params body scope) : tAsg (tLst (tCons (tLamC T q params body scope X.env.cells) tNil)) (gName 3) D [a0, a1, a2, none] H0 := by
  subst hq
  refine ⟨hT, fun f d pm ctv H1 e1 T1 hf hd => ⟨sz_of (by show 1 ≤ 100000; decide), fun p np => ?_⟩⟩
  have e2 : Ex H1 (upd H1 p (.lst [.ref f])) := Ex.new np
  show D.nx [a0, a1, a2, some (.ref p)] _
  rw [hD]
  refine ⟨p, [.ref f], rfl, ?_, e1.trans (ExtN.of e2), T1.ext e2, upd_same, rfl, fun x hx => ⟨f, List.mem_singleton.mp hx, d, params, body, scope, pm, ctv, e2 _ _ hf, e2 _ _ hd, hb⟩⟩
  intro o h
  exact Classical.byContradiction fun z => by
    have := e1 p o h fun ps e => z ⟨ps, e⟩
    rw [np] at this
    cases this
theorem doors_more {D : Ends} (hD : D.nx = DoorsAt X σ vs C k T H0 (n + 1) a0 a1 a2) (hn : n ≤ 1000) (hq : X.env.qual ++ "<lambda>" = q) (h : DoorsAt X σ vs C k T H0 n a0 a1 a2 σ' H) (hb : BodyRz X σ vs C k params body scope) : tDrop (tBM X.K "list" rAppend (tVar 3) (tCons (tLamC T q params body scope X.env.cells) tNil)) D σ' H := by
  subst hq
  obtain ⟨l, fs, rfl, h1, h2, h3, h4, h5, h6⟩ := h
  refine ⟨.ref l, rfl, .inl ⟨rfl, fs, sq_of h4⟩, h3, fun f d pm ctv H1 e1 T1 hf hd => ?_⟩
  have hl := extN_lst e1 h4
  refine ⟨l, fs, .ref f, rfl, rfl, hl, sz_lt (by omega), ?_⟩
  show D.nx [a0, a1, a2, some (.ref l)] _
  rw [hD]
  have keep : ∀ b o, H1 b = some o → (∀ ps, o ≠ .tbl ps) → (∀ xs, o ≠ .lst xs) → upd H1 l (.lst (fs ++ [.ref f])) b = some o := fun b o e _ n2 => by
    rw [upd_ne fun z => by rw [z, hl] at e; cases e; exact n2 _ rfl]
    exact e
  refine ⟨l, fs ++ [.ref f], rfl, h1, fun b o e n => ?_, fun pp hpp => ?_, upd_same, by rw [List.length_append, h5]; rfl, fun x hx => ?_⟩
  · rw [upd_ne fun z => by rw [z] at e; obtain ⟨ps, hp⟩ := h1 o e; exact n ps hp]
    exact e1 b o (h2 b o e n) n
  · obtain ⟨ps, b1, b2, b3⟩ := T1 pp hpp
    refine ⟨ps, ?_, b2, fun pos cv hc => ?_⟩
    · rw [upd_ne (fun z => by rw [z, hl] at b1; cases b1)]; exact b1
    · obtain ⟨c0, q1, q2⟩ := b3 pos cv hc
      exact ⟨c0, q1, by rw [upd_ne (fun z => by rw [z, hl] at q2; unfold CodeO at q2; cases q2)]; exact q2⟩
  · rcases List.mem_append.mp hx with hx | hx
    · obtain ⟨g, rfl, hg⟩ := h6 x hx
      exact ⟨g, rfl, (hg.keep fun b o e n1 n2 => e1 b o e n1).keep keep⟩
    · exact ⟨f, List.mem_singleton.mp hx, d, params, body, scope, pm, ctv, keep _ _ hf funO_ne (fun xs z => by unfold FunO at z; cases z), keep _ _ hd codeO_ne (fun xs z => by unfold CodeO at z; cases z), hb⟩
end

section
variable {c : Cs} {C : Addr} {p s m : V}
theorem ok__law_doors {cC PT : Addr} {TT : List (Addr × Str)} (hcode : fd.code = .ref cC) (TB : TabB base mg cC PT) (hM : (PT, lamQ "_law_doors") ∈ TT) (hU : ∀ p ∈ TT, p.1 = PT → p.2 = lamQ "_law_doors") (F : Fun K "_law_doors" "_law_doors" s__law_doors f fd)
    (X_gaps : FnOk P w K mg base (L2.CX P w) 4 f1 fd1 ["places", "step", "marks"] (spGaps K c)) (A_gaps : At K mg "gaps" s_gaps ["places", "step", "marks"] f1 fd1)
    (X_count : FnOk P w K mg base (L2.CX P w) 4 f2 fd2 ["places", "step", "marks", "begin", "end"] (spCount K c)) (A_count : At K mg "count" s_count ["places", "step", "marks", "begin", "end"] f2 fd2)
    (X_turn_of : FnOk P w K mg base (L2.CX P w) 4 f3 fd3 ["places", "step", "marks", "mark"] (spTurnOf K c)) (A_turn_of : At K mg "turn_of" s_turn_of ["places", "step", "marks", "mark"] f3 fd3)
    (X_mark_by : FnOk P w K mg base (L2.CX P w) 4 f4 fd4 ["places", "step", "marks", "turn"] (spMarkBy K c)) (A_mark_by : At K mg "mark_by" s_mark_by ["places", "step", "marks", "turn"] f4 fd4)
    (X_beside : FnOk P w K mg base (L2.CX P w) 5 f5 fd5 ["places", "step", "marks", "place"] (spBeside K c)) (A_beside : At K mg "beside" s_beside ["places", "step", "marks", "place"] f5 fd5) : FnOk P w K mg base CX0 2 f fd ["_law_places", "_law_step", "_law_marks"] (spDoors P w K mg base c TT) := by
  refine okR hcode F sc__law_doors (fun vs H Q E h => ?_) (fun A outer s0 H vs Q E hr h s1 I => ?_)
  · obtain ⟨p, s, m, C, rfl, _⟩ := h
    rfl
  · obtain ⟨p, s, m, C, rfl, kp, ks, km, he, hT, k⟩ := h
    have hz : ∀ {H : Hp}, Kn K H V.non := fun {H} => trivial
    have kk : ∀ {H : Hp}, (∀ v ∈ [p, s, m], Kn K H v) → Kn K H p ∧ Kn K H s ∧ Kn K H m := fun {H} h => ⟨h p (by simp), h s (by simp), h m (by simp)⟩
    let X : Cx := (cxOf CX0 P w K mg base ["_law_places", "_law_step", "_law_marks", "_law_asks"] "_law_doors" (defScope s__law_doors) f (.ref cC) A outer s0 H E).nox
    have names : ∀ y : Str, (defScope s__law_doors).names.lookup y = some .cell ∨ (defScope s__law_doors).names.lookup y = some .free → y = "_law_places" ∨ y = "_law_step" ∨ y = "_law_marks" := fun y hy => by
      have all : ((defScope s__law_doors).names.all fun z => (!decide (z.2 = .cell) && !decide (z.2 = .free)) || (decide (z.1 = "_law_places") || (decide (z.1 = "_law_step") || decide (z.1 = "_law_marks")))) = true := by decide +kernel
      have get : ∀ k, (k = NameKind.cell ∨ k = NameKind.free) → (y, k) ∈ (defScope s__law_doors).names → y = "_law_places" ∨ y = "_law_step" ∨ y = "_law_marks" := fun k hk hm => by
        have := List.all_eq_true.mp all _ hm
        rcases hk with rfl | rfl <;> simpa using this
      rcases hy with hy | hy
      · exact get _ (.inl rfl) (PySem.mem_of_lookup hy)
      · exact get _ (.inr rfl) (PySem.mem_of_lookup hy)
    refine run_cons (X := X) (ps_set (i := 3) sc__law_doors.nd rfl (Or.inl rfl) (pe_lst (pa_cons (pe_lamC (T := TT) (P := PT) (q := lamQ "_law_doors") TB rfl rfl hM hU rfl (lamS_by (sc := defScope s__law_doors) (by decide +kernel))) pa_nil))) I (doors_first (X := X) (σ := [some p, some s, some m, none]) (vs := [p, s, m]) (C := C) (k := 5) (a0 := some p) (a1 := some s) (a2 := some m) rfl rfl hT ⟨lamS_by (sc := defScope s__law_doors) (by decide +kernel), fun _ _ _ => rfl, fun g d A' outer' s' H' E' hr' hk hE => ⟨_, pe_call X_gaps (hr'.mono (by omega)) rfl A_gaps.g A_gaps.fn.kp A_gaps.b .nil (passes_call (takes_of rfl rfl rfl rfl) (fun _ _ _ _ h => h)) (pa_cons (pv 0) (pa_cons (pv 1) (pa_cons (pv 2) pa_nil))), fun Q' => rs_gaps (ea_cons (ev_var rfl) (ea_cons (ev_var rfl) (ea_cons (ev_var rfl) ea_nil))) (kk hk).1 (kk hk).2.1 (kk hk).2.2 he hE H' (Ex.refl _) Q'⟩⟩) fun σ1 H1 t1 I1 u1 => ?_
    refine run_cons (X := X) (ps_expr (pe_bm PySem.F.plainAttrs_list PySem.F.slot_list_append PySem.F.type_list_append mt_append (pv 3) (pa_cons (pe_lamC (T := TT) (P := PT) (q := lamQ "_law_doors") TB rfl rfl hM hU rfl (lamS_by (sc := defScope s__law_doors) (by decide +kernel))) pa_nil))) I1 (doors_more (X := X) (n := 1) rfl (by decide) rfl u1 ⟨lamS_by (sc := defScope s__law_doors) (by decide +kernel), fun _ _ _ => rfl, fun g d A' outer' s' H' E' hr' hk hE => ⟨_, pe_call X_count (hr'.mono (by omega)) rfl A_count.g A_count.fn.kp A_count.b .nil (passes_call (takes_of rfl rfl rfl rfl) (fun _ _ _ _ h => h)) (pa_cons (pv 0) (pa_cons (pv 1) (pa_cons (pv 2) (pa_cons pe_non (pa_cons pe_non pa_nil))))), fun Q' => rs_count (ea_cons (ev_var rfl) (ea_cons (ev_var rfl) (ea_cons (ev_var rfl) (ea_cons ev_c (ea_cons ev_c ea_nil))))) (kk hk).1 (kk hk).2.1 (kk hk).2.2 hz hz (countO_marks he) hE H' (Ex.refl _) Q'⟩⟩) fun σ2 H2 t2 I2 u2 => ?_
    refine run_cons (X := X) (ps_expr (pe_bm PySem.F.plainAttrs_list PySem.F.slot_list_append PySem.F.type_list_append mt_append (pv 3) (pa_cons (pe_lamC (T := TT) (P := PT) (q := lamQ "_law_doors") TB rfl rfl hM hU rfl (lamS_by (sc := defScope s__law_doors) (by decide +kernel))) pa_nil))) I2 (doors_more (X := X) (n := 2) rfl (by decide) rfl u2 ⟨lamS_by (sc := defScope s__law_doors) (by decide +kernel), fun _ _ _ => rfl, fun g d A' outer' s' H' E' hr' hk hE => ⟨_, pe_call X_turn_of (hr'.mono (by omega)) rfl A_turn_of.g A_turn_of.fn.kp A_turn_of.b .nil (passes_call (takes_of rfl rfl rfl rfl) (fun _ _ _ _ h => h)) (pa_cons (pv 0) (pa_cons (pv 1) (pa_cons (pv 2) (pa_cons pe_non pa_nil)))), fun Q' => rs_turn_of (ea_cons (ev_var rfl) (ea_cons (ev_var rfl) (ea_cons (ev_var rfl) (ea_cons ev_c ea_nil)))) (kk hk).1 (kk hk).2.1 (kk hk).2.2 hz (turnO_marks he) hE H' (Ex.refl _) Q'⟩⟩) fun σ3 H3 t3 I3 u3 => ?_
    refine run_cons (X := X) (ps_expr (pe_bm PySem.F.plainAttrs_list PySem.F.slot_list_append PySem.F.type_list_append mt_append (pv 3) (pa_cons (pe_lamC (T := TT) (P := PT) (q := lamQ "_law_doors") TB rfl rfl hM hU rfl (lamS_by (sc := defScope s__law_doors) (by decide +kernel))) pa_nil))) I3 (doors_more (X := X) (n := 3) rfl (by decide) rfl u3 ⟨lamS_by (sc := defScope s__law_doors) (by decide +kernel), fun _ _ _ => rfl, fun g d A' outer' s' H' E' hr' hk hE => ⟨_, pe_call X_mark_by (hr'.mono (by omega)) rfl A_mark_by.g A_mark_by.fn.kp A_mark_by.b .nil (passes_call (takes_of rfl rfl rfl rfl) (fun _ _ _ _ h => h)) (pa_cons (pv 0) (pa_cons (pv 1) (pa_cons (pv 2) (pa_cons pe_non pa_nil)))), fun Q' => rs_mark_by (ea_cons (ev_var rfl) (ea_cons (ev_var rfl) (ea_cons (ev_var rfl) (ea_cons ev_c ea_nil)))) (kk hk).1 (kk hk).2.1 (kk hk).2.2 hz (markByO_marks he) hE H' (Ex.refl _) Q'⟩⟩) fun σ4 H4 t4 I4 u4 => ?_
    refine run_cons (X := X) (ps_expr (pe_bm PySem.F.plainAttrs_list PySem.F.slot_list_append PySem.F.type_list_append mt_append (pv 3) (pa_cons (pe_lamC (T := TT) (P := PT) (q := lamQ "_law_doors") TB rfl rfl hM hU rfl (lamS_by (sc := defScope s__law_doors) (by decide +kernel))) pa_nil))) I4 (doors_more (X := X) (n := 4) rfl (by decide) rfl u4 ⟨lamS_by (sc := defScope s__law_doors) (by decide +kernel), fun _ _ _ => rfl, fun g d A' outer' s' H' E' hr' hk hE => ⟨_, pe_call X_beside (hr'.mono (by omega)) rfl A_beside.g A_beside.fn.kp A_beside.b .nil (passes_call (takes_of rfl rfl rfl rfl) (fun _ _ _ _ h => h)) (pa_cons (pv 0) (pa_cons (pv 1) (pa_cons (pv 2) (pa_cons pe_non pa_nil)))), fun Q' => rs_beside (ea_cons (ev_var rfl) (ea_cons (ev_var rfl) (ea_cons (ev_var rfl) (ea_cons ev_c ea_nil)))) (kk hk).1 (kk hk).2.1 (kk hk).2.2 hz (besideO_marks he) hE H' (Ex.refl _) Q'⟩⟩) fun σ5 H5 t5 I5 u5 => ?_
    obtain ⟨l, fs, rfl, l1, l2, l3, l4, l5, l6⟩ := u5
    refine run_ret (X := X) (te := tVar 3) (Q := fun v H' => v = .ref l ∧ H' = H5) (pv 3) I5 ⟨.ref l, rfl, rfl, rfl⟩ fun v H' s' u I6 rv hq => ?_
    obtain ⟨rfl, rfl⟩ := hq
    obtain ⟨c0, o0, u0, a1, a2, a3, a4⟩ := cell_of I6 (i := 0) (y := "_law_places") (v := p) rfl rfl rfl
    obtain ⟨c1, o1, u1, b1, b2, b3, b4⟩ := cell_of I6 (i := 1) (y := "_law_step") (v := s) rfl rfl rfl
    obtain ⟨c2, o2, u2, d1, d2, d3, d4⟩ := cell_of I6 (i := 2) (y := "_law_marks") (v := m) rfl rfl rfl
    have hcs : ∀ q ∈ [(c0, o0), (c1, o1), (c2, o2)], s'.heap.get? q.1 = some q.2 ∧ H' q.1 = none ∧ s0.heap.objs.size ≤ q.1 := fun q hq => by
      simp only [List.mem_cons, List.not_mem_nil, or_false] at hq
      rcases hq with rfl | rfl | rfl
      · exact ⟨a2, I6.freeC _ _ a1, I6.ok.cab _ _ rfl a1⟩
      · exact ⟨b2, I6.freeC _ _ b1, I6.ok.cab _ _ rfl b1⟩
      · exact ⟨d2, I6.freeC _ _ d1, I6.ok.cab _ _ rfl d1⟩
    refine ⟨u, rfl, ce_track (cs := [(c0, o0), (c1, o1), (c2, o2)]) I6.os I6.bare I6.base I6.hok rv (fun q hq => (hcs q hq).1) (fun q hq => (hcs q hq).2.1) (fun q hq => (hcs q hq).2.2) ?_⟩
    have eT : Ex H' (track H' [(c0, o0), (c1, o1), (c2, o2)]) := ex_track fun q hq => (hcs q hq).2.1
    refine k l fs _ (l2.trans (ExtN.of eT)) (l3.ext eT) (eT _ _ l4) l5 fun x hx => ?_
    obtain ⟨g, rfl, d, params, body, scope, pm, ctv, g1, g2, g3⟩ := l6 x hx
    have kv : ∀ v ∈ [p, s, m], Kn K (track H' [(c0, o0), (c1, o1), (c2, o2)]) v := fun v hv => by
      simp only [List.mem_cons, List.not_mem_nil, or_false] at hv
      rcases hv with rfl | rfl | rfl
      · exact kn_exN kp (l2.trans (ExtN.of eT))
      · exact kn_exN ks (l2.trans (ExtN.of eT))
      · exact kn_exN km (l2.trans (ExtN.of eT))
    refine ⟨g, rfl, d, _, params, body, scope, _, pm, ctv, [(c0, o0), (c1, o1), (c2, o2)], [p, s, m], eT _ _ g1, eT _ _ g2, track_cells fun q hq => (hcs q hq).1, kv, ?_⟩
    refine lamRz_of (X := X) (σ := [some p, some s, some m, none]) I6.ok g3.L rfl (fun y cc hy hm => ?_) (fun i y v h1 h2 h3 => ?_) (g3.hb pm d ctv) fun A' outer' s' H' E' hr' hk hE => g3.body g d A' outer' s' H' E' hr' hk hE
    · rcases names y (g3.L.free _ hm rfl) with rfl | rfl | rfl
      · rw [show X.env.cells.lookup ("_law_places" : Str) = some c0 from a1] at hy
        cases hy
        exact ⟨o0, _, by simp, a3⟩
      · rw [show X.env.cells.lookup ("_law_step" : Str) = some c1 from b1] at hy
        cases hy
        exact ⟨o1, _, by simp, b3⟩
      · rw [show X.env.cells.lookup ("_law_marks" : Str) = some c2 from d1] at hy
        cases hy
        exact ⟨o2, _, by simp, d3⟩
    · match i, h1, h2 with
      | 0, h1, h2 => cases h1; cases h2; exact ⟨c0, o0, u0, a1, by simp, a3, a4⟩
      | 1, h1, h2 => cases h1; cases h2; exact ⟨c1, o1, u1, b1, by simp, b3, b4⟩
      | 2, h1, h2 => cases h1; cases h2; exact ⟨c2, o2, u2, d1, by simp, d3, d4⟩
      | 3, h1, h2 => cases h2
      | i + 4, h1, h2 => cases h2
end
open LamX
theorem evnt_doors {c : Cs} {j i : Nat} {T : List (Addr × Str)} {σ : L2.St} {H : Hp} {ta : TA} {E E2 : XK} {p s m : V} (hj : j < 5) (h : ∀ H1, ExtN H H1 → EvA ta σ H1 [p, s, m]) (kp : Kn K H p) (ks : Kn K H s) (km : Kn K H m) (he : marksO c p s m = .err (cN c j)) (hi : i < σ.length) :
    EvNt T (tCB (rAll K) (tCons (tLc (iList K (tCall (spDoors P w K mg base c T) [] E ta)) (gName i) tYes (tCall (spRefK P w K mg base c) [] E2 (tCons (tVar i) (tCons (tC (.int (j : Int))) tNil))) [i]) tNil)) σ H (.bl true) := fun H1 e1 T1 Q q => by
  refine h H1 e1 H1 (Ex.refl _) _ fun H2 e2 => ?_
  refine ⟨p, s, m, cN c j, rfl, kn_exN kp (e1.trans (ExtN.of e2)), kn_exN ks (e1.trans (ExtN.of e2)), kn_exN km (e1.trans (ExtN.of e2)), he, T1.ext e2, fun l fs H3 e3 T3 hq hl hF => ⟨l, rfl, ⟨fs, sq_of hq⟩, fun Dl hD => ?_⟩⟩
  refine lc_it (G := fun H => SqL K H l fs) walk_list (Cw H3 (fun _ => true) (fun _ => V.bl true) Dl) ⟨hD, Ex.new hD, upd_same⟩ (fun _ _ _ cw => sq_of (cw.2.1 _ _ hq)) (fun n x H4 H5 hn cw y => ?_) (fun H' cw => ?_)
  · obtain ⟨rfl, y2⟩ := y
    obtain ⟨g, rfl, hg⟩ := hF x (List.mem_of_getElem? y2)
    have hi2 : i < (wipe σ [i]).length := by rw [wipe_length]; exact hi
    refine ⟨by rw [wipe_set (by simp), wipe_wipe fun _ h => h], ?_⟩
    refine cw_turn (te := tCall (spRefK P w K mg base c) [] E2 (tCons (tVar i) (tCons (tC (.int (j : Int))) tNil))) (t := tYes) (f := fun _ => true) (v := fun _ => V.bl true) (H := H3) (Dl := Dl) (i := n) cw (by omega) et_yes fun _ => ?_
    exact ev_call1 (vs := [.ref g, .int (j : Int)]) (ea_cons (ev_var (List.getElem?_set_self hi2)) (ea_cons ev_c ea_nil)) fun H6 e6 Q6 q6 E6 => ⟨g, j, rfl, hj, hg.exN (ExtN.of e6), q6⟩
  · have e9 : H' Dl = some (.lst ((List.replicate fs.length true).map V.bl)) := by
      rw [cw.2.2]
      show some (HO.lst (((List.range fs.length).filter fun _ => true).map fun _ => V.bl true)) = _
      rw [List.filter_eq_self.mpr (fun _ _ => rfl), List.map_const', List.length_range, List.map_replicate]
    refine ⟨Dl, List.replicate fs.length true, rfl, sq_of e9, ?_⟩
    rw [show (List.replicate fs.length true).all id = true by simp]
    exact q H' ((ExtN.of e2).trans (e3.trans (ExtN.of cw.2.1))) (T3.ext cw.2.1)
section
variable {σ : L2.St} {H : Hp} {ta : TA} {c : Cs} {C CF CN : Addr} {p s b y v : V}
theorem raises_firstR (h : EvA ta σ H [p, s, b, y]) (k1 : Kn K H p) (k2 : Kn K H s) (k3 : Kn K H b) (k4 : Kn K H y) (e : ringO c p s = .err C) : Raises C (fun E H' Q' => tCall (spFirst K c CF CN) [] E ta σ H' Q') H :=
  raises_call h fun H1 x Q E q => ⟨p, s, b, y, rfl, k1.ex x, k2.ex x, k3.ex x, k4.ex x, fun C' hC H' e' => by rw [e] at hC; cases hC; exact q H' e', fun v hv => by rw [e] at hv; cases hv⟩
/-- of none: no number that is let anywhere -/
def bN (K : PySem.W.Frag) : V → Hp → Prop := fun v H => Kn K H v ∧ okP v = false ∧ ∀ l m : Int, 0 ≤ l → okIn v l m = false
def bP (K : PySem.W.Frag) : V → Hp → Prop := fun v H => Kn K H v ∧ okP v = false
def bI (K : PySem.W.Frag) (l m : Int) : V → Hp → Prop := fun v H => Kn K H v ∧ okIn v l m = false
theorem bN_up : ∀ x H H', ExtN H H' → bN K x H → bN K x H' := fun x H H' e h => ⟨kn_exN h.1 e, h.2⟩
theorem bP_up : ∀ x H H', ExtN H H' → bP K x H → bP K x H' := fun x H H' e h => ⟨kn_exN h.1 e, h.2⟩
theorem bI_up {l m : Int} : ∀ x H H', ExtN H H' → bI K l m x H → bI K l m x H' := fun x H H' e h => ⟨kn_exN h.1 e, h.2⟩
theorem okI_no {i l m : Int} (h : i < l ∨ m < i) : okIn (.int i) l m = false := by
  cases q : okIn (.int i) l m with
  | false => rfl
  | true =>
    obtain ⟨j, e, h1, h2⟩ := okIn_iff.mp q
    cases e
    omega
theorem okP_no {i : Int} (h : i < 1) : okP (.int i) = false := by
  cases q : okP (.int i) with
  | false => rfl
  | true =>
    obtain ⟨j, e, h1⟩ := okP_iff.mp q
    cases e
    omega
theorem ringO_P (h : okP v = false) : ringO c v s = .err c.cp := by unfold ringO; rw [h]; rfl
theorem ringO_S (h : okIn v 0 11 = false) : ringO c (.int 12) v = .err c.cs := by
  unfold ringO
  rw [if_pos (by rfl), show okIn v 0 (iv (.int 12) - 1) = okIn v 0 11 from rfl, h]
  rfl
theorem marksO_M {st hi : Int} (R : Ring 12 st) (ht : top 12 st = hi) (h : okIn v 1 hi = false) : marksO c (.int 12) (.int st) v = .err c.cm := by
  unfold marksO
  rw [ringO_ok R]
  show (if okIn v 1 (top 12 st) then Out.val .non else .err c.cm) = _
  rw [ht, h]
  rfl
theorem R125 : Ring 12 5 := ⟨by decide, by decide, by decide⟩
theorem m1253 : marksO c (.int 12) (.int 5) (.int 3) = .val .non := marksO_ok R125 (by decide) (by decide +kernel)
theorem countO_S (h : stretchO c (.int 12) b y = .err c.cl) : countO c (.int 12) (.int 5) (.int 3) b y = .err c.cl := by unfold countO; rw [m1253, h]
theorem stretchO_e (h : okIn v 0 11 = false) : stretchO c (.int 12) b v = .err c.cl := by
  unfold stretchO
  rw [show okIn v 0 (iv (.int 12) - 1) = okIn v 0 11 from rfl, h, Bool.and_false]
  rfl
theorem besideO_S (h : okIn v 0 11 = false) : besideO c (.int 12) (.int 5) (.int 3) v = .err c.cl := by
  unfold besideO
  rw [m1253]
  show placeO c v (.int 12) = _
  unfold placeO
  rw [show okIn v 0 (iv (.int 12) - 1) = okIn v 0 11 from rfl, h]
  rfl
theorem markO_K (h : okIn v 0 2 = false) : markO c v (.int 3) = .err c.ck := by
  unfold markO
  rw [show okIn v 0 (iv (.int 3) - 1) = okIn v 0 2 from rfl, h]
  rfl
theorem turnO_K (h : okIn v 0 2 = false) : turnO c (.int 12) (.int 5) (.int 3) v = .err c.ck := by unfold turnO; rw [m1253, markO_K h]
theorem markByO_K (h : okIn v 0 2 = false) : markByO c (.int 12) (.int 5) (.int 3) v = .err c.ck := by unfold markByO; rw [m1253, markO_K h]
/-- the list of none -/
def NoneAt (K : PySem.W.Frag) (H : Hp) (l : Addr) : Prop := ∃ us, H l = some (.lst us) ∧ us.length = 7 ∧ ∀ x ∈ us, bN K x H
theorem NoneAt.exN {H' : Hp} {l : Addr} (h : NoneAt K H l) (e : ExtN H H') : NoneAt K H' l := by
  obtain ⟨us, h1, h2, h3⟩ := h
  exact ⟨us, extN_lst e h1, h2, fun x hx => bN_up _ _ _ e (h3 x hx)⟩
theorem evB_none {B : V → Hp → Prop} {l : Addr} {m : Nat} {te : TE} {tr : TA} (up : ∀ x H H', ExtN H H' → B x H → B x H') (hN : NoneAt K H l) (hB : ∀ x H', bN K x H' → B x H') (ha : Ev te σ H (.ref l)) (h : EvBs B m tr σ H) (hm : m ≤ 100) : EvB B (7 + m) (tOp rCat te (tLst tr)) σ H := by
  obtain ⟨us, h1, h2, h3⟩ := hN
  exact evB_cat up ha h1 h2 (fun v hv => hB v H (h3 v hv)) h (by omega)
end
/-- a step of twelve: its marks, its gaps -/
structure Twelve (st hi : Int) (L : List (Int × Int)) : Prop where
  R : Ring 12 st
  t : top 12 st = hi
  h1 : 1 ≤ hi
  h2 : hi ≤ 12
  g : gapsOf 12 st hi = L
  l : L.length ≤ 3
  b : ∀ x ∈ L, x.1.natAbs ≤ 100 ∧ x.2.natAbs ≤ 100
  s : (L.map fun x => x.1 * x.2).sum = 12
theorem twelve_c {st hi : Int} {L : List (Int × Int)} (h : decide ((1 ≤ (12 : Int) ∧ 0 ≤ st ∧ st < 12) ∧ top 12 st = hi ∧ 1 ≤ hi ∧ hi ≤ 12 ∧ L.length ≤ 3 ∧ (∀ x ∈ L, x.1.natAbs ≤ 100 ∧ x.2.natAbs ≤ 100) ∧ (L.map fun x => x.1 * x.2).sum = 12) = true) (g : GapOk (12, st, hi, L)) : Twelve st hi L := by
  obtain ⟨⟨h1, h2, h3⟩, h4, h5, h6, h7, h8, h9⟩ := of_decide_eq_true h
  exact ⟨⟨h1, h2, h3⟩, h4, h5, h6, g.g, h7, h8, h9⟩
def pRow (x : V × V) : List Pr := [prV x.1, prV x.2]
structure PairBad (K : PySem.W.Frag) (c : Cs) (x : V × V) : Prop where
  k1 : ∀ H, Kn K H x.1
  k2 : ∀ H, Kn K H x.2
  e : stretchO c (.int 12) x.1 x.2 = .err c.cl
theorem pair_c {c : Cs} {b y : V} (h1 : smallV b = true) (h2 : smallV y = true) (h3 : stretchO c (.int 12) b y = .err c.cl) : PairBad K c (b, y) := ⟨fun _ => kn_small h1, fun _ => kn_small h2, h3⟩
abbrev s__law_bad_right : Stmt := topS 41
theorem sc__law_bad_right : FnScope ["_law_more", "_law_none", "_law_great", "_law_bad", "_law_step", "_law_highest", "_law_pairs", "_law_begin", "_law_end", "_law_ask", "_law_size", "_law_many"] ["_law_more"] (defScope s__law_bad_right) := ⟨rfl, rfl, rfl, by decide +kernel, rfl, by decide +kernel, by decide +kernel⟩
def spBadR (T : List (Addr × Str)) : Sp := fun vs H Q _ => ∃ n : Int, vs = [.int n] ∧ 0 ≤ n ∧ n ≤ 1000000000 ∧ Tabs T H ∧ ∀ H', ExtN H H' → Tabs T H' → Q (.bl true) H'
theorem ok__law_bad_right {c : Cs} {cC PT CS CF CN : Addr} {TT : List (Addr × Str)} (hcode : fd.code = .ref cC) (TB : TabB base mg cC PT) (hM : (PT, lamQ "_law_bad_right") ∈ TT) (hU : ∀ p ∈ TT, p.1 = PT → p.2 = lamQ "_law_bad_right") (hA : Blt mg) (MG : ErrsG mg c CS) (BG : ErrsIs K c CS) (F : Fun K "_law_bad_right" "_law_bad_right" s__law_bad_right f fd)
    {gR : Addr} {fdR : FuncData} (G__law_refused : FnOk P w K mg base CX0 7 gR fdR ["_law_ask", "_law_due"] (spRefK P w K mg base c)) (A__law_refused : At K mg "_law_refused" s__law_refused ["_law_ask", "_law_due"] gR fdR)
    {gD : Addr} {fdD : FuncData} (G__law_doors : FnOk P w K mg base CX0 2 gD fdD ["_law_places", "_law_step", "_law_marks"] (spDoors P w K mg base c TT)) (A__law_doors : At K mg "_law_doors" s__law_doors ["_law_places", "_law_step", "_law_marks"] gD fdD)
    (G_gaps : FnOk P w K mg base CX0 4 f1 fd1 ["places", "step", "marks"] (spGapsQ K c)) (A_gaps : At K mg "gaps" s_gaps ["places", "step", "marks"] f1 fd1)
    (X_most : FnOk P w K mg base (L2.CX P w) 3 f2 fd2 ["places", "step"] (spMost K c)) (G_most : FnOk P w K mg base CX0 3 f2 fd2 ["places", "step"] (spMostQ K c)) (A_most : At K mg "most" s_most ["places", "step"] f2 fd2)
    (X_count : FnOk P w K mg base (L2.CX P w) 4 f3 fd3 ["places", "step", "marks", "begin", "end"] (spCount K c)) (G_count : FnOk P w K mg base CX0 4 f3 fd3 ["places", "step", "marks", "begin", "end"] (fun vs H Q _ => spCount K c vs H Q E0)) (A_count : At K mg "count" s_count ["places", "step", "marks", "begin", "end"] f3 fd3)
    (X_first : FnOk P w K mg base (L2.CX P w) 3 f4 fd4 ["places", "step", "begin", "end"] (spFirst K c CF CN)) (A_first : At K mg "first" s_first ["places", "step", "begin", "end"] f4 fd4)
    (X_beside : FnOk P w K mg base (L2.CX P w) 5 f5 fd5 ["places", "step", "marks", "place"] (spBeside K c)) (G_beside : FnOk P w K mg base CX0 5 f5 fd5 ["places", "step", "marks", "place"] (spBesideQ K c)) (A_beside : At K mg "beside" s_beside ["places", "step", "marks", "place"] f5 fd5)
    (X_turn_of : FnOk P w K mg base (L2.CX P w) 4 f6 fd6 ["places", "step", "marks", "mark"] (spTurnOf K c)) (A_turn_of : At K mg "turn_of" s_turn_of ["places", "step", "marks", "mark"] f6 fd6)
    {f7 : Addr} {fd7 : FuncData} (X_mark_by : FnOk P w K mg base (L2.CX P w) 4 f7 fd7 ["places", "step", "marks", "turn"] (spMarkBy K c)) (A_mark_by : At K mg "mark_by" s_mark_by ["places", "step", "marks", "turn"] f7 fd7) :
    FnOk P w K mg base CX0 9 f fd ["_law_more"] (spBadR TT) := by
  obtain ⟨ocR, odR, kVR, docR, pmR, anR, cdR, ctR, slR, efd, lkR, hcR⟩ := A__law_refused.fn.ex
  subst efd
  refine okC hcode F sc__law_bad_right (fun vs H Q E h => ?_) (fun A outer s H vs Q E hr h => ?_)
  · obtain ⟨n, rfl, _⟩ := h
    rfl
  · obtain ⟨n, rfl, n0, n1, hT, k⟩ := h
    refine ⟨_, (pss_cons (ps_par (i := 1) (j := 2) (by rfl) sc__law_bad_right.nd rfl rfl (by decide) rfl rfl (pa_cons (pe_lst (pa_cons pe_non (pa_cons pe_str (pa_cons pe_bl (pa_cons pe_bl (pa_cons (pe_lst (pa_cons pe_int pa_nil)) (pa_cons (pe_tup (pa_cons pe_int pa_nil)) (pa_cons (pe_un un_neg pe_int) pa_nil)))))))) (pa_cons (pe_op op_pow pe_int pe_int) pa_nil)) (by rfl))
      (pss_cons (ps_for PassesOwn.never rfl (pi_list (pe_op op_cat (pv 1) (pe_lst (pa_cons pe_int (pa_cons (pe_un un_neg (pv 2)) pa_nil))))) (pg_name (i := 3) sc__law_bad_right.nd rfl (Or.inr rfl)) (pss_cons (ps_if (pt_not (pt_val (pe_callB (cr_all rfl) rfl hA.z_all (by decide +kernel) (pa_cons (pe_lc (own := [("_law_ask", 9)]) (g := (gName 9)) rfl sc__law_bad_right.nd (pi_list (pe_call G__law_doors (hr.mono (by omega)) rfl A__law_doors.g A__law_doors.fn.kp A__law_doors.b .nil pass0 (pa_cons (pv 3) (pa_cons pe_non (pa_cons pe_non pa_nil))))) (blkOk_by (own := [("_law_ask", 9)]) (N := ["_law_more", "_law_none", "_law_great", "_law_bad", "_law_step", "_law_highest", "_law_pairs", "_law_begin", "_law_end", "_law_ask", "_law_size", "_law_many"]) (sc := defScope s__law_bad_right) (by decide +kernel)) (fun _ _ _ _ _ => (pg_name (i := 9) sc__law_bad_right.nd rfl (Or.inl rfl))) (fun _ _ _ _ _ => pts_nil) (fun _ _ _ _ _ => (pe_call G__law_refused (hr.mono (by omega)) rfl A__law_refused.g A__law_refused.fn.kp A__law_refused.b .nil pass0 (pa_cons (pv 9) (pa_cons pe_int pa_nil))))) pa_nil)))) (pss_cons (ps_ret pe_bl)
      pss_nil) pss_nil)
      (pss_cons (ps_if (pt_not (pt_val (pe_lam2 (T := TT) (TT := TRef c) (a := "_law_ask") (b := "_law_due") (k := 6) rfl A__law_refused.g A__law_refused.fn.kp lkR hcR A__law_refused.b sc__law_refused rfl (Or.inl rfl) (ref_gives (hr.mono (by omega)) hA MG BG) TB rfl hM hU (hr.mono (by omega)) (lamS_by (sc := defScope s__law_bad_right) (by decide +kernel)) rfl (fun _ _ _ _ _ => rfl) (fun A outer s H E f d hr => (pe_call X_most (hr.mono (by omega)) rfl A_most.g A_most.fn.kp A_most.b .nil (passes_call (takes_of rfl rfl rfl rfl) (fun _ _ _ _ h => h)) (pa_cons (pv 3) (pa_cons pe_non pa_nil))))))) (pss_cons (ps_ret pe_bl)
      pss_nil) pss_nil)
      (pss_cons (ps_if (pt_not (pt_val (pe_lam2 (T := TT) (TT := TRef c) (a := "_law_ask") (b := "_law_due") (k := 6) rfl A__law_refused.g A__law_refused.fn.kp lkR hcR A__law_refused.b sc__law_refused rfl (Or.inl rfl) (ref_gives (hr.mono (by omega)) hA MG BG) TB rfl hM hU (hr.mono (by omega)) (lamS_by (sc := defScope s__law_bad_right) (by decide +kernel)) rfl (fun _ _ _ _ _ => rfl) (fun A outer s H E f d hr => (pe_call X_first (hr.mono (by omega)) rfl A_first.g A_first.fn.kp A_first.b .nil (passes_call (takes_of rfl rfl rfl rfl) (fun _ _ _ _ h => h)) (pa_cons (pv 3) (pa_cons pe_non (pa_cons pe_non (pa_cons pe_non pa_nil))))))))) (pss_cons (ps_ret pe_bl)
      pss_nil) pss_nil)
      pss_nil))))
      (pss_cons (ps_for PassesOwn.never rfl (pi_list (pe_op op_cat (pv 1) (pe_lst (pa_cons pe_int (pa_cons (pe_op op_add pe_int (pv 0)) (pa_cons (pv 2) pa_nil)))))) (pg_name (i := 3) sc__law_bad_right.nd rfl (Or.inr rfl)) (pss_cons (ps_if (pt_not (pt_val (pe_callB (cr_all rfl) rfl hA.z_all (by decide +kernel) (pa_cons (pe_lc (own := [("_law_ask", 9)]) (g := (gName 9)) rfl sc__law_bad_right.nd (pi_list (pe_call G__law_doors (hr.mono (by omega)) rfl A__law_doors.g A__law_doors.fn.kp A__law_doors.b .nil pass0 (pa_cons pe_int (pa_cons (pv 3) (pa_cons pe_non pa_nil))))) (blkOk_by (own := [("_law_ask", 9)]) (N := ["_law_more", "_law_none", "_law_great", "_law_bad", "_law_step", "_law_highest", "_law_pairs", "_law_begin", "_law_end", "_law_ask", "_law_size", "_law_many"]) (sc := defScope s__law_bad_right) (by decide +kernel)) (fun _ _ _ _ _ => (pg_name (i := 9) sc__law_bad_right.nd rfl (Or.inl rfl))) (fun _ _ _ _ _ => pts_nil) (fun _ _ _ _ _ => (pe_call G__law_refused (hr.mono (by omega)) rfl A__law_refused.g A__law_refused.fn.kp A__law_refused.b .nil pass0 (pa_cons (pv 9) (pa_cons pe_int pa_nil))))) pa_nil)))) (pss_cons (ps_ret pe_bl)
      pss_nil) pss_nil)
      (pss_cons (ps_if (pt_not (pt_val (pe_lam2 (T := TT) (TT := TRef c) (a := "_law_ask") (b := "_law_due") (k := 6) rfl A__law_refused.g A__law_refused.fn.kp lkR hcR A__law_refused.b sc__law_refused rfl (Or.inl rfl) (ref_gives (hr.mono (by omega)) hA MG BG) TB rfl hM hU (hr.mono (by omega)) (lamS_by (sc := defScope s__law_bad_right) (by decide +kernel)) rfl (fun _ _ _ _ _ => rfl) (fun A outer s H E f d hr => (pe_call X_most (hr.mono (by omega)) rfl A_most.g A_most.fn.kp A_most.b .nil (passes_call (takes_of rfl rfl rfl rfl) (fun _ _ _ _ h => h)) (pa_cons pe_int (pa_cons (pv 3) pa_nil))))))) (pss_cons (ps_ret pe_bl)
      pss_nil) pss_nil)
      (pss_cons (ps_if (pt_not (pt_val (pe_lam2 (T := TT) (TT := TRef c) (a := "_law_ask") (b := "_law_due") (k := 6) rfl A__law_refused.g A__law_refused.fn.kp lkR hcR A__law_refused.b sc__law_refused rfl (Or.inl rfl) (ref_gives (hr.mono (by omega)) hA MG BG) TB rfl hM hU (hr.mono (by omega)) (lamS_by (sc := defScope s__law_bad_right) (by decide +kernel)) rfl (fun _ _ _ _ _ => rfl) (fun A outer s H E f d hr => (pe_call X_first (hr.mono (by omega)) rfl A_first.g A_first.fn.kp A_first.b .nil (passes_call (takes_of rfl rfl rfl rfl) (fun _ _ _ _ h => h)) (pa_cons pe_int (pa_cons (pv 3) (pa_cons pe_non (pa_cons pe_non pa_nil))))))))) (pss_cons (ps_ret pe_bl)
      pss_nil) pss_nil)
      pss_nil))))
      (pss_cons (ps_for PassesOwn.never rfl (pi_tup (pe_tup (pa_cons (pe_tup (pa_cons pe_int (pa_cons pe_int pa_nil))) (pa_cons (pe_tup (pa_cons pe_int (pa_cons pe_int pa_nil))) (pa_cons (pe_tup (pa_cons pe_int (pa_cons pe_int pa_nil))) (pa_cons (pe_tup (pa_cons pe_int (pa_cons pe_int pa_nil))) (pa_cons (pe_tup (pa_cons pe_int (pa_cons pe_int pa_nil))) pa_nil))))))) (pg_tup rfl (pgs_cons (pg_name (i := 4) sc__law_bad_right.nd rfl (Or.inl rfl)) (pgs_cons (pg_name (i := 5) sc__law_bad_right.nd rfl (Or.inl rfl)) pgs_nil))) (pss_cons (ps_for PassesOwn.never rfl (pi_list (pe_op op_cat (pv 1) (pe_lst (pa_cons pe_int (pa_cons (pe_op op_add (pv 5) pe_int) (pa_cons (pe_op op_add (pe_op op_add (pv 5) pe_int) (pv 0)) (pa_cons (pv 2) pa_nil))))))) (pg_name (i := 3) sc__law_bad_right.nd rfl (Or.inr rfl)) (pss_cons (ps_if (pt_not (pt_val (pe_callB (cr_all rfl) rfl hA.z_all (by decide +kernel) (pa_cons (pe_lc (own := [("_law_ask", 9)]) (g := (gName 9)) rfl sc__law_bad_right.nd (pi_list (pe_call G__law_doors (hr.mono (by omega)) rfl A__law_doors.g A__law_doors.fn.kp A__law_doors.b .nil pass0 (pa_cons pe_int (pa_cons (pv 4) (pa_cons (pv 3) pa_nil))))) (blkOk_by (own := [("_law_ask", 9)]) (N := ["_law_more", "_law_none", "_law_great", "_law_bad", "_law_step", "_law_highest", "_law_pairs", "_law_begin", "_law_end", "_law_ask", "_law_size", "_law_many"]) (sc := defScope s__law_bad_right) (by decide +kernel)) (fun _ _ _ _ _ => (pg_name (i := 9) sc__law_bad_right.nd rfl (Or.inl rfl))) (fun _ _ _ _ _ => pts_nil) (fun _ _ _ _ _ => (pe_call G__law_refused (hr.mono (by omega)) rfl A__law_refused.g A__law_refused.fn.kp A__law_refused.b .nil pass0 (pa_cons (pv 9) (pa_cons pe_int pa_nil))))) pa_nil)))) (pss_cons (ps_ret pe_bl)
      pss_nil) pss_nil)
      pss_nil))
      (pss_cons (ps_if (pt_cmpR op_ne (pe_call G_most (hr.mono (by omega)) rfl A_most.g A_most.fn.kp A_most.b .nil pass0 (pa_cons pe_int (pa_cons (pv 4) pa_nil))) (pv 5) (nomark _)) (pss_cons (ps_ret pe_bl)
      pss_nil) pss_nil)
      (pss_cons (ps_if (pt_cmpR op_ne (pe_callB (cr_sum rfl) rfl hA.z_sum (by decide +kernel) (pa_cons (pe_lc (own := [("_law_size", 10), ("_law_many", 11)]) (g := (gTup K 2 (gCons (gName 10) (gCons (gName 11) gNil)))) rfl sc__law_bad_right.nd (pi_list (pe_call G_gaps (hr.mono (by omega)) rfl A_gaps.g A_gaps.fn.kp A_gaps.b .nil pass0 (pa_cons pe_int (pa_cons (pv 4) (pa_cons (pv 5) pa_nil))))) (blkOk_by (own := [("_law_size", 10), ("_law_many", 11)]) (N := ["_law_more", "_law_none", "_law_great", "_law_bad", "_law_step", "_law_highest", "_law_pairs", "_law_begin", "_law_end", "_law_ask", "_law_size", "_law_many"]) (sc := defScope s__law_bad_right) (by decide +kernel)) (fun _ _ _ _ _ => (pg_tup rfl (pgs_cons (pg_name (i := 10) sc__law_bad_right.nd rfl (Or.inl rfl)) (pgs_cons (pg_name (i := 11) sc__law_bad_right.nd rfl (Or.inl rfl)) pgs_nil)))) (fun _ _ _ _ _ => pts_nil) (fun _ _ _ _ _ => (pe_op op_mulB (pv 10) (pv 11)))) pa_nil)) pe_int (nomark _)) (pss_cons (ps_ret pe_bl)
      pss_nil) pss_nil)
      pss_nil))))
      (pss_cons (ps_set (i := 6) sc__law_bad_right.nd rfl (Or.inl rfl) (pe_lst (pa_cons (pe_tup (pa_cons pe_non (pa_cons pe_int pa_nil))) (pa_cons (pe_tup (pa_cons pe_int (pa_cons pe_non pa_nil))) (pa_cons (pe_tup (pa_cons pe_bl (pa_cons pe_int pa_nil))) (pa_cons (pe_tup (pa_cons pe_int (pa_cons pe_bl pa_nil))) (pa_cons (pe_tup (pa_cons (pe_un un_neg pe_int) (pa_cons pe_int pa_nil))) (pa_cons (pe_tup (pa_cons pe_int (pa_cons pe_int pa_nil))) (pa_cons (pe_tup (pa_cons pe_int (pa_cons pe_int pa_nil))) (pa_cons (pe_tup (pa_cons pe_int (pa_cons pe_int pa_nil))) (pa_cons (pe_tup (pa_cons pe_int (pa_cons (pv 2) pa_nil))) pa_nil)))))))))))
      (pss_cons (ps_for PassesOwn.never rfl (pi_list (pe_op op_cat (pv 6) (pe_lst (pa_cons (pe_tup (pa_cons pe_str (pa_cons pe_int pa_nil))) (pa_cons (pe_tup (pa_cons pe_int (pa_cons pe_int pa_nil))) pa_nil))))) (pg_tup rfl (pgs_cons (pg_name (i := 7) sc__law_bad_right.nd rfl (Or.inr rfl)) (pgs_cons (pg_name (i := 8) sc__law_bad_right.nd rfl (Or.inr rfl)) pgs_nil))) (pss_cons (ps_if (pt_not (pt_val (pe_lam2 (T := TT) (TT := TRef c) (a := "_law_ask") (b := "_law_due") (k := 6) rfl A__law_refused.g A__law_refused.fn.kp lkR hcR A__law_refused.b sc__law_refused rfl (Or.inl rfl) (ref_gives (hr.mono (by omega)) hA MG BG) TB rfl hM hU (hr.mono (by omega)) (lamS_by (sc := defScope s__law_bad_right) (by decide +kernel)) rfl (fun _ _ _ _ _ => rfl) (fun A outer s H E f d hr => (pe_call X_count (hr.mono (by omega)) rfl A_count.g A_count.fn.kp A_count.b .nil (passes_call (takes_of rfl rfl rfl rfl) (fun _ _ _ _ h => h)) (pa_cons pe_int (pa_cons pe_int (pa_cons pe_int (pa_cons (pv 7) (pa_cons (pv 8) pa_nil)))))))))) (pss_cons (ps_ret pe_bl)
      pss_nil) pss_nil)
      (pss_cons (ps_if (pt_not (pt_val (pe_lam2 (T := TT) (TT := TRef c) (a := "_law_ask") (b := "_law_due") (k := 6) rfl A__law_refused.g A__law_refused.fn.kp lkR hcR A__law_refused.b sc__law_refused rfl (Or.inl rfl) (ref_gives (hr.mono (by omega)) hA MG BG) TB rfl hM hU (hr.mono (by omega)) (lamS_by (sc := defScope s__law_bad_right) (by decide +kernel)) rfl (fun _ _ _ _ _ => rfl) (fun A outer s H E f d hr => (pe_call X_first (hr.mono (by omega)) rfl A_first.g A_first.fn.kp A_first.b .nil (passes_call (takes_of rfl rfl rfl rfl) (fun _ _ _ _ h => h)) (pa_cons pe_int (pa_cons pe_int (pa_cons (pv 7) (pa_cons (pv 8) pa_nil))))))))) (pss_cons (ps_ret pe_bl)
      pss_nil) pss_nil)
      pss_nil)))
      (pss_cons (ps_for PassesOwn.never rfl (pi_list (pe_op op_cat (pv 1) (pe_lst (pa_cons pe_int (pa_cons (pe_op op_add pe_int (pv 0)) (pa_cons (pv 2) pa_nil)))))) (pg_name (i := 3) sc__law_bad_right.nd rfl (Or.inr rfl)) (pss_cons (ps_if (pt_not (pt_val (pe_lam2 (T := TT) (TT := TRef c) (a := "_law_ask") (b := "_law_due") (k := 6) rfl A__law_refused.g A__law_refused.fn.kp lkR hcR A__law_refused.b sc__law_refused rfl (Or.inl rfl) (ref_gives (hr.mono (by omega)) hA MG BG) TB rfl hM hU (hr.mono (by omega)) (lamS_by (sc := defScope s__law_bad_right) (by decide +kernel)) rfl (fun _ _ _ _ _ => rfl) (fun A outer s H E f d hr => (pe_call X_beside (hr.mono (by omega)) rfl A_beside.g A_beside.fn.kp A_beside.b .nil (passes_call (takes_of rfl rfl rfl rfl) (fun _ _ _ _ h => h)) (pa_cons pe_int (pa_cons pe_int (pa_cons pe_int (pa_cons (pv 3) pa_nil))))))))) (pss_cons (ps_ret pe_bl)
      pss_nil) pss_nil)
      pss_nil))
      (pss_cons (ps_for PassesOwn.never rfl (pi_list (pe_op op_cat (pv 1) (pe_lst (pa_cons pe_int (pa_cons (pe_op op_add pe_int (pv 0)) (pa_cons (pv 2) pa_nil)))))) (pg_name (i := 3) sc__law_bad_right.nd rfl (Or.inr rfl)) (pss_cons (ps_if (pt_not (pt_val (pe_lam2 (T := TT) (TT := TRef c) (a := "_law_ask") (b := "_law_due") (k := 6) rfl A__law_refused.g A__law_refused.fn.kp lkR hcR A__law_refused.b sc__law_refused rfl (Or.inl rfl) (ref_gives (hr.mono (by omega)) hA MG BG) TB rfl hM hU (hr.mono (by omega)) (lamS_by (sc := defScope s__law_bad_right) (by decide +kernel)) rfl (fun _ _ _ _ _ => rfl) (fun A outer s H E f d hr => (pe_call X_turn_of (hr.mono (by omega)) rfl A_turn_of.g A_turn_of.fn.kp A_turn_of.b .nil (passes_call (takes_of rfl rfl rfl rfl) (fun _ _ _ _ h => h)) (pa_cons pe_int (pa_cons pe_int (pa_cons pe_int (pa_cons (pv 3) pa_nil))))))))) (pss_cons (ps_ret pe_bl)
      pss_nil) pss_nil)
      (pss_cons (ps_if (pt_not (pt_val (pe_lam2 (T := TT) (TT := TRef c) (a := "_law_ask") (b := "_law_due") (k := 6) rfl A__law_refused.g A__law_refused.fn.kp lkR hcR A__law_refused.b sc__law_refused rfl (Or.inl rfl) (ref_gives (hr.mono (by omega)) hA MG BG) TB rfl hM hU (hr.mono (by omega)) (lamS_by (sc := defScope s__law_bad_right) (by decide +kernel)) rfl (fun _ _ _ _ _ => rfl) (fun A outer s H E f d hr => (pe_call X_mark_by (hr.mono (by omega)) rfl A_mark_by.g A_mark_by.fn.kp A_mark_by.b .nil (passes_call (takes_of rfl rfl rfl rfl) (fun _ _ _ _ h => h)) (pa_cons pe_int (pa_cons pe_int (pa_cons pe_int (pa_cons (pv 3) pa_nil))))))))) (pss_cons (ps_ret pe_bl)
      pss_nil) pss_nil)
      pss_nil)))
      (pss_cons (ps_ret (pe_and (pe_cmpR op_eq (pe_call G_count (hr.mono (by omega)) rfl A_count.g A_count.fn.kp A_count.b .nil pass0 (pa_cons pe_int (pa_cons pe_int (pa_cons pe_int (pa_cons pe_int (pa_cons pe_int pa_nil)))))) pe_int (nomark _)) (pe_one (pe_cmpR (op_eqD hr.units) (pe_call G_beside (hr.mono (by omega)) rfl A_beside.g A_beside.fn.kp A_beside.b .nil pass0 (pa_cons pe_int (pa_cons pe_int (pa_cons pe_int (pa_cons pe_int pa_nil))))) (pe_tup (pa_cons pe_int (pa_cons pe_int pa_nil))) (nomark _)))))
      pss_nil))))))))), Go.at ?_⟩
    have p10 : ∀ {n : Int} {σ : L2.St} {H : Hp}, CPow 10 n → Ev (tOp (rI CPow fun i j => .int (i ^ j.toNat)) (tC (.int 10)) (tC (.int n))) σ H (.int (10 ^ n.toNat)) := fun h => ev_op ev_c ev_c (rv_I h)
    have e50 : (10 : Int) ^ 50 = 100000000000000000000000000000000000000000000000000 := by decide
    have z : ∀ {H : Hp}, Kn K H V.non := fun {H} => trivial
    have zi : ∀ {H : Hp} {i : Int}, i.natAbs ≤ 1000000000000000000 → Kn K H (V.int i) := fun {H i} h => lv_small h
    refine g_par2P (evp_lstB (B := bN K) (n := 7) bN_up (ebs_cons bN_up (evb_of ev_c fun _ => ⟨trivial, rfl, fun _ _ _ => rfl⟩) (ebs_cons bN_up (evb_of ev_c fun _ => ⟨trivial, rfl, fun _ _ _ => rfl⟩) (ebs_cons bN_up (evb_of ev_c fun _ => ⟨trivial, rfl, fun _ _ _ => rfl⟩) (ebs_cons bN_up (evb_of ev_c fun _ => ⟨trivial, rfl, fun _ _ _ => rfl⟩) (ebs_cons bN_up (evb_lst (ea_cons ev_c ea_nil) (by show 1 ≤ 100000; decide) fun p H' h => ⟨.inl ⟨_, h⟩, rfl, fun _ _ _ => rfl⟩) (ebs_cons bN_up (evb_tup (ea_cons ev_c ea_nil) (by show 1 ≤ 100000; decide) fun p H' h => ⟨.inr (.inl ⟨_, h⟩), rfl, fun _ _ _ => rfl⟩) (ebs_cons bN_up (evb_of (ev_un ev_c ru_neg) fun _ => ⟨lv_small (by decide), okP_no (by decide), fun l m hl => okI_no (.inl (by omega))⟩) ebs_nil))))))) (by decide)) (evb_of (B := fun v _ => v = .int 100000000000000000000000000000000000000000000000000) (ev_is (p10 ⟨by decide, by decide, by decide⟩) (congrArg V.int e50)) fun _ => rfl) (fun v H H' e ⟨q, vs, e1, e2, e3, e4⟩ => ⟨q, vs, e1, e _ _ e2, e3, fun x hx => bN_up _ _ _ (ExtN.of e) (e4 x hx)⟩) ?_
    rintro _ _ H0 e0 ⟨pn, us, rfl, hu1, hu2, hu3⟩ rfl
    have hN0 : NoneAt K H0 pn := ⟨us, hu1, hu2, hu3⟩
    have lg : ∀ {H : Hp}, Kn K H (V.int 100000000000000000000000000000000000000000000000000) := fun {H} => Nat.lt_of_lt_of_le (show (100000000000000000000000000000000000000000000000000 : Int).natAbs < 2 ^ 1000 by decide +kernel) (Nat.pow_le_pow_right (by decide) (by decide))
    have lg' : ∀ {H : Hp}, Kn K H (V.int (-100000000000000000000000000000000000000000000000000)) := fun {H} => Nat.lt_of_lt_of_le (show (-100000000000000000000000000000000000000000000000000 : Int).natAbs < 2 ^ 1000 by decide +kernel) (Nat.pow_le_pow_right (by decide) (by decide))
    obtain ⟨gr, hgr⟩ : ∃ gr : Int, (100000000000000000000000000000000000000000000000000 : Int) = gr := ⟨_, rfl⟩
    have gr0 : 10000000000 ≤ gr := by omega
    rw [hgr] at lg
    have lgn : ∀ {H : Hp}, Kn K H (V.int (-gr)) := fun {H} => by rw [← hgr]; exact lg'
    refine (show Go _ _ ([some (.int n), some (.ref pn), some (.int 100000000000000000000000000000000000000000000000000), none, none, none, none, none, none, none, none, none] : L2.St) H0 from ?_)
    rw [hgr]
    have T0 : Tabs TT H0 := hT.ext e0
    have x0 : ExtN H H0 := ExtN.of e0
    clear hgr lg' e50
    refine g_forBN (T := TT) (B := bP K) (n := 7 + 2) bP_up (evB_none bP_up hN0 (fun v H' h => ⟨h.1, h.2.1⟩) (ev_var rfl) (ebs_cons bP_up (evb_of ev_c fun _ => ⟨lv_small (by decide), okP_no (by decide)⟩) (ebs_cons bP_up (evb_of (ev_un (ev_var rfl) ru_neg) fun _ => ⟨lgn, okP_no (by omega)⟩) ebs_nil)) (by decide)) T0 (fun σ' => ∃ o3 o4 o5 o6 o7 o8 o9 o10 o11 : Option V, σ' = [some (.int n), some (.ref pn), some (.int gr), o3, o4, o5, o6, o7, o8, o9, o10, o11]) ⟨_, _, _, _, _, _, _, _, _, rfl⟩ ?_ ?_
    · rintro B0 eB σ' H' v xN T1 ⟨o3, o4, o5, o6, o7, o8, o9, o10, o11, rfl⟩ ⟨kv, hv⟩
      refine (show Go _ _ ([some (.int n), some (.ref pn), some (.int gr), some v, o4, o5, o6, o7, o8, o9, o10, o11] : L2.St) H' from ?_)
      refine g_ifNotNt T1 (evnt_doors (j := 0) (by decide) (fun H1 _ => ea_cons (ev_var rfl) (ea_cons ev_c (ea_cons ev_c ea_nil))) kv z z (marksO_ring (ringO_P hv)) (by show 9 < 12; decide)) fun H2 x2 T2 => ?_
      refine g_refused T2 (fun H3 x3 T3 => ⟨0, by decide, rfl, raises_call (ea_cons (ev_var rfl) (ea_cons ev_c ea_nil)) (errs_of ((mostO_ring (ringO_P hv)) ▸ spx_most (kn_exN kv (x2.trans x3)) z))⟩) fun H3 x3 T3 => ?_
      refine g_refused T3 (fun H4 x4 T4 => ⟨0, by decide, rfl, raises_firstR (ea_cons (ev_var rfl) (ea_cons ev_c (ea_cons ev_c (ea_cons ev_c ea_nil)))) (kn_exN kv ((x2.trans x3).trans x4)) z z z (ringO_P hv)⟩) fun H4 x4 T4 => ?_
      exact g_next fun H5 x5 => ⟨(((xN.trans x2).trans x3).trans x4).trans (ExtN.of x5), T4.ext x5, _, _, _, _, _, _, _, _, _, rfl⟩
    rintro HA xA TA σ' ⟨o3, o4, o5, o6, o7, o8, o9, o10, o11, rfl⟩
    have hNA := hN0.exN xA
    refine g_forBN (T := TT) (B := bI K 0 11) (n := 7 + 3) bI_up (evB_none bI_up hNA (fun v H' h => ⟨h.1, h.2.2 _ _ (by omega)⟩) (ev_var rfl) (ebs_cons bI_up (evb_of ev_c fun _ => ⟨lv_small (by decide), okI_no (by omega)⟩) (ebs_cons bI_up (evb_of (ev_op ev_c (ev_var rfl) rv_I0) fun _ => ⟨lv_small (by omega), okI_no (by omega)⟩) (ebs_cons bI_up (evb_of (ev_var rfl) fun _ => ⟨lg, okI_no (by omega)⟩) ebs_nil))) (by decide)) TA (fun σ' => ∃ o3 o4 o5 o6 o7 o8 o9 o10 o11 : Option V, σ' = [some (.int n), some (.ref pn), some (.int gr), o3, o4, o5, o6, o7, o8, o9, o10, o11]) ⟨_, _, _, _, _, _, _, _, _, rfl⟩ ?_ ?_
    · rintro B0 eB σ' H' v xN T1 ⟨o3, o4, o5, o6, o7, o8, o9, o10, o11, rfl⟩ ⟨kv, hv⟩
      refine (show Go _ _ ([some (.int n), some (.ref pn), some (.int gr), some v, o4, o5, o6, o7, o8, o9, o10, o11] : L2.St) H' from ?_)
      refine g_ifNotNt T1 (evnt_doors (j := 1) (by decide) (fun H1 _ => ea_cons ev_c (ea_cons (ev_var rfl) (ea_cons ev_c ea_nil))) (zi (by decide)) kv z (marksO_ring (ringO_S hv)) (by show 9 < 12; decide)) fun H2 x2 T2 => ?_
      refine g_refused T2 (fun H3 x3 T3 => ⟨1, by decide, rfl, raises_call (ea_cons ev_c (ea_cons (ev_var rfl) ea_nil)) (errs_of ((mostO_ring (ringO_S hv)) ▸ spx_most (zi (by decide)) (kn_exN kv (x2.trans x3))))⟩) fun H3 x3 T3 => ?_
      refine g_refused T3 (fun H4 x4 T4 => ⟨1, by decide, rfl, raises_firstR (ea_cons ev_c (ea_cons (ev_var rfl) (ea_cons ev_c (ea_cons ev_c ea_nil)))) (zi (by decide)) (kn_exN kv ((x2.trans x3).trans x4)) z z (ringO_S hv)⟩) fun H4 x4 T4 => ?_
      exact g_next fun H5 x5 => ⟨(((xN.trans x2).trans x3).trans x4).trans (ExtN.of x5), T4.ext x5, _, _, _, _, _, _, _, _, _, rfl⟩
    rintro HB xB TB' σ' ⟨o3, o4, o5, o6, o7, o8, o9, o10, o11, rfl⟩
    have hNB := hNA.exN xB
    refine g_forTdN (T := TT) (ps := [(5, 12), (4, 3), (6, 2), (0, 1), (10, 6)]) (eat_cons (eu_tup (ea_cons ev_c (ea_cons ev_c ea_nil)) (by show 2 ≤ 100000; decide)) (eat_cons (eu_tup (ea_cons ev_c (ea_cons ev_c ea_nil)) (by show 2 ≤ 100000; decide)) (eat_cons (eu_tup (ea_cons ev_c (ea_cons ev_c ea_nil)) (by show 2 ≤ 100000; decide)) (eat_cons (eu_tup (ea_cons ev_c (ea_cons ev_c ea_nil)) (by show 2 ≤ 100000; decide)) (eat_cons (eu_tup (ea_cons ev_c (ea_cons ev_c ea_nil)) (by show 2 ≤ 100000; decide)) eat_nil))))) (by show 5 ≤ 1000; decide) TB' (fun _ σ' => ∃ o3 o4 o5 o6 o7 o8 o9 o10 o11 : Option V, σ' = [some (.int n), some (.ref pn), some (.int gr), o3, o4, o5, o6, o7, o8, o9, o10, o11]) ⟨_, _, _, _, _, _, _, _, _, rfl⟩ ?_ ?_
    · rintro B1 eB1 m σ' H1 hm xN1 T1 ⟨o3, o4, o5, o6, o7, o8, o9, o10, o11, rfl⟩
      obtain ⟨st, hi, L, hst, W12⟩ : ∃ (st hi : Int) (L : List (Int × Int)), ([(5, 12), (4, 3), (6, 2), (0, 1), (10, 6)] : List (Int × Int))[m] = (st, hi) ∧ Twelve st hi L := by
        have hm : m < 5 := hm
        match m, hm with
        | 0, _ => exact ⟨_, _, [(1, 12)], rfl, twelve_c (by decide +kernel) (gok_c 5 1 7 1 (by decide +kernel))⟩
        | 1, _ => exact ⟨_, _, [(4, 3)], rfl, twelve_c (by decide +kernel) (gok_c 1 4 2 4 (by decide +kernel))⟩
        | 2, _ => exact ⟨_, _, [(6, 2)], rfl, twelve_c (by decide +kernel) (gok_c 1 6 1 6 (by decide +kernel))⟩
        | 3, _ => exact ⟨_, _, [(12, 1)], rfl, twelve_c (by decide +kernel) (gok_1 (ringc (by decide)) (lv_small (by decide)))⟩
        | 4, _ => exact ⟨_, _, [(2, 6)], rfl, twelve_c (by decide +kernel) (gok_c 5 2 1 2 (by decide +kernel))⟩
      rw [hst]
      have hN1 : NoneAt K H1 pn := hNB.exN ((ExtN.of eB1).trans xN1)
      have st0 := W12.R.s0
      have st1 := W12.R.s
      have hi1 := W12.h1
      have hi2 := W12.h2
      refine (show Go _ _ ([some (.int n), some (.ref pn), some (.int gr), o3, some (.int st), some (.int hi), o6, o7, o8, o9, o10, o11] : L2.St) H1 from ?_)
      refine g_forBN (T := TT) (B := bI K 1 hi) (n := 7 + 4) bI_up (evB_none bI_up hN1 (fun v H' h => ⟨h.1, h.2.2 _ _ (by omega)⟩) (ev_var rfl) (ebs_cons bI_up (evb_of ev_c fun _ => ⟨lv_small (by decide), okI_no (by omega)⟩) (ebs_cons bI_up (evb_of (ev_op (ev_var rfl) ev_c rv_I0) fun _ => ⟨lv_small (by omega), okI_no (by omega)⟩) (ebs_cons bI_up (evb_of (ev_op (ev_op (ev_var rfl) ev_c rv_I0) (ev_var rfl) rv_I0) fun _ => ⟨lv_small (by omega), okI_no (by omega)⟩) (ebs_cons bI_up (evb_of (ev_var rfl) fun _ => ⟨lg, okI_no (by omega)⟩) ebs_nil)))) (by decide)) T1 (fun σ' => ∃ o3 o6 o7 o8 o9 o10 o11 : Option V, σ' = [some (.int n), some (.ref pn), some (.int gr), o3, some (.int st), some (.int hi), o6, o7, o8, o9, o10, o11]) ⟨_, _, _, _, _, _, _, rfl⟩ ?_ ?_
      · rintro B0 eB σ' H' v xN T1 ⟨o3, o6, o7, o8, o9, o10, o11, rfl⟩ ⟨kv, hv⟩
        refine (show Go _ _ ([some (.int n), some (.ref pn), some (.int gr), some v, some (.int st), some (.int hi), o6, o7, o8, o9, o10, o11] : L2.St) H' from ?_)
        refine g_ifNotNt T1 (evnt_doors (j := 2) (by decide) (fun H1 _ => ea_cons ev_c (ea_cons (ev_var rfl) (ea_cons (ev_var rfl) ea_nil))) (zi (by decide)) (zi (by omega)) kv (marksO_M W12.R W12.t hv) (by show 9 < 12; decide)) fun H2 x2 T2 => ?_
        exact g_next fun H5 x5 => ⟨(xN.trans x2).trans (ExtN.of x5), T2.ext x5, _, _, _, _, _, _, _, rfl⟩
      rintro H2 x2 T2 σ' ⟨o3, o6, o7, o8, o9, o10, o11, rfl⟩
      refine g_when (b := false) (et_is (et_test (ev_op (ev_is (ev_call1 (ea_cons ev_c (ea_cons (ev_var rfl) ea_nil)) (spv_most W12.R (lv_small (by decide)))) (congrArg V.int W12.t)) (ev_var rfl) (rv_ne rfl))) (ne_same rfl)) (fun h => nomatch h) (fun _ => ?_)
      have gl := elt_gaps (K := K) (c := c) (E := E0) (H := H2) (σ := [some (.int n), some (.ref pn), some (.int gr), o3, some (.int st), some (.int hi), o6, o7, o8, o9, o10, o11]) (ta := tCons (tC (.int 12)) (tCons (tVar 4) (tCons (tVar 5) tNil))) (p := 12) (s := st) (m := hi) W12.R (lv_small (by decide)) W12.h1 (by rw [W12.t]; exact Int.le_refl _) (ea_cons ev_c (ea_cons (ev_var rfl) (ea_cons (ev_var rfl) ea_nil)))
      rw [W12.g] at gl
      have pl := el_pairsLT (K := K) (j := 10) (k := 11) (tx := tOp (rI CMulB fun i j => .int (i * j)) (tVar 10) (tVar 11)) (fun x => V.int (x.1 * x.2)) gl (by have := W12.l; omega) (fun a b => rfl) fun H3 e3 x hx => ev_op (ev_var rfl) (ev_var rfl) (rv_I (mul_ok (lv_small (by have := (W12.b x hx).1; omega)) (lv_small (by have := (W12.b x hx).2; omega)) (by decide) (by decide)))
      refine g_when (b := false) (et_is (et_test (ev_op (ev_is (ev_sumN (ns := L.map fun x => x.1 * x.2) (el_isL pl (by rw [List.map_map] <;> rfl))) (congrArg V.int W12.s)) ev_c (rv_ne rfl))) (ne_same rfl)) (fun h => nomatch h) (fun _ => ?_)
      exact g_next fun H5 x5 => ⟨((xN1.trans x2).trans (ExtN.of x5)), T2.ext x5, _, _, _, _, _, _, _, _, _, rfl⟩
    rintro HC xC TC σ' ⟨o3, o4, o5, o6, o7, o8, o9, o10, o11, rfl⟩
    have hNC := hNB.exN xC
    refine g_asgRs (row := pRow) (xs := [(V.non, V.int 3), (V.int 0, V.non), (V.bl true, V.int 3), (V.int 0, V.bl true), (V.int (-1), V.int 3), (V.int 0, V.int 12), (V.int 12, V.int 12), (V.int 3, V.int 2), (V.int 0, V.int gr)]) (ers_cons (eps_cons (evp_of ev_c) (eps_cons (evp_of ev_c) eps_nil)) (by show 2 ≤ 1000; decide) (ers_cons (eps_cons (evp_of ev_c) (eps_cons (evp_of ev_c) eps_nil)) (by show 2 ≤ 1000; decide) (ers_cons (eps_cons (evp_of ev_c) (eps_cons (evp_of ev_c) eps_nil)) (by show 2 ≤ 1000; decide) (ers_cons (eps_cons (evp_of ev_c) (eps_cons (evp_of ev_c) eps_nil)) (by show 2 ≤ 1000; decide) (ers_cons (eps_cons (evp_of (ev_un ev_c ru_neg)) (eps_cons (evp_of ev_c) eps_nil)) (by show 2 ≤ 1000; decide) (ers_cons (eps_cons (evp_of ev_c) (eps_cons (evp_of ev_c) eps_nil)) (by show 2 ≤ 1000; decide) (ers_cons (eps_cons (evp_of ev_c) (eps_cons (evp_of ev_c) eps_nil)) (by show 2 ≤ 1000; decide) (ers_cons (eps_cons (evp_of ev_c) (eps_cons (evp_of ev_c) eps_nil)) (by show 2 ≤ 1000; decide) (ers_cons (eps_cons (evp_of ev_c) (eps_cons (evp_of (ev_var rfl)) eps_nil)) (by show 2 ≤ 1000; decide) ers_nil))))))))) (by show 9 ≤ 1000; decide) fun pp vs HD xD hpD rD => ?_
    refine (show Go _ _ ([some (.int n), some (.ref pn), some (.int gr), o3, o4, o5, some (.ref pp), o7, o8, o9, o10, o11] : L2.St) HD from ?_)
    have hND := hNC.exN (ExtN.of xD)
    have TD := TC.ext xD
    have bad : ∀ x ∈ ([(V.non, V.int 3), (V.int 0, V.non), (V.bl true, V.int 3), (V.int 0, V.bl true), (V.int (-1), V.int 3), (V.int 0, V.int 12), (V.int 12, V.int 12), (V.int 3, V.int 2), (V.int 0, V.int gr)] ++ [(V.str "0", V.int 3), (V.int 11, V.int 0)] : List (V × V)), PairBad K c x := by
      refine all_cons (pair_c (by rfl) (by rfl) (by rfl)) ?_
      refine all_cons (pair_c (by rfl) (by rfl) (by rfl)) ?_
      refine all_cons (pair_c (by rfl) (by rfl) (by rfl)) ?_
      refine all_cons (pair_c (by rfl) (by rfl) (by rfl)) ?_
      refine all_cons (pair_c (by rfl) (by rfl) (by rfl)) ?_
      refine all_cons (pair_c (by rfl) (by rfl) (by rfl)) ?_
      refine all_cons (pair_c (by rfl) (by rfl) (by rfl)) ?_
      refine all_cons (pair_c (by rfl) (by rfl) (by rfl)) ?_
      refine all_cons ⟨fun _ => lv_small (by decide), fun _ => lg, stretchO_e (okI_no (by omega))⟩ ?_
      refine all_cons (pair_c (by rfl) (by rfl) (by rfl)) ?_
      refine all_cons (pair_c (by rfl) (by rfl) (by rfl)) ?_
      exact all_nil
    refine g_forRowsN (T := TT) (row := pRow) (vals := fun x => [x.1, x.2]) (js := [7, 8]) (fun x => rfl) (evRw_cat (ev_var rfl) hpD rD (ys := [(V.str "0", V.int 3), (V.int 11, V.int 0)]) (ers_cons (eps_cons (evp_of ev_c) (eps_cons (evp_of ev_c) eps_nil)) (by show 2 ≤ 1000; decide) (ers_cons (eps_cons (evp_of ev_c) (eps_cons (evp_of ev_c) eps_nil)) (by show 2 ≤ 1000; decide) ers_nil)) (by show 11 ≤ 1000; decide)) (fun x => rfl) TD (fun σ' => ∃ o3 o4 o5 o7 o8 o9 o10 o11 : Option V, σ' = [some (.int n), some (.ref pn), some (.int gr), o3, o4, o5, some (.ref pp), o7, o8, o9, o10, o11]) ⟨_, _, _, _, _, _, _, _, rfl⟩ ?_ ?_
    · rintro B0 eB x hx σ' H' xN T1 ⟨o3, o4, o5, o7, o8, o9, o10, o11, rfl⟩
      obtain ⟨k1, k2, he⟩ := bad x hx
      refine (show Go _ _ ([some (.int n), some (.ref pn), some (.int gr), o3, o4, o5, some (.ref pp), some x.1, some x.2, o9, o10, o11] : L2.St) H' from ?_)
      refine g_refused T1 (fun H3 x3 T3 => ⟨3, by decide, rfl, raises_call (ea_cons ev_c (ea_cons ev_c (ea_cons ev_c (ea_cons (ev_var rfl) (ea_cons (ev_var rfl) ea_nil))))) (errs_of ((countO_S he) ▸ spx_count (zi (by decide)) (zi (by decide)) (zi (by decide)) (k1 _) (k2 _)))⟩) fun H3 x3 T3 => ?_
      refine g_refused T3 (fun H4 x4 T4 => ⟨3, by decide, rfl, raises_firstL (ea_cons ev_c (ea_cons ev_c (ea_cons (ev_var rfl) (ea_cons (ev_var rfl) ea_nil)))) (zi (by decide)) (zi (by decide)) (k1 _) (k2 _) (ringO_ok R125) he⟩) fun H4 x4 T4 => ?_
      exact g_next fun H5 x5 => ⟨((xN.trans x3).trans x4).trans (ExtN.of x5), T4.ext x5, _, _, _, _, _, _, _, _, rfl⟩
    rintro HE xE TE σ' ⟨o3, o4, o5, o7, o8, o9, o10, o11, rfl⟩
    have hNE := hND.exN xE
    refine g_forBN (T := TT) (B := bI K 0 11) (n := 7 + 3) bI_up (evB_none bI_up hNE (fun v H' h => ⟨h.1, h.2.2 _ _ (by omega)⟩) (ev_var rfl) (ebs_cons bI_up (evb_of ev_c fun _ => ⟨lv_small (by decide), okI_no (by omega)⟩) (ebs_cons bI_up (evb_of (ev_op ev_c (ev_var rfl) rv_I0) fun _ => ⟨lv_small (by omega), okI_no (by omega)⟩) (ebs_cons bI_up (evb_of (ev_var rfl) fun _ => ⟨lg, okI_no (by omega)⟩) ebs_nil))) (by decide)) TE (fun σ' => ∃ o3 o4 o5 o7 o8 o9 o10 o11 : Option V, σ' = [some (.int n), some (.ref pn), some (.int gr), o3, o4, o5, some (.ref pp), o7, o8, o9, o10, o11]) ⟨_, _, _, _, _, _, _, _, rfl⟩ ?_ ?_
    · rintro B0 eB σ' H' v xN T1 ⟨o3, o4, o5, o7, o8, o9, o10, o11, rfl⟩ ⟨kv, hv⟩
      refine (show Go _ _ ([some (.int n), some (.ref pn), some (.int gr), some v, o4, o5, some (.ref pp), o7, o8, o9, o10, o11] : L2.St) H' from ?_)
      refine g_refused T1 (fun H3 x3 T3 => ⟨3, by decide, rfl, raises_beside (ea_cons ev_c (ea_cons ev_c (ea_cons ev_c (ea_cons (ev_var rfl) ea_nil)))) (zi (by decide)) (zi (by decide)) (zi (by decide)) (kn_exN kv x3) (besideO_S hv)⟩) fun H3 x3 T3 => ?_
      exact g_next fun H5 x5 => ⟨(xN.trans x3).trans (ExtN.of x5), T3.ext x5, _, _, _, _, _, _, _, _, rfl⟩
    rintro HF xF TF σ' ⟨o3, o4, o5, o7, o8, o9, o10, o11, rfl⟩
    have hNF := hNE.exN xF
    refine g_forBN (T := TT) (B := bI K 0 2) (n := 7 + 3) bI_up (evB_none bI_up hNF (fun v H' h => ⟨h.1, h.2.2 _ _ (by omega)⟩) (ev_var rfl) (ebs_cons bI_up (evb_of ev_c fun _ => ⟨lv_small (by decide), okI_no (by omega)⟩) (ebs_cons bI_up (evb_of (ev_op ev_c (ev_var rfl) rv_I0) fun _ => ⟨lv_small (by omega), okI_no (by omega)⟩) (ebs_cons bI_up (evb_of (ev_var rfl) fun _ => ⟨lg, okI_no (by omega)⟩) ebs_nil))) (by decide)) TF (fun σ' => ∃ o3 o4 o5 o7 o8 o9 o10 o11 : Option V, σ' = [some (.int n), some (.ref pn), some (.int gr), o3, o4, o5, some (.ref pp), o7, o8, o9, o10, o11]) ⟨_, _, _, _, _, _, _, _, rfl⟩ ?_ ?_
    · rintro B0 eB σ' H' v xN T1 ⟨o3, o4, o5, o7, o8, o9, o10, o11, rfl⟩ ⟨kv, hv⟩
      refine (show Go _ _ ([some (.int n), some (.ref pn), some (.int gr), some v, o4, o5, some (.ref pp), o7, o8, o9, o10, o11] : L2.St) H' from ?_)
      refine g_refused T1 (fun H3 x3 T3 => ⟨4, by decide, rfl, raises_call (ea_cons ev_c (ea_cons ev_c (ea_cons ev_c (ea_cons (ev_var rfl) ea_nil)))) (errs_of ((turnO_K hv) ▸ spx_turnOf (zi (by decide)) (zi (by decide)) (zi (by decide)) (kn_exN kv x3)))⟩) fun H3 x3 T3 => ?_
      refine g_refused T3 (fun H4 x4 T4 => ⟨4, by decide, rfl, raises_call (ea_cons ev_c (ea_cons ev_c (ea_cons ev_c (ea_cons (ev_var rfl) ea_nil)))) (errs_of ((markByO_K hv) ▸ spx_markBy (zi (by decide)) (zi (by decide)) (zi (by decide)) (kn_exN kv (x3.trans x4))))⟩) fun H4 x4 T4 => ?_
      exact g_next fun H5 x5 => ⟨((xN.trans x3).trans x4).trans (ExtN.of x5), T4.ext x5, _, _, _, _, _, _, _, _, rfl⟩
    rintro HG xG TG σ' ⟨o3, o4, o5, o7, o8, o9, o10, o11, rfl⟩
    have xAll : ExtN H HG := ((((((x0.trans xA).trans xB).trans xC).trans (ExtN.of xD)).trans xE).trans xF).trans xG
    have B1 : BesOk (12, 5, 1, 7, (0, 0)) := bok_c (by decide +kernel)
    have bs := eu_beside (K := K) (c := c) (E := E0) (H := HG) (σ := [some (.int n), some (.ref pn), some (.int gr), o3, o4, o5, some (.ref pp), o7, o8, o9, o10, o11]) (ta := tCons (tC (.int 12)) (tCons (tC (.int 5)) (tCons (tC (.int 1)) (tCons (tC (.int 7)) tNil)))) B1.R B1.l B1.m1 B1.m2 B1.x0 B1.x1 (ea_cons ev_c (ea_cons ev_c (ea_cons ev_c (ea_cons ev_c ea_nil))))
    rw [show besA 12 5 1 7 = 0 from B1.a, show besB 12 5 1 7 = 0 from B1.b] at bs
    exact g_ret (v := .bl true) (ev_is (ev_andV (a := true) (b := true) (ev_is (ev_op (ev_is (ev_call1 (ea_cons ev_c (ea_cons ev_c (ea_cons ev_c (ea_cons ev_c (ea_cons ev_c ea_nil))))) (spv_count R125 (lv_small (by decide)) (show (1 : Int) ≤ 12 by decide) (by decide +kernel) (by decide) (show (0 : Int) ≤ 11 by decide) (by decide))) (congrArg V.int (by decide +kernel))) ev_c (rv_eq rfl)) (congrArg V.bl (decide_eq_true rfl))) fun _ => ev_is (ev_eqD (ed_U2 bs) (ed_tup (eds_cons (ed_int ev_c) (eds_cons (ed_int ev_c) eds_nil)) (by show 2 ≤ 100000; decide)) rfl rfl) rfl) rfl) fun H6 x6 => k H6 (xAll.trans (ExtN.of x6)) (TG.ext x6)
open LamX
theorem lv50 : Lv 1 (100000000000000000000000000000000000000000000000000 : Int) := Nat.lt_of_lt_of_le (show (100000000000000000000000000000000000000000000000000 : Int).natAbs < 2 ^ 1000 by decide +kernel) (Nat.pow_le_pow_right (by decide) (by decide))
theorem ev_soundD {σ : L2.St} {H : Hp} {te : TE} {E : XK} {d : PyData} (h : EvD K te σ H d) (h2 : sndB d = true) (h3 : d.depth ≤ 50) (h4 : wtD d ≤ 1000) : Ev (tCall (spSound K) [] E (tCons te tNil)) σ H (.bl true) := fun H1 e Q q =>
  h H1 e _ fun v H2 e2 hv => ⟨v, d, rfl, hv, h2, h3, h4, fun H3 e3 => q H3 (e2.trans e3)⟩
section
variable {σ : L2.St} {H : Hp} {ta tb te : TE} {tu tz : TS} {D : Ends} {L : List (Int × Int)}
theorem no_pairs {p s m : Int} {c : Cs} {E : XK} {tr : TA} (g : GapOk (p, s, m, L)) (h : EvA tr σ H [.int p, .int s, .int m]) (h2 : EvD K tb σ H (.list (dPairs L))) : EvT (tTest (tOp (rNeD K) (tCall (spGapsQ K c) [] E tr) tb)) σ H false := by
  have gl := elt_gaps (K := K) (c := c) (E := E) g.R g.l g.m1 g.m2 h
  rw [show gapsOf p s m = L from g.g] at gl
  exact et_is (et_test (ev_neD (ed_LT gl) h2 (shaped_pairs _) (shaped_pairs _))) (by rw [eqv_pairs]; rfl)
theorem no_beside {p s m x a b : Int} {c : Cs} {E : XK} {tr : TA} (g : BesOk (p, s, m, x, (a, b))) (h : EvA tr σ H [.int p, .int s, .int m, .int x]) (h2 : EvD K tb σ H (.tuple [.int a, .int b])) : EvT (tTest (tOp (rNeD K) (tCall (spBesideQ K c) [] E tr) tb)) σ H false := by
  have bs := eu_beside (K := K) (c := c) (E := E) g.R g.l g.m1 g.m2 g.x0 g.x1 h
  rw [show besA p s m x = a from g.a, show besB p s m x = b from g.b] at bs
  exact et_is (et_test (ev_neD (ed_U2 bs) h2 rfl rfl)) (by simp [PyData.eqv, PyData.eqvAll])
end
abbrev s__law_great_right : Stmt := topS 42
theorem sc__law_great_right : FnScope ["_law_more", "_law_great", "_law_at", "_law_found", "_law_never", "_law_last"] ["_law_more"] (defScope s__law_great_right) := ⟨rfl, rfl, rfl, by decide +kernel, rfl, by decide +kernel, by decide +kernel⟩
def spGreatR : Sp := fun vs H Q _ => ∃ n : Int, vs = [.int n] ∧ 0 ≤ n ∧ ∀ H', Ex H H' → Q (.bl true) H'
theorem spv_greatR {H : Hp} {n : Int} (h : 0 ≤ n) : SpV spGreatR [.int n] H (.bl true) := fun H1 e Q q E => ⟨n, rfl, h, q⟩
theorem ok__law_great_right {c : Cs} {CF CN : Addr} (iF : InsI K CF) (iN : InsI K CN) (naF : NoAttr K CF "mark") (naN : NoAttr K CN "common") (kFF : PySem.W.kitOne K (.ref CF) (.ref CF) = some true) (kNN : PySem.W.kitOne K (.ref CN) (.ref CN) = some true) (hA : Blt mg) (F : Fun K "_law_great_right" "_law_great_right" s__law_great_right f fd)
    (G_count : FnOk P w K mg base CX0 4 f1 fd1 ["places", "step", "marks", "begin", "end"] (fun vs H Q _ => spCount K c vs H Q E0)) (A_count : At K mg "count" s_count ["places", "step", "marks", "begin", "end"] f1 fd1) (G_turn_of : FnOk P w K mg base CX0 4 f2 fd2 ["places", "step", "marks", "mark"] (spTurnQ K c)) (A_turn_of : At K mg "turn_of" s_turn_of ["places", "step", "marks", "mark"] f2 fd2)
    (G_mark_by : FnOk P w K mg base CX0 4 f3 fd3 ["places", "step", "marks", "turn"] (spMarkByQ K c)) (A_mark_by : At K mg "mark_by" s_mark_by ["places", "step", "marks", "turn"] f3 fd3) (G_beside : FnOk P w K mg base CX0 5 f4 fd4 ["places", "step", "marks", "place"] (spBesideQ K c)) (A_beside : At K mg "beside" s_beside ["places", "step", "marks", "place"] f4 fd4)
    (G_gaps : FnOk P w K mg base CX0 4 f5 fd5 ["places", "step", "marks"] (spGapsQ K c)) (A_gaps : At K mg "gaps" s_gaps ["places", "step", "marks"] f5 fd5) (G_most : FnOk P w K mg base CX0 3 f6 fd6 ["places", "step"] (spMostQ K c)) (A_most : At K mg "most" s_most ["places", "step"] f6 fd6)
    {f7 f8 f9 : Addr} {fd7 fd8 fd9 : FuncData} (G_first : FnOk P w K mg base CX0 3 f7 fd7 ["places", "step", "begin", "end"] (spFirstQ K c CF CN)) (A_first : At K mg "first" s_first ["places", "step", "begin", "end"] f7 fd7) (G__law_sound : FnOk P w K mg base CX0 1 f8 fd8 ["_law_thing"] (spSound K)) (A__law_sound : At K mg "_law_sound" s__law_sound ["_law_thing"] f8 fd8)
    (M_First_g : mg "First" = some (.ref CF)) (M_Never_g : mg "Never" = some (.ref CN)) {Cl_First : Cls K CF} {Cl_Never : Cls K CN} (Me_Never : Meth K CN "shows" f9) (G_Never_shows : FnOk P w K mg base CX0 3 f9 fd9 ["self", "places", "step", "begin", "end"] (spShN CN)) (B_Never_shows : Binds K fd9 ["self", "places", "step", "begin", "end"] []) :
    FnOk P w K mg base CX0 8 f fd ["_law_more"] spGreatR := by
  refine F.ok sc__law_great_right (fun vs H Q E h => ?_) (fun cdv A outer s H vs Q E hr h => ?_)
  · obtain ⟨n, rfl, _⟩ := h
    rfl
  · obtain ⟨n, rfl, n0, k⟩ := h
    refine ⟨_, (pss_cons (ps_par (i := 1) (j := 2) (by rfl) sc__law_great_right.nd rfl rfl (by decide) rfl rfl (pa_cons (pe_op op_pow pe_int pe_int) (pa_cons (pe_op op_mod (pv 0) (pe_op op_pow pe_int pe_int)) pa_nil)) (by rfl))
      (pss_cons (ps_if (pt_cmpR op_ne (pe_call G_most (hr.mono (by omega)) rfl A_most.g A_most.fn.kp A_most.b .nil pass0 (pa_cons (pv 1) (pa_cons pe_int pa_nil))) (pv 1) (nomark _)) (pss_cons (ps_ret pe_bl)
      pss_nil) pss_nil)
      (pss_cons (ps_if (pt_cmpR op_ne (pe_call G_most (hr.mono (by omega)) rfl A_most.g A_most.fn.kp A_most.b .nil pass0 (pa_cons (pv 1) (pa_cons pe_int pa_nil))) pe_int (nomark _)) (pss_cons (ps_ret pe_bl)
      pss_nil) pss_nil)
      (pss_cons (ps_if (pt_cmpR op_ne (pe_call G_most (hr.mono (by omega)) rfl A_most.g A_most.fn.kp A_most.b .nil pass0 (pa_cons (pv 1) (pa_cons (pe_op op_sub (pv 1) pe_int) pa_nil))) (pv 1) (nomark _)) (pss_cons (ps_ret pe_bl)
      pss_nil) pss_nil)
      (pss_cons (ps_if (pt_cmpR (op_neD hr.units) (pe_call G_gaps (hr.mono (by omega)) rfl A_gaps.g A_gaps.fn.kp A_gaps.b .nil pass0 (pa_cons (pv 1) (pa_cons pe_int (pa_cons (pv 1) pa_nil)))) (pe_lst (pa_cons (pe_tup (pa_cons pe_int (pa_cons (pv 1) pa_nil))) pa_nil)) (nomark _)) (pss_cons (ps_ret pe_bl)
      pss_nil) pss_nil)
      (pss_cons (ps_if (pt_cmpR (op_neD hr.units) (pe_call G_gaps (hr.mono (by omega)) rfl A_gaps.g A_gaps.fn.kp A_gaps.b .nil pass0 (pa_cons (pv 1) (pa_cons pe_int (pa_cons pe_int pa_nil)))) (pe_lst (pa_cons (pe_tup (pa_cons pe_int (pa_cons pe_int pa_nil))) (pa_cons (pe_tup (pa_cons (pe_op op_sub (pv 1) pe_int) (pa_cons pe_int pa_nil))) pa_nil))) (nomark _)) (pss_cons (ps_ret pe_bl)
      pss_nil) pss_nil)
      (pss_cons (ps_if (pt_cmpR (op_neD hr.units) (pe_call G_gaps (hr.mono (by omega)) rfl A_gaps.g A_gaps.fn.kp A_gaps.b .nil pass0 (pa_cons (pv 1) (pa_cons pe_int (pa_cons pe_int pa_nil)))) (pe_lst (pa_cons (pe_tup (pa_cons (pv 1) (pa_cons pe_int pa_nil))) pa_nil)) (nomark _)) (pss_cons (ps_ret pe_bl)
      pss_nil) pss_nil)
      (pss_cons (ps_if (pt_cmpR (op_neD hr.units) (pe_call G_beside (hr.mono (by omega)) rfl A_beside.g A_beside.fn.kp A_beside.b .nil pass0 (pa_cons (pv 1) (pa_cons pe_int (pa_cons pe_int (pa_cons (pv 2) pa_nil))))) (pe_tup (pa_cons pe_int (pa_cons pe_int pa_nil))) (nomark _)) (pss_cons (ps_ret pe_bl)
      pss_nil) pss_nil)
      (pss_cons (ps_if (pt_cmpR op_ne (pe_call G_turn_of (hr.mono (by omega)) rfl A_turn_of.g A_turn_of.fn.kp A_turn_of.b .nil pass0 (pa_cons (pv 1) (pa_cons pe_int (pa_cons (pv 1) (pa_cons (pe_op op_sub (pe_op op_sub (pv 1) pe_int) (pv 2)) pa_nil))))) (pe_op op_sub (pe_op op_sub (pv 1) pe_int) (pv 2)) (nomark _)) (pss_cons (ps_ret pe_bl)
      pss_nil) pss_nil)
      (pss_cons (ps_if (pt_cmpR op_ne (pe_call G_mark_by (hr.mono (by omega)) rfl A_mark_by.g A_mark_by.fn.kp A_mark_by.b .nil pass0 (pa_cons (pv 1) (pa_cons (pe_op op_sub (pv 1) pe_int) (pa_cons (pv 1) (pa_cons (pe_op op_add (pv 2) pe_int) pa_nil))))) (pe_op op_sub (pe_op op_sub (pv 1) pe_int) (pv 2)) (nomark _)) (pss_cons (ps_ret pe_bl)
      pss_nil) pss_nil)
      (pss_cons (ps_if (pt_cmpR op_ne (pe_call G_count (hr.mono (by omega)) rfl A_count.g A_count.fn.kp A_count.b .nil pass0 (pa_cons (pv 1) (pa_cons pe_int (pa_cons (pv 1) (pa_cons (pv 2) (pa_cons (pe_op op_sub (pv 1) pe_int) pa_nil)))))) (pe_op op_sub (pv 1) (pv 2)) (nomark _)) (pss_cons (ps_ret pe_bl)
      pss_nil) pss_nil)
      (pss_cons (ps_if (pt_cmpR (op_neD hr.units) (pe_call G_beside (hr.mono (by omega)) rfl A_beside.g A_beside.fn.kp A_beside.b .nil pass0 (pa_cons (pv 1) (pa_cons pe_int (pa_cons (pv 1) (pa_cons (pe_op op_sub (pv 1) pe_int) pa_nil))))) (pe_tup (pa_cons (pe_op op_sub (pv 1) pe_int) (pa_cons pe_int pa_nil))) (nomark _)) (pss_cons (ps_ret pe_bl)
      pss_nil) pss_nil)
      (pss_cons (ps_par (i := 3) (j := 4) (by rfl) sc__law_great_right.nd rfl rfl (by decide) rfl rfl (pa_cons (pe_call G_first (hr.mono (by omega)) rfl A_first.g A_first.fn.kp A_first.b .nil pass0 (pa_cons (pv 1) (pa_cons pe_int (pa_cons (pv 2) (pa_cons (pe_op op_sub (pv 1) pe_int) pa_nil))))) (pa_cons (pe_call G_first (hr.mono (by omega)) rfl A_first.g A_first.fn.kp A_first.b .nil pass0 (pa_cons (pv 1) (pa_cons pe_int (pa_cons pe_int (pa_cons (pe_op op_add pe_int (pv 2)) pa_nil))))) pa_nil)) (by rfl))
      (pss_cons (ps_if (pt_not (pt_val (pe_callB call_isi rfl hA.z_isinstance (by decide +kernel) (pa_cons (pv 3) (pa_cons (pe_glob (v := .ref _) rfl M_First_g rfl) pa_nil))))) (pss_cons (ps_ret pe_bl)
      pss_nil) pss_nil)
      (pss_cons (ps_if (pt_cmpR op_ne (pe_fld (pv 3) rfl) (pv 2) (nomark _)) (pss_cons (ps_ret pe_bl)
      pss_nil) pss_nil)
      (pss_cons (ps_if (pt_not (pt_val (pe_callB call_isi rfl hA.z_isinstance (by decide +kernel) (pa_cons (pv 4) (pa_cons (pe_glob (v := .ref _) rfl M_Never_g rfl) pa_nil))))) (pss_cons (ps_ret pe_bl)
      pss_nil) pss_nil)
      (pss_cons (ps_if (pt_cmpR op_notBl (pe_meth (pv 4) Cl_Never Me_Never G_Never_shows (hr.mono (by omega)) B_Never_shows .nil pass0 (pa_cons (pv 1) (pa_cons pe_int (pa_cons pe_int (pa_cons (pe_op op_add pe_int (pv 2)) pa_nil))))) pe_bl (nomark _)) (pss_cons (ps_ret pe_bl)
      pss_nil) pss_nil)
      (pss_cons (ps_set (i := 5) sc__law_great_right.nd rfl (Or.inl rfl) (pe_call G_first (hr.mono (by omega)) rfl A_first.g A_first.fn.kp A_first.b .nil pass0 (pa_cons (pv 1) (pa_cons (pe_op op_sub (pv 1) pe_int) (pa_cons (pe_op op_sub (pe_op op_sub (pv 1) pe_int) (pv 2)) (pa_cons (pe_op op_sub (pv 1) pe_int) pa_nil))))))
      (pss_cons (ps_if (pt_not (pt_val (pe_callB call_isi rfl hA.z_isinstance (by decide +kernel) (pa_cons (pv 5) (pa_cons (pe_glob (v := .ref _) rfl M_First_g rfl) pa_nil))))) (pss_cons (ps_ret pe_bl)
      pss_nil) pss_nil)
      (pss_cons (ps_if (pt_cmpR op_ne (pe_fld (pv 5) rfl) pe_int (nomark _)) (pss_cons (ps_ret pe_bl)
      pss_nil) pss_nil)
      (pss_cons (ps_ret (pe_call G__law_sound (hr.mono (by omega)) rfl A__law_sound.g A__law_sound.fn.kp A__law_sound.b .nil pass0 (pa_cons (pe_lst (pa_cons (pe_fld (pv 3) rfl) (pa_cons (pe_fld (pv 4) rfl) (pa_cons (pe_call G_gaps (hr.mono (by omega)) rfl A_gaps.g A_gaps.fn.kp A_gaps.b .nil pass0 (pa_cons (pv 1) (pa_cons pe_int (pa_cons pe_int pa_nil)))) (pa_cons (pe_call G_most (hr.mono (by omega)) rfl A_most.g A_most.fn.kp A_most.b .nil pass0 (pa_cons (pv 1) (pa_cons pe_int pa_nil))) pa_nil))))) pa_nil)))
      pss_nil))))))))))))))))))))), Go.at ?_⟩
    have p10 : ∀ {n : Int} {σ : L2.St} {H : Hp}, CPow 10 n → Ev (tOp (rI CPow fun i j => .int (i ^ j.toNat)) (tC (.int 10)) (tC (.int n))) σ H (.int (10 ^ n.toNat)) := fun h => ev_op ev_c ev_c (rv_I h)
    have e50 : (10 : Int) ^ 50 = 100000000000000000000000000000000000000000000000000 := by decide
    have e9 : (10 : Int) ^ 9 = 1000000000 := by decide
    refine g_par (ea_cons (ev_is (p10 ⟨by decide, by decide, by decide⟩) (congrArg V.int e50)) (ea_cons (ev_op (ev_var rfl) (ev_is (p10 ⟨by decide, by decide, by decide⟩) (congrArg V.int e9)) (rv_I (by decide))) ea_nil)) ?_
    have a0 : 0 ≤ n % 1000000000 := by omega
    have a1 : n % 1000000000 < 1000000000 := by omega
    refine (show Go _ _ ([some (.int n), some (.int 100000000000000000000000000000000000000000000000000), some (.int (n % 1000000000)), none, none, none] : L2.St) H from ?_)
    obtain ⟨N, hN⟩ : ∃ N : Int, (100000000000000000000000000000000000000000000000000 : Int) = N := ⟨_, rfl⟩
    have hb : 10000000000 ≤ N := by omega
    have lN : Lv 1 N := hN ▸ lv50
    rw [hN]
    generalize n % 1000000000 = a at *
    have eb : ∀ {σ : L2.St} {H : Hp}, σ[1]? = some (some (.int N)) → Ev (tOp (rI0 fun i j => .int (i - j)) (tVar 1) (tC (.int 1))) σ H (.int (N - 1)) := fun h => ev_op (ev_var h) ev_c rv_I0
    have ec : ∀ {σ : L2.St} {H : Hp}, σ[1]? = some (some (.int N)) → σ[2]? = some (some (.int a)) → Ev (tOp (rI0 fun i j => .int (i - j)) (tOp (rI0 fun i j => .int (i - j)) (tVar 1) (tC (.int 1))) (tVar 2)) σ H (.int (N - 1 - a)) := fun h h2 => ev_op (eb h) (ev_var h2) rv_I0
    refine g_when (b := false) (et_is (et_test (ev_op (ev_is (ev_call1 (ea_cons (ev_var rfl) (ea_cons ev_c ea_nil)) (spv_most (ring1 hb) lN)) (congrArg V.int (top_one N))) (ev_var rfl) (rv_ne rfl))) (ne_same rfl)) (fun h => nomatch h) (fun _ => ?_)
    refine g_when (b := false) (et_is (et_test (ev_op (ev_is (ev_call1 (ea_cons (ev_var rfl) (ea_cons ev_c ea_nil)) (spv_most (ring0 hb) lN)) (congrArg V.int (top_zero (by omega)))) ev_c (rv_ne rfl))) (ne_same rfl)) (fun h => nomatch h) (fun _ => ?_)
    refine g_when (b := false) (et_is (et_test (ev_op (ev_is (ev_call1 (ea_cons (ev_var rfl) (ea_cons (eb rfl) ea_nil)) (spv_most (ringb hb) lN)) (congrArg V.int (top_back hb))) (ev_var rfl) (rv_ne rfl))) (ne_same rfl)) (fun h => nomatch h) (fun _ => ?_)
    refine g_when (b := false) (no_pairs (gok_NN hb lN) (ea_cons (ev_var rfl) (ea_cons ev_c (ea_cons (ev_var rfl) ea_nil))) (ed_lst (eds_cons (ed_tup (eds_cons (ed_int ev_c) (eds_cons (ed_int (ev_var rfl)) eds_nil)) (by show 2 ≤ 100000; decide)) eds_nil) (by show 1 ≤ 100000; decide))) (fun h => nomatch h) (fun _ => ?_)
    refine g_when (b := false) (no_pairs (gok_N3 hb lN) (ea_cons (ev_var rfl) (ea_cons ev_c (ea_cons ev_c ea_nil))) (ed_lst (eds_cons (ed_tup (eds_cons (ed_int ev_c) (eds_cons (ed_int ev_c) eds_nil)) (by show 2 ≤ 100000; decide)) (eds_cons (ed_tup (eds_cons (ed_int (ev_op (ev_var rfl) ev_c rv_I0)) (eds_cons (ed_int ev_c) eds_nil)) (by show 2 ≤ 100000; decide)) eds_nil)) (by show 2 ≤ 100000; decide))) (fun h => nomatch h) (fun _ => ?_)
    refine g_when (b := false) (no_pairs (gok_1 (ring0 hb) lN) (ea_cons (ev_var rfl) (ea_cons ev_c (ea_cons ev_c ea_nil))) (ed_lst (eds_cons (ed_tup (eds_cons (ed_int (ev_var rfl)) (eds_cons (ed_int ev_c) eds_nil)) (by show 2 ≤ 100000; decide)) eds_nil) (by show 1 ≤ 100000; decide))) (fun h => nomatch h) (fun _ => ?_)
    refine g_when (b := false) (no_beside (bok_N0 hb lN a0 a1) (ea_cons (ev_var rfl) (ea_cons ev_c (ea_cons ev_c (ea_cons (ev_var rfl) ea_nil)))) (ed_tup (eds_cons (ed_int ev_c) (eds_cons (ed_int ev_c) eds_nil)) (by show 2 ≤ 100000; decide))) (fun h => nomatch h) (fun _ => ?_)
    refine g_when (b := false) (et_is (et_test (ev_op (ev_is (w := .int (N - 1 - a)) (ev_call1 (ea_cons (ev_var rfl) (ea_cons ev_c (ea_cons (ev_var rfl) (ea_cons (ec rfl rfl) ea_nil)))) (spv_turnOf (ring1 hb) lN (show 1 ≤ N by omega) (by rw [top_one]; exact Int.le_refl _) (show 0 ≤ N - 1 - a by omega) (by omega))) (congrArg V.int (turnN hb a0 a1))) (ec rfl rfl) (rv_ne rfl))) (ne_same rfl)) (fun h => nomatch h) (fun _ => ?_)
    refine g_when (b := false) (et_is (et_test (ev_op (ev_is (w := .int (N - 1 - a)) (ev_call1 (ea_cons (ev_var rfl) (ea_cons (eb rfl) (ea_cons (ev_var rfl) (ea_cons (ev_op (ev_var rfl) ev_c rv_I0) ea_nil)))) (spv_markBy (ringb hb) lN (show 1 ≤ N by omega) (by rw [top_back hb]; exact Int.le_refl _) (show 0 ≤ a + 1 by omega) (by omega))) (congrArg V.int (markN hb a0 a1))) (ec rfl rfl) (rv_ne rfl))) (ne_same rfl)) (fun h => nomatch h) (fun _ => ?_)
    refine g_when (b := false) (et_is (et_test (ev_op (ev_is (w := .int (N - a)) (ev_call1 (ea_cons (ev_var rfl) (ea_cons ev_c (ea_cons (ev_var rfl) (ea_cons (ev_var rfl) (ea_cons (eb rfl) ea_nil))))) (spv_count (ring1 hb) lN (show 1 ≤ N by omega) (by rw [top_one]; exact Int.le_refl _) a0 (show a ≤ N - 1 by omega) (by omega))) (congrArg V.int (countN hb a0 a1))) (ev_op (ev_var rfl) (ev_var rfl) rv_I0) (rv_ne rfl))) (ne_same rfl)) (fun h => nomatch h) (fun _ => ?_)
    refine g_when (b := false) (no_beside (bok_N1 hb lN) (ea_cons (ev_var rfl) (ea_cons ev_c (ea_cons (ev_var rfl) (ea_cons (eb rfl) ea_nil)))) (ed_tup (eds_cons (ed_int (eb rfl)) (eds_cons (ed_int ev_c) eds_nil)) (by show 2 ≤ 100000; decide))) (fun h => nomatch h) (fun _ => ?_)
    refine g_par2P (evp_firstI (ring1 hb) lN a0 (show a ≤ N - 1 by omega) (by omega) (firstN hb a0 a1) (ea_cons (ev_var rfl) (ea_cons ev_c (ea_cons (ev_var rfl) (ea_cons (eb rfl) ea_nil))))) (evp_neverI (ring0 hb) lN (show (0 : Int) ≤ 1 by decide) (show 1 ≤ 5 + a by omega) (by omega) (G_N0 hb) (noN hb a0 a1) (ea_cons (ev_var rfl) (ea_cons ev_c (ea_cons ev_c (ea_cons (ev_op ev_c (ev_var rfl) rv_I0) ea_nil))))) firstI_ex ?_
    rintro u v H1 e1 ⟨x, rfl, dx, hx⟩ ⟨y, rfl, dy, hy⟩
    refine (show Go _ _ ([some (.int n), some (.int N), some (.int a), some (.ref x), some (.ref y), none] : L2.St) H1 from ?_)
    refine g_when (b := false) (et_not (a := true) (et_B (ev_isIns (ev_var rfl) hx iF kFF))) (fun h => nomatch h) (fun _ => ?_)
    refine g_when (b := false) (et_is (et_test (ev_op (ev_fld (ev_var rfl) hx Cl_First naF lk_eq) (ev_var rfl) (rv_ne rfl))) (ne_same rfl)) (fun h => nomatch h) (fun _ => ?_)
    refine g_when (b := false) (et_not (a := true) (et_B (ev_isIns (ev_var rfl) hy iN kNN))) (fun h => nomatch h) (fun _ => ?_)
    refine g_when (b := false) (et_is (et_test (ev_op (ev_is (ev_meth (ev_var rfl) hy (lk_ne (by decide)) (ea_cons (ev_var rfl) (ea_cons ev_c (ea_cons ev_c (ea_cons (ev_op ev_c (ev_var rfl) rv_I0) ea_nil)))) (spv_shN ⟨dy, hy⟩ (lv_small (show (5 + a).natAbs ≤ _ by omega)) lN)) (congrArg V.bl (shN0 hb a0 a1))) ev_c rv_notB)) rfl) (fun h => nomatch h) (fun _ => ?_)
    refine g_asgP (evp_firstI (ringb hb) lN (show 0 ≤ N - 1 - a by omega) (show N - 1 - a ≤ N - 1 by omega) (by omega) (lastN hb a0 a1) (ea_cons (ev_var rfl) (ea_cons (eb rfl) (ea_cons (ec rfl rfl) (ea_cons (eb rfl) ea_nil))))) ?_
    rintro v H2 e2 ⟨z, rfl, dz, hz⟩
    have hx2 := e2 _ _ hx
    have hy2 := e2 _ _ hy
    refine (show Go _ _ ([some (.int n), some (.int N), some (.int a), some (.ref x), some (.ref y), some (.ref z)] : L2.St) H2 from ?_)
    refine g_when (b := false) (et_not (a := true) (et_B (ev_isIns (ev_var rfl) hz iF kFF))) (fun h => nomatch h) (fun _ => ?_)
    refine g_when (b := false) (et_is (et_test (ev_op (ev_fld (ev_var rfl) hz Cl_First naF lk_eq) ev_c (rv_ne rfl))) (ne_same rfl)) (fun h => nomatch h) (fun _ => ?_)
    have gl := elt_gaps (K := K) (c := c) (E := E0) (H := H2) (σ := [some (.int n), some (.int N), some (.int a), some (.ref x), some (.ref y), some (.ref z)]) (ta := tCons (tVar 1) (tCons (tC (.int 1)) (tCons (tC (.int 3)) tNil))) (gok_N3 hb lN).R lN (gok_N3 hb lN).m1 (gok_N3 hb lN).m2 (ea_cons (ev_var rfl) (ea_cons ev_c (ea_cons ev_c ea_nil)))
    rw [(gok_N3 hb lN).g] at gl
    exact g_ret (v := .bl true) (ev_soundD (d := .list [.int a, .int N, .list (dPairs [(1, 2), (N - 2, 1)]), .int N]) (ed_lst (eds_cons (ed_int (ev_fld (ev_var rfl) hx2 Cl_First naF lk_eq)) (eds_cons (ed_int (ev_fld (ev_var rfl) hy2 Cl_Never naN lk_eq)) (eds_cons (ed_LT gl) (eds_cons (ed_int (ev_is (ev_call1 (ea_cons (ev_var rfl) (ea_cons ev_c ea_nil)) (spv_most (ring1 hb) lN)) (congrArg V.int (top_one N)))) eds_nil)))) (by show 4 ≤ 100000; decide)) rfl (by show 3 ≤ 50; decide) (Nat.le_of_ble_eq_true rfl)) fun H3 e3 => k H3 ((e1.trans e2).trans e3)
/-! ### rings of twelve -/
abbrev HC := (Bool × Int) × Int × Int × Int × Int × Bool
def toS (x : HC) : SC := (x.2.1, x.2.2.1, x.2.2.2.1, x.2.2.2.2.1, x.1, x.2.2.2.2.2)
def prAns (CF CN : Addr) (y : Bool × Int) : Pr := ⟨fun v H => ∃ x, v = .ref x ∧ (y.1 = true → AnsAt H CF x "mark" y.2) ∧ (y.1 = false → AnsAt H CN x "common" y.2), fun v H H' e ⟨x, h1, h2, h3⟩ => ⟨x, h1, fun q => (h2 q).ex e, fun q => (h3 q).ex e⟩⟩
def hRow (CF CN : Addr) (x : HC) : List Pr := [prAns CF CN x.1, prV (.int x.2.1), prV (.int x.2.2.1), prV (.int x.2.2.2.1), prV (.int x.2.2.2.2.1), prV (.bl x.2.2.2.2.2)]
section
variable {σ : L2.St} {H : Hp} {te : TE} {t1 t2 : TE} {v : V}
theorem evp_First {CF CN : Addr} {E : XK} {k : Int} (h : Ev te σ H (.int k)) : EvP (tMake CF (spIni CF "mark") [] E (tCons te tNil)) σ H (prAns CF CN (true, k)).R := fun H1 e Q q =>
  ev_make (ea_cons h ea_nil) H1 e Q fun x H2 _ e2 hx => q _ H2 e2 ⟨x, rfl, fun _ => hx, fun z => nomatch z⟩
theorem evp_Never {CF CN : Addr} {E : XK} {k : Int} (h : Ev te σ H (.int k)) : EvP (tMake CN (spIni CN "common") [] E (tCons te tNil)) σ H (prAns CF CN (false, k)).R := fun H1 e Q q =>
  ev_make (ea_cons h ea_nil) H1 e Q fun x H2 _ e2 hx => q _ H2 e2 ⟨x, rfl, (fun z => nomatch z), fun _ => hx⟩
theorem ev_inl (h : Ev t1 σ H v) : Ev (fun σ H Q => t1 σ H Q ∨ t2 σ H Q) σ H v := fun H1 e Q q => .inl (h H1 e Q q)
theorem ev_inr (h : Ev t2 σ H v) : Ev (fun σ H Q => t1 σ H Q ∨ t2 σ H Q) σ H v := fun H1 e Q q => .inr (h H1 e Q q)
end
theorem hand_ok : ∀ x ∈ ((((((((([((true, 5), 12, 5, 1, 2, true), ((true, 10), 12, 5, 1, 2, false)] : List HC) ++ [((true, (-7)), 12, 5, 1, 2, false), ((true, 17), 12, 5, 1, 2, false)]) ++ [((false, 1), 12, 5, 1, 2, false), ((false, 4), 12, 4, 1, 3, true)]) ++ [((false, 2), 12, 4, 1, 3, false), ((false, 4), 12, 4, 1, 4, false)]) ++ [((false, 8), 12, 4, 1, 7, false), ((false, 12), 12, 0, 1, 11, true)]) ++ [((false, 12), 12, 0, 0, 11, false), ((false, 24), 12, 0, 1, 11, false)]) ++ [((false, (-4)), 12, 4, 1, 3, false), ((false, 0), 12, 4, 1, 3, false)]) ++ [((false, 100000000000000000000000000000000000000000000000000), 12, 4, 1, 3, false), ((true, 0), 12, 0, 0, 11, true)]) ++ [((true, 100000000000000000000000000000000000000000000000000), 12, 5, 1, 2, false), ((true, 1), 12, 4, 4, 4, true)]), ShowOk (toS x) := by
  refine all_cons (sok_c (by decide +kernel)) ?_
  refine all_cons (sok_c (by decide +kernel)) ?_
  refine all_cons (sok_c (by decide +kernel)) ?_
  refine all_cons (sok_c (by decide +kernel)) ?_
  refine all_cons (sok_c (by decide +kernel)) ?_
  refine all_cons (sok_c (by decide +kernel)) ?_
  refine all_cons (sok_c (by decide +kernel)) ?_
  refine all_cons (sok_c (by decide +kernel)) ?_
  refine all_cons (sok_c (by decide +kernel)) ?_
  refine all_cons (sok_c (by decide +kernel)) ?_
  refine all_cons (sok_c (by decide +kernel)) ?_
  refine all_cons (sok_c (by decide +kernel)) ?_
  refine all_cons (sok_c (by decide +kernel)) ?_
  refine all_cons (sok_c (by decide +kernel)) ?_
  refine all_cons ⟨ringc (by decide), lv_small (by decide), by decide, by decide, by decide, lv50, by decide +kernel⟩ ?_
  refine all_cons (sok_c (by decide +kernel)) ?_
  refine all_cons ⟨ringc (by decide), lv_small (by decide), by decide, by decide, by decide, lv50, by decide +kernel⟩ ?_
  refine all_cons (sok_c (by decide +kernel)) ?_
  exact all_nil
abbrev s__law_hand_right : Stmt := topS 43
theorem sc__law_hand_right : FnScope ["_law_places", "_law_at", "_law_place", "_law_found", "_law_rows", "_law_made", "_law_many", "_law_step", "_law_begin", "_law_end", "_law_due", "_law_said"] [] (defScope s__law_hand_right) := ⟨rfl, rfl, rfl, by decide +kernel, rfl, by decide +kernel, by decide +kernel⟩
def spHand : Sp := fun vs H Q _ => vs = [] ∧ ∀ H', Ex H H' → Q (.bl true) H'
theorem spv_hand {H : Hp} : SpV spHand [] H (.bl true) := fun H1 e Q q E => ⟨rfl, q⟩
theorem ok__law_hand_right {c : Cs} {CF CN : Addr} (iF : InsI K CF) (naF : NoAttr K CF "mark") (kFF : PySem.W.kitOne K (.ref CF) (.ref CF) = some true) (hA : Blt mg) (F : Fun K "_law_hand_right" "_law_hand_right" s__law_hand_right f fd)
    (G_first : FnOk P w K mg base CX0 3 f1 fd1 ["places", "step", "begin", "end"] (spFirstQ K c CF CN)) (A_first : At K mg "first" s_first ["places", "step", "begin", "end"] f1 fd1)
    {Cl_First : Cls K CF} (M_First : Mk K CF f2) (G_First___init__ : FnOk P w K mg base CX0 1 f2 fd2 ["self", "mark"] (spIni CF "mark")) (M_First_g : mg "First" = some (.ref CF)) (B_First___init__ : Binds K fd2 ["self", "mark"] [])
    {Cl_Never : Cls K CN} (M_Never : Mk K CN f3) (G_Never___init__ : FnOk P w K mg base CX0 1 f3 fd3 ["self", "common"] (spIni CN "common")) (M_Never_g : mg "Never" = some (.ref CN)) (B_Never___init__ : Binds K fd3 ["self", "common"] [])
    (Me_First : Meth K CF "shows" f4) (G_First_shows : FnOk P w K mg base CX0 3 f4 fd4 ["self", "places", "step", "begin", "end"] (spShF CF)) (B_First_shows : Binds K fd4 ["self", "places", "step", "begin", "end"] [])
    (Me_Never : Meth K CN "shows" f5) (G_Never_shows : FnOk P w K mg base CX0 3 f5 fd5 ["self", "places", "step", "begin", "end"] (spShN CN)) (B_Never_shows : Binds K fd5 ["self", "places", "step", "begin", "end"] [])
    {f7 f8 f9 : Addr} {fd7 fd8 fd9 : FuncData} (G_turn_of : FnOk P w K mg base CX0 4 f6 fd6 ["places", "step", "marks", "mark"] (spTurnQ K c)) (A_turn_of : At K mg "turn_of" s_turn_of ["places", "step", "marks", "mark"] f6 fd6)
    (G_mark_by : FnOk P w K mg base CX0 4 f7 fd7 ["places", "step", "marks", "turn"] (spMarkByQ K c)) (A_mark_by : At K mg "mark_by" s_mark_by ["places", "step", "marks", "turn"] f7 fd7)
    (G_gaps : FnOk P w K mg base CX0 4 f8 fd8 ["places", "step", "marks"] (spGapsQ K c)) (A_gaps : At K mg "gaps" s_gaps ["places", "step", "marks"] f8 fd8) (G_beside : FnOk P w K mg base CX0 5 f9 fd9 ["places", "step", "marks", "place"] (spBesideQ K c)) (A_beside : At K mg "beside" s_beside ["places", "step", "marks", "place"] f9 fd9) :
    FnOk P w K mg base CX0 6 f fd [] spHand := by
  refine F.ok sc__law_hand_right (fun vs H Q E h => ?_) (fun cdv A outer s H vs Q E hr h => ?_)
  · obtain ⟨rfl, _⟩ := h
    rfl
  · obtain ⟨rfl, k⟩ := h
    refine ⟨_, (pss_cons (ps_set (i := 0) sc__law_hand_right.nd rfl (Or.inl rfl) (pe_lst (pa_cons pe_int (pa_cons pe_int (pa_cons pe_int (pa_cons pe_int (pa_cons pe_int (pa_cons pe_int (pa_cons pe_int (pa_cons pe_int (pa_cons pe_int (pa_cons pe_int (pa_cons pe_int (pa_cons pe_int pa_nil))))))))))))))
      (pss_cons (ps_for PassesOwn.never rfl (pi_enum rfl hA.z_enumerate (pa_cons (pv 0) pa_nil)) (pg_tup rfl (pgs_cons (pg_name (i := 1) sc__law_hand_right.nd rfl (Or.inl rfl)) (pgs_cons (pg_name (i := 2) sc__law_hand_right.nd rfl (Or.inl rfl)) pgs_nil))) (pss_cons (ps_set (i := 3) sc__law_hand_right.nd rfl (Or.inl rfl) (pe_call G_first (hr.mono (by omega)) rfl A_first.g A_first.fn.kp A_first.b .nil pass0 (pa_cons pe_int (pa_cons pe_int (pa_cons (pv 2) (pa_cons (pv 2) pa_nil))))))
      (pss_cons (ps_if (pt_not (pt_val (pe_callB call_isi rfl hA.z_isinstance (by decide +kernel) (pa_cons (pv 3) (pa_cons (pe_glob (v := .ref _) rfl M_First_g rfl) pa_nil))))) (pss_cons (ps_ret pe_bl)
      pss_nil) pss_nil)
      (pss_cons (ps_if (pt_cmpR op_ne (pe_fld (pv 3) rfl) (pv 1) (nomark _)) (pss_cons (ps_ret pe_bl)
      pss_nil) pss_nil)
      (pss_cons (ps_if (pt_cmpR op_ne (pe_call G_turn_of (hr.mono (by omega)) rfl A_turn_of.g A_turn_of.fn.kp A_turn_of.b .nil pass0 (pa_cons pe_int (pa_cons pe_int (pa_cons pe_int (pa_cons (pv 1) pa_nil))))) (pv 2) (nomark _)) (pss_cons (ps_ret pe_bl)
      pss_nil) pss_nil)
      (pss_cons (ps_if (pt_cmpR op_ne (pe_call G_mark_by (hr.mono (by omega)) rfl A_mark_by.g A_mark_by.fn.kp A_mark_by.b .nil pass0 (pa_cons pe_int (pa_cons pe_int (pa_cons pe_int (pa_cons (pv 2) pa_nil))))) (pv 1) (nomark _)) (pss_cons (ps_ret pe_bl)
      pss_nil) pss_nil)
      pss_nil))))))
      (pss_cons (ps_set (i := 4) sc__law_hand_right.nd rfl (Or.inl rfl) (pe_lst (pa_cons (pe_tup (pa_cons (pe_make M_First G_First___init__ (hr.mono (by omega)) rfl M_First_g B_First___init__ .nil pass0 (pa_cons pe_int pa_nil)) (pa_cons pe_int (pa_cons pe_int (pa_cons pe_int (pa_cons pe_int (pa_cons pe_bl pa_nil))))))) (pa_cons (pe_tup (pa_cons (pe_make M_First G_First___init__ (hr.mono (by omega)) rfl M_First_g B_First___init__ .nil pass0 (pa_cons pe_int pa_nil)) (pa_cons pe_int (pa_cons pe_int (pa_cons pe_int (pa_cons pe_int (pa_cons pe_bl pa_nil))))))) pa_nil))))
      (pss_cons (ps_set (i := 4) sc__law_hand_right.nd rfl (Or.inl rfl) (pe_op op_cat (pv 4) (pe_lst (pa_cons (pe_tup (pa_cons (pe_make M_First G_First___init__ (hr.mono (by omega)) rfl M_First_g B_First___init__ .nil pass0 (pa_cons (pe_un un_neg pe_int) pa_nil)) (pa_cons pe_int (pa_cons pe_int (pa_cons pe_int (pa_cons pe_int (pa_cons pe_bl pa_nil))))))) (pa_cons (pe_tup (pa_cons (pe_make M_First G_First___init__ (hr.mono (by omega)) rfl M_First_g B_First___init__ .nil pass0 (pa_cons pe_int pa_nil)) (pa_cons pe_int (pa_cons pe_int (pa_cons pe_int (pa_cons pe_int (pa_cons pe_bl pa_nil))))))) pa_nil)))))
      (pss_cons (ps_set (i := 4) sc__law_hand_right.nd rfl (Or.inl rfl) (pe_op op_cat (pv 4) (pe_lst (pa_cons (pe_tup (pa_cons (pe_make M_Never G_Never___init__ (hr.mono (by omega)) rfl M_Never_g B_Never___init__ .nil pass0 (pa_cons pe_int pa_nil)) (pa_cons pe_int (pa_cons pe_int (pa_cons pe_int (pa_cons pe_int (pa_cons pe_bl pa_nil))))))) (pa_cons (pe_tup (pa_cons (pe_make M_Never G_Never___init__ (hr.mono (by omega)) rfl M_Never_g B_Never___init__ .nil pass0 (pa_cons pe_int pa_nil)) (pa_cons pe_int (pa_cons pe_int (pa_cons pe_int (pa_cons pe_int (pa_cons pe_bl pa_nil))))))) pa_nil)))))
      (pss_cons (ps_set (i := 4) sc__law_hand_right.nd rfl (Or.inl rfl) (pe_op op_cat (pv 4) (pe_lst (pa_cons (pe_tup (pa_cons (pe_make M_Never G_Never___init__ (hr.mono (by omega)) rfl M_Never_g B_Never___init__ .nil pass0 (pa_cons pe_int pa_nil)) (pa_cons pe_int (pa_cons pe_int (pa_cons pe_int (pa_cons pe_int (pa_cons pe_bl pa_nil))))))) (pa_cons (pe_tup (pa_cons (pe_make M_Never G_Never___init__ (hr.mono (by omega)) rfl M_Never_g B_Never___init__ .nil pass0 (pa_cons pe_int pa_nil)) (pa_cons pe_int (pa_cons pe_int (pa_cons pe_int (pa_cons pe_int (pa_cons pe_bl pa_nil))))))) pa_nil)))))
      (pss_cons (ps_set (i := 4) sc__law_hand_right.nd rfl (Or.inl rfl) (pe_op op_cat (pv 4) (pe_lst (pa_cons (pe_tup (pa_cons (pe_make M_Never G_Never___init__ (hr.mono (by omega)) rfl M_Never_g B_Never___init__ .nil pass0 (pa_cons pe_int pa_nil)) (pa_cons pe_int (pa_cons pe_int (pa_cons pe_int (pa_cons pe_int (pa_cons pe_bl pa_nil))))))) (pa_cons (pe_tup (pa_cons (pe_make M_Never G_Never___init__ (hr.mono (by omega)) rfl M_Never_g B_Never___init__ .nil pass0 (pa_cons pe_int pa_nil)) (pa_cons pe_int (pa_cons pe_int (pa_cons pe_int (pa_cons pe_int (pa_cons pe_bl pa_nil))))))) pa_nil)))))
      (pss_cons (ps_set (i := 4) sc__law_hand_right.nd rfl (Or.inl rfl) (pe_op op_cat (pv 4) (pe_lst (pa_cons (pe_tup (pa_cons (pe_make M_Never G_Never___init__ (hr.mono (by omega)) rfl M_Never_g B_Never___init__ .nil pass0 (pa_cons pe_int pa_nil)) (pa_cons pe_int (pa_cons pe_int (pa_cons pe_int (pa_cons pe_int (pa_cons pe_bl pa_nil))))))) (pa_cons (pe_tup (pa_cons (pe_make M_Never G_Never___init__ (hr.mono (by omega)) rfl M_Never_g B_Never___init__ .nil pass0 (pa_cons pe_int pa_nil)) (pa_cons pe_int (pa_cons pe_int (pa_cons pe_int (pa_cons pe_int (pa_cons pe_bl pa_nil))))))) pa_nil)))))
      (pss_cons (ps_set (i := 4) sc__law_hand_right.nd rfl (Or.inl rfl) (pe_op op_cat (pv 4) (pe_lst (pa_cons (pe_tup (pa_cons (pe_make M_Never G_Never___init__ (hr.mono (by omega)) rfl M_Never_g B_Never___init__ .nil pass0 (pa_cons (pe_un un_neg pe_int) pa_nil)) (pa_cons pe_int (pa_cons pe_int (pa_cons pe_int (pa_cons pe_int (pa_cons pe_bl pa_nil))))))) (pa_cons (pe_tup (pa_cons (pe_make M_Never G_Never___init__ (hr.mono (by omega)) rfl M_Never_g B_Never___init__ .nil pass0 (pa_cons pe_int pa_nil)) (pa_cons pe_int (pa_cons pe_int (pa_cons pe_int (pa_cons pe_int (pa_cons pe_bl pa_nil))))))) pa_nil)))))
      (pss_cons (ps_set (i := 4) sc__law_hand_right.nd rfl (Or.inl rfl) (pe_op op_cat (pv 4) (pe_lst (pa_cons (pe_tup (pa_cons (pe_make M_Never G_Never___init__ (hr.mono (by omega)) rfl M_Never_g B_Never___init__ .nil pass0 (pa_cons (pe_op op_pow pe_int pe_int) pa_nil)) (pa_cons pe_int (pa_cons pe_int (pa_cons pe_int (pa_cons pe_int (pa_cons pe_bl pa_nil))))))) (pa_cons (pe_tup (pa_cons (pe_make M_First G_First___init__ (hr.mono (by omega)) rfl M_First_g B_First___init__ .nil pass0 (pa_cons pe_int pa_nil)) (pa_cons pe_int (pa_cons pe_int (pa_cons pe_int (pa_cons pe_int (pa_cons pe_bl pa_nil))))))) pa_nil)))))
      (pss_cons (ps_set (i := 4) sc__law_hand_right.nd rfl (Or.inl rfl) (pe_op op_cat (pv 4) (pe_lst (pa_cons (pe_tup (pa_cons (pe_make M_First G_First___init__ (hr.mono (by omega)) rfl M_First_g B_First___init__ .nil pass0 (pa_cons (pe_op op_pow pe_int pe_int) pa_nil)) (pa_cons pe_int (pa_cons pe_int (pa_cons pe_int (pa_cons pe_int (pa_cons pe_bl pa_nil))))))) (pa_cons (pe_tup (pa_cons (pe_make M_First G_First___init__ (hr.mono (by omega)) rfl M_First_g B_First___init__ .nil pass0 (pa_cons pe_int pa_nil)) (pa_cons pe_int (pa_cons pe_int (pa_cons pe_int (pa_cons pe_int (pa_cons pe_bl pa_nil))))))) pa_nil)))))
      (pss_cons (ps_for PassesOwn.never rfl (pi_list (pv 4)) (pg_tup rfl (pgs_cons (pg_name (i := 5) sc__law_hand_right.nd rfl (Or.inl rfl)) (pgs_cons (pg_name (i := 6) sc__law_hand_right.nd rfl (Or.inl rfl)) (pgs_cons (pg_name (i := 7) sc__law_hand_right.nd rfl (Or.inl rfl)) (pgs_cons (pg_name (i := 8) sc__law_hand_right.nd rfl (Or.inl rfl)) (pgs_cons (pg_name (i := 9) sc__law_hand_right.nd rfl (Or.inl rfl)) (pgs_cons (pg_name (i := 10) sc__law_hand_right.nd rfl (Or.inl rfl)) pgs_nil))))))) (pss_cons (ps_set (i := 11) sc__law_hand_right.nd rfl (Or.inl rfl) (pe_orR (pe_meth (pv 5) Cl_First Me_First G_First_shows (hr.mono (by omega)) B_First_shows .nil pass0 (pa_cons (pv 6) (pa_cons (pv 7) (pa_cons (pv 8) (pa_cons (pv 9) pa_nil))))) (pe_meth (pv 5) Cl_Never Me_Never G_Never_shows (hr.mono (by omega)) B_Never_shows .nil pass0 (pa_cons (pv 6) (pa_cons (pv 7) (pa_cons (pv 8) (pa_cons (pv 9) pa_nil)))))))
      (pss_cons (ps_if (PW.pt (pw_or (pt_not (pt_val (pe_callB call_isi rfl hA.z_isinstance (by decide +kernel) (pa_cons (pv 11) (pa_cons (pe_bltn (v := .ty "bool") (u := .type "bool") rfl hA.z_bool (by decide +kernel) rfl) pa_nil))))) (pw_or1 (pt_cmpR op_ne (pv 11) (pv 10) (nomark _))))) (pss_cons (ps_ret pe_bl)
      pss_nil) pss_nil)
      pss_nil)))
      (pss_cons (ps_if (pt_cmpR (op_neD hr.units) (pe_call G_gaps (hr.mono (by omega)) rfl A_gaps.g A_gaps.fn.kp A_gaps.b .nil pass0 (pa_cons pe_int (pa_cons pe_int (pa_cons pe_int pa_nil)))) (pe_lst (pa_cons (pe_tup (pa_cons pe_int (pa_cons pe_int pa_nil))) (pa_cons (pe_tup (pa_cons pe_int (pa_cons pe_int pa_nil))) pa_nil))) (nomark _)) (pss_cons (ps_ret pe_bl)
      pss_nil) pss_nil)
      (pss_cons (ps_if (pt_cmpR (op_neD hr.units) (pe_call G_gaps (hr.mono (by omega)) rfl A_gaps.g A_gaps.fn.kp A_gaps.b .nil pass0 (pa_cons pe_int (pa_cons pe_int (pa_cons pe_int pa_nil)))) (pe_lst (pa_cons (pe_tup (pa_cons pe_int (pa_cons pe_int pa_nil))) (pa_cons (pe_tup (pa_cons pe_int (pa_cons pe_int pa_nil))) (pa_cons (pe_tup (pa_cons pe_int (pa_cons pe_int pa_nil))) pa_nil)))) (nomark _)) (pss_cons (ps_ret pe_bl)
      pss_nil) pss_nil)
      (pss_cons (ps_ret (pe_cmpR (op_eqD hr.units) (pe_call G_beside (hr.mono (by omega)) rfl A_beside.g A_beside.fn.kp A_beside.b .nil pass0 (pa_cons pe_int (pa_cons pe_int (pa_cons pe_int (pa_cons pe_int pa_nil))))) (pe_tup (pa_cons pe_int (pa_cons pe_int pa_nil))) (nomark _)))
      pss_nil))))))))))))))), Go.at ?_⟩
    have p10 : ∀ {n : Int} {σ : L2.St} {H : Hp}, CPow 10 n → Ev (tOp (rI CPow fun i j => .int (i ^ j.toNat)) (tC (.int 10)) (tC (.int n))) σ H (.int (10 ^ n.toNat)) := fun h => ev_op ev_c ev_c (rv_I h)
    have eP50 : (10 : Int) ^ 50 = 100000000000000000000000000000000000000000000000000 := by decide
    have l12 : Lv 1 (12 : Int) := lv_small (by decide)
    have R12 : Ring 12 5 := ringc (by decide)
    have t12 : (12 : Int) ≤ top 12 5 := by decide +kernel
    refine g_asgL (xs := ([0, 5, 10, 3, 8, 1, 6, 11, 4, 9, 2, 7] : List Int).map V.int) (el_lst (ea_cons ev_c (ea_cons ev_c (ea_cons ev_c (ea_cons ev_c (ea_cons ev_c (ea_cons ev_c (ea_cons ev_c (ea_cons ev_c (ea_cons ev_c (ea_cons ev_c (ea_cons ev_c (ea_cons ev_c ea_nil)))))))))))) (by show 12 ≤ 100000; decide)) ?_
    intro pl H1 n1 e1 h1
    refine (show Go _ _ ([some (.ref pl), none, none, none, none, none, none, none, none, none, none, none] : L2.St) H1 from ?_)
    refine g_for (ef_enum (K := K) (j := 1) (k := 2) (ta := tCons (tVar 0) tNil) (ea_cons (ev_var rfl) ea_nil) (sq_of h1)) (fun _ σ' => ∃ o1 o2 o3 : Option V, σ' = [some (.ref pl), o1, o2, o3, none, none, none, none, none, none, none, none]) ⟨_, _, _, rfl⟩ ?_ ?_
    · rintro H2 e2 i σ' hi ⟨o1, o2, o3, rfl⟩
      have hi : i < 12 := hi
      have hp : (([0, 5, 10, 3, 8, 1, 6, 11, 4, 9, 2, 7] : List Int).map V.int)[i]? = some (.int ((i : Int) * 5 % 12)) := by
        have all : ∀ i : Nat, i < 12 → ([0, 5, 10, 3, 8, 1, 6, 11, 4, 9, 2, 7] : List Int)[i]? = some ((i : Int) * 5 % 12) := by decide +kernel
        rw [List.getElem?_map, all i hi]
        rfl
      rw [hp]
      have b0 := Int.emod_nonneg ((i : Int) * 5) (show (12 : Int) ≠ 0 by decide)
      have b1 := Int.emod_lt_of_pos ((i : Int) * 5) (show (0 : Int) < 12 by decide)
      have k0 : (0 : Int) ≤ (i : Int) := by omega
      have k1 : (i : Int) < 12 := by omega
      have tn := turn12 k0 k1
      have mk := mark12 k0 k1
      have fi := first12 k0 k1
      obtain ⟨pc, hpc⟩ : ∃ pc : Int, (i : Int) * 5 % 12 = pc := ⟨_, rfl⟩
      rw [hpc] at b0 b1 tn mk fi ⊢
      refine (show Go _ _ ([some (.ref pl), some (.int (i : Int)), some (.int pc), o3, none, none, none, none, none, none, none, none] : L2.St) H2 from ?_)
      refine g_asgP (evp_firstI R12 l12 b0 (Int.le_refl _) b1 fi (ea_cons ev_c (ea_cons ev_c (ea_cons (ev_var rfl) (ea_cons (ev_var rfl) ea_nil))))) ?_
      rintro v H3 e3 ⟨x, rfl, dx, hx⟩
      refine (show Go _ _ ([some (.ref pl), some (.int (i : Int)), some (.int pc), some (.ref x), none, none, none, none, none, none, none, none] : L2.St) H3 from ?_)
      refine g_when (b := false) (et_not (a := true) (et_B (ev_isIns (ev_var rfl) hx iF kFF))) (fun h => nomatch h) (fun _ => ?_)
      refine g_when (b := false) (et_is (et_test (ev_op (ev_fld (ev_var rfl) hx Cl_First naF lk_eq) (ev_var rfl) (rv_ne rfl))) (ne_same rfl)) (fun h => nomatch h) (fun _ => ?_)
      refine g_when (b := false) (et_is (et_test (ev_op (ev_is (w := .int pc) (ev_call1 (ea_cons ev_c (ea_cons ev_c (ea_cons ev_c (ea_cons (ev_var rfl) ea_nil)))) (spv_turnOf R12 l12 (show (1 : Int) ≤ 12 by decide) t12 k0 k1)) (congrArg V.int (show RS.cnt 12 5 12 ((i : Int) * 5 % 12) - 1 = pc by rw [hpc]; exact tn))) (ev_var rfl) (rv_ne rfl))) (ne_same rfl)) (fun h => nomatch h) (fun _ => ?_)
      refine g_when (b := false) (et_is (et_test (ev_op (ev_is (w := .int (i : Int)) (ev_call1 (ea_cons ev_c (ea_cons ev_c (ea_cons ev_c (ea_cons (ev_var rfl) ea_nil)))) (spv_markBy R12 l12 (show (1 : Int) ≤ 12 by decide) t12 b0 b1)) (congrArg V.int mk)) (ev_var rfl) (rv_ne rfl))) (ne_same rfl)) (fun h => nomatch h) (fun _ => ?_)
      exact g_next fun H4 e4 => ⟨e3.trans e4, _, _, _, rfl⟩
    rintro H2 e2 σ' ⟨o1, o2, o3, rfl⟩
    refine g_asgRs (row := hRow CF CN) (xs := [((true, 5), 12, 5, 1, 2, true), ((true, 10), 12, 5, 1, 2, false)]) (ers_cons (eps_cons (evp_First ev_c) (eps_cons (evp_of ev_c) (eps_cons (evp_of ev_c) (eps_cons (evp_of ev_c) (eps_cons (evp_of ev_c) (eps_cons (evp_of ev_c) eps_nil)))))) (by show 6 ≤ 1000; decide) (ers_cons (eps_cons (evp_First ev_c) (eps_cons (evp_of ev_c) (eps_cons (evp_of ev_c) (eps_cons (evp_of ev_c) (eps_cons (evp_of ev_c) (eps_cons (evp_of ev_c) eps_nil)))))) (by show 6 ≤ 1000; decide) ers_nil)) (by show 2 ≤ 1000; decide) fun p1 v1 K1 y1 q1 r1 => ?_
    refine (show Go _ _ ([some (.ref pl), o1, o2, o3, some (.ref p1), none, none, none, none, none, none, none] : L2.St) K1 from ?_)
    refine g_asgRsCat (row := hRow CF CN) (ys := [((true, (-7)), 12, 5, 1, 2, false), ((true, 17), 12, 5, 1, 2, false)]) (ev_var rfl) q1 r1 (ers_cons (eps_cons (evp_First (ev_un ev_c ru_neg)) (eps_cons (evp_of ev_c) (eps_cons (evp_of ev_c) (eps_cons (evp_of ev_c) (eps_cons (evp_of ev_c) (eps_cons (evp_of ev_c) eps_nil)))))) (by show 6 ≤ 1000; decide) (ers_cons (eps_cons (evp_First ev_c) (eps_cons (evp_of ev_c) (eps_cons (evp_of ev_c) (eps_cons (evp_of ev_c) (eps_cons (evp_of ev_c) (eps_cons (evp_of ev_c) eps_nil)))))) (by show 6 ≤ 1000; decide) ers_nil)) (by show 4 ≤ 1000; decide) fun p2 v2 K2 y2 q2 r2 => ?_
    refine (show Go _ _ ([some (.ref pl), o1, o2, o3, some (.ref p2), none, none, none, none, none, none, none] : L2.St) K2 from ?_)
    refine g_asgRsCat (row := hRow CF CN) (ys := [((false, 1), 12, 5, 1, 2, false), ((false, 4), 12, 4, 1, 3, true)]) (ev_var rfl) q2 r2 (ers_cons (eps_cons (evp_Never ev_c) (eps_cons (evp_of ev_c) (eps_cons (evp_of ev_c) (eps_cons (evp_of ev_c) (eps_cons (evp_of ev_c) (eps_cons (evp_of ev_c) eps_nil)))))) (by show 6 ≤ 1000; decide) (ers_cons (eps_cons (evp_Never ev_c) (eps_cons (evp_of ev_c) (eps_cons (evp_of ev_c) (eps_cons (evp_of ev_c) (eps_cons (evp_of ev_c) (eps_cons (evp_of ev_c) eps_nil)))))) (by show 6 ≤ 1000; decide) ers_nil)) (by show 6 ≤ 1000; decide) fun p3 v3 K3 y3 q3 r3 => ?_
    refine (show Go _ _ ([some (.ref pl), o1, o2, o3, some (.ref p3), none, none, none, none, none, none, none] : L2.St) K3 from ?_)
    refine g_asgRsCat (row := hRow CF CN) (ys := [((false, 2), 12, 4, 1, 3, false), ((false, 4), 12, 4, 1, 4, false)]) (ev_var rfl) q3 r3 (ers_cons (eps_cons (evp_Never ev_c) (eps_cons (evp_of ev_c) (eps_cons (evp_of ev_c) (eps_cons (evp_of ev_c) (eps_cons (evp_of ev_c) (eps_cons (evp_of ev_c) eps_nil)))))) (by show 6 ≤ 1000; decide) (ers_cons (eps_cons (evp_Never ev_c) (eps_cons (evp_of ev_c) (eps_cons (evp_of ev_c) (eps_cons (evp_of ev_c) (eps_cons (evp_of ev_c) (eps_cons (evp_of ev_c) eps_nil)))))) (by show 6 ≤ 1000; decide) ers_nil)) (by show 8 ≤ 1000; decide) fun p4 v4 K4 y4 q4 r4 => ?_
    refine (show Go _ _ ([some (.ref pl), o1, o2, o3, some (.ref p4), none, none, none, none, none, none, none] : L2.St) K4 from ?_)
    refine g_asgRsCat (row := hRow CF CN) (ys := [((false, 8), 12, 4, 1, 7, false), ((false, 12), 12, 0, 1, 11, true)]) (ev_var rfl) q4 r4 (ers_cons (eps_cons (evp_Never ev_c) (eps_cons (evp_of ev_c) (eps_cons (evp_of ev_c) (eps_cons (evp_of ev_c) (eps_cons (evp_of ev_c) (eps_cons (evp_of ev_c) eps_nil)))))) (by show 6 ≤ 1000; decide) (ers_cons (eps_cons (evp_Never ev_c) (eps_cons (evp_of ev_c) (eps_cons (evp_of ev_c) (eps_cons (evp_of ev_c) (eps_cons (evp_of ev_c) (eps_cons (evp_of ev_c) eps_nil)))))) (by show 6 ≤ 1000; decide) ers_nil)) (by show 10 ≤ 1000; decide) fun p5 v5 K5 y5 q5 r5 => ?_
    refine (show Go _ _ ([some (.ref pl), o1, o2, o3, some (.ref p5), none, none, none, none, none, none, none] : L2.St) K5 from ?_)
    refine g_asgRsCat (row := hRow CF CN) (ys := [((false, 12), 12, 0, 0, 11, false), ((false, 24), 12, 0, 1, 11, false)]) (ev_var rfl) q5 r5 (ers_cons (eps_cons (evp_Never ev_c) (eps_cons (evp_of ev_c) (eps_cons (evp_of ev_c) (eps_cons (evp_of ev_c) (eps_cons (evp_of ev_c) (eps_cons (evp_of ev_c) eps_nil)))))) (by show 6 ≤ 1000; decide) (ers_cons (eps_cons (evp_Never ev_c) (eps_cons (evp_of ev_c) (eps_cons (evp_of ev_c) (eps_cons (evp_of ev_c) (eps_cons (evp_of ev_c) (eps_cons (evp_of ev_c) eps_nil)))))) (by show 6 ≤ 1000; decide) ers_nil)) (by show 12 ≤ 1000; decide) fun p6 v6 K6 y6 q6 r6 => ?_
    refine (show Go _ _ ([some (.ref pl), o1, o2, o3, some (.ref p6), none, none, none, none, none, none, none] : L2.St) K6 from ?_)
    refine g_asgRsCat (row := hRow CF CN) (ys := [((false, (-4)), 12, 4, 1, 3, false), ((false, 0), 12, 4, 1, 3, false)]) (ev_var rfl) q6 r6 (ers_cons (eps_cons (evp_Never (ev_un ev_c ru_neg)) (eps_cons (evp_of ev_c) (eps_cons (evp_of ev_c) (eps_cons (evp_of ev_c) (eps_cons (evp_of ev_c) (eps_cons (evp_of ev_c) eps_nil)))))) (by show 6 ≤ 1000; decide) (ers_cons (eps_cons (evp_Never ev_c) (eps_cons (evp_of ev_c) (eps_cons (evp_of ev_c) (eps_cons (evp_of ev_c) (eps_cons (evp_of ev_c) (eps_cons (evp_of ev_c) eps_nil)))))) (by show 6 ≤ 1000; decide) ers_nil)) (by show 14 ≤ 1000; decide) fun p7 v7 K7 y7 q7 r7 => ?_
    refine (show Go _ _ ([some (.ref pl), o1, o2, o3, some (.ref p7), none, none, none, none, none, none, none] : L2.St) K7 from ?_)
    refine g_asgRsCat (row := hRow CF CN) (ys := [((false, 100000000000000000000000000000000000000000000000000), 12, 4, 1, 3, false), ((true, 0), 12, 0, 0, 11, true)]) (ev_var rfl) q7 r7 (ers_cons (eps_cons (evp_Never (ev_is (p10 ⟨by decide, by decide, by decide⟩) (congrArg V.int eP50))) (eps_cons (evp_of ev_c) (eps_cons (evp_of ev_c) (eps_cons (evp_of ev_c) (eps_cons (evp_of ev_c) (eps_cons (evp_of ev_c) eps_nil)))))) (by show 6 ≤ 1000; decide) (ers_cons (eps_cons (evp_First ev_c) (eps_cons (evp_of ev_c) (eps_cons (evp_of ev_c) (eps_cons (evp_of ev_c) (eps_cons (evp_of ev_c) (eps_cons (evp_of ev_c) eps_nil)))))) (by show 6 ≤ 1000; decide) ers_nil)) (by show 16 ≤ 1000; decide) fun p8 v8 K8 y8 q8 r8 => ?_
    refine (show Go _ _ ([some (.ref pl), o1, o2, o3, some (.ref p8), none, none, none, none, none, none, none] : L2.St) K8 from ?_)
    refine g_asgRsCat (row := hRow CF CN) (ys := [((true, 100000000000000000000000000000000000000000000000000), 12, 5, 1, 2, false), ((true, 1), 12, 4, 4, 4, true)]) (ev_var rfl) q8 r8 (ers_cons (eps_cons (evp_First (ev_is (p10 ⟨by decide, by decide, by decide⟩) (congrArg V.int eP50))) (eps_cons (evp_of ev_c) (eps_cons (evp_of ev_c) (eps_cons (evp_of ev_c) (eps_cons (evp_of ev_c) (eps_cons (evp_of ev_c) eps_nil)))))) (by show 6 ≤ 1000; decide) (ers_cons (eps_cons (evp_First ev_c) (eps_cons (evp_of ev_c) (eps_cons (evp_of ev_c) (eps_cons (evp_of ev_c) (eps_cons (evp_of ev_c) (eps_cons (evp_of ev_c) eps_nil)))))) (by show 6 ≤ 1000; decide) ers_nil)) (by show 18 ≤ 1000; decide) fun p9 v9 K9 y9 q9 r9 => ?_
    refine (show Go _ _ ([some (.ref pl), o1, o2, o3, some (.ref p9), none, none, none, none, none, none, none] : L2.St) K9 from ?_)
    have eA : Ex H K9 := ((((((((((e1).trans e2).trans y1).trans y2).trans y3).trans y4).trans y5).trans y6).trans y7).trans y8).trans y9
    refine g_forRows (js := [5, 6, 7, 8, 9, 10]) (ev_var rfl) q9 r9 (fun x => rfl) (fun σ' => ∃ o5 o6 o7 o8 o9 o10 o11 : Option V, σ' = [some (.ref pl), o1, o2, o3, some (.ref p9), o5, o6, o7, o8, o9, o10, o11]) ⟨_, _, _, _, _, _, _, rfl⟩ ?_ ?_
    · rintro M1 y x hx σ' ⟨o5, o6, o7, o8, o9, o10, o11, rfl⟩ us hu
      obtain ⟨R, l, b0, be, ep, lk, hc⟩ := hand_ok x hx
      obtain ⟨u1, us, rfl, w1, hu⟩ := hu.uncons
      obtain ⟨u2, us, rfl, w2, hu⟩ := hu.uncons
      obtain ⟨u3, us, rfl, w3, hu⟩ := hu.uncons
      obtain ⟨u4, us, rfl, w4, hu⟩ := hu.uncons
      obtain ⟨u5, us, rfl, w5, hu⟩ := hu.uncons
      obtain ⟨u6, us, rfl, w6, hu⟩ := hu.uncons
      cases hu.nil
      cases (show u2 = _ from w2)
      cases (show u3 = _ from w3)
      cases (show u4 = _ from w4)
      cases (show u5 = _ from w5)
      cases (show u6 = _ from w6)
      obtain ⟨a, rfl, hF, hN⟩ := w1
      refine (show Go _ _ ([some (.ref pl), o1, o2, o3, some (.ref p9), some (.ref a), some (.int x.2.1), some (.int x.2.2.1), some (.int x.2.2.2.1), some (.int x.2.2.2.2.1), some (.bl x.2.2.2.2.2), o11] : L2.St) M1 from ?_)
      refine g_asg (v := .bl x.2.2.2.2.2) ?_ ?_
      · cases hy : x.1.1 with
        | true =>
          obtain ⟨dx, hx'⟩ := hF hy
          unfold showY toS at hc
          rw [hy, if_pos rfl] at hc
          exact ev_inl (ev_is (ev_meth (ev_var rfl) hx' (lk_ne (by decide)) (ea_cons (ev_var rfl) (ea_cons (ev_var rfl) (ea_cons (ev_var rfl) (ea_cons (ev_var rfl) ea_nil)))) (spv_shF ⟨dx, hx'⟩ R b0 be ep l lk)) (congrArg V.bl hc))
        | false =>
          obtain ⟨dx, hx'⟩ := hN hy
          unfold showY toS at hc
          rw [hy, if_neg (by decide)] at hc
          exact ev_inr (ev_is (ev_meth (ev_var rfl) hx' (lk_ne (by decide)) (ea_cons (ev_var rfl) (ea_cons (ev_var rfl) (ea_cons (ev_var rfl) (ea_cons (ev_var rfl) ea_nil)))) (spv_shN ⟨dx, hx'⟩ (lv_le l (by have : 0 ≤ x.2.2.2.1 := b0; have : x.2.2.2.1 ≤ x.2.2.2.2.1 := be; omega) (by have : x.2.2.2.2.1 < x.2.1 := ep; show x.2.2.2.2.1 ≤ x.2.1; omega)) lk)) (congrArg V.bl hc))
      refine (show Go _ _ ([some (.ref pl), o1, o2, o3, some (.ref p9), some (.ref a), some (.int x.2.1), some (.int x.2.2.1), some (.int x.2.2.2.1), some (.int x.2.2.2.2.1), some (.bl x.2.2.2.2.2), some (.bl x.2.2.2.2.2)] : L2.St) M1 from ?_)
      refine g_when (b := false) (et_or (a := false) (b := false) (et_not (a := true) (et_B (ev_isBool (x := .bl x.2.2.2.2.2) (ev_var rfl) trivial))) fun _ => et_is (et_test (ev_op (ev_var rfl) (ev_var rfl) (rv_ne rfl))) (ne_same rfl)) (fun h => nomatch h) (fun _ => ?_)
      exact g_next fun M2 y2 => ⟨y2, _, _, _, _, _, _, _, rfl⟩
    rintro M1 y σ' ⟨o5, o6, o7, o8, o9, o10, o11, rfl⟩
    have G5 : GapOk (12, 5, 5, [(2, 3), (3, 2)]) := gok_c 3 3 2 2 (by decide +kernel)
    have G4 : GapOk (12, 5, 4, [(2, 2), (3, 1), (5, 1)]) := gok_c 3 3 2 2 (by decide +kernel)
    have B4 : BesOk (12, 5, 4, 4, (3, 1)) := bok_c (by decide +kernel)
    have two : ∀ {σ : L2.St} {H : Hp} {i j : Int}, EvD K (tTup (tCons (tC (.int i)) (tCons (tC (.int j)) tNil))) σ H (.tuple [.int i, .int j]) := fun {σ H i j} => ed_tup (eds_cons (ed_int ev_c) (eds_cons (ed_int ev_c) eds_nil)) (by show 2 ≤ 100000; decide)
    refine g_when (b := false) (no_pairs G5 (ea_cons ev_c (ea_cons ev_c (ea_cons ev_c ea_nil))) (ed_lst (eds_cons two (eds_cons two eds_nil)) (by show 2 ≤ 100000; decide))) (fun h => nomatch h) (fun _ => ?_)
    refine g_when (b := false) (no_pairs G4 (ea_cons ev_c (ea_cons ev_c (ea_cons ev_c ea_nil))) (ed_lst (eds_cons two (eds_cons two (eds_cons two eds_nil))) (by show 3 ≤ 100000; decide))) (fun h => nomatch h) (fun _ => ?_)
    have bs := eu_beside (K := K) (c := c) (E := E0) (H := M1) (σ := [some (.ref pl), o1, o2, o3, some (.ref p9), o5, o6, o7, o8, o9, o10, o11]) (ta := tCons (tC (.int 12)) (tCons (tC (.int 5)) (tCons (tC (.int 4)) (tCons (tC (.int 4)) tNil)))) B4.R B4.l B4.m1 B4.m2 B4.x0 B4.x1 (ea_cons ev_c (ea_cons ev_c (ea_cons ev_c (ea_cons ev_c ea_nil))))
    rw [show besA 12 5 4 4 = 3 from B4.a, show besB 12 5 4 4 = 1 from B4.b] at bs
    exact g_ret (v := .bl true) (ev_is (ev_eqD (ed_U2 bs) two rfl rfl) rfl) fun M2 y2 => k M2 ((eA.trans y).trans y2)
open LamX
theorem ev_int1 {σ : L2.St} {H : Hp} {ta : TE} {i : Int} (h : Ev ta σ H (.int i)) : Ev (tCB (fun xs H Q => (∃ i, xs = [.int i] ∧ Q (.int i) H) ∨ ∃ k, xs = [.bl k] ∧ Q (.int (if k then 1 else 0)) H) (tCons ta tNil)) σ H (.int i) := fun H1 e Q q =>
  h H1 e _ fun H2 e2 => .inl ⟨i, rfl, q H2 e2⟩
theorem call_at {sp : Sp} {E : XK} {ta : TA} {vs : List V} {σ : L2.St} {H H1 : Hp} {Q : VK} (h : EvA ta σ H vs) (e : Ex H H1) (hs : ∀ H2, Ex H1 H2 → sp vs H2 Q E) : tCall sp [] E ta σ H1 Q := h H1 e _ fun H2 e2 => by
  show sp (vs ++ []) H2 Q E
  rw [List.append_nil]
  exact hs H2 e2
abbrev s_law : Stmt := topS 44
theorem sc_law : FnScope ["_law_script", "_law_more"] ["_law_script"] (defScope s_law) := ⟨rfl, rfl, rfl, by decide +kernel, rfl, by decide +kernel, by decide +kernel⟩
def spLaw (K : PySem.W.Frag) (T : List (Addr × Str)) : Sp := fun vs H Q _ => ∃ (a : Addr) (ns : List Int), vs = [.ref a] ∧ Tabs T H ∧ SqL K H a (ns.map V.int) ∧ ns.length ≤ 63 ∧ (∀ z ∈ ns, Lv 132 z) ∧ ∀ H', Q (.bl true) H'
theorem ok_law {TT : List (Addr × Str)} (hA : Blt mg) (F : Fun K "law" "law" s_law f fd) (G__law_bad_right : FnOk P w K mg base CX0 9 f1 fd1 ["_law_more"] (spBadR TT)) (A__law_bad_right : At K mg "_law_bad_right" s__law_bad_right ["_law_more"] f1 fd1)
    (G__law_great_right : FnOk P w K mg base CX0 8 f2 fd2 ["_law_more"] spGreatR) (A__law_great_right : At K mg "_law_great_right" s__law_great_right ["_law_more"] f2 fd2)
    (G__law_hand_right : FnOk P w K mg base CX0 6 f3 fd3 [] spHand) (A__law_hand_right : At K mg "_law_hand_right" s__law_hand_right [] f3 fd3) : FnOk P w K mg base CX0 10 f fd ["_law_script"] (spLaw K TT) := by
  refine F.ok sc_law (fun vs H Q E h => ?_) (fun cdv A outer s H vs Q E hr h => ?_)
  · obtain ⟨a, ns, rfl, _⟩ := h
    rfl
  · obtain ⟨a, ns, rfl, hT, hS, hlen, hlv, k⟩ := h
    refine ⟨_, (pss_cons (ps_set (i := 1) sc_law.nd rfl (Or.inl rfl) (pe_op op_mod (pe_callTy call_int1 rfl hA.z_int (by decide +kernel) (pa_cons (pe_callB call_abs rfl hA.z_abs (by decide +kernel) (pa_cons (pe_callB (cr_sum rfl) rfl hA.z_sum (by decide +kernel) (pa_cons (pe_slice sl_list (pv 0) po_none (po_some pe_int)) pa_nil)) pa_nil)) pa_nil)) (pe_op op_pow pe_int pe_int)))
      (pss_cons (ps_ret (pe_and (pe_call G__law_bad_right (hr.mono (by omega)) rfl A__law_bad_right.g A__law_bad_right.fn.kp A__law_bad_right.b .nil pass0 (pa_cons (pe_op op_mod (pv 1) (pe_op op_pow pe_int pe_int)) pa_nil)) (pe_and (pe_call G__law_great_right (hr.mono (by omega)) rfl A__law_great_right.g A__law_great_right.fn.kp A__law_great_right.b .nil pass0 (pa_cons (pv 1) pa_nil)) (pe_one (pe_call0 G__law_hand_right (hr.mono (by omega)) rfl A__law_hand_right.g A__law_hand_right.fn.kp A__law_hand_right.b .nil pass0)))))
      pss_nil)), Go.at ?_⟩
    have p10 : ∀ {n : Int} {σ : L2.St} {H : Hp}, CPow 10 n → Ev (tOp (rI CPow fun i j => .int (i ^ j.toNat)) (tC (.int 10)) (tC (.int n))) σ H (.int (10 ^ n.toNat)) := fun h => ev_op ev_c ev_c (rv_I h)
    have e60 : (10 : Int) ^ 60 = 1000000000000000000000000000000000000000000000000000000000000 := by decide
    have e9 : (10 : Int) ^ 9 = 1000000000 := by decide
    refine g_asg (ev_op (ev_int1 (ev_abs (ev_sumN (ns := ns.take 63) (by rw [List.map_take, ← cut_take]; exact el_sl (ev_var rfl) eo_none (eo_some ev_c) hS)))) (ev_is (p10 ⟨by decide, by decide, by decide⟩) (congrArg V.int e60)) (rv_I (by decide))) ?_
    have m0 : 0 ≤ ((ns.take 63).sum.natAbs : Int) % 1000000000000000000000000000000000000000000000000000000000000 := by omega
    refine (show Go _ _ ([some (.ref a), some (.int (((ns.take 63).sum.natAbs : Int) % 1000000000000000000000000000000000000000000000000000000000000))] : L2.St) H from ?_)
    generalize ((ns.take 63).sum.natAbs : Int) % 1000000000000000000000000000000000000000000000000000000000000 = mo at *
    intro H1 e1
    have ha : EvA (tCons (tOp (rI (fun _ j => 0 < j) fun i j => .int (i % j)) (tVar 1) (tOp (rI CPow fun i j => .int (i ^ j.toNat)) (tC (.int 10)) (tC (.int 9)))) tNil) [some (.ref a), some (.int mo)] H [.int (mo % 1000000000)] := ea_cons (ev_op (ev_var rfl) (ev_is (p10 ⟨by decide, by decide, by decide⟩) (congrArg V.int e9)) (rv_I (by decide))) ea_nil
    refine call_at (sp := spBadR TT) (E := E0) ha e1 fun H2 e2 => ?_
    refine ⟨mo % 1000000000, rfl, by omega, by omega, hT.ext (e1.trans e2), fun H3 e3 T3 => ⟨true, rfl, ?_⟩⟩
    rw [if_pos rfl]
    exact (ev_andV (σ := [some (.ref a), some (.int mo)]) (H := H3) (a := true) (b := true) (ev_call1 (ea_cons (ev_var rfl) ea_nil) (spv_greatR m0)) fun _ => ev_call1 ea_nil spv_hand) H3 (Ex.refl _) _ fun H4 e4 => k H4
end
theorem all_mk {l : PySem.W.OpenLaw} {w : World} {K : PySem.W.Frag} {h : Heap} {mg : Str → Option Value} {fa : Addr} (X : K.In h) (G : h.Ns mainGlobals mg) (hfa : mg "law" = some (.ref fa))
    {C_Never : Addr}
    {C_First : Addr}
    {a_is_number : Addr} {oc_is_number kV_is_number dc_is_number pm_is_number cd_is_number ct_is_number : Value} {od_is_number an_is_number : Option Addr} {sl_is_number : Array (Option Value)}
    {a_common : Addr} {oc_common kV_common dc_common pm_common cd_common ct_common : Value} {od_common an_common : Option Addr} {sl_common : Array (Option Value)}
    {a_most_of : Addr} {oc_most_of kV_most_of dc_most_of pm_most_of cd_most_of ct_most_of : Value} {od_most_of an_most_of : Option Addr} {sl_most_of : Array (Option Value)}
    {a_check_ring : Addr} {oc_check_ring kV_check_ring dc_check_ring pm_check_ring cd_check_ring ct_check_ring : Value} {od_check_ring an_check_ring : Option Addr} {sl_check_ring : Array (Option Value)}
    {a_check_marks : Addr} {oc_check_marks kV_check_marks dc_check_marks pm_check_marks cd_check_marks ct_check_marks : Value} {od_check_marks an_check_marks : Option Addr} {sl_check_marks : Array (Option Value)}
    {a_check_stretch : Addr} {oc_check_stretch kV_check_stretch dc_check_stretch pm_check_stretch cd_check_stretch ct_check_stretch : Value} {od_check_stretch an_check_stretch : Option Addr} {sl_check_stretch : Array (Option Value)}
    {a_quotients : Addr} {oc_quotients kV_quotients dc_quotients pm_quotients cd_quotients ct_quotients : Value} {od_quotients an_quotients : Option Addr} {sl_quotients : Array (Option Value)}
    {a_marks_to : Addr} {oc_marks_to kV_marks_to dc_marks_to pm_marks_to cd_marks_to ct_marks_to : Value} {od_marks_to an_marks_to : Option Addr} {sl_marks_to : Array (Option Value)}
    {a_led_back : Addr} {oc_led_back kV_led_back dc_led_back pm_led_back cd_led_back ct_led_back : Value} {od_led_back an_led_back : Option Addr} {sl_led_back : Array (Option Value)}
    {a_least_mark : Addr} {oc_least_mark kV_least_mark dc_least_mark pm_least_mark cd_least_mark ct_least_mark : Value} {od_least_mark an_least_mark : Option Addr} {sl_least_mark : Array (Option Value)}
    {a_first : Addr} {oc_first kV_first dc_first pm_first cd_first ct_first : Value} {od_first an_first : Option Addr} {sl_first : Array (Option Value)}
    {a_most : Addr} {oc_most kV_most dc_most pm_most cd_most ct_most : Value} {od_most an_most : Option Addr} {sl_most : Array (Option Value)}
    {a_nearest : Addr} {oc_nearest kV_nearest dc_nearest pm_nearest cd_nearest ct_nearest : Value} {od_nearest an_nearest : Option Addr} {sl_nearest : Array (Option Value)}
    {a_gaps : Addr} {oc_gaps kV_gaps dc_gaps pm_gaps cd_gaps ct_gaps : Value} {od_gaps an_gaps : Option Addr} {sl_gaps : Array (Option Value)}
    {a_count : Addr} {oc_count kV_count dc_count pm_count cd_count ct_count : Value} {od_count an_count : Option Addr} {sl_count : Array (Option Value)}
    {a_turned_about : Addr} {oc_turned_about kV_turned_about dc_turned_about pm_turned_about cd_turned_about ct_turned_about : Value} {od_turned_about an_turned_about : Option Addr} {sl_turned_about : Array (Option Value)}
    {a_mark_at : Addr} {oc_mark_at kV_mark_at dc_mark_at pm_mark_at cd_mark_at ct_mark_at : Value} {od_mark_at an_mark_at : Option Addr} {sl_mark_at : Array (Option Value)}
    {a_place_by : Addr} {oc_place_by kV_place_by dc_place_by pm_place_by cd_place_by ct_place_by : Value} {od_place_by an_place_by : Option Addr} {sl_place_by : Array (Option Value)}
    {a_check_mark : Addr} {oc_check_mark kV_check_mark dc_check_mark pm_check_mark cd_check_mark ct_check_mark : Value} {od_check_mark an_check_mark : Option Addr} {sl_check_mark : Array (Option Value)}
    {a_turn_of : Addr} {oc_turn_of kV_turn_of dc_turn_of pm_turn_of cd_turn_of ct_turn_of : Value} {od_turn_of an_turn_of : Option Addr} {sl_turn_of : Array (Option Value)}
    {a_mark_by : Addr} {oc_mark_by kV_mark_by dc_mark_by pm_mark_by cd_mark_by ct_mark_by : Value} {od_mark_by an_mark_by : Option Addr} {sl_mark_by : Array (Option Value)}
    {a_beside : Addr} {oc_beside kV_beside dc_beside pm_beside cd_beside ct_beside : Value} {od_beside an_beside : Option Addr} {sl_beside : Array (Option Value)}
    {a__law_refused : Addr} {oc__law_refused kV__law_refused dc__law_refused pm__law_refused cd__law_refused ct__law_refused : Value} {od__law_refused an__law_refused : Option Addr} {sl__law_refused : Array (Option Value)}
    {a__law_sound : Addr} {oc__law_sound kV__law_sound dc__law_sound pm__law_sound cd__law_sound ct__law_sound : Value} {od__law_sound an__law_sound : Option Addr} {sl__law_sound : Array (Option Value)}
    {a__law_doors : Addr} {oc__law_doors kV__law_doors dc__law_doors pm__law_doors cd__law_doors ct__law_doors : Value} {od__law_doors an__law_doors : Option Addr} {sl__law_doors : Array (Option Value)}
    {a__law_bad_right : Addr} {oc__law_bad_right kV__law_bad_right dc__law_bad_right pm__law_bad_right cd__law_bad_right ct__law_bad_right : Value} {od__law_bad_right an__law_bad_right : Option Addr} {sl__law_bad_right : Array (Option Value)}
    {a__law_great_right : Addr} {oc__law_great_right kV__law_great_right dc__law_great_right pm__law_great_right cd__law_great_right ct__law_great_right : Value} {od__law_great_right an__law_great_right : Option Addr} {sl__law_great_right : Array (Option Value)}
    {a__law_hand_right : Addr} {oc__law_hand_right kV__law_hand_right dc__law_hand_right pm__law_hand_right cd__law_hand_right ct__law_hand_right : Value} {od__law_hand_right an__law_hand_right : Option Addr} {sl__law_hand_right : Array (Option Value)}
    {a_law : Addr} {oc_law kV_law dc_law pm_law cd_law ct_law : Value} {od_law an_law : Option Addr} {sl_law : Array (Option Value)}
    {a_First___init__ : Addr} {oc_First___init__ kV_First___init__ dc_First___init__ pm_First___init__ cd_First___init__ ct_First___init__ : Value} {od_First___init__ an_First___init__ : Option Addr} {sl_First___init__ : Array (Option Value)}
    {a_First_shows : Addr} {oc_First_shows kV_First_shows dc_First_shows pm_First_shows cd_First_shows ct_First_shows : Value} {od_First_shows an_First_shows : Option Addr} {sl_First_shows : Array (Option Value)}
    {a_Never___init__ : Addr} {oc_Never___init__ kV_Never___init__ dc_Never___init__ pm_Never___init__ cd_Never___init__ ct_Never___init__ : Value} {od_Never___init__ an_Never___init__ : Option Addr} {sl_Never___init__ : Array (Option Value)}
    {a_Never_shows : Addr} {oc_Never_shows kV_Never_shows dc_Never_shows pm_Never_shows cd_Never_shows ct_Never_shows : Value} {od_Never_shows an_Never_shows : Option Addr} {sl_Never_shows : Array (Option Value)}
    {C_BadPlaces : Addr}
    {C_BadStep : Addr}
    {C_BadMarks : Addr}
    {C_BadPlace : Addr}
    {C_BadMark : Addr}
    {C_StepError : Addr}
    (own : (∀ x ∈ (["_law_bad_right", "_law_doors"] : List Str), ∀ c P, PySem.W.tabIn K x = some (c, P) → PySem.W.CodeHd h c P ∧ h.get? P = some { cls := .none, data := .fields #[] }))
    (n_First : PySem.W.nsIn K mainGlobals "First" = some (some (.ref C_First)))
    (n_Never : PySem.W.nsIn K mainGlobals "Never" = some (some (.ref C_Never)))
    (n_is_number : PySem.W.nsIn K mainGlobals "is_number" = some (some (.ref a_is_number)))
    (l_is_number : K.lookup a_is_number = some ⟨oc_is_number, od_is_number, .func (PySem.W.fnOf "is_number" "is_number" (defArgs s_is_number) (defBody s_is_number) (defScope s_is_number) .none kV_is_number dc_is_number pm_is_number an_is_number cd_is_number ct_is_number), sl_is_number⟩)
    (c_is_number : PySem.W.codeIn K cd_is_number "is_number" = true)
    (k_is_number : PySem.W.keepIn K (.ref a_is_number) = true)
    (n_common : PySem.W.nsIn K mainGlobals "common" = some (some (.ref a_common)))
    (l_common : K.lookup a_common = some ⟨oc_common, od_common, .func (PySem.W.fnOf "common" "common" (defArgs s_common) (defBody s_common) (defScope s_common) .none kV_common dc_common pm_common an_common cd_common ct_common), sl_common⟩)
    (c_common : PySem.W.codeIn K cd_common "common" = true)
    (k_common : PySem.W.keepIn K (.ref a_common) = true)
    (n_most_of : PySem.W.nsIn K mainGlobals "most_of" = some (some (.ref a_most_of)))
    (l_most_of : K.lookup a_most_of = some ⟨oc_most_of, od_most_of, .func (PySem.W.fnOf "most_of" "most_of" (defArgs s_most_of) (defBody s_most_of) (defScope s_most_of) .none kV_most_of dc_most_of pm_most_of an_most_of cd_most_of ct_most_of), sl_most_of⟩)
    (c_most_of : PySem.W.codeIn K cd_most_of "most_of" = true)
    (k_most_of : PySem.W.keepIn K (.ref a_most_of) = true)
    (n_check_ring : PySem.W.nsIn K mainGlobals "check_ring" = some (some (.ref a_check_ring)))
    (l_check_ring : K.lookup a_check_ring = some ⟨oc_check_ring, od_check_ring, .func (PySem.W.fnOf "check_ring" "check_ring" (defArgs s_check_ring) (defBody s_check_ring) (defScope s_check_ring) .none kV_check_ring dc_check_ring pm_check_ring an_check_ring cd_check_ring ct_check_ring), sl_check_ring⟩)
    (c_check_ring : PySem.W.codeIn K cd_check_ring "check_ring" = true)
    (k_check_ring : PySem.W.keepIn K (.ref a_check_ring) = true)
    (n_check_marks : PySem.W.nsIn K mainGlobals "check_marks" = some (some (.ref a_check_marks)))
    (l_check_marks : K.lookup a_check_marks = some ⟨oc_check_marks, od_check_marks, .func (PySem.W.fnOf "check_marks" "check_marks" (defArgs s_check_marks) (defBody s_check_marks) (defScope s_check_marks) .none kV_check_marks dc_check_marks pm_check_marks an_check_marks cd_check_marks ct_check_marks), sl_check_marks⟩)
    (c_check_marks : PySem.W.codeIn K cd_check_marks "check_marks" = true)
    (k_check_marks : PySem.W.keepIn K (.ref a_check_marks) = true)
    (n_check_stretch : PySem.W.nsIn K mainGlobals "check_stretch" = some (some (.ref a_check_stretch)))
    (l_check_stretch : K.lookup a_check_stretch = some ⟨oc_check_stretch, od_check_stretch, .func (PySem.W.fnOf "check_stretch" "check_stretch" (defArgs s_check_stretch) (defBody s_check_stretch) (defScope s_check_stretch) .none kV_check_stretch dc_check_stretch pm_check_stretch an_check_stretch cd_check_stretch ct_check_stretch), sl_check_stretch⟩)
    (c_check_stretch : PySem.W.codeIn K cd_check_stretch "check_stretch" = true)
    (k_check_stretch : PySem.W.keepIn K (.ref a_check_stretch) = true)
    (n_quotients : PySem.W.nsIn K mainGlobals "quotients" = some (some (.ref a_quotients)))
    (l_quotients : K.lookup a_quotients = some ⟨oc_quotients, od_quotients, .func (PySem.W.fnOf "quotients" "quotients" (defArgs s_quotients) (defBody s_quotients) (defScope s_quotients) .none kV_quotients dc_quotients pm_quotients an_quotients cd_quotients ct_quotients), sl_quotients⟩)
    (c_quotients : PySem.W.codeIn K cd_quotients "quotients" = true)
    (k_quotients : PySem.W.keepIn K (.ref a_quotients) = true)
    (n_marks_to : PySem.W.nsIn K mainGlobals "marks_to" = some (some (.ref a_marks_to)))
    (l_marks_to : K.lookup a_marks_to = some ⟨oc_marks_to, od_marks_to, .func (PySem.W.fnOf "marks_to" "marks_to" (defArgs s_marks_to) (defBody s_marks_to) (defScope s_marks_to) .none kV_marks_to dc_marks_to pm_marks_to an_marks_to cd_marks_to ct_marks_to), sl_marks_to⟩)
    (c_marks_to : PySem.W.codeIn K cd_marks_to "marks_to" = true)
    (k_marks_to : PySem.W.keepIn K (.ref a_marks_to) = true)
    (n_led_back : PySem.W.nsIn K mainGlobals "led_back" = some (some (.ref a_led_back)))
    (l_led_back : K.lookup a_led_back = some ⟨oc_led_back, od_led_back, .func (PySem.W.fnOf "led_back" "led_back" (defArgs s_led_back) (defBody s_led_back) (defScope s_led_back) .none kV_led_back dc_led_back pm_led_back an_led_back cd_led_back ct_led_back), sl_led_back⟩)
    (c_led_back : PySem.W.codeIn K cd_led_back "led_back" = true)
    (k_led_back : PySem.W.keepIn K (.ref a_led_back) = true)
    (n_least_mark : PySem.W.nsIn K mainGlobals "least_mark" = some (some (.ref a_least_mark)))
    (l_least_mark : K.lookup a_least_mark = some ⟨oc_least_mark, od_least_mark, .func (PySem.W.fnOf "least_mark" "least_mark" (defArgs s_least_mark) (defBody s_least_mark) (defScope s_least_mark) .none kV_least_mark dc_least_mark pm_least_mark an_least_mark cd_least_mark ct_least_mark), sl_least_mark⟩)
    (c_least_mark : PySem.W.codeIn K cd_least_mark "least_mark" = true)
    (k_least_mark : PySem.W.keepIn K (.ref a_least_mark) = true)
    (n_first : PySem.W.nsIn K mainGlobals "first" = some (some (.ref a_first)))
    (l_first : K.lookup a_first = some ⟨oc_first, od_first, .func (PySem.W.fnOf "first" "first" (defArgs s_first) (defBody s_first) (defScope s_first) .none kV_first dc_first pm_first an_first cd_first ct_first), sl_first⟩)
    (c_first : PySem.W.codeIn K cd_first "first" = true)
    (k_first : PySem.W.keepIn K (.ref a_first) = true)
    (n_most : PySem.W.nsIn K mainGlobals "most" = some (some (.ref a_most)))
    (l_most : K.lookup a_most = some ⟨oc_most, od_most, .func (PySem.W.fnOf "most" "most" (defArgs s_most) (defBody s_most) (defScope s_most) .none kV_most dc_most pm_most an_most cd_most ct_most), sl_most⟩)
    (c_most : PySem.W.codeIn K cd_most "most" = true)
    (k_most : PySem.W.keepIn K (.ref a_most) = true)
    (n_nearest : PySem.W.nsIn K mainGlobals "nearest" = some (some (.ref a_nearest)))
    (l_nearest : K.lookup a_nearest = some ⟨oc_nearest, od_nearest, .func (PySem.W.fnOf "nearest" "nearest" (defArgs s_nearest) (defBody s_nearest) (defScope s_nearest) .none kV_nearest dc_nearest pm_nearest an_nearest cd_nearest ct_nearest), sl_nearest⟩)
    (c_nearest : PySem.W.codeIn K cd_nearest "nearest" = true)
    (k_nearest : PySem.W.keepIn K (.ref a_nearest) = true)
    (n_gaps : PySem.W.nsIn K mainGlobals "gaps" = some (some (.ref a_gaps)))
    (l_gaps : K.lookup a_gaps = some ⟨oc_gaps, od_gaps, .func (PySem.W.fnOf "gaps" "gaps" (defArgs s_gaps) (defBody s_gaps) (defScope s_gaps) .none kV_gaps dc_gaps pm_gaps an_gaps cd_gaps ct_gaps), sl_gaps⟩)
    (c_gaps : PySem.W.codeIn K cd_gaps "gaps" = true)
    (k_gaps : PySem.W.keepIn K (.ref a_gaps) = true)
    (n_count : PySem.W.nsIn K mainGlobals "count" = some (some (.ref a_count)))
    (l_count : K.lookup a_count = some ⟨oc_count, od_count, .func (PySem.W.fnOf "count" "count" (defArgs s_count) (defBody s_count) (defScope s_count) .none kV_count dc_count pm_count an_count cd_count ct_count), sl_count⟩)
    (c_count : PySem.W.codeIn K cd_count "count" = true)
    (k_count : PySem.W.keepIn K (.ref a_count) = true)
    (n_turned_about : PySem.W.nsIn K mainGlobals "turned_about" = some (some (.ref a_turned_about)))
    (l_turned_about : K.lookup a_turned_about = some ⟨oc_turned_about, od_turned_about, .func (PySem.W.fnOf "turned_about" "turned_about" (defArgs s_turned_about) (defBody s_turned_about) (defScope s_turned_about) .none kV_turned_about dc_turned_about pm_turned_about an_turned_about cd_turned_about ct_turned_about), sl_turned_about⟩)
    (c_turned_about : PySem.W.codeIn K cd_turned_about "turned_about" = true)
    (k_turned_about : PySem.W.keepIn K (.ref a_turned_about) = true)
    (n_mark_at : PySem.W.nsIn K mainGlobals "mark_at" = some (some (.ref a_mark_at)))
    (l_mark_at : K.lookup a_mark_at = some ⟨oc_mark_at, od_mark_at, .func (PySem.W.fnOf "mark_at" "mark_at" (defArgs s_mark_at) (defBody s_mark_at) (defScope s_mark_at) .none kV_mark_at dc_mark_at pm_mark_at an_mark_at cd_mark_at ct_mark_at), sl_mark_at⟩)
    (c_mark_at : PySem.W.codeIn K cd_mark_at "mark_at" = true)
    (k_mark_at : PySem.W.keepIn K (.ref a_mark_at) = true)
    (n_place_by : PySem.W.nsIn K mainGlobals "place_by" = some (some (.ref a_place_by)))
    (l_place_by : K.lookup a_place_by = some ⟨oc_place_by, od_place_by, .func (PySem.W.fnOf "place_by" "place_by" (defArgs s_place_by) (defBody s_place_by) (defScope s_place_by) .none kV_place_by dc_place_by pm_place_by an_place_by cd_place_by ct_place_by), sl_place_by⟩)
    (c_place_by : PySem.W.codeIn K cd_place_by "place_by" = true)
    (k_place_by : PySem.W.keepIn K (.ref a_place_by) = true)
    (n_check_mark : PySem.W.nsIn K mainGlobals "check_mark" = some (some (.ref a_check_mark)))
    (l_check_mark : K.lookup a_check_mark = some ⟨oc_check_mark, od_check_mark, .func (PySem.W.fnOf "check_mark" "check_mark" (defArgs s_check_mark) (defBody s_check_mark) (defScope s_check_mark) .none kV_check_mark dc_check_mark pm_check_mark an_check_mark cd_check_mark ct_check_mark), sl_check_mark⟩)
    (c_check_mark : PySem.W.codeIn K cd_check_mark "check_mark" = true)
    (k_check_mark : PySem.W.keepIn K (.ref a_check_mark) = true)
    (n_turn_of : PySem.W.nsIn K mainGlobals "turn_of" = some (some (.ref a_turn_of)))
    (l_turn_of : K.lookup a_turn_of = some ⟨oc_turn_of, od_turn_of, .func (PySem.W.fnOf "turn_of" "turn_of" (defArgs s_turn_of) (defBody s_turn_of) (defScope s_turn_of) .none kV_turn_of dc_turn_of pm_turn_of an_turn_of cd_turn_of ct_turn_of), sl_turn_of⟩)
    (c_turn_of : PySem.W.codeIn K cd_turn_of "turn_of" = true)
    (k_turn_of : PySem.W.keepIn K (.ref a_turn_of) = true)
    (n_mark_by : PySem.W.nsIn K mainGlobals "mark_by" = some (some (.ref a_mark_by)))
    (l_mark_by : K.lookup a_mark_by = some ⟨oc_mark_by, od_mark_by, .func (PySem.W.fnOf "mark_by" "mark_by" (defArgs s_mark_by) (defBody s_mark_by) (defScope s_mark_by) .none kV_mark_by dc_mark_by pm_mark_by an_mark_by cd_mark_by ct_mark_by), sl_mark_by⟩)
    (c_mark_by : PySem.W.codeIn K cd_mark_by "mark_by" = true)
    (k_mark_by : PySem.W.keepIn K (.ref a_mark_by) = true)
    (n_beside : PySem.W.nsIn K mainGlobals "beside" = some (some (.ref a_beside)))
    (l_beside : K.lookup a_beside = some ⟨oc_beside, od_beside, .func (PySem.W.fnOf "beside" "beside" (defArgs s_beside) (defBody s_beside) (defScope s_beside) .none kV_beside dc_beside pm_beside an_beside cd_beside ct_beside), sl_beside⟩)
    (c_beside : PySem.W.codeIn K cd_beside "beside" = true)
    (k_beside : PySem.W.keepIn K (.ref a_beside) = true)
    (n__law_refused : PySem.W.nsIn K mainGlobals "_law_refused" = some (some (.ref a__law_refused)))
    (l__law_refused : K.lookup a__law_refused = some ⟨oc__law_refused, od__law_refused, .func (PySem.W.fnOf "_law_refused" "_law_refused" (defArgs s__law_refused) (defBody s__law_refused) (defScope s__law_refused) .none kV__law_refused dc__law_refused pm__law_refused an__law_refused cd__law_refused ct__law_refused), sl__law_refused⟩)
    (c__law_refused : PySem.W.codeIn K cd__law_refused "_law_refused" = true)
    (k__law_refused : PySem.W.keepIn K (.ref a__law_refused) = true)
    (n__law_sound : PySem.W.nsIn K mainGlobals "_law_sound" = some (some (.ref a__law_sound)))
    (l__law_sound : K.lookup a__law_sound = some ⟨oc__law_sound, od__law_sound, .func (PySem.W.fnOf "_law_sound" "_law_sound" (defArgs s__law_sound) (defBody s__law_sound) (defScope s__law_sound) .none kV__law_sound dc__law_sound pm__law_sound an__law_sound cd__law_sound ct__law_sound), sl__law_sound⟩)
    (c__law_sound : PySem.W.codeIn K cd__law_sound "_law_sound" = true)
    (k__law_sound : PySem.W.keepIn K (.ref a__law_sound) = true)
    (n__law_doors : PySem.W.nsIn K mainGlobals "_law_doors" = some (some (.ref a__law_doors)))
    (l__law_doors : K.lookup a__law_doors = some ⟨oc__law_doors, od__law_doors, .func (PySem.W.fnOf "_law_doors" "_law_doors" (defArgs s__law_doors) (defBody s__law_doors) (defScope s__law_doors) .none kV__law_doors dc__law_doors pm__law_doors an__law_doors cd__law_doors ct__law_doors), sl__law_doors⟩)
    (c__law_doors : PySem.W.codeIn K cd__law_doors "_law_doors" = true)
    (k__law_doors : PySem.W.keepIn K (.ref a__law_doors) = true)
    (n__law_bad_right : PySem.W.nsIn K mainGlobals "_law_bad_right" = some (some (.ref a__law_bad_right)))
    (l__law_bad_right : K.lookup a__law_bad_right = some ⟨oc__law_bad_right, od__law_bad_right, .func (PySem.W.fnOf "_law_bad_right" "_law_bad_right" (defArgs s__law_bad_right) (defBody s__law_bad_right) (defScope s__law_bad_right) .none kV__law_bad_right dc__law_bad_right pm__law_bad_right an__law_bad_right cd__law_bad_right ct__law_bad_right), sl__law_bad_right⟩)
    (c__law_bad_right : PySem.W.codeIn K cd__law_bad_right "_law_bad_right" = true)
    (k__law_bad_right : PySem.W.keepIn K (.ref a__law_bad_right) = true)
    (n__law_great_right : PySem.W.nsIn K mainGlobals "_law_great_right" = some (some (.ref a__law_great_right)))
    (l__law_great_right : K.lookup a__law_great_right = some ⟨oc__law_great_right, od__law_great_right, .func (PySem.W.fnOf "_law_great_right" "_law_great_right" (defArgs s__law_great_right) (defBody s__law_great_right) (defScope s__law_great_right) .none kV__law_great_right dc__law_great_right pm__law_great_right an__law_great_right cd__law_great_right ct__law_great_right), sl__law_great_right⟩)
    (c__law_great_right : PySem.W.codeIn K cd__law_great_right "_law_great_right" = true)
    (k__law_great_right : PySem.W.keepIn K (.ref a__law_great_right) = true)
    (n__law_hand_right : PySem.W.nsIn K mainGlobals "_law_hand_right" = some (some (.ref a__law_hand_right)))
    (l__law_hand_right : K.lookup a__law_hand_right = some ⟨oc__law_hand_right, od__law_hand_right, .func (PySem.W.fnOf "_law_hand_right" "_law_hand_right" (defArgs s__law_hand_right) (defBody s__law_hand_right) (defScope s__law_hand_right) .none kV__law_hand_right dc__law_hand_right pm__law_hand_right an__law_hand_right cd__law_hand_right ct__law_hand_right), sl__law_hand_right⟩)
    (c__law_hand_right : PySem.W.codeIn K cd__law_hand_right "_law_hand_right" = true)
    (k__law_hand_right : PySem.W.keepIn K (.ref a__law_hand_right) = true)
    (n_law : PySem.W.nsIn K mainGlobals "law" = some (some (.ref a_law)))
    (l_law : K.lookup a_law = some ⟨oc_law, od_law, .func (PySem.W.fnOf "law" "law" (defArgs s_law) (defBody s_law) (defScope s_law) .none kV_law dc_law pm_law an_law cd_law ct_law), sl_law⟩)
    (c_law : PySem.W.codeIn K cd_law "law" = true)
    (k_law : PySem.W.keepIn K (.ref a_law) = true)
    (n_First___init__ : PySem.W.findIn K (.ref C_First) "__init__" = some (some (.ref a_First___init__)))
    (i_First___init__ : PySem.W.isFn K (.ref a_First___init__) = true)
    (l_First___init__ : K.lookup a_First___init__ = some ⟨oc_First___init__, od_First___init__, .func (PySem.W.fnOf "__init__" "First.__init__" (defArgs s_First___init__) (defBody s_First___init__) (defScope s_First___init__) .none kV_First___init__ dc_First___init__ pm_First___init__ an_First___init__ cd_First___init__ ct_First___init__), sl_First___init__⟩)
    (c_First___init__ : PySem.W.codeIn K cd_First___init__ "First.__init__" = true)
    (k_First___init__ : PySem.W.keepIn K (.ref a_First___init__) = true)
    (n_First_shows : PySem.W.findIn K (.ref C_First) "shows" = some (some (.ref a_First_shows)))
    (i_First_shows : PySem.W.isFn K (.ref a_First_shows) = true)
    (l_First_shows : K.lookup a_First_shows = some ⟨oc_First_shows, od_First_shows, .func (PySem.W.fnOf "shows" "First.shows" (defArgs s_First_shows) (defBody s_First_shows) (defScope s_First_shows) .none kV_First_shows dc_First_shows pm_First_shows an_First_shows cd_First_shows ct_First_shows), sl_First_shows⟩)
    (c_First_shows : PySem.W.codeIn K cd_First_shows "First.shows" = true)
    (k_First_shows : PySem.W.keepIn K (.ref a_First_shows) = true)
    (n_Never___init__ : PySem.W.findIn K (.ref C_Never) "__init__" = some (some (.ref a_Never___init__)))
    (i_Never___init__ : PySem.W.isFn K (.ref a_Never___init__) = true)
    (l_Never___init__ : K.lookup a_Never___init__ = some ⟨oc_Never___init__, od_Never___init__, .func (PySem.W.fnOf "__init__" "Never.__init__" (defArgs s_Never___init__) (defBody s_Never___init__) (defScope s_Never___init__) .none kV_Never___init__ dc_Never___init__ pm_Never___init__ an_Never___init__ cd_Never___init__ ct_Never___init__), sl_Never___init__⟩)
    (c_Never___init__ : PySem.W.codeIn K cd_Never___init__ "Never.__init__" = true)
    (k_Never___init__ : PySem.W.keepIn K (.ref a_Never___init__) = true)
    (n_Never_shows : PySem.W.findIn K (.ref C_Never) "shows" = some (some (.ref a_Never_shows)))
    (i_Never_shows : PySem.W.isFn K (.ref a_Never_shows) = true)
    (l_Never_shows : K.lookup a_Never_shows = some ⟨oc_Never_shows, od_Never_shows, .func (PySem.W.fnOf "shows" "Never.shows" (defArgs s_Never_shows) (defBody s_Never_shows) (defScope s_Never_shows) .none kV_Never_shows dc_Never_shows pm_Never_shows an_Never_shows cd_Never_shows ct_Never_shows), sl_Never_shows⟩)
    (c_Never_shows : PySem.W.codeIn K cd_Never_shows "Never.shows" = true)
    (k_Never_shows : PySem.W.keepIn K (.ref a_Never_shows) = true)
    (pg_First : PySem.W.plainGet K C_First Str.empty = true)
    (hd_First : PySem.W.hasDictIn K C_First = true)
    (po_First : PySem.W.plainOver K C_First = true)
    (sa_First : PySem.W.findIn K (.ref C_First) "__setattr__" = some (some (.builtin "object.__setattr__")))
    (na_First_mark : PySem.W.findIn K (.ref C_First) "mark" = some none)
    (mk_First : PySem.W.makesIn K C_First = true)
    (kc_First : PySem.W.keepIn K (.ref C_First) = true)
    (oc_First : PySem.W.findIn K (.ref C_First) "__class__" = some (some (.builtin "object.__class__")))
    (om_First : PySem.W.mroIn K C_First (.type "object") = some true)
    (ic_First : PySem.W.isClsIn K C_First = true)
    (tc_First : PySem.W.typeIn K (.ref C_First) = some (.type "type"))
    (ss_First : PySem.W.subIn K (.ref C_First) (.ref C_First) = some true)
    (pg_Never : PySem.W.plainGet K C_Never Str.empty = true)
    (hd_Never : PySem.W.hasDictIn K C_Never = true)
    (po_Never : PySem.W.plainOver K C_Never = true)
    (sa_Never : PySem.W.findIn K (.ref C_Never) "__setattr__" = some (some (.builtin "object.__setattr__")))
    (na_Never_common : PySem.W.findIn K (.ref C_Never) "common" = some none)
    (mk_Never : PySem.W.makesIn K C_Never = true)
    (kc_Never : PySem.W.keepIn K (.ref C_Never) = true)
    (oc_Never : PySem.W.findIn K (.ref C_Never) "__class__" = some (some (.builtin "object.__class__")))
    (om_Never : PySem.W.mroIn K C_Never (.type "object") = some true)
    (ic_Never : PySem.W.isClsIn K C_Never = true)
    (tc_Never : PySem.W.typeIn K (.ref C_Never) = some (.type "type"))
    (ss_Never : PySem.W.subIn K (.ref C_Never) (.ref C_Never) = some true)
    (ss_First_Never : PySem.W.subIn K (.ref C_First) (.ref C_Never) = some false)
    (ss_Never_First : PySem.W.subIn K (.ref C_Never) (.ref C_First) = some false)
    (ogt : PySem.W.specialIn K (.builtin "object.__class__") "__get__" = some (some (.builtin "getset_descriptor.__get__")))
    (otk : PySem.W.takesIn K (.builtin "object.__class__") = some true)
    (n_BadPlaces : PySem.W.nsIn K mainGlobals "BadPlaces" = some (some (.ref C_BadPlaces)))
    (x_BadPlaces : PySem.W.excIn K C_BadPlaces [.type "ValueError", .type "Exception", .type "BaseException", .type "object"] "ValueError.__new__" = true)
    (k_BadPlaces : PySem.W.keepIn K (.ref C_BadPlaces) = true)
    (b_BadPlaces : PySem.W.subIn K (.ref C_BadPlaces) (.type "BaseException") = some true)
    (t_BadPlaces : PySem.W.typeIn K (.ref C_BadPlaces) = some (.type "type"))
    (n_BadStep : PySem.W.nsIn K mainGlobals "BadStep" = some (some (.ref C_BadStep)))
    (x_BadStep : PySem.W.excIn K C_BadStep [.type "ValueError", .type "Exception", .type "BaseException", .type "object"] "ValueError.__new__" = true)
    (k_BadStep : PySem.W.keepIn K (.ref C_BadStep) = true)
    (b_BadStep : PySem.W.subIn K (.ref C_BadStep) (.type "BaseException") = some true)
    (t_BadStep : PySem.W.typeIn K (.ref C_BadStep) = some (.type "type"))
    (n_BadMarks : PySem.W.nsIn K mainGlobals "BadMarks" = some (some (.ref C_BadMarks)))
    (x_BadMarks : PySem.W.excIn K C_BadMarks [.type "ValueError", .type "Exception", .type "BaseException", .type "object"] "ValueError.__new__" = true)
    (k_BadMarks : PySem.W.keepIn K (.ref C_BadMarks) = true)
    (b_BadMarks : PySem.W.subIn K (.ref C_BadMarks) (.type "BaseException") = some true)
    (t_BadMarks : PySem.W.typeIn K (.ref C_BadMarks) = some (.type "type"))
    (n_BadPlace : PySem.W.nsIn K mainGlobals "BadPlace" = some (some (.ref C_BadPlace)))
    (x_BadPlace : PySem.W.excIn K C_BadPlace [.type "ValueError", .type "Exception", .type "BaseException", .type "object"] "ValueError.__new__" = true)
    (k_BadPlace : PySem.W.keepIn K (.ref C_BadPlace) = true)
    (b_BadPlace : PySem.W.subIn K (.ref C_BadPlace) (.type "BaseException") = some true)
    (t_BadPlace : PySem.W.typeIn K (.ref C_BadPlace) = some (.type "type"))
    (n_BadMark : PySem.W.nsIn K mainGlobals "BadMark" = some (some (.ref C_BadMark)))
    (x_BadMark : PySem.W.excIn K C_BadMark [.type "ValueError", .type "Exception", .type "BaseException", .type "object"] "ValueError.__new__" = true)
    (k_BadMark : PySem.W.keepIn K (.ref C_BadMark) = true)
    (b_BadMark : PySem.W.subIn K (.ref C_BadMark) (.type "BaseException") = some true)
    (t_BadMark : PySem.W.typeIn K (.ref C_BadMark) = some (.type "type"))
    (z_isinstance : PySem.W.nsIn K mainGlobals "isinstance" = some none)
    (z_int : PySem.W.nsIn K mainGlobals "int" = some none)
    (z_bool : PySem.W.nsIn K mainGlobals "bool" = some none)
    (z_len : PySem.W.nsIn K mainGlobals "len" = some none)
    (z_sum : PySem.W.nsIn K mainGlobals "sum" = some none)
    (z_min : PySem.W.nsIn K mainGlobals "min" = some none)
    (z_max : PySem.W.nsIn K mainGlobals "max" = some none)
    (z_sorted : PySem.W.nsIn K mainGlobals "sorted" = some none)
    (z_range : PySem.W.nsIn K mainGlobals "range" = some none)
    (z_enumerate : PySem.W.nsIn K mainGlobals "enumerate" = some none)
    (z_reversed : PySem.W.nsIn K mainGlobals "reversed" = some none)
    (z_zip : PySem.W.nsIn K mainGlobals "zip" = some none)
    (z_abs : PySem.W.nsIn K mainGlobals "abs" = some none)
    (z_all : PySem.W.nsIn K mainGlobals "all" = some none)
    (z_any : PySem.W.nsIn K mainGlobals "any" = some none)
    (z_list : PySem.W.nsIn K mainGlobals "list" = some none)
    (z_tuple : PySem.W.nsIn K mainGlobals "tuple" = some none)
    (z_set : PySem.W.nsIn K mainGlobals "set" = some none)
    (z_str : PySem.W.nsIn K mainGlobals "str" = some none)
    (z_ValueError : PySem.W.nsIn K mainGlobals "ValueError" = some none)
    (n_StepError : PySem.W.nsIn K mainGlobals "StepError" = some (some (.ref C_StepError)))
    (sb_StepError : PySem.W.subIn K (.ref C_StepError) (.type "BaseException") = some true)
    (sd_StepError : PySem.W.hasDictIn K C_StepError = true)
    (st_StepError : PySem.W.typeIn K (.ref C_StepError) = some (.type "type"))
    (ga_BadPlaces : PySem.W.findIn K (.ref C_BadPlaces) "__getattribute__" = some (some (.builtin "BaseException.__getattribute__")))
    (gn_BadPlaces : PySem.W.findIn K (.ref C_BadPlaces) "__getattr__" = some none)
    (hd_BadPlaces : PySem.W.hasDictIn K C_BadPlaces = true)
    (oc_BadPlaces : PySem.W.findIn K (.ref C_BadPlaces) "__class__" = some (some (.builtin "object.__class__")))
    (om_BadPlaces : PySem.W.mroIn K C_BadPlaces (.type "object") = some true)
    (ic_BadPlaces : PySem.W.isClsIn K C_BadPlaces = true)
    (su_BadPlaces : PySem.W.subIn K (.ref C_BadPlaces) (.ref C_StepError) = some true)
    (sx_BadPlaces_BadPlaces : PySem.W.subIn K (.ref C_BadPlaces) (.ref C_BadPlaces) = some true)
    (sx_BadPlaces_BadStep : PySem.W.subIn K (.ref C_BadPlaces) (.ref C_BadStep) = some false)
    (sx_BadPlaces_BadMarks : PySem.W.subIn K (.ref C_BadPlaces) (.ref C_BadMarks) = some false)
    (sx_BadPlaces_BadPlace : PySem.W.subIn K (.ref C_BadPlaces) (.ref C_BadPlace) = some false)
    (sx_BadPlaces_BadMark : PySem.W.subIn K (.ref C_BadPlaces) (.ref C_BadMark) = some false)
    (ga_BadStep : PySem.W.findIn K (.ref C_BadStep) "__getattribute__" = some (some (.builtin "BaseException.__getattribute__")))
    (gn_BadStep : PySem.W.findIn K (.ref C_BadStep) "__getattr__" = some none)
    (hd_BadStep : PySem.W.hasDictIn K C_BadStep = true)
    (oc_BadStep : PySem.W.findIn K (.ref C_BadStep) "__class__" = some (some (.builtin "object.__class__")))
    (om_BadStep : PySem.W.mroIn K C_BadStep (.type "object") = some true)
    (ic_BadStep : PySem.W.isClsIn K C_BadStep = true)
    (su_BadStep : PySem.W.subIn K (.ref C_BadStep) (.ref C_StepError) = some true)
    (sx_BadStep_BadPlaces : PySem.W.subIn K (.ref C_BadStep) (.ref C_BadPlaces) = some false)
    (sx_BadStep_BadStep : PySem.W.subIn K (.ref C_BadStep) (.ref C_BadStep) = some true)
    (sx_BadStep_BadMarks : PySem.W.subIn K (.ref C_BadStep) (.ref C_BadMarks) = some false)
    (sx_BadStep_BadPlace : PySem.W.subIn K (.ref C_BadStep) (.ref C_BadPlace) = some false)
    (sx_BadStep_BadMark : PySem.W.subIn K (.ref C_BadStep) (.ref C_BadMark) = some false)
    (ga_BadMarks : PySem.W.findIn K (.ref C_BadMarks) "__getattribute__" = some (some (.builtin "BaseException.__getattribute__")))
    (gn_BadMarks : PySem.W.findIn K (.ref C_BadMarks) "__getattr__" = some none)
    (hd_BadMarks : PySem.W.hasDictIn K C_BadMarks = true)
    (oc_BadMarks : PySem.W.findIn K (.ref C_BadMarks) "__class__" = some (some (.builtin "object.__class__")))
    (om_BadMarks : PySem.W.mroIn K C_BadMarks (.type "object") = some true)
    (ic_BadMarks : PySem.W.isClsIn K C_BadMarks = true)
    (su_BadMarks : PySem.W.subIn K (.ref C_BadMarks) (.ref C_StepError) = some true)
    (sx_BadMarks_BadPlaces : PySem.W.subIn K (.ref C_BadMarks) (.ref C_BadPlaces) = some false)
    (sx_BadMarks_BadStep : PySem.W.subIn K (.ref C_BadMarks) (.ref C_BadStep) = some false)
    (sx_BadMarks_BadMarks : PySem.W.subIn K (.ref C_BadMarks) (.ref C_BadMarks) = some true)
    (sx_BadMarks_BadPlace : PySem.W.subIn K (.ref C_BadMarks) (.ref C_BadPlace) = some false)
    (sx_BadMarks_BadMark : PySem.W.subIn K (.ref C_BadMarks) (.ref C_BadMark) = some false)
    (ga_BadPlace : PySem.W.findIn K (.ref C_BadPlace) "__getattribute__" = some (some (.builtin "BaseException.__getattribute__")))
    (gn_BadPlace : PySem.W.findIn K (.ref C_BadPlace) "__getattr__" = some none)
    (hd_BadPlace : PySem.W.hasDictIn K C_BadPlace = true)
    (oc_BadPlace : PySem.W.findIn K (.ref C_BadPlace) "__class__" = some (some (.builtin "object.__class__")))
    (om_BadPlace : PySem.W.mroIn K C_BadPlace (.type "object") = some true)
    (ic_BadPlace : PySem.W.isClsIn K C_BadPlace = true)
    (su_BadPlace : PySem.W.subIn K (.ref C_BadPlace) (.ref C_StepError) = some true)
    (sx_BadPlace_BadPlaces : PySem.W.subIn K (.ref C_BadPlace) (.ref C_BadPlaces) = some false)
    (sx_BadPlace_BadStep : PySem.W.subIn K (.ref C_BadPlace) (.ref C_BadStep) = some false)
    (sx_BadPlace_BadMarks : PySem.W.subIn K (.ref C_BadPlace) (.ref C_BadMarks) = some false)
    (sx_BadPlace_BadPlace : PySem.W.subIn K (.ref C_BadPlace) (.ref C_BadPlace) = some true)
    (sx_BadPlace_BadMark : PySem.W.subIn K (.ref C_BadPlace) (.ref C_BadMark) = some false)
    (ga_BadMark : PySem.W.findIn K (.ref C_BadMark) "__getattribute__" = some (some (.builtin "BaseException.__getattribute__")))
    (gn_BadMark : PySem.W.findIn K (.ref C_BadMark) "__getattr__" = some none)
    (hd_BadMark : PySem.W.hasDictIn K C_BadMark = true)
    (oc_BadMark : PySem.W.findIn K (.ref C_BadMark) "__class__" = some (some (.builtin "object.__class__")))
    (om_BadMark : PySem.W.mroIn K C_BadMark (.type "object") = some true)
    (ic_BadMark : PySem.W.isClsIn K C_BadMark = true)
    (su_BadMark : PySem.W.subIn K (.ref C_BadMark) (.ref C_StepError) = some true)
    (sx_BadMark_BadPlaces : PySem.W.subIn K (.ref C_BadMark) (.ref C_BadPlaces) = some false)
    (sx_BadMark_BadStep : PySem.W.subIn K (.ref C_BadMark) (.ref C_BadStep) = some false)
    (sx_BadMark_BadMarks : PySem.W.subIn K (.ref C_BadMark) (.ref C_BadMarks) = some false)
    (sx_BadMark_BadPlace : PySem.W.subIn K (.ref C_BadMark) (.ref C_BadPlace) = some false)
    (sx_BadMark_BadMark : PySem.W.subIn K (.ref C_BadMark) (.ref C_BadMark) = some true)
    (ht_ne : decide ((PySem.W.tabIn K "_law_bad_right").map (fun p => p.2) = (PySem.W.tabIn K "_law_doors").map (fun p => p.2)) = false)
    (ht__law_bad_right : ((PySem.W.tabIn K "_law_bad_right").map fun p => (K.lookup p.2).isNone) = some true)
    (ht__law_doors : ((PySem.W.tabIn K "_law_doors").map fun p => (K.lookup p.2).isNone) = some true) :
    LamX.LawAtS l w K CX0 10 63 "_law_script" mg fa h := by
  have e := hfa.symm.trans (PySem.W.mg_of X G n_law)
  cases e
  have F_is_number := fun_mk (st := s_is_number) l_is_number c_is_number k_is_number
  have A_is_number : At K mg "is_number" s_is_number ["thing", "least", "most"] _ _ := ⟨F_is_number, F_is_number.binds fun _ _ _ _ _ _ us hl => match us, hl with | [_, _, _], _ => rfl, PySem.W.mg_of X G n_is_number⟩
  have F_common := fun_mk (st := s_common) l_common c_common k_common
  have A_common : At K mg "common" s_common ["one", "other"] _ _ := ⟨F_common, F_common.binds fun _ _ _ _ _ _ us hl => match us, hl with | [_, _], _ => rfl, PySem.W.mg_of X G n_common⟩
  have F_most_of := fun_mk (st := s_most_of) l_most_of c_most_of k_most_of
  have A_most_of : At K mg "most_of" s_most_of ["places", "step"] _ _ := ⟨F_most_of, F_most_of.binds fun _ _ _ _ _ _ us hl => match us, hl with | [_, _], _ => rfl, PySem.W.mg_of X G n_most_of⟩
  have F_check_ring := fun_mk (st := s_check_ring) l_check_ring c_check_ring k_check_ring
  have A_check_ring : At K mg "check_ring" s_check_ring ["places", "step"] _ _ := ⟨F_check_ring, F_check_ring.binds fun _ _ _ _ _ _ us hl => match us, hl with | [_, _], _ => rfl, PySem.W.mg_of X G n_check_ring⟩
  have F_check_marks := fun_mk (st := s_check_marks) l_check_marks c_check_marks k_check_marks
  have A_check_marks : At K mg "check_marks" s_check_marks ["places", "step", "marks"] _ _ := ⟨F_check_marks, F_check_marks.binds fun _ _ _ _ _ _ us hl => match us, hl with | [_, _, _], _ => rfl, PySem.W.mg_of X G n_check_marks⟩
  have F_check_stretch := fun_mk (st := s_check_stretch) l_check_stretch c_check_stretch k_check_stretch
  have A_check_stretch : At K mg "check_stretch" s_check_stretch ["places", "begin", "end"] _ _ := ⟨F_check_stretch, F_check_stretch.binds fun _ _ _ _ _ _ us hl => match us, hl with | [_, _, _], _ => rfl, PySem.W.mg_of X G n_check_stretch⟩
  have F_quotients := fun_mk (st := s_quotients) l_quotients c_quotients k_quotients
  have A_quotients : At K mg "quotients" s_quotients ["many", "by", "times", "more"] _ _ := ⟨F_quotients, F_quotients.binds fun _ _ _ _ _ _ us hl => match us, hl with | [_, _, _, _], _ => rfl, PySem.W.mg_of X G n_quotients⟩
  have F_marks_to := fun_mk (st := s_marks_to) l_marks_to c_marks_to k_marks_to
  have A_marks_to : At K mg "marks_to" s_marks_to ["places", "step", "marks", "place"] _ _ := ⟨F_marks_to, F_marks_to.binds fun _ _ _ _ _ _ us hl => match us, hl with | [_, _, _, _], _ => rfl, PySem.W.mg_of X G n_marks_to⟩
  have F_led_back := fun_mk (st := s_led_back) l_led_back c_led_back k_led_back
  have A_led_back : At K mg "led_back" s_led_back ["led", "mark"] _ _ := ⟨F_led_back, F_led_back.binds fun _ _ _ _ _ _ us hl => match us, hl with | [_, _], _ => rfl, PySem.W.mg_of X G n_led_back⟩
  have F_least_mark := fun_mk (st := s_least_mark) l_least_mark c_least_mark k_least_mark
  have A_least_mark : At K mg "least_mark" s_least_mark ["places", "step", "begin", "end"] _ _ := ⟨F_least_mark, F_least_mark.binds fun _ _ _ _ _ _ us hl => match us, hl with | [_, _, _, _], _ => rfl, PySem.W.mg_of X G n_least_mark⟩
  have F_first := fun_mk (st := s_first) l_first c_first k_first
  have A_first : At K mg "first" s_first ["places", "step", "begin", "end"] _ _ := ⟨F_first, F_first.binds fun _ _ _ _ _ _ us hl => match us, hl with | [_, _, _, _], _ => rfl, PySem.W.mg_of X G n_first⟩
  have F_most := fun_mk (st := s_most) l_most c_most k_most
  have A_most : At K mg "most" s_most ["places", "step"] _ _ := ⟨F_most, F_most.binds fun _ _ _ _ _ _ us hl => match us, hl with | [_, _], _ => rfl, PySem.W.mg_of X G n_most⟩
  have F_nearest := fun_mk (st := s_nearest) l_nearest c_nearest k_nearest
  have A_nearest : At K mg "nearest" s_nearest ["places", "step", "marks"] _ _ := ⟨F_nearest, F_nearest.binds fun _ _ _ _ _ _ us hl => match us, hl with | [_, _, _], _ => rfl, PySem.W.mg_of X G n_nearest⟩
  have F_gaps := fun_mk (st := s_gaps) l_gaps c_gaps k_gaps
  have A_gaps : At K mg "gaps" s_gaps ["places", "step", "marks"] _ _ := ⟨F_gaps, F_gaps.binds fun _ _ _ _ _ _ us hl => match us, hl with | [_, _, _], _ => rfl, PySem.W.mg_of X G n_gaps⟩
  have F_count := fun_mk (st := s_count) l_count c_count k_count
  have A_count : At K mg "count" s_count ["places", "step", "marks", "begin", "end"] _ _ := ⟨F_count, F_count.binds fun _ _ _ _ _ _ us hl => match us, hl with | [_, _, _, _, _], _ => rfl, PySem.W.mg_of X G n_count⟩
  have F_turned_about := fun_mk (st := s_turned_about) l_turned_about c_turned_about k_turned_about
  have A_turned_about : At K mg "turned_about" s_turned_about ["number", "by"] _ _ := ⟨F_turned_about, F_turned_about.binds fun _ _ _ _ _ _ us hl => match us, hl with | [_, _], _ => rfl, PySem.W.mg_of X G n_turned_about⟩
  have F_mark_at := fun_mk (st := s_mark_at) l_mark_at c_mark_at k_mark_at
  have A_mark_at : At K mg "mark_at" s_mark_at ["places", "step", "place"] _ _ := ⟨F_mark_at, F_mark_at.binds fun _ _ _ _ _ _ us hl => match us, hl with | [_, _, _], _ => rfl, PySem.W.mg_of X G n_mark_at⟩
  have F_place_by := fun_mk (st := s_place_by) l_place_by c_place_by k_place_by
  have A_place_by : At K mg "place_by" s_place_by ["places", "step", "marks", "turn"] _ _ := ⟨F_place_by, F_place_by.binds fun _ _ _ _ _ _ us hl => match us, hl with | [_, _, _, _], _ => rfl, PySem.W.mg_of X G n_place_by⟩
  have F_check_mark := fun_mk (st := s_check_mark) l_check_mark c_check_mark k_check_mark
  have A_check_mark : At K mg "check_mark" s_check_mark ["mark", "marks"] _ _ := ⟨F_check_mark, F_check_mark.binds fun _ _ _ _ _ _ us hl => match us, hl with | [_, _], _ => rfl, PySem.W.mg_of X G n_check_mark⟩
  have F_turn_of := fun_mk (st := s_turn_of) l_turn_of c_turn_of k_turn_of
  have A_turn_of : At K mg "turn_of" s_turn_of ["places", "step", "marks", "mark"] _ _ := ⟨F_turn_of, F_turn_of.binds fun _ _ _ _ _ _ us hl => match us, hl with | [_, _, _, _], _ => rfl, PySem.W.mg_of X G n_turn_of⟩
  have F_mark_by := fun_mk (st := s_mark_by) l_mark_by c_mark_by k_mark_by
  have A_mark_by : At K mg "mark_by" s_mark_by ["places", "step", "marks", "turn"] _ _ := ⟨F_mark_by, F_mark_by.binds fun _ _ _ _ _ _ us hl => match us, hl with | [_, _, _, _], _ => rfl, PySem.W.mg_of X G n_mark_by⟩
  have F_beside := fun_mk (st := s_beside) l_beside c_beside k_beside
  have A_beside : At K mg "beside" s_beside ["places", "step", "marks", "place"] _ _ := ⟨F_beside, F_beside.binds fun _ _ _ _ _ _ us hl => match us, hl with | [_, _, _, _], _ => rfl, PySem.W.mg_of X G n_beside⟩
  have F__law_refused := fun_mk (st := s__law_refused) l__law_refused c__law_refused k__law_refused
  have A__law_refused : At K mg "_law_refused" s__law_refused ["_law_ask", "_law_due"] _ _ := ⟨F__law_refused, F__law_refused.binds fun _ _ _ _ _ _ us hl => match us, hl with | [_, _], _ => rfl, PySem.W.mg_of X G n__law_refused⟩
  have F__law_sound := fun_mk (st := s__law_sound) l__law_sound c__law_sound k__law_sound
  have A__law_sound : At K mg "_law_sound" s__law_sound ["_law_thing"] _ _ := ⟨F__law_sound, F__law_sound.binds fun _ _ _ _ _ _ us hl => match us, hl with | [_], _ => rfl, PySem.W.mg_of X G n__law_sound⟩
  have F__law_doors := fun_mk (st := s__law_doors) l__law_doors c__law_doors k__law_doors
  have A__law_doors : At K mg "_law_doors" s__law_doors ["_law_places", "_law_step", "_law_marks"] _ _ := ⟨F__law_doors, F__law_doors.binds fun _ _ _ _ _ _ us hl => match us, hl with | [_, _, _], _ => rfl, PySem.W.mg_of X G n__law_doors⟩
  have F__law_bad_right := fun_mk (st := s__law_bad_right) l__law_bad_right c__law_bad_right k__law_bad_right
  have A__law_bad_right : At K mg "_law_bad_right" s__law_bad_right ["_law_more"] _ _ := ⟨F__law_bad_right, F__law_bad_right.binds fun _ _ _ _ _ _ us hl => match us, hl with | [_], _ => rfl, PySem.W.mg_of X G n__law_bad_right⟩
  have F__law_great_right := fun_mk (st := s__law_great_right) l__law_great_right c__law_great_right k__law_great_right
  have A__law_great_right : At K mg "_law_great_right" s__law_great_right ["_law_more"] _ _ := ⟨F__law_great_right, F__law_great_right.binds fun _ _ _ _ _ _ us hl => match us, hl with | [_], _ => rfl, PySem.W.mg_of X G n__law_great_right⟩
  have F__law_hand_right := fun_mk (st := s__law_hand_right) l__law_hand_right c__law_hand_right k__law_hand_right
  have A__law_hand_right : At K mg "_law_hand_right" s__law_hand_right [] _ _ := ⟨F__law_hand_right, F__law_hand_right.binds fun _ _ _ _ _ _ us hl => match us, hl with | [], _ => rfl, PySem.W.mg_of X G n__law_hand_right⟩
  have F_law := fun_mk (st := s_law) l_law c_law k_law
  have A_law : At K mg "law" s_law ["_law_script"] _ _ := ⟨F_law, F_law.binds fun _ _ _ _ _ _ us hl => match us, hl with | [_], _ => rfl, PySem.W.mg_of X G n_law⟩
  have F_First___init__ := fun_mk (st := s_First___init__) l_First___init__ c_First___init__ k_First___init__
  have B_First___init__ := F_First___init__.binds (ps := ["self", "mark"]) fun _ _ _ _ _ _ us hl => match us, hl with | [_, _], _ => rfl
  have F_First_shows := fun_mk (st := s_First_shows) l_First_shows c_First_shows k_First_shows
  have B_First_shows := F_First_shows.binds (ps := ["self", "places", "step", "begin", "end"]) fun _ _ _ _ _ _ us hl => match us, hl with | [_, _, _, _, _], _ => rfl
  have F_Never___init__ := fun_mk (st := s_Never___init__) l_Never___init__ c_Never___init__ k_Never___init__
  have B_Never___init__ := F_Never___init__.binds (ps := ["self", "common"]) fun _ _ _ _ _ _ us hl => match us, hl with | [_, _], _ => rfl
  have F_Never_shows := fun_mk (st := s_Never_shows) l_Never_shows c_Never_shows k_Never_shows
  have B_Never_shows := F_Never_shows.binds (ps := ["self", "places", "step", "begin", "end"]) fun _ _ _ _ _ _ us hl => match us, hl with | [_, _, _, _, _], _ => rfl
  have M_First : Mk K C_First a_First___init__ := ⟨mk_First, n_First___init__, i_First___init__, kc_First⟩
  have Cl_First : Cls K C_First := ⟨pg_First, hd_First, po_First, sa_First⟩
  have I_First : InsI K C_First := ⟨Cl_First, oc_First, ogt, otk, om_First⟩
  have M_First_g : mg "First" = some (.ref C_First) := PySem.W.mg_of X G n_First
  have M_Never : Mk K C_Never a_Never___init__ := ⟨mk_Never, n_Never___init__, i_Never___init__, kc_Never⟩
  have Cl_Never : Cls K C_Never := ⟨pg_Never, hd_Never, po_Never, sa_Never⟩
  have I_Never : InsI K C_Never := ⟨Cl_Never, oc_Never, ogt, otk, om_Never⟩
  have M_Never_g : mg "Never" = some (.ref C_Never) := PySem.W.mg_of X G n_Never
  have k_First_Never : PySem.W.kitOne K (.ref C_First) (.ref C_Never) = some false := kit_own ic_Never tc_Never ss_First_Never ss_Never
  have k_First_First : PySem.W.kitOne K (.ref C_First) (.ref C_First) = some true := kit_own ic_First tc_First ss_First ss_First
  have Me_First : Meth K C_First "shows" a_First_shows := ⟨n_First_shows, i_First_shows, k_First_shows⟩
  have k_Never_First : PySem.W.kitOne K (.ref C_Never) (.ref C_First) = some false := kit_own ic_First tc_First ss_Never_First ss_First
  have k_Never_Never : PySem.W.kitOne K (.ref C_Never) (.ref C_Never) = some true := kit_own ic_Never tc_Never ss_Never ss_Never
  have Me_Never : Meth K C_Never "shows" a_Never_shows := ⟨n_Never_shows, i_Never_shows, k_Never_shows⟩
  have E_BadPlaces : ErrAt K mg "BadPlaces" C_BadPlaces := ⟨x_BadPlaces, PySem.W.mg_of X G n_BadPlaces, k_BadPlaces, b_BadPlaces, t_BadPlaces⟩
  have E_BadStep : ErrAt K mg "BadStep" C_BadStep := ⟨x_BadStep, PySem.W.mg_of X G n_BadStep, k_BadStep, b_BadStep, t_BadStep⟩
  have E_BadMarks : ErrAt K mg "BadMarks" C_BadMarks := ⟨x_BadMarks, PySem.W.mg_of X G n_BadMarks, k_BadMarks, b_BadMarks, t_BadMarks⟩
  have E_BadPlace : ErrAt K mg "BadPlace" C_BadPlace := ⟨x_BadPlace, PySem.W.mg_of X G n_BadPlace, k_BadPlace, b_BadPlace, t_BadPlace⟩
  have E_BadMark : ErrAt K mg "BadMark" C_BadMark := ⟨x_BadMark, PySem.W.mg_of X G n_BadMark, k_BadMark, b_BadMark, t_BadMark⟩
  have hA : Blt mg := ⟨PySem.W.mg_none_of X G z_isinstance, PySem.W.mg_none_of X G z_int, PySem.W.mg_none_of X G z_bool, PySem.W.mg_none_of X G z_len, PySem.W.mg_none_of X G z_sum, PySem.W.mg_none_of X G z_min, PySem.W.mg_none_of X G z_max, PySem.W.mg_none_of X G z_sorted, PySem.W.mg_none_of X G z_range, PySem.W.mg_none_of X G z_enumerate, PySem.W.mg_none_of X G z_reversed, PySem.W.mg_none_of X G z_zip, PySem.W.mg_none_of X G z_abs, PySem.W.mg_none_of X G z_all, PySem.W.mg_none_of X G z_any, PySem.W.mg_none_of X G z_list, PySem.W.mg_none_of X G z_tuple, PySem.W.mg_none_of X G z_set, PySem.W.mg_none_of X G z_str, PySem.W.mg_none_of X G z_ValueError⟩
  obtain ⟨cc__law_bad_right, PP__law_bad_right, tt__law_bad_right, np__law_bad_right⟩ := tabs_of ht__law_bad_right
  obtain ⟨hd__law_bad_right, te__law_bad_right⟩ := own "_law_bad_right" (by simp) _ _ tt__law_bad_right
  have hcd__law_bad_right := PySem.W.law_code X G tt__law_bad_right (PySem.W.mg_of X G n__law_bad_right) (X _ _ l__law_bad_right) rfl
  obtain ⟨cc__law_doors, PP__law_doors, tt__law_doors, np__law_doors⟩ := tabs_of ht__law_doors
  obtain ⟨hd__law_doors, te__law_doors⟩ := own "_law_doors" (by simp) _ _ tt__law_doors
  have hcd__law_doors := PySem.W.law_code X G tt__law_doors (PySem.W.mg_of X G n__law_doors) (X _ _ l__law_doors) rfl
  refine ⟨_, [(cc__law_bad_right, PP__law_bad_right), (cc__law_doors, PP__law_doors)], spLaw K [(PP__law_bad_right, lamQ "_law_bad_right"), (PP__law_doors, lamQ "_law_doors")], fun p hp => by simp only [List.mem_cons, List.not_mem_nil, or_false] at hp; rcases hp with rfl | rfl <;> assumption, fun p hp => by simp only [List.mem_cons, List.not_mem_nil, or_false] at hp; rcases hp with rfl | rfl <;> assumption, fun p hp => by simp only [List.mem_cons, List.not_mem_nil, or_false] at hp; rcases hp with rfl | rfl <;> assumption, fun s v => .of_eq (show bindArgs (PySem.W.fnOf "law" "law" (defArgs s_law) (defBody s_law) (defScope s_law) .none kV_law dc_law pm_law an_law cd_law ct_law) ⟨[v], []⟩ = _ from rfl), fun H a ns hl hb hH hS => ⟨a, ns, rfl, ?_, hS, hl, fun z hz => lv_bits (hb z hz), fun _ => rfl⟩, fun base KB GB hTB => ?_⟩
  · intro p hp
    simp only [List.mem_cons, List.not_mem_nil, or_false] at hp; rcases hp with rfl | rfl
    · exact LamX.TabS.nil (hH (cc__law_bad_right, PP__law_bad_right) (by simp))
    · exact LamX.TabS.nil (hH (cc__law_doors, PP__law_doors) (by simp))
  let c : Cs := ⟨C_BadPlaces, C_BadStep, C_BadMarks, C_BadPlace, C_BadMark⟩
  have TB__law_bad_right := hTB (cc__law_bad_right, PP__law_bad_right) (by simp)
  have TB__law_doors := hTB (cc__law_doors, PP__law_doors) (by simp)
  have MG : ErrsG mg c C_StepError := ⟨PySem.W.mg_of X G n_StepError, PySem.W.mg_of X G n_BadPlaces, PySem.W.mg_of X G n_BadStep, PySem.W.mg_of X G n_BadMarks, PySem.W.mg_of X G n_BadPlace, PySem.W.mg_of X G n_BadMark⟩
  have BG : ErrsIs K c C_StepError := by
    refine ⟨fun j hj => ?_, fun i j hi hj => ?_, fun j hj => ?_⟩
    · match j, hj with
      | 0, _ => exact ⟨ga_BadPlaces, gn_BadPlaces, b_BadPlaces, hd_BadPlaces, oc_BadPlaces, ogt, otk, om_BadPlaces⟩
      | 1, _ => exact ⟨ga_BadStep, gn_BadStep, b_BadStep, hd_BadStep, oc_BadStep, ogt, otk, om_BadStep⟩
      | 2, _ => exact ⟨ga_BadMarks, gn_BadMarks, b_BadMarks, hd_BadMarks, oc_BadMarks, ogt, otk, om_BadMarks⟩
      | 3, _ => exact ⟨ga_BadPlace, gn_BadPlace, b_BadPlace, hd_BadPlace, oc_BadPlace, ogt, otk, om_BadPlace⟩
      | 4, _ => exact ⟨ga_BadMark, gn_BadMark, b_BadMark, hd_BadMark, oc_BadMark, ogt, otk, om_BadMark⟩
    · match i, j, hi, hj with
      | 0, 0, _, _ => exact kit_own ic_BadPlaces t_BadPlaces sx_BadPlaces_BadPlaces sx_BadPlaces_BadPlaces
      | 0, 1, _, _ => exact kit_own ic_BadStep t_BadStep sx_BadPlaces_BadStep sx_BadStep_BadStep
      | 0, 2, _, _ => exact kit_own ic_BadMarks t_BadMarks sx_BadPlaces_BadMarks sx_BadMarks_BadMarks
      | 0, 3, _, _ => exact kit_own ic_BadPlace t_BadPlace sx_BadPlaces_BadPlace sx_BadPlace_BadPlace
      | 0, 4, _, _ => exact kit_own ic_BadMark t_BadMark sx_BadPlaces_BadMark sx_BadMark_BadMark
      | 1, 0, _, _ => exact kit_own ic_BadPlaces t_BadPlaces sx_BadStep_BadPlaces sx_BadPlaces_BadPlaces
      | 1, 1, _, _ => exact kit_own ic_BadStep t_BadStep sx_BadStep_BadStep sx_BadStep_BadStep
      | 1, 2, _, _ => exact kit_own ic_BadMarks t_BadMarks sx_BadStep_BadMarks sx_BadMarks_BadMarks
      | 1, 3, _, _ => exact kit_own ic_BadPlace t_BadPlace sx_BadStep_BadPlace sx_BadPlace_BadPlace
      | 1, 4, _, _ => exact kit_own ic_BadMark t_BadMark sx_BadStep_BadMark sx_BadMark_BadMark
      | 2, 0, _, _ => exact kit_own ic_BadPlaces t_BadPlaces sx_BadMarks_BadPlaces sx_BadPlaces_BadPlaces
      | 2, 1, _, _ => exact kit_own ic_BadStep t_BadStep sx_BadMarks_BadStep sx_BadStep_BadStep
      | 2, 2, _, _ => exact kit_own ic_BadMarks t_BadMarks sx_BadMarks_BadMarks sx_BadMarks_BadMarks
      | 2, 3, _, _ => exact kit_own ic_BadPlace t_BadPlace sx_BadMarks_BadPlace sx_BadPlace_BadPlace
      | 2, 4, _, _ => exact kit_own ic_BadMark t_BadMark sx_BadMarks_BadMark sx_BadMark_BadMark
      | 3, 0, _, _ => exact kit_own ic_BadPlaces t_BadPlaces sx_BadPlace_BadPlaces sx_BadPlaces_BadPlaces
      | 3, 1, _, _ => exact kit_own ic_BadStep t_BadStep sx_BadPlace_BadStep sx_BadStep_BadStep
      | 3, 2, _, _ => exact kit_own ic_BadMarks t_BadMarks sx_BadPlace_BadMarks sx_BadMarks_BadMarks
      | 3, 3, _, _ => exact kit_own ic_BadPlace t_BadPlace sx_BadPlace_BadPlace sx_BadPlace_BadPlace
      | 3, 4, _, _ => exact kit_own ic_BadMark t_BadMark sx_BadPlace_BadMark sx_BadMark_BadMark
      | 4, 0, _, _ => exact kit_own ic_BadPlaces t_BadPlaces sx_BadMark_BadPlaces sx_BadPlaces_BadPlaces
      | 4, 1, _, _ => exact kit_own ic_BadStep t_BadStep sx_BadMark_BadStep sx_BadStep_BadStep
      | 4, 2, _, _ => exact kit_own ic_BadMarks t_BadMarks sx_BadMark_BadMarks sx_BadMarks_BadMarks
      | 4, 3, _, _ => exact kit_own ic_BadPlace t_BadPlace sx_BadMark_BadPlace sx_BadPlace_BadPlace
      | 4, 4, _, _ => exact kit_own ic_BadMark t_BadMark sx_BadMark_BadMark sx_BadMark_BadMark
    · match j, hj with
      | 0, _ => exact PySem.W.exm_ref sb_StepError sd_StepError st_StepError su_BadPlaces
      | 1, _ => exact PySem.W.exm_ref sb_StepError sd_StepError st_StepError su_BadStep
      | 2, _ => exact PySem.W.exm_ref sb_StepError sd_StepError st_StepError su_BadMarks
      | 3, _ => exact PySem.W.exm_ref sb_StepError sd_StepError st_StepError su_BadPlace
      | 4, _ => exact PySem.W.exm_ref sb_StepError sd_StepError st_StepError su_BadMark
  have G_is_number := ok_is_number (P := l.prog) (w := w) (base := base) hA F_is_number
  have G_common := ok_common (P := l.prog) (w := w) (mg := mg) (base := base) F_common
  have G_most_of := ok_most_of F_most_of G_common A_common
  have G_check_ring := ok_check_ring (c := c) F_check_ring G_is_number A_is_number E_BadPlaces E_BadStep
  have G_check_marks := ok_check_marks (c := c) F_check_marks G_is_number A_is_number G_most_of A_most_of G_check_ring A_check_ring E_BadMarks
  have G_check_stretch := ok_check_stretch (c := c) F_check_stretch G_is_number A_is_number E_BadPlace
  have G_check_mark := ok_check_mark (c := c) F_check_mark G_is_number A_is_number E_BadMark
  have G_quotients := ok_quotients (P := l.prog) (w := w) (mg := mg) (base := base) F_quotients
  have G_marks_to := ok_marks_to F_marks_to G_quotients A_quotients
  have X_count := ok_count (c := c) F_count G_check_marks A_check_marks G_check_stretch A_check_stretch G_marks_to A_marks_to
  have G_count := quiet X_count
  have X_turn_of := ok_turn_of (c := c) F_turn_of G_check_marks A_check_marks G_check_mark A_check_mark G_marks_to A_marks_to
  have G_turn_of := quiet X_turn_of
  have G_turned_about := ok_turned_about (P := l.prog) (w := w) (mg := mg) (base := base) F_turned_about
  have G_mark_at := ok_mark_at F_mark_at G_common A_common G_turned_about A_turned_about
  have G_place_by := ok_place_by F_place_by G_marks_to A_marks_to
  have X_mark_by := ok_mark_by (c := c) F_mark_by G_check_marks A_check_marks G_check_mark A_check_mark G_mark_at A_mark_at G_place_by A_place_by
  have G_mark_by := quiet X_mark_by
  have X_beside := ok_beside (c := c) F_beside G_check_marks A_check_marks G_is_number A_is_number G_marks_to A_marks_to X_mark_by A_mark_by E_BadPlace
  have G_beside := quiet X_beside
  have G_First___init__ := ok_First___init__ (P := l.prog) (w := w) (mg := mg) (base := base) Cl_First na_First_mark F_First___init__
  have G_Never___init__ := ok_Never___init__ (P := l.prog) (w := w) (mg := mg) (base := base) Cl_Never na_Never_common F_Never___init__
  have G_First_shows := ok_First_shows Cl_First na_First_mark F_First_shows G_is_number A_is_number G_marks_to A_marks_to
  have G_Never_shows := ok_Never_shows Cl_Never na_Never_common F_Never_shows G_is_number A_is_number
  have G_least_mark := ok_least_mark F_least_mark (fun P0 A0 B0 E1 => ok_led_back (P := l.prog) (w := w) (base := base) (P0 := P0) (A0 := A0) (B0 := B0) (E1 := E1) hA F_led_back) A_led_back
  have X_first := ok_first (c := c) F_first G_check_ring A_check_ring G_check_stretch A_check_stretch G_common A_common G_least_mark A_least_mark M_First G_First___init__ M_First_g B_First___init__ M_Never G_Never___init__ M_Never_g B_Never___init__
  have G_first := quiet X_first
  have X_most := ok_most (c := c) F_most G_check_ring A_check_ring G_most_of A_most_of
  have G_most := quiet X_most
  have G_nearest := ok_nearest (P := l.prog) (w := w) (base := base) hA F_nearest
  have X_gaps := ok_gaps (c := c) hA F_gaps G_check_marks A_check_marks G_nearest A_nearest
  have G_gaps := quiet X_gaps
  let TTs : List (Addr × Str) := [(PP__law_bad_right, lamQ "_law_bad_right"), (PP__law_doors, lamQ "_law_doors")]
  have hne : PP__law_bad_right ≠ PP__law_doors := fun z => by
    rw [tt__law_bad_right, tt__law_doors, z] at ht_ne
    simp at ht_ne
  have G__law_sound := ok__law_sound (P := l.prog) (w := w) (base := base) hA F__law_sound
  have G__law_refused := ok__law_refused (P := l.prog) (w := w) (base := base) hA MG BG F__law_refused
  have G__law_doors := ok__law_doors (c := c) (TT := TTs) hcd__law_doors TB__law_doors (by simp [TTs]) (fun p hp e => by
    simp only [TTs, List.mem_cons, List.not_mem_nil, or_false] at hp
    rcases hp with rfl | rfl
    · exact absurd e hne
    · rfl) F__law_doors X_gaps A_gaps X_count A_count X_turn_of A_turn_of X_mark_by A_mark_by X_beside A_beside
  have G__law_bad_right := ok__law_bad_right (c := c) (TT := TTs) hcd__law_bad_right TB__law_bad_right (by simp [TTs]) (fun p hp e => by
    simp only [TTs, List.mem_cons, List.not_mem_nil, or_false] at hp
    rcases hp with rfl | rfl
    · rfl
    · exact absurd e.symm hne) hA MG BG F__law_bad_right G__law_refused A__law_refused G__law_doors A__law_doors G_gaps A_gaps X_most G_most A_most X_count G_count A_count X_first A_first X_beside G_beside A_beside X_turn_of A_turn_of X_mark_by A_mark_by
  have G__law_great_right := ok__law_great_right (c := c) (Cl_First := Cl_First) (Cl_Never := Cl_Never) I_First I_Never na_First_mark na_Never_common k_First_First k_Never_Never hA F__law_great_right G_count A_count G_turn_of A_turn_of G_mark_by A_mark_by G_beside A_beside G_gaps A_gaps G_most A_most G_first A_first G__law_sound A__law_sound M_First_g M_Never_g Me_Never G_Never_shows B_Never_shows
  have G__law_hand_right := ok__law_hand_right (c := c) (Cl_First := Cl_First) (Cl_Never := Cl_Never) I_First na_First_mark k_First_First hA F__law_hand_right G_first A_first M_First G_First___init__ M_First_g B_First___init__ M_Never G_Never___init__ M_Never_g B_Never___init__ Me_First G_First_shows B_First_shows Me_Never G_Never_shows B_Never_shows G_turn_of A_turn_of G_mark_by A_mark_by G_gaps A_gaps G_beside A_beside
  exact ok_law hA F_law G__law_bad_right A__law_bad_right G__law_great_right A__law_great_right G__law_hand_right A__law_hand_right
theorem walk {l : PySem.W.OpenLaw} {q : Program} {loose : List Str} {XP : (Str → Option Value) → Heap → Prop} {YP : World → Heap → Prop} {d : DefRec} {K : Params → PySem.W.Frag} (hn : l.most = some 63) (hdf : d.params.defaults = []) (hrec : ((["_law_bad_right", "_law_doors"] : List Str).all fun x => ((recsOf q).find? fun e => e.name == x).isSome) = true)
    (hY : ∀ (w : World) (h : Heap), YP w h → (K w.params).In h)
    (F : ∀ (w : World) (mg : Str → Option Value) (fa : Addr) (h : Heap), (K w.params).In h → h.Ns mainGlobals mg → mg d.name = some (.ref fa) → (∀ x ∈ (["_law_bad_right", "_law_doors"] : List Str), ∀ c P, PySem.W.tabIn (K w.params) x = some (c, P) → PySem.W.CodeHd h c P ∧ h.get? P = some { cls := .none, data := .fields #[] }) → LamX.LawAtS l w (K w.params) CX0 10 63 "_law_script" mg fa h) :
    PySem.W.WalkO q loose XP YP l.row.toRowW d [] (fun f vs => PySem.call f vs) :=
  walk_ofTabs (n := 63) (k := 10) (x := "_law_script") (CX := fun _ => CX0) ["_law_bad_right", "_law_doors"] hn (by decide) hdf ⟨rfl, by decide, by decide⟩ hrec hY (fun w mg fa h _ X G hm own => F w mg fa h X G hm own) fun _ _ _ _ _ z => z
end RP
open PySem PySem.W PyProof.Rows
set_option maxRecDepth 100000 in
set_option maxHeartbeats 0 in
theorem PySem.Challenge.cw_ringsteps_k07_one_reason_holds : PySem.Challenge.rw_ringsteps_k07_one_reason.Holds := by
  w_on; o_law; k_head; (case hw => w_witness2)
  k_fill
  refine RP.walk (l := PySem.Challenge.rw_ringsteps_k07_one_reason) rfl rfl ?hrec (fun w h Y => PySem.W.km_in_of Y) ?F
  case hrec => kernel_rfl
  case F =>
    intro w mg fa h KX G hmg own
    refine' RP.all_mk KX G hmg own ?n_First ?n_Never ?n_is_number ?l_is_number ?c_is_number ?k_is_number ?n_common ?l_common ?c_common ?k_common ?n_most_of ?l_most_of ?c_most_of ?k_most_of ?n_check_ring ?l_check_ring ?c_check_ring ?k_check_ring ?n_check_marks ?l_check_marks ?c_check_marks ?k_check_marks ?n_check_stretch ?l_check_stretch ?c_check_stretch ?k_check_stretch ?n_quotients ?l_quotients ?c_quotients ?k_quotients ?n_marks_to ?l_marks_to ?c_marks_to ?k_marks_to ?n_led_back ?l_led_back ?c_led_back ?k_led_back ?n_least_mark ?l_least_mark ?c_least_mark ?k_least_mark ?n_first ?l_first ?c_first ?k_first ?n_most ?l_most ?c_most ?k_most ?n_nearest ?l_nearest ?c_nearest ?k_nearest ?n_gaps ?l_gaps ?c_gaps ?k_gaps ?n_count ?l_count ?c_count ?k_count ?n_turned_about ?l_turned_about ?c_turned_about ?k_turned_about ?n_mark_at ?l_mark_at ?c_mark_at ?k_mark_at ?n_place_by ?l_place_by ?c_place_by ?k_place_by ?n_check_mark ?l_check_mark ?c_check_mark ?k_check_mark ?n_turn_of ?l_turn_of ?c_turn_of ?k_turn_of ?n_mark_by ?l_mark_by ?c_mark_by ?k_mark_by ?n_beside ?l_beside ?c_beside ?k_beside ?n__law_refused ?l__law_refused ?c__law_refused ?k__law_refused ?n__law_sound ?l__law_sound ?c__law_sound ?k__law_sound ?n__law_doors ?l__law_doors ?c__law_doors ?k__law_doors ?n__law_bad_right ?l__law_bad_right ?c__law_bad_right ?k__law_bad_right ?n__law_great_right ?l__law_great_right ?c__law_great_right ?k__law_great_right ?n__law_hand_right ?l__law_hand_right ?c__law_hand_right ?k__law_hand_right ?n_law ?l_law ?c_law ?k_law ?n_First___init__ ?i_First___init__ ?l_First___init__ ?c_First___init__ ?k_First___init__ ?n_First_shows ?i_First_shows ?l_First_shows ?c_First_shows ?k_First_shows ?n_Never___init__ ?i_Never___init__ ?l_Never___init__ ?c_Never___init__ ?k_Never___init__ ?n_Never_shows ?i_Never_shows ?l_Never_shows ?c_Never_shows ?k_Never_shows ?pg_First ?hd_First ?po_First ?sa_First ?na_First_mark ?mk_First ?kc_First ?oc_First ?om_First ?ic_First ?tc_First ?ss_First ?pg_Never ?hd_Never ?po_Never ?sa_Never ?na_Never_common ?mk_Never ?kc_Never ?oc_Never ?om_Never ?ic_Never ?tc_Never ?ss_Never ?ss_First_Never ?ss_Never_First ?ogt ?otk ?n_BadPlaces ?x_BadPlaces ?k_BadPlaces ?b_BadPlaces ?t_BadPlaces ?n_BadStep ?x_BadStep ?k_BadStep ?b_BadStep ?t_BadStep ?n_BadMarks ?x_BadMarks ?k_BadMarks ?b_BadMarks ?t_BadMarks ?n_BadPlace ?x_BadPlace ?k_BadPlace ?b_BadPlace ?t_BadPlace ?n_BadMark ?x_BadMark ?k_BadMark ?b_BadMark ?t_BadMark ?z_isinstance ?z_int ?z_bool ?z_len ?z_sum ?z_min ?z_max ?z_sorted ?z_range ?z_enumerate ?z_reversed ?z_zip ?z_abs ?z_all ?z_any ?z_list ?z_tuple ?z_set ?z_str ?z_ValueError ?n_StepError ?sb_StepError ?sd_StepError ?st_StepError ?ga_BadPlaces ?gn_BadPlaces ?hd_BadPlaces ?oc_BadPlaces ?om_BadPlaces ?ic_BadPlaces ?su_BadPlaces ?sx_BadPlaces_BadPlaces ?sx_BadPlaces_BadStep ?sx_BadPlaces_BadMarks ?sx_BadPlaces_BadPlace ?sx_BadPlaces_BadMark ?ga_BadStep ?gn_BadStep ?hd_BadStep ?oc_BadStep ?om_BadStep ?ic_BadStep ?su_BadStep ?sx_BadStep_BadPlaces ?sx_BadStep_BadStep ?sx_BadStep_BadMarks ?sx_BadStep_BadPlace ?sx_BadStep_BadMark ?ga_BadMarks ?gn_BadMarks ?hd_BadMarks ?oc_BadMarks ?om_BadMarks ?ic_BadMarks ?su_BadMarks ?sx_BadMarks_BadPlaces ?sx_BadMarks_BadStep ?sx_BadMarks_BadMarks ?sx_BadMarks_BadPlace ?sx_BadMarks_BadMark ?ga_BadPlace ?gn_BadPlace ?hd_BadPlace ?oc_BadPlace ?om_BadPlace ?ic_BadPlace ?su_BadPlace ?sx_BadPlace_BadPlaces ?sx_BadPlace_BadStep ?sx_BadPlace_BadMarks ?sx_BadPlace_BadPlace ?sx_BadPlace_BadMark ?ga_BadMark ?gn_BadMark ?hd_BadMark ?oc_BadMark ?om_BadMark ?ic_BadMark ?su_BadMark ?sx_BadMark_BadPlaces ?sx_BadMark_BadStep ?sx_BadMark_BadMarks ?sx_BadMark_BadPlace ?sx_BadMark_BadMark ?ht_ne ?ht__law_bad_right ?ht__law_doors
    (case n_First => k_is)
    (case n_Never => k_is)
    (case n_is_number => k_is)
    (case l_is_number => k_is)
    (case c_is_number => k_is)
    (case k_is_number => k_is)
    (case n_common => k_is)
    (case l_common => k_is)
    (case c_common => k_is)
    (case k_common => k_is)
    (case n_most_of => k_is)
    (case l_most_of => k_is)
    (case c_most_of => k_is)
    (case k_most_of => k_is)
    (case n_check_ring => k_is)
    (case l_check_ring => k_is)
    (case c_check_ring => k_is)
    (case k_check_ring => k_is)
    (case n_check_marks => k_is)
    (case l_check_marks => k_is)
    (case c_check_marks => k_is)
    (case k_check_marks => k_is)
    (case n_check_stretch => k_is)
    (case l_check_stretch => k_is)
    (case c_check_stretch => k_is)
    (case k_check_stretch => k_is)
    (case n_quotients => k_is)
    (case l_quotients => k_is)
    (case c_quotients => k_is)
    (case k_quotients => k_is)
    (case n_marks_to => k_is)
    (case l_marks_to => k_is)
    (case c_marks_to => k_is)
    (case k_marks_to => k_is)
    (case n_led_back => k_is)
    (case l_led_back => k_is)
    (case c_led_back => k_is)
    (case k_led_back => k_is)
    (case n_least_mark => k_is)
    (case l_least_mark => k_is)
    (case c_least_mark => k_is)
    (case k_least_mark => k_is)
    (case n_first => k_is)
    (case l_first => k_is)
    (case c_first => k_is)
    (case k_first => k_is)
    (case n_most => k_is)
    (case l_most => k_is)
    (case c_most => k_is)
    (case k_most => k_is)
    (case n_nearest => k_is)
    (case l_nearest => k_is)
    (case c_nearest => k_is)
    (case k_nearest => k_is)
    (case n_gaps => k_is)
    (case l_gaps => k_is)
    (case c_gaps => k_is)
    (case k_gaps => k_is)
    (case n_count => k_is)
    (case l_count => k_is)
    (case c_count => k_is)
    (case k_count => k_is)
    (case n_turned_about => k_is)
    (case l_turned_about => k_is)
    (case c_turned_about => k_is)
    (case k_turned_about => k_is)
    (case n_mark_at => k_is)
    (case l_mark_at => k_is)
    (case c_mark_at => k_is)
    (case k_mark_at => k_is)
    (case n_place_by => k_is)
    (case l_place_by => k_is)
    (case c_place_by => k_is)
    (case k_place_by => k_is)
    (case n_check_mark => k_is)
    (case l_check_mark => k_is)
    (case c_check_mark => k_is)
    (case k_check_mark => k_is)
    (case n_turn_of => k_is)
    (case l_turn_of => k_is)
    (case c_turn_of => k_is)
    (case k_turn_of => k_is)
    (case n_mark_by => k_is)
    (case l_mark_by => k_is)
    (case c_mark_by => k_is)
    (case k_mark_by => k_is)
    (case n_beside => k_is)
    (case l_beside => k_is)
    (case c_beside => k_is)
    (case k_beside => k_is)
    (case n__law_refused => k_is)
    (case l__law_refused => k_is)
    (case c__law_refused => k_is)
    (case k__law_refused => k_is)
    (case n__law_sound => k_is)
    (case l__law_sound => k_is)
    (case c__law_sound => k_is)
    (case k__law_sound => k_is)
    (case n__law_doors => k_is)
    (case l__law_doors => k_is)
    (case c__law_doors => k_is)
    (case k__law_doors => k_is)
    (case n__law_bad_right => k_is)
    (case l__law_bad_right => k_is)
    (case c__law_bad_right => k_is)
    (case k__law_bad_right => k_is)
    (case n__law_great_right => k_is)
    (case l__law_great_right => k_is)
    (case c__law_great_right => k_is)
    (case k__law_great_right => k_is)
    (case n__law_hand_right => k_is)
    (case l__law_hand_right => k_is)
    (case c__law_hand_right => k_is)
    (case k__law_hand_right => k_is)
    (case n_law => k_is)
    (case l_law => k_is)
    (case c_law => k_is)
    (case k_law => k_is)
    (case n_First___init__ => k_is)
    (case i_First___init__ => k_is)
    (case l_First___init__ => k_is)
    (case c_First___init__ => k_is)
    (case k_First___init__ => k_is)
    (case n_First_shows => k_is)
    (case i_First_shows => k_is)
    (case l_First_shows => k_is)
    (case c_First_shows => k_is)
    (case k_First_shows => k_is)
    (case n_Never___init__ => k_is)
    (case i_Never___init__ => k_is)
    (case l_Never___init__ => k_is)
    (case c_Never___init__ => k_is)
    (case k_Never___init__ => k_is)
    (case n_Never_shows => k_is)
    (case i_Never_shows => k_is)
    (case l_Never_shows => k_is)
    (case c_Never_shows => k_is)
    (case k_Never_shows => k_is)
    (case pg_First => k_is)
    (case hd_First => k_is)
    (case po_First => k_is)
    (case sa_First => k_is)
    (case na_First_mark => k_is)
    (case mk_First => k_is)
    (case kc_First => k_is)
    (case oc_First => k_is)
    (case om_First => k_is)
    (case ic_First => k_is)
    (case tc_First => k_is)
    (case ss_First => k_is)
    (case pg_Never => k_is)
    (case hd_Never => k_is)
    (case po_Never => k_is)
    (case sa_Never => k_is)
    (case na_Never_common => k_is)
    (case mk_Never => k_is)
    (case kc_Never => k_is)
    (case oc_Never => k_is)
    (case om_Never => k_is)
    (case ic_Never => k_is)
    (case tc_Never => k_is)
    (case ss_Never => k_is)
    (case ss_First_Never => k_is)
    (case ss_Never_First => k_is)
    (case ogt => k_is)
    (case otk => k_is)
    (case n_BadPlaces => k_is)
    (case x_BadPlaces => k_exc)
    (case k_BadPlaces => k_is)
    (case b_BadPlaces => k_is)
    (case t_BadPlaces => k_is)
    (case n_BadStep => k_is)
    (case x_BadStep => k_exc)
    (case k_BadStep => k_is)
    (case b_BadStep => k_is)
    (case t_BadStep => k_is)
    (case n_BadMarks => k_is)
    (case x_BadMarks => k_exc)
    (case k_BadMarks => k_is)
    (case b_BadMarks => k_is)
    (case t_BadMarks => k_is)
    (case n_BadPlace => k_is)
    (case x_BadPlace => k_exc)
    (case k_BadPlace => k_is)
    (case b_BadPlace => k_is)
    (case t_BadPlace => k_is)
    (case n_BadMark => k_is)
    (case x_BadMark => k_exc)
    (case k_BadMark => k_is)
    (case b_BadMark => k_is)
    (case t_BadMark => k_is)
    (case z_isinstance => k_is)
    (case z_int => k_is)
    (case z_bool => k_is)
    (case z_len => k_is)
    (case z_sum => k_is)
    (case z_min => k_is)
    (case z_max => k_is)
    (case z_sorted => k_is)
    (case z_range => k_is)
    (case z_enumerate => k_is)
    (case z_reversed => k_is)
    (case z_zip => k_is)
    (case z_abs => k_is)
    (case z_all => k_is)
    (case z_any => k_is)
    (case z_list => k_is)
    (case z_tuple => k_is)
    (case z_set => k_is)
    (case z_str => k_is)
    (case z_ValueError => k_is)
    (case n_StepError => k_is)
    (case sb_StepError => k_is)
    (case sd_StepError => k_is)
    (case st_StepError => k_is)
    (case ga_BadPlaces => k_is)
    (case gn_BadPlaces => k_is)
    (case hd_BadPlaces => k_is)
    (case oc_BadPlaces => k_is)
    (case om_BadPlaces => k_is)
    (case ic_BadPlaces => k_is)
    (case su_BadPlaces => k_is)
    (case sx_BadPlaces_BadPlaces => k_is)
    (case sx_BadPlaces_BadStep => k_is)
    (case sx_BadPlaces_BadMarks => k_is)
    (case sx_BadPlaces_BadPlace => k_is)
    (case sx_BadPlaces_BadMark => k_is)
    (case ga_BadStep => k_is)
    (case gn_BadStep => k_is)
    (case hd_BadStep => k_is)
    (case oc_BadStep => k_is)
    (case om_BadStep => k_is)
    (case ic_BadStep => k_is)
    (case su_BadStep => k_is)
    (case sx_BadStep_BadPlaces => k_is)
    (case sx_BadStep_BadStep => k_is)
    (case sx_BadStep_BadMarks => k_is)
    (case sx_BadStep_BadPlace => k_is)
    (case sx_BadStep_BadMark => k_is)
    (case ga_BadMarks => k_is)
    (case gn_BadMarks => k_is)
    (case hd_BadMarks => k_is)
    (case oc_BadMarks => k_is)
    (case om_BadMarks => k_is)
    (case ic_BadMarks => k_is)
    (case su_BadMarks => k_is)
    (case sx_BadMarks_BadPlaces => k_is)
    (case sx_BadMarks_BadStep => k_is)
    (case sx_BadMarks_BadMarks => k_is)
    (case sx_BadMarks_BadPlace => k_is)
    (case sx_BadMarks_BadMark => k_is)
    (case ga_BadPlace => k_is)
    (case gn_BadPlace => k_is)
    (case hd_BadPlace => k_is)
    (case oc_BadPlace => k_is)
    (case om_BadPlace => k_is)
    (case ic_BadPlace => k_is)
    (case su_BadPlace => k_is)
    (case sx_BadPlace_BadPlaces => k_is)
    (case sx_BadPlace_BadStep => k_is)
    (case sx_BadPlace_BadMarks => k_is)
    (case sx_BadPlace_BadPlace => k_is)
    (case sx_BadPlace_BadMark => k_is)
    (case ga_BadMark => k_is)
    (case gn_BadMark => k_is)
    (case hd_BadMark => k_is)
    (case oc_BadMark => k_is)
    (case om_BadMark => k_is)
    (case ic_BadMark => k_is)
    (case su_BadMark => k_is)
    (case sx_BadMark_BadPlaces => k_is)
    (case sx_BadMark_BadStep => k_is)
    (case sx_BadMark_BadMarks => k_is)
    (case sx_BadMark_BadPlace => k_is)
    (case sx_BadMark_BadMark => k_is)
    (case ht_ne => kernel_rfl)
    (case ht__law_bad_right => kernel_rfl)
    (case ht__law_doors => kernel_rfl)
