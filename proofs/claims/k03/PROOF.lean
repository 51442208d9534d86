import PyProof.Rows.All
import Wide.All
import OpenK.AllK
import Wide.FinOn
import HandS.ForMost
import HandS.ForExc
import HandS.Evl
import HandS.Wide
import HandS.IsInst
import HandS.Walk
import HandS.NoneIn
import HandS.SortInts
import HandS.SortRule
import HandS.Style
import HandS.EndBits
import HandS.Iter
import HandS.TupSets
import PyProof.Rows.RuleB_pow
import HandS.Conv
import HandS.Lambda
import HandS.SortKw
import KE.SortKeyHeap
import HandS.EndTab
import KE.KNest
import PySem.Challenge.RW_ringsteps_k03_whole_turns
set_option Elab.async false
set_option linter.all false
set_option maxRecDepth 100000
set_option maxHeartbeats 2000000
namespace RS
/-! ### sums -/
def sumN (f : Nat → Int) : Nat → Int
  | 0 => 0
  | n + 1 => sumN f n + f n
theorem sumN_congr {f g : Nat → Int} : ∀ {n : Nat}, (∀ i, i < n → f i = g i) → sumN f n = sumN g n
  | 0, _ => rfl
  | n + 1, h => by
    show sumN f n + f n = sumN g n + g n
    rw [sumN_congr (n := n) (fun i hi => h i (by omega)), h n (by omega)]
theorem sumN_add (f g : Nat → Int) : ∀ n : Nat, sumN (fun i => f i + g i) n = sumN f n + sumN g n
  | 0 => rfl
  | n + 1 => by
    have := sumN_add f g n
    show sumN (fun i => f i + g i) n + (f n + g n) = sumN f n + f n + (sumN g n + g n)
    omega
theorem sumN_sub (f g : Nat → Int) : ∀ n : Nat, sumN (fun i => f i - g i) n = sumN f n - sumN g n
  | 0 => rfl
  | n + 1 => by
    have := sumN_sub f g n
    show sumN (fun i => f i - g i) n + (f n - g n) = sumN f n + f n - (sumN g n + g n)
    omega
theorem sumN_const (c : Int) : ∀ n : Nat, sumN (fun _ => c) n = (n : Int) * c
  | 0 => by simp [sumN]
  | n + 1 => by
    have := sumN_const c n
    show sumN (fun _ => c) n + c = _
    grind
theorem sumN_le {f g : Nat → Int} : ∀ {n : Nat}, (∀ i, i < n → f i ≤ g i) → sumN f n ≤ sumN g n
  | 0, _ => Int.le_refl _
  | n + 1, h => by
    have h1 := sumN_le (n := n) (fun i hi => h i (by omega))
    have h2 := h n (by omega)
    show sumN f n + f n ≤ sumN g n + g n
    omega
/-- from the other end -/
theorem sumN_front (f : Nat → Int) : ∀ n : Nat, sumN f (n + 1) = f 0 + sumN (fun i => f (i + 1)) n
  | 0 => by simp [sumN]
  | n + 1 => by
    have h := sumN_front f n
    show sumN f (n + 1) + f (n + 1) = f 0 + (sumN (fun i => f (i + 1)) n + f (n + 1))
    omega
theorem sumN_rev (f : Nat → Int) : ∀ n : Nat, sumN (fun i => f (n - 1 - i)) n = sumN f n
  | 0 => rfl
  | n + 1 => by
    rw [sumN_front]
    show f (n + 1 - 1 - 0) + sumN (fun i => f (n + 1 - 1 - (i + 1))) n = sumN f n + f n
    have h : sumN (fun i => f (n + 1 - 1 - (i + 1))) n = sumN (fun i => f (n - 1 - i)) n := sumN_congr fun i hi => by
      have : n + 1 - 1 - (i + 1) = n - 1 - i := by omega
      rw [this]
    rw [h, sumN_rev f n]
    have : n + 1 - 1 - 0 = n := by omega
    rw [this]
    omega
theorem sumN_split (f : Nat → Int) (a : Nat) : ∀ b : Nat, sumN f (a + b) = sumN f a + sumN (fun i => f (a + i)) b
  | 0 => by simp [sumN]
  | b + 1 => by
    have h := sumN_split f a b
    show sumN f (a + b) + f (a + b) = sumN f a + (sumN (fun i => f (a + i)) b + f (a + b))
    omega
/-! ### sums of quotients -/
/-- the sum of (a i + b) / m for i below n -/
def S (n : Nat) (m a b : Int) : Int := sumN (fun i => (a * i + b) / m) n
theorem tri : ∀ n : Nat, sumN (fun i => (i : Int)) n = (n : Int) * (n - 1) / 2
  | 0 => by simp [sumN]
  | n + 1 => by
    have h := tri n
    show sumN (fun i => (i : Int)) n + (n : Int) = _
    rw [h]
    have e : ((n + 1 : Nat) : Int) * (((n + 1 : Nat) : Int) - 1) = (n : Int) * (n - 1) + 2 * n := by grind
    rw [e, Int.add_mul_ediv_left _ _ (by omega)]
theorem sumN_mul (c : Int) (f : Nat → Int) : ∀ n : Nat, sumN (fun i => c * f i) n = c * sumN f n
  | 0 => by simp [sumN]
  | n + 1 => by
    have h := sumN_mul c f n
    show sumN (fun i => c * f i) n + c * f n = c * (sumN f n + f n)
    grind
theorem term_red (m a b i : Int) (hm : 0 < m) : (a * i + b) / m = (a / m) * i + b / m + ((a % m) * i + b % m) / m := by
  have h1 := Int.emod_add_mul_ediv a m
  have h2 := Int.emod_add_mul_ediv b m
  have h : a * i + b = ((a % m) * i + b % m) + m * ((a / m) * i + b / m) := by grind
  rw [h, Int.add_mul_ediv_left _ _ (by omega)]
  omega
/-- the step that takes whole multiples out -/
theorem S_red (n : Nat) (m a b : Int) (hm : 0 < m) : S n m a b = (n : Int) * (n - 1) / 2 * (a / m) + (n : Int) * (b / m) + S n m (a % m) (b % m) := by
  unfold S
  rw [sumN_congr (fun i _ => term_red m a b i hm), sumN_add, sumN_add, sumN_mul, tri, sumN_const]
  grind
theorem S_redb (n : Nat) (m a b : Int) (hm : 0 < m) : S n m a b = (n : Int) * (b / m) + S n m a (b % m) := by
  unfold S
  have : ∀ i : Nat, i < n → (a * i + b) / m = b / m + (a * i + b % m) / m := fun i _ => by
    have h2 := Int.emod_add_mul_ediv b m
    have h : a * (i : Int) + b = (a * i + b % m) + m * (b / m) := by omega
    rw [h, Int.add_mul_ediv_left _ _ (by omega)]
    have e : (a * (i : Int) + b % m + m * (b / m)) = a * i + b := by omega
    omega
  rw [sumN_congr this, sumN_add, sumN_const]
theorem S_zero (n : Nat) (m a b : Int) (hm : 0 < m) (ha : 0 ≤ a) (hb : 0 ≤ b) (h : a * n + b < m) : S n m a b = 0 := by
  unfold S
  rw [sumN_congr (g := fun _ => 0), sumN_const]
  · simp
  · intro i hi
    have h1 : a * (i : Int) ≤ a * n := Int.mul_le_mul_of_nonneg_left (by omega) ha
    have h2 : 0 ≤ a * (i : Int) := Int.mul_nonneg ha (by omega)
    exact Int.ediv_eq_zero_of_lt (by omega) (by omega)
/-- the sum, from the other side: by how many of the second number -/
def T (n : Nat) (m a b : Int) : Int := sumN (fun j => (a * n + b - (j + 1) * m) / a) ((a * n + b) / m).toNat
theorem T_step (n : Nat) (m a b : Int) (ha : 0 < a) (ham : a < m) (hb : 0 ≤ b) : T (n + 1) m a b = T n m a b + (a * n + b) / m := by
  have hm : 0 < m := by omega
  have x0 : 0 ≤ a * (n : Int) + b := by have := Int.mul_nonneg (Int.le_of_lt ha) (Int.natCast_nonneg n); omega
  have hq0 : 0 ≤ (a * (n : Int) + b) / m := Int.ediv_nonneg x0 (by omega)
  generalize hN : ((a * (n : Int) + b) / m).toNat = N
  have hNq : (N : Int) = (a * (n : Int) + b) / m := by omega
  have d1 := Int.emod_add_mul_ediv (a * (n : Int) + b) m
  have d2 := Int.emod_nonneg (a * (n : Int) + b) (show m ≠ 0 by omega)
  have d3 := Int.emod_lt_of_pos (a * (n : Int) + b) hm
  rw [← hNq] at d1
  have big : a * ((n + 1 : Nat) : Int) + b = a * n + b + a := by grind
  have termEq : ∀ j : Nat, (a * ((n + 1 : Nat) : Int) + b - ((j : Int) + 1) * m) / a = (a * n + b - ((j : Int) + 1) * m) / a + 1 := fun j => by
    have e : a * ((n + 1 : Nat) : Int) + b - ((j : Int) + 1) * m = (a * n + b - ((j : Int) + 1) * m) + a * 1 := by rw [big]; omega
    rw [e, Int.add_mul_ediv_left _ _ (by omega)]
  have sumEq : sumN (fun j => (a * ((n + 1 : Nat) : Int) + b - ((j : Int) + 1) * m) / a) N = T n m a b + N := by
    rw [sumN_congr (fun j _ => termEq j), sumN_add, sumN_const]
    unfold T
    rw [hN]
    omega
  have mul1 : m * ((N : Int) + 1) = m * N + m := by grind
  have mul2 : m * ((N : Int) + 2) = m * N + 2 * m := by grind
  have mul3 : ((N : Int) + 1) * m = m * N + m := by grind
  have mul4 : ((N : Int) + 2) * m = m * N + 2 * m := by grind
  have mul5 : (N : Int) * m = m * N := Int.mul_comm _ _
  by_cases hc : a * (n : Int) + b + a < m * ((N : Int) + 1)
  · -- N stays
    have q : (a * ((n + 1 : Nat) : Int) + b) / m = N := by
      rw [big]
      apply Int.le_antisymm
      · have : (a * (n : Int) + b + a) / m < (N : Int) + 1 := Int.ediv_lt_of_lt_mul hm (by omega)
        omega
      · exact Int.le_ediv_of_mul_le hm (by omega)
    unfold T
    rw [q]
    have : ((N : Int)).toNat = N := by omega
    have s := sumEq
    unfold T at s
    rw [this, s, hN, hNq]
  · have q : (a * ((n + 1 : Nat) : Int) + b) / m = (N : Int) + 1 := by
      rw [big]
      apply Int.le_antisymm
      · have : (a * (n : Int) + b + a) / m < (N : Int) + 2 := Int.ediv_lt_of_lt_mul hm (by omega)
        omega
      · exact Int.le_ediv_of_mul_le hm (by omega)
    have e1 : T (n + 1) m a b = sumN (fun j => (a * ((n + 1 : Nat) : Int) + b - ((j : Int) + 1) * m) / a) (N + 1) := by
      unfold T
      rw [q]
      have : ((N : Int) + 1).toNat = N + 1 := by omega
      rw [this]
    rw [e1]
    show sumN (fun j => (a * ((n + 1 : Nat) : Int) + b - ((j : Int) + 1) * m) / a) N + (a * ((n + 1 : Nat) : Int) + b - ((N : Int) + 1) * m) / a = _
    rw [sumEq, termEq]
    have z : (a * (n : Int) + b - ((N : Int) + 1) * m) / a = -1 := by
      apply Int.le_antisymm
      · have : (a * (n : Int) + b - ((N : Int) + 1) * m) / a < 0 := Int.ediv_lt_of_lt_mul ha (by omega)
        omega
      · exact Int.le_ediv_of_mul_le ha (by omega)
    rw [z, ← hNq]
    omega
theorem S_T (m a b : Int) (ha : 0 < a) (ham : a < m) (hb : 0 ≤ b) (hbm : b < m) : ∀ n : Nat, S n m a b = T n m a b
  | 0 => by
    have : (a * ((0 : Nat) : Int) + b) / m = 0 := by
      have e : a * ((0 : Nat) : Int) + b = b := by simp
      rw [e]
      exact Int.ediv_eq_zero_of_lt hb hbm
    unfold S T
    rw [this]
    rfl
  | n + 1 => by
    rw [T_step n m a b ha ham hb, ← S_T m a b ha ham hb hbm n]
    rfl
/-- the step that changes sides -/
theorem S_flip (n : Nat) (m a b : Int) (ha : 0 < a) (ham : a < m) (hb : 0 ≤ b) (hbm : b < m) : S n m a b = S ((a * n + b) / m).toNat a m ((a * n + b) % m) := by
  rw [S_T m a b ha ham hb hbm n]
  have hm : 0 < m := by omega
  have x0 : 0 ≤ a * (n : Int) + b := by have := Int.mul_nonneg (Int.le_of_lt ha) (Int.natCast_nonneg n); omega
  have hq0 : 0 ≤ (a * (n : Int) + b) / m := Int.ediv_nonneg x0 (by omega)
  unfold T S
  generalize hN : ((a * (n : Int) + b) / m).toNat = N
  have hNq : (N : Int) = (a * (n : Int) + b) / m := by omega
  have d1 := Int.emod_add_mul_ediv (a * (n : Int) + b) m
  rw [← hNq] at d1
  rw [← sumN_rev]
  refine sumN_congr fun i hi => ?_
  have e : ((N - 1 - i : Nat) : Int) = (N : Int) - 1 - i := by omega
  rw [e]
  congr 1
  grind
/-! ### how many marks stand up to a place -/
def hit (p s x : Int) (k : Nat) : Int := if (k : Int) * s % p ≤ x then 1 else 0
def cnt (p s : Int) (n : Nat) (x : Int) : Int := sumN (hit p s x) n
theorem hit_q (p s x : Int) (k : Nat) (hx : 0 ≤ x) (hxp : x < p) : (s * k + 0) / p - (s * k + (-x - 1)) / p = hit p s x k := by
  have hp : 0 < p := by omega
  unfold hit
  have c : (k : Int) * s = s * k := Int.mul_comm _ _
  rw [c]
  generalize s * (k : Int) = y
  have d1 := Int.emod_add_mul_ediv y p
  have d2 := Int.emod_nonneg y (show p ≠ 0 by omega)
  have d3 := Int.emod_lt_of_pos y hp
  generalize hr : y % p = r at *
  generalize hq : y / p = q at *
  have e : y + (-x - 1) = (r - x - 1) + p * q := by omega
  rw [e, Int.add_mul_ediv_left _ _ (by omega), Int.add_zero, hq]
  by_cases h : r ≤ x
  · rw [if_pos h]
    have : (r - x - 1) / p = -1 := by
      apply Int.le_antisymm
      · have : (r - x - 1) / p < 0 := Int.ediv_lt_of_lt_mul hp (by omega)
        omega
      · exact Int.le_ediv_of_mul_le hp (by omega)
    omega
  · rw [if_neg h]
    have : (r - x - 1) / p = 0 := Int.ediv_eq_zero_of_lt (by omega) (by omega)
    omega
theorem cnt_S (p s : Int) (n : Nat) (x : Int) (hx : 0 ≤ x) (hxp : x < p) : S n p s 0 - S n p s (-x - 1) = cnt p s n x := by
  unfold S cnt
  rw [← sumN_sub]
  exact sumN_congr fun k _ => hit_q p s x k hx hxp
/-- the law's own sum: of numbers that are not below 0 -/
theorem cnt_S' (p s : Int) (n : Nat) (x : Int) (hx : 0 ≤ x) (hxp : x < p) : n + S n p s 0 - S n p s (p - x - 1) = cnt p s n x := by
  rw [← cnt_S p s n x hx hxp]
  have : S n p s (p - x - 1) = n + S n p s (-x - 1) := by
    unfold S
    have : ∀ i : Nat, i < n → (s * i + (p - x - 1)) / p = 1 + (s * i + (-x - 1)) / p := fun i _ => by
      have e : s * (i : Int) + (p - x - 1) = (s * i + (-x - 1)) + p * 1 := by omega
      rw [e, Int.add_mul_ediv_left _ _ (by omega)]
      omega
    rw [sumN_congr this, sumN_add, sumN_const]
    omega
  omega
theorem hit_nn (p s x : Int) (k : Nat) : 0 ≤ hit p s x k ∧ hit p s x k ≤ 1 := by
  unfold hit
  split <;> omega
theorem cnt_nn (p s : Int) (n : Nat) (x : Int) : 0 ≤ cnt p s n x := by
  have h := sumN_le (f := fun _ => 0) (g := hit p s x) (n := n) fun i _ => (hit_nn p s x i).1
  rw [sumN_const] at h
  simpa [cnt] using h
theorem cnt_le (p s : Int) (n : Nat) (x : Int) : cnt p s n x ≤ n := by
  have h := sumN_le (f := hit p s x) (g := fun _ => 1) (n := n) fun i _ => (hit_nn p s x i).2
  rw [sumN_const] at h
  simpa [cnt] using h
theorem cnt_mono (p s : Int) (n : Nat) {x y : Int} (h : x ≤ y) : cnt p s n x ≤ cnt p s n y := by
  refine sumN_le fun i _ => ?_
  unfold hit
  split <;> split <;> omega
theorem cnt_neg (p s : Int) (n : Nat) (x : Int) (hp : 0 < p) (h : x < 0) : cnt p s n x = 0 := by
  unfold cnt
  rw [sumN_congr (g := fun _ => 0), sumN_const]
  · simp
  · intro i _
    unfold hit
    have := Int.emod_nonneg ((i : Int) * s) (show p ≠ 0 by omega)
    rw [if_neg (by omega)]
theorem cnt_all (p s : Int) (n : Nat) (x : Int) (hp : 0 < p) (h : p - 1 ≤ x) : cnt p s n x = n := by
  unfold cnt
  rw [sumN_congr (g := fun _ => 1), sumN_const]
  · simp
  · intro i _
    unfold hit
    have := Int.emod_lt_of_pos ((i : Int) * s) hp
    rw [if_pos (by omega)]
end RS
namespace RS
/-! ### the greatest common number -/
def G (p s : Int) : Int := (Int.gcd p s : Nat)
def top (p s : Int) : Int := p / G p s
theorem G_pos {p s : Int} (hp : 0 < p) : 0 < G p s := by
  unfold G
  have : 0 < Int.gcd p s := Int.gcd_pos_of_ne_zero_left _ (by omega)
  omega
theorem G_dl (p s : Int) : G p s ∣ p := Int.gcd_dvd_left ..
theorem G_dr (p s : Int) : G p s ∣ s := Int.gcd_dvd_right ..
theorem G_step (a b : Int) (hb : 0 < b) : G b (a % b) = G a b := by
  unfold G
  have : Int.gcd b (a % b) = Int.gcd a b := by
    rw [Int.gcd_comm]
    have h := Int.emod_add_mul_ediv a b
    have e : a % b = a + b * (-(a / b)) := by grind
    rw [e, Int.gcd_add_mul_left_left]
  rw [this]
theorem G_zero {a : Int} (h : 0 ≤ a) : G a 0 = a := by
  unfold G
  rw [Int.gcd_zero_right]
  omega
theorem G_le {p s : Int} (hp : 0 < p) : G p s ≤ p := Int.le_of_dvd hp (G_dl p s)
theorem top_mul {p s : Int} (hp : 0 < p) : G p s * top p s = p := by
  unfold top
  exact Int.mul_ediv_cancel' (G_dl p s)
theorem top_pos {p s : Int} (hp : 0 < p) : 0 < top p s := by
  have h1 := top_mul (s := s) hp
  have h2 := G_pos (s := s) hp
  rcases Int.lt_trichotomy 0 (top p s) with h | h | h
  · exact h
  · rw [← h] at h1; omega
  · have := Int.mul_neg_of_pos_of_neg h2 h; omega
theorem top_le {p s : Int} (hp : 0 < p) : top p s ≤ p := by
  have h1 := top_mul (s := s) hp
  have h2 := G_pos (s := s) hp
  have h3 := top_pos (s := s) hp
  have : 1 * top p s ≤ G p s * top p s := Int.mul_le_mul_of_nonneg_right (by omega) (by omega)
  omega
theorem step_mul (p s : Int) : G p s * (s / G p s) = s := Int.mul_ediv_cancel' (G_dr p s)
/-- what both are divided by has nothing in common -/
theorem coprime_of {p s : Int} (hp : 0 < p) : Int.gcd (top p s) (s / G p s) = 1 := by
  unfold top G
  have : 0 < Int.gcd p s := Int.gcd_pos_of_ne_zero_left _ (by omega)
  exact Int.gcd_ediv_gcd_ediv_gcd (Int.gcd_pos_of_ne_zero_left _ (by omega))
theorem dvd_of_coprime {m a d : Int} (h : Int.gcd m a = 1) (hd : m ∣ d * a) : m ∣ d := by
  have h1 : m ∣ (Int.gcd m a : Int) * d := Int.dvd_gcd_mul_iff_dvd_mul.mpr (by rw [Int.mul_comm]; exact hd)
  rw [h] at h1
  simpa using h1
/-- two marks at one place are whole turns apart -/
theorem same_place {p s i j : Int} (hp : 0 < p) (h : i * s % p = j * s % p) : top p s ∣ (i - j) := by
  have h0 : p ∣ (i - j) * s := by
    rw [Int.sub_mul]
    exact Int.dvd_of_emod_eq_zero (Int.emod_eq_emod_iff_emod_sub_eq_zero.mp h)
  have h1 : G p s * top p s ∣ G p s * ((i - j) * (s / G p s)) := by
    rw [top_mul hp]
    have := step_mul p s
    have e : G p s * ((i - j) * (s / G p s)) = (i - j) * s := by grind
    rw [e]
    exact h0
  have h2 : top p s ∣ (i - j) * (s / G p s) := Int.dvd_of_mul_dvd_mul_left (by have := G_pos (s := s) hp; omega) h1
  exact dvd_of_coprime (coprime_of hp) h2
theorem whole_turn {p s d : Int} (hp : 0 < p) (h : top p s ∣ d) : p ∣ d * s := by
  obtain ⟨c, rfl⟩ := h
  refine ⟨c * (s / G p s), ?_⟩
  have h1 := top_mul (s := s) hp
  have h2 := step_mul p s
  have : top p s * c * s = top p s * c * (G p s * (s / G p s)) := by rw [h2]
  rw [this]
  have : p * (c * (s / G p s)) = (G p s * top p s) * (c * (s / G p s)) := by rw [h1]
  rw [this]
  grind
theorem marks_apart {p s i j : Int} (hp : 0 < p) (hi : 0 ≤ i) (hit : i < top p s) (hj : 0 ≤ j) (hjt : j < top p s) (h : i * s % p = j * s % p) : i = j := by
  obtain ⟨c, hc⟩ := same_place hp h
  have ht := top_pos (s := s) hp
  rcases Int.lt_trichotomy c 0 with h | h | h
  · have : top p s * c ≤ top p s * (-1) := Int.mul_le_mul_of_nonneg_left (by omega) (by omega)
    omega
  · subst h; omega
  · have : top p s * 1 ≤ top p s * c := Int.mul_le_mul_of_nonneg_left (by omega) (by omega)
    omega
/-! ### the inverse -/
/-- what the division with remainder keeps -/
structure Eu (a m one other first second : Int) : Prop where
  f : (first * a - one) % m = 0
  g : (second * a - other) % m = 0
  o : 0 ≤ one
  r : 0 ≤ other
  q : Int.gcd one other = Int.gcd m a
  /-- how great they may be -/
  b : (second.natAbs : Int) * one + (first.natAbs : Int) * other ≤ m
theorem Eu.start {a m : Int} (hm : 0 < m) : Eu a m m (a % m) 0 1 where
  f := by simp
  g := by
    have h := Int.emod_add_mul_ediv a m
    have e : 1 * a - a % m = m * (a / m) := by omega
    rw [e]; exact Int.mul_emod_right ..
  o := by omega
  r := Int.emod_nonneg _ (by omega)
  q := by
    have := G_step a m hm
    unfold G at this
    rw [Int.gcd_comm m a]
    omega
  b := by simp
theorem Eu.next {a m one other first second : Int} (h : Eu a m one other first second) (ho : 0 < other) :
    Eu a m other (one - one / other * other) second (first - one / other * second) := by
  obtain ⟨f, g, o, r, q, b⟩ := h
  have hd := Int.emod_add_mul_ediv one other
  have h1 := Int.emod_nonneg one (show other ≠ 0 by omega)
  have e : one - one / other * other = one % other := by grind
  have t0 : 0 ≤ one / other := Int.ediv_nonneg o r
  refine ⟨g, ?_, r, by omega, ?_, ?_⟩
  · have e2 : (first - one / other * second) * a - (one - one / other * other) = (first * a - one) - (one / other) * (second * a - other) := by grind
    rw [e2]
    obtain ⟨x, hx⟩ := Int.dvd_of_emod_eq_zero f
    obtain ⟨y, hy⟩ := Int.dvd_of_emod_eq_zero g
    rw [hx, hy]
    have e3 : m * x - one / other * (m * y) = m * (x - one / other * y) := by grind
    rw [e3]; exact Int.mul_emod_right ..
  · rw [e, ← q]
    have := G_step one other ho
    unfold G at this
    omega
  · have k : ((first - one / other * second).natAbs : Int) ≤ first.natAbs + one / other * second.natAbs := by
      have h2 : (one / other * second).natAbs = (one / other).natAbs * second.natAbs := Int.natAbs_mul ..
      have h3 : ((one / other).natAbs : Int) = one / other := Int.natAbs_of_nonneg t0
      have h4 : (((one / other * second).natAbs : Nat) : Int) = one / other * second.natAbs := by rw [h2, Int.natCast_mul, h3]
      omega
    have k2 : ((first - one / other * second).natAbs : Int) * other ≤ (first.natAbs + one / other * second.natAbs) * other := Int.mul_le_mul_of_nonneg_right k r
    have k3 : (first.natAbs + one / other * (second.natAbs : Int)) * other + second.natAbs * (one - one / other * other) = second.natAbs * one + first.natAbs * other := by grind
    omega
theorem Eu.done {a m one first second : Int} (h : Eu a m one 0 first second) (hm : 0 < m) (hg : Int.gcd m a = 1) : (first % m * a) % m = 1 % m := by
  have q := h.q
  rw [Int.gcd_zero_right, hg] at q
  have : one = 1 := by have := h.o; omega
  subst this
  have f := h.f
  have := (Int.emod_eq_emod_iff_emod_sub_eq_zero (m := first * a) (n := m) (k := 1)).mpr f
  rw [← this, Int.mul_emod, Int.emod_emod, ← Int.mul_emod]
/-- r is the inverse: the mark of a place that is a multiple -/
theorem mark_at_place {p s r x : Int} (hp : 0 < p) (hr : (r * (s / G p s)) % top p s = 1 % top p s) (hx : 0 ≤ x) (hxp : x < p) (hg : x % G p s = 0) :
    (x / G p s * r % top p s) * s % p = x := by
  have ht := top_pos (s := s) hp
  have hG := G_pos (s := s) hp
  have h1 := top_mul (s := s) hp
  have h2 := step_mul p s
  have h3 : G p s * (x / G p s) = x := Int.mul_ediv_cancel' (Int.dvd_of_emod_eq_zero hg)
  generalize hm : x / G p s * r % top p s = m
  have d1 := Int.emod_add_mul_ediv (x / G p s * r) (top p s)
  rw [hm] at d1
  -- r a = 1 + top c
  obtain ⟨c, hc⟩ : top p s ∣ (r * (s / G p s) - 1) := Int.dvd_of_emod_eq_zero (Int.emod_eq_emod_iff_emod_sub_eq_zero.mp hr)
  have key : m * s = x + p * (x / G p s * c - (x / G p s * r / top p s) * (s / G p s)) := by
    have e1 : m = x / G p s * r - top p s * (x / G p s * r / top p s) := by omega
    have e2 : r * (s / G p s) = 1 + top p s * c := by omega
    generalize x / G p s * r / top p s = w at *
    generalize hb : s / G p s = b at *
    generalize hy : x / G p s = y at *
    generalize top p s = t at *
    generalize G p s = g at *
    rw [e1, ← h2, ← h1]
    have : (y * r - t * w) * (g * b) = g * y * (r * b) - g * t * w * b := by grind
    rw [this, e2]
    grind
  rw [key, Int.add_mul_emod_self_left]
  exact Int.emod_eq_of_lt hx hxp
theorem place_mult {p s k : Int} (hp : 0 < p) : (k * s % p) % G p s = 0 := by
  have h1 : G p s ∣ k * s := Int.dvd_mul_of_dvd_right (G_dr p s)
  have h2 : G p s ∣ p := G_dl p s
  have h := Int.emod_add_mul_ediv (k * s) p
  have : k * s % p = k * s - p * (k * s / p) := by omega
  rw [this]
  exact Int.emod_eq_zero_of_dvd (Int.dvd_sub h1 (Int.dvd_mul_of_dvd_left h2))
theorem mark_back {p s r k : Int} (hp : 0 < p) (hr : (r * (s / G p s)) % top p s = 1 % top p s) (hk : 0 ≤ k) (hkt : k < top p s) :
    (k * s % p) / G p s * r % top p s = k := by
  have ht := top_pos (s := s) hp
  refine marks_apart (s := s) hp (Int.emod_nonneg _ (by omega)) (Int.emod_lt_of_pos _ ht) hk hkt ?_
  exact mark_at_place hp hr (Int.emod_nonneg _ (by omega)) (Int.emod_lt_of_pos _ hp) (place_mult hp)
/-! ### ranks -/
def one_ (p s x : Int) (k : Nat) : Int := if (k : Int) * s % p = x then 1 else 0
theorem cnt_diff (p s : Int) (n : Nat) (x : Int) : cnt p s n x - cnt p s n (x - 1) = sumN (one_ p s x) n := by
  unfold cnt
  rw [← sumN_sub]
  refine sumN_congr fun k _ => ?_
  unfold hit one_
  split <;> split <;> split <;> omega
theorem sumN_nn {f : Nat → Int} {n : Nat} (h : ∀ i, i < n → 0 ≤ f i) : 0 ≤ sumN f n := by
  have := sumN_le (f := fun _ => 0) (g := f) (n := n) h
  rw [sumN_const] at this
  simpa using this
theorem sumN_ge {f : Nat → Int} : ∀ {n k : Nat}, (∀ i, i < n → 0 ≤ f i) → k < n → f k ≤ sumN f n
  | n + 1, k, h, hk => by
    show f k ≤ sumN f n + f n
    by_cases e : k = n
    · subst e
      have := sumN_nn (f := f) (n := k) fun i hi => h i (by omega)
      omega
    · have := sumN_ge (f := f) (n := n) (k := k) (fun i hi => h i (by omega)) (by omega)
      have := h n (by omega)
      omega
theorem one_nn (p s x : Int) (k : Nat) : 0 ≤ one_ p s x k := by unfold one_; split <;> omega
theorem one_apart {p s x : Int} (hp : 0 < p) : ∀ {n : Nat}, (n : Int) ≤ top p s → sumN (one_ p s x) n ≤ 1
  | 0, _ => by simp [sumN]
  | n + 1, h => by
    show sumN (one_ p s x) n + one_ p s x n ≤ 1
    by_cases e : (n : Int) * s % p = x
    · have z : sumN (one_ p s x) n = 0 := by
        rw [sumN_congr (g := fun _ => 0), sumN_const]
        · simp
        · intro i hi
          unfold one_
          rw [if_neg]
          intro e2
          have := marks_apart (p := p) (s := s) (i := i) (j := n) hp (by omega) (by omega) (by omega) (by omega) (e2.trans e.symm)
          omega
      rw [z]
      unfold one_
      rw [if_pos e]
      omega
    · have := one_apart (s := s) (x := x) hp (n := n) (by omega)
      unfold one_
      rw [if_neg e]
      unfold one_ at this
      omega
theorem one_some {p s x : Int} : ∀ {n : Nat}, 0 < sumN (one_ p s x) n → ∃ k : Nat, k < n ∧ (k : Int) * s % p = x
  | 0, h => by simp [sumN] at h
  | n + 1, h => by
    by_cases e : (n : Int) * s % p = x
    · exact ⟨n, by omega, e⟩
    · have h' : 0 < sumN (one_ p s x) n + one_ p s x n := h
      have z : one_ p s x n = 0 := by unfold one_; rw [if_neg e]
      obtain ⟨k, h1, h2⟩ := one_some (p := p) (s := s) (x := x) (n := n) (by omega)
      exact ⟨k, by omega, h2⟩
/-- behind a search: the least place up to which more than t stand holds a mark -/
theorem found_place {p s x t : Int} {n : Nat} (hp : 0 < p) (hn : (n : Int) ≤ top p s) (h1 : t < cnt p s n x) (h2 : cnt p s n (x - 1) ≤ t) :
    ∃ k : Nat, k < n ∧ (k : Int) * s % p = x ∧ cnt p s n x = t + 1 := by
  have d := cnt_diff p s n x
  have u := one_apart (x := x) hp hn
  obtain ⟨k, hk, e⟩ := one_some (p := p) (s := s) (x := x) (n := n) (by omega)
  exact ⟨k, hk, e, by omega⟩
theorem cnt_at {p s x : Int} {n k : Nat} (hk : k < n) (e : (k : Int) * s % p = x) : cnt p s n (x - 1) < cnt p s n x := by
  have d := cnt_diff p s n x
  have := sumN_ge (f := one_ p s x) (n := n) (k := k) (fun i _ => one_nn p s x i) hk
  have z : one_ p s x k = 1 := by unfold one_; rw [if_pos e]
  omega
theorem cnt_at1 {p s x : Int} {n k : Nat} (hp : 0 < p) (hn : (n : Int) ≤ top p s) (hk : k < n) (e : (k : Int) * s % p = x) : cnt p s n x = cnt p s n (x - 1) + 1 := by
  have d := cnt_diff p s n x
  have u := one_apart (x := x) hp hn
  have := cnt_at hk e
  omega
/-- no two marks have one rank -/
theorem rank_apart {p s : Int} {n i j : Nat} (hp : 0 < p) (hn : (n : Int) ≤ top p s) (hi : i < n) (hj : j < n) (h : cnt p s n ((i : Int) * s % p) = cnt p s n ((j : Int) * s % p)) : i = j := by
  have a : ∀ {x y : Int}, x < y → (∃ k, k < n ∧ (k : Int) * s % p = y) → cnt p s n x < cnt p s n y := fun {x y} hxy ⟨k, hk, e⟩ => by
    have h1 := cnt_at hk e
    have h2 := cnt_mono p s n (show x ≤ y - 1 by omega)
    omega
  rcases Int.lt_trichotomy ((i : Int) * s % p) ((j : Int) * s % p) with q | q | q
  · have := a q ⟨j, hj, rfl⟩; omega
  · have := marks_apart (s := s) hp (by omega) (show (i : Int) < top p s by omega) (by omega) (show (j : Int) < top p s by omega) q
    omega
  · have := a q ⟨i, hi, rfl⟩; omega
theorem rank_nn {p s : Int} {n i : Nat} (hi : i < n) : 1 ≤ cnt p s n ((i : Int) * s % p) := by
  have h1 := cnt_at (x := (i : Int) * s % p) hi rfl
  have h2 := cnt_nn p s n ((i : Int) * s % p - 1)
  omega
end RS
namespace RS
/-! ### the first mark in a stretch -/
def In (p s b e k : Int) : Prop := b ≤ k * s % p ∧ k * s % p ≤ e
instance (p s b e k : Int) : Decidable (In p s b e k) := by unfold In; exact inferInstance
structure FirstIn (p s b e k : Int) : Prop where
  nn : 0 ≤ k
  is : In p s b e k
  no : ∀ j, 0 ≤ j → j < k → ¬ In p s b e j
theorem FirstIn.lt {p s b e k : Int} (h : FirstIn p s b e k) (hp : 0 < p) : k < top p s := by
  rcases Int.lt_or_le k (top p s) with h1 | h1
  · exact h1
  · have ht := top_pos (s := s) hp
    have d := whole_turn (s := s) hp (Int.dvd_refl (top p s))
    have e1 : (k - top p s) * s % p = k * s % p := by
      rw [Int.sub_mul]
      obtain ⟨c, hc⟩ := d
      rw [hc]
      have : k * s - p * c = k * s + p * (-c) := by grind
      rw [this, Int.add_mul_emod_self_left]
    exact absurd (show In p s b e (k - top p s) from by unfold In; rw [e1]; exact h.is) (h.no _ (by omega) (by omega))
theorem FirstIn.uniq {p s b e k m : Int} (h : FirstIn p s b e k) (h' : FirstIn p s b e m) : k = m := by
  rcases Int.lt_trichotomy k m with q | q | q
  · exact absurd h.is (h'.no _ h.nn q)
  · exact q
  · exact absurd h'.is (h.no _ h'.nn q)
theorem first_zero {p s b e : Int} (hb : b ≤ 0) (he : 0 ≤ e) : FirstIn p s b e 0 :=
  ⟨by omega, ⟨by simpa using hb, by simpa using he⟩, fun j h1 h2 => by omega⟩
theorem refl_place {p s j : Int} (hp : 0 < p) : j * (p - s) % p = if j * s % p = 0 then 0 else p - j * s % p := by
  have h := Int.emod_add_mul_ediv (j * s) p
  have h1 := Int.emod_nonneg (j * s) (show p ≠ 0 by omega)
  have h2 := Int.emod_lt_of_pos (j * s) hp
  have e : j * (p - s) = -(j * s % p) + p * (j - j * s / p) := by grind
  rw [e, Int.add_mul_emod_self_left]
  split
  · rename_i z; rw [z]; simp
  · rename_i z
    have e2 : -(j * s % p) = (p - j * s % p) + p * (-1) := by omega
    rw [e2, Int.add_mul_emod_self_left]
    exact Int.emod_eq_of_lt (by omega) (by omega)
theorem in_reflect {p s b e j : Int} (hp : 0 < p) (hb : 0 < b) (he : e < p) : In p (p - s) (p - e) (p - b) j ↔ In p s b e j := by
  unfold In
  rw [refl_place hp]
  have h1 := Int.emod_nonneg (j * s) (show p ≠ 0 by omega)
  split <;> omega
theorem first_reflect {p s b e k : Int} (hp : 0 < p) (hb : 0 < b) (he : e < p) (h : FirstIn p (p - s) (p - e) (p - b) k) : FirstIn p s b e k :=
  ⟨h.nn, (in_reflect hp hb he).mp h.is, fun j h1 h2 q => h.no j h1 h2 ((in_reflect hp hb he).mpr q)⟩
/-- rounded up -/
theorem ceil_spec {x s : Int} (hs : 0 < s) : x ≤ (x + s - 1) / s * s ∧ (x + s - 1) / s * s < x + s := by
  have h := Int.emod_add_mul_ediv (x + s - 1) s
  have h1 := Int.emod_nonneg (x + s - 1) (show s ≠ 0 by omega)
  have h2 := Int.emod_lt_of_pos (x + s - 1) hs
  rw [Int.mul_comm s] at h
  omega
theorem ceil_le {x s k : Int} (hs : 0 < s) (h : x ≤ k * s) : (x + s - 1) / s ≤ k := by
  obtain ⟨h1, h2⟩ := ceil_spec (x := x) hs
  rcases Int.lt_or_le k ((x + s - 1) / s) with q | q
  · have : (k + 1) * s ≤ (x + s - 1) / s * s := Int.mul_le_mul_of_nonneg_right (by omega) (by omega)
    rw [Int.add_mul, Int.one_mul] at this
    omega
  · exact q
theorem ceil_nn {x s : Int} (hs : 0 < s) (hx : 0 ≤ x) : 0 ≤ (x + s - 1) / s := Int.ediv_nonneg (by omega) (by omega)
theorem first_direct {p s b e : Int} (hs : 0 < s) (hb : 0 < b) (he : e < p) (h : (b + s - 1) / s * s ≤ e) : FirstIn p s b e ((b + s - 1) / s) := by
  obtain ⟨h1, h2⟩ := ceil_spec (x := b) hs
  have h0 := ceil_nn hs (show 0 ≤ b by omega)
  generalize (b + s - 1) / s = t at *
  have small : ∀ j, 0 ≤ j → j ≤ t → j * s % p = j * s := fun j j0 jt => by
    have a : 0 ≤ j * s := Int.mul_nonneg j0 (by omega)
    have c : j * s ≤ t * s := Int.mul_le_mul_of_nonneg_right jt (by omega)
    exact Int.emod_eq_of_lt a (by omega)
  refine ⟨h0, ⟨by rw [small t h0 (by omega)]; omega, by rw [small t h0 (by omega)]; omega⟩, fun j j0 jt q => ?_⟩
  obtain ⟨q1, q2⟩ := q
  rw [small j j0 (by omega)] at q1
  have : (j + 1) * s ≤ t * s := Int.mul_le_mul_of_nonneg_right (by omega) (by omega)
  rw [Int.add_mul, Int.one_mul] at this
  omega
/-- no multiple within: both ends lie between the same two -/
theorem same_block {s b e : Int} (hs : 0 < s) (hbe : b ≤ e) (h : e < (b + s - 1) / s * s) : e / s = b / s ∧ 0 < b % s ∧ b % s ≤ e % s := by
  obtain ⟨h1, h2⟩ := ceil_spec (x := b) hs
  have d1 := Int.emod_add_mul_ediv b s
  have d2 := Int.emod_nonneg b (show s ≠ 0 by omega)
  have d3 := Int.emod_lt_of_pos b hs
  have c1 := Int.emod_add_mul_ediv e s
  have c2 := Int.emod_nonneg e (show s ≠ 0 by omega)
  have c3 := Int.emod_lt_of_pos e hs
  generalize (b + s - 1) / s = t at *
  have hb0 : 0 < b % s := by
    rcases Int.lt_or_le 0 (b % s) with q | q
    · exact q
    · have z : b % s = 0 := by omega
      -- t s < b + s and t s > e >= b = s (b/s): between two neighbours
      have l1 : s * (b / s) < t * s := by omega
      have l2 : t * s < s * (b / s) + s := by omega
      rw [Int.mul_comm t s] at l1 l2
      have a1 : b / s < t := Int.lt_of_mul_lt_mul_left l1 (by omega)
      have a2 : s * t < s * (b / s + 1) := by rw [Int.mul_add]; omega
      have a3 : t < b / s + 1 := Int.lt_of_mul_lt_mul_left a2 (by omega)
      omega
  have eq : e / s = b / s := by
    have m1 : b / s ≤ e / s := Int.ediv_le_ediv hs hbe
    rcases Int.lt_or_le (b / s) (e / s) with q | q
    · -- t <= e / s
      have l : s * (b / s + 1) ≤ s * (e / s) := Int.mul_le_mul_of_nonneg_left (by omega) (by omega)
      rw [Int.mul_add] at l
      have l2 : s * t < s * (e / s + 1) := by
        rw [Int.mul_add, Int.mul_comm s t]; omega
      have l3 : t < e / s + 1 := Int.lt_of_mul_lt_mul_left l2 (by omega)
      have l4 : t * s ≤ e / s * s := Int.mul_le_mul_of_nonneg_right (by omega) (by omega)
      rw [Int.mul_comm (e / s) s] at l4
      omega
    · omega
  refine ⟨eq, hb0, ?_⟩
  rw [eq] at c1
  omega
/-- by how far the ring is behind a multiple: what stands in the lesser ring -/
theorem neg_place {p s j : Int} (hs : 0 < s) : j * (-p % s) % s = (-(j * p)) % s := by
  have h := Int.emod_add_mul_ediv (-p) s
  have e : -(j * p) = j * (-p % s) + s * (j * (-p / s)) := by grind
  rw [e, Int.add_mul_emod_self_left]
/-- a mark comes into the stretch in its j-th turn just when j comes into the lesser stretch -/
theorem lead_iff {p s b e j k : Int} (hs : 0 < s) (hb : 0 < b % s) (hbe : b % s ≤ e % s) (hq : e / s = b / s) (h1 : b ≤ k * s - j * p) (h2 : k * s - j * p ≤ e) :
    In s (-p % s) (b % s) (e % s) j := by
  unfold In
  rw [neg_place hs]
  have d1 := Int.emod_add_mul_ediv b s
  have c1 := Int.emod_add_mul_ediv e s
  have c3 := Int.emod_lt_of_pos e hs
  rw [hq] at c1
  have e1 : -(j * p) = (k * s - j * p - s * (b / s)) + s * (b / s - k) := by grind
  rw [e1, Int.add_mul_emod_self_left, Int.emod_eq_of_lt (a := k * s - j * p - s * (b / s)) (by omega) (by omega)]
  omega
theorem first_lead {p s b e m : Int} (hp : 0 < p) (hs : 0 < s) (hb : 0 < b) (he : e < p) (hbe : b ≤ e) (h : e < (b + s - 1) / s * s) (hm : FirstIn s (-p % s) (b % s) (e % s) m) :
    FirstIn p s b e ((b + p * m + s - 1) / s) := by
  obtain ⟨hq, hb0, hbe'⟩ := same_block hs hbe h
  have d1 := Int.emod_add_mul_ediv b s
  have c1 := Int.emod_add_mul_ediv e s
  have c3 := Int.emod_lt_of_pos e hs
  obtain ⟨m0, mi, mn⟩ := hm
  obtain ⟨mi1, mi2⟩ := mi
  rw [neg_place hs] at mi1 mi2
  have pm : 0 ≤ p * m := Int.mul_nonneg (by omega) m0
  -- the mark itself
  have f1 := Int.emod_add_mul_ediv (-(m * p)) s
  generalize hr : (-(m * p)) % s = r at *
  generalize hw : (-(m * p)) / s = w at *
  have cm : m * p = p * m := Int.mul_comm _ _
  have kk : (b / s - w) * s = p * m + r + s * (b / s) := by
    have : (b / s - w) * s = s * (b / s) - s * w := by grind
    omega
  have kv : (b + p * m + s - 1) / s = b / s - w := by
    apply Int.le_antisymm
    · exact ceil_le hs (by omega)
    · obtain ⟨x1, x2⟩ := ceil_spec (x := b + p * m) hs
      rcases Int.lt_or_le ((b + p * m + s - 1) / s) (b / s - w) with q | q
      · have l : ((b + p * m + s - 1) / s + 1) * s ≤ (b / s - w) * s := Int.mul_le_mul_of_nonneg_right (by omega) (by omega)
        rw [Int.add_mul, Int.one_mul] at l
        rw [hq] at c1
        omega
      · exact q
  have k0 : 0 ≤ (b + p * m + s - 1) / s := ceil_nn hs (by omega)
  rw [kv] at k0 ⊢
  have place : (b / s - w) * s % p = r + s * (b / s) := by
    rw [kk]
    have : p * m + r + s * (b / s) = (r + s * (b / s)) + p * m := by omega
    rw [this, Int.add_mul_emod_self_left]
    rw [hq] at c1
    refine Int.emod_eq_of_lt ?_ (by omega)
    have := Int.mul_nonneg (Int.le_of_lt hs) (Int.ediv_nonneg (show 0 ≤ b by omega) (Int.le_of_lt hs))
    omega
  refine ⟨k0, ⟨by rw [place]; omega, by rw [place]; rw [hq] at c1; omega⟩, fun k k1 k2 hin => ?_⟩
  obtain ⟨i1, i2⟩ := hin
  have g := Int.emod_add_mul_ediv (k * s) p
  have jn : 0 ≤ k * s / p := Int.ediv_nonneg (Int.mul_nonneg k1 (by omega)) (by omega)
  generalize hj : k * s / p = j at *
  have cj : j * p = p * j := Int.mul_comm _ _
  have inj := lead_iff (k := k) (j := j) (p := p) hs hb0 hbe' hq (by omega) (by omega)
  rcases Int.lt_trichotomy j m with q | q | q
  · exact mn j jn q inj
  · subst q
    have : (b + p * j + s - 1) / s ≤ k := ceil_le hs (by omega)
    omega
  · -- j <= m as k <= the mark found
    have l : k * s ≤ (b / s - w) * s := Int.mul_le_mul_of_nonneg_right (by omega) (by omega)
    have l2 : p * (m + 1) ≤ p * j := Int.mul_le_mul_of_nonneg_left (by omega) (by omega)
    rw [Int.mul_add] at l2
    rw [hq] at c1
    omega
/-! ### a multiple in the stretch -/
def HasM (g b e : Int) : Prop := ∃ c, b ≤ g * c ∧ g * c ≤ e
theorem hasM_iff {g b e : Int} (hg : 0 < g) : HasM g b e ↔ b ≤ e / g * g := by
  have h := Int.emod_add_mul_ediv e g
  have h1 := Int.emod_nonneg e (show g ≠ 0 by omega)
  have h2 := Int.emod_lt_of_pos e hg
  rw [Int.mul_comm g] at h
  constructor
  · rintro ⟨c, h3, h4⟩
    have : c ≤ e / g := Int.le_ediv_of_mul_le hg (by rw [Int.mul_comm]; exact h4)
    have : c * g ≤ e / g * g := Int.mul_le_mul_of_nonneg_right this (by omega)
    rw [Int.mul_comm c] at this
    omega
  · intro h3
    exact ⟨e / g, by rw [Int.mul_comm]; exact h3, by rw [Int.mul_comm]; omega⟩
theorem G_reflect (p s : Int) : G p (p - s) = G p s := by
  unfold G
  have : Int.gcd p (p - s) = Int.gcd p s := by
    have e : p - s = -s + p * 1 := by omega
    rw [e, Int.gcd_add_mul_left_right, Int.gcd_neg]
  rw [this]
theorem G_lead {p s : Int} (hs : 0 < s) : G s (-p % s) = G p s := by
  have h := G_step (-p) s hs
  rw [h]
  unfold G
  rw [Int.neg_gcd]
theorem hasM_reflect {p s b e : Int} (h : HasM (G p s) b e) : HasM (G p (p - s)) (p - e) (p - b) := by
  rw [G_reflect]
  obtain ⟨c, h1, h2⟩ := h
  obtain ⟨t, ht⟩ := G_dl p s
  refine ⟨t - c, ?_, ?_⟩ <;> (rw [Int.mul_sub, ← ht]; omega)
theorem hasM_lead {p s b e : Int} (hs : 0 < s) (hq : e / s = b / s) (h : HasM (G p s) b e) : HasM (G s (-p % s)) (b % s) (e % s) := by
  rw [G_lead hs]
  obtain ⟨c, h1, h2⟩ := h
  obtain ⟨t, ht⟩ := G_dr p s
  have d1 := Int.emod_add_mul_ediv b s
  have c1 := Int.emod_add_mul_ediv e s
  rw [hq] at c1
  have e1 : G p s * (c - t * (b / s)) = G p s * c - s * (b / s) := by
    rw [Int.mul_sub, ← Int.mul_assoc, ← ht]
  exact ⟨c - t * (b / s), by rw [e1]; omega, by rw [e1]; omega⟩
theorem step_there {p s b e : Int} (hp : 0 < p) (hs : 0 ≤ s) (hb : 0 < b) (he : e < p) (h : HasM (G p s) b e) : 0 < s := by
  rcases Int.lt_or_le 0 s with q | q
  · exact q
  · have z : s = 0 := by omega
    subst z
    rw [G_zero (by omega)] at h
    obtain ⟨c, h1, h2⟩ := h
    rcases Int.lt_or_le c 1 with q | q
    · have : p * c ≤ p * 0 := Int.mul_le_mul_of_nonneg_left (by omega) (by omega)
      omega
    · have : p * 1 ≤ p * c := Int.mul_le_mul_of_nonneg_left q (by omega)
      omega
/-- no mark where no multiple is -/
theorem none_in {p s b e k : Int} (hp : 0 < p) (h : ¬ HasM (G p s) b e) : ¬ In p s b e k := by
  rintro ⟨h1, h2⟩
  obtain ⟨c, hc⟩ := Int.dvd_of_emod_eq_zero (place_mult (p := p) (s := s) (k := k) hp)
  exact h ⟨c, by omega, by omega⟩
/-! ### the rings to which it was led -/
/-- the ring p, s, b, e lies behind the written rows of the first one -/
inductive Led (P A B E : Int) : List (Int × Int × Int) → Int → Int → Int → Int → Prop
  | nil : Led P A B E [] P A B E
  | turn {l p s b e} : Led P A B E l p s b e → 0 < b → e < p → Led P A B E l p (p - s) (p - e) (p - b)
  | snoc {l p s b e} : Led P A B E l p s b e → 0 < p → 0 < s → s < p → 0 < b → e < p → b ≤ e → e < (b + s - 1) / s * s → Led P A B E (l ++ [(p, s, b)]) s (-p % s) (b % s) (e % s)
/-- one row back: from the last ring's first mark to that of the ring ahead of it -/
theorem Led.back {P A B E : Int} {l : List (Int × Int × Int)} {p s b e m : Int} (h : Led P A B E l p s b e) (hp : 0 < p) (hf : FirstIn p s b e m) :
    (l = [] ∧ FirstIn P A B E m) ∨ ∃ l' p' s' b' e', l = l' ++ [(p', s', b')] ∧ Led P A B E l' p' s' b' e' ∧ 0 < p' ∧ 0 < s' ∧ 0 < b' ∧ b' < p' ∧ FirstIn s' (-p' % s') (b' % s') (e' % s') m ∧ FirstIn p' s' b' e' ((b' + p' * m + s' - 1) / s') := by
  induction h with
  | nil => exact .inl ⟨rfl, hf⟩
  | @turn l p s b e h hb he ih => exact ih hp (first_reflect hp hb he hf)
  | @snoc l p s b e h h0 hs hsp hb he hbe hn ih => exact .inr ⟨l, p, s, b, e, rfl, h, h0, hs, hb, by omega, hf, first_lead h0 hs hb he hbe hn hf⟩
/-- no ring is greater than the first one -/
theorem Led.bound {P A B E : Int} {l : List (Int × Int × Int)} {p s b e : Int} (h : Led P A B E l p s b e) : p ≤ P ∧ ∀ x ∈ l, x.1 ≤ P ∧ x.2.1 < x.1 ∧ x.2.2 < x.1 ∧ 0 < x.2.1 ∧ 0 < x.2.2 := by
  induction h with
  | nil => exact ⟨Int.le_refl _, fun x hx => by simp at hx⟩
  | turn h hb he ih => exact ih
  | @snoc l p s b e h h0 hs hsp hb he hbe hn ih =>
    refine ⟨by omega, fun x hx => ?_⟩
    rcases List.mem_append.mp hx with hx | hx
    · exact ih.2 x hx
    · have : x = (p, s, b) := by simpa using hx
      subst this
      exact ⟨ih.1, hsp, by show b < p; omega, hs, hb⟩
end RS
namespace RS
/-! ### the marks next to mark 0 -/
structure Near (p s a d b e : Int) : Prop where
  a1 : 1 ≤ a
  b1 : 1 ≤ b
  d0 : 0 < d
  e0 : 0 < e
  sum : d * b + e * a = p
  pa : a * s % p = d
  pb : b * s % p = p - e
  no : ∀ k, 0 < k → k < a + b → d ≤ k * s % p ∧ k * s % p ≤ p - e
theorem Near.lt {p s a d b e : Int} (h : Near p s a d b e) : d + e ≤ p := by
  have h1 : d * 1 ≤ d * b := Int.mul_le_mul_of_nonneg_left h.b1 (Int.le_of_lt h.d0)
  have h2 : e * 1 ≤ e * a := Int.mul_le_mul_of_nonneg_left h.a1 (Int.le_of_lt h.e0)
  have := h.sum
  omega
theorem near_start {p s : Int} (hs : 0 < s) (hsp : s < p) : Near p s 1 s 1 (p - s) := by
  have e : (1 : Int) * s % p = s := by rw [Int.one_mul]; exact Int.emod_eq_of_lt (by omega) hsp
  refine ⟨by omega, by omega, hs, by omega, by grind, e, by rw [e]; omega, fun k h1 h2 => ?_⟩
  have : k = 1 := by omega
  subst this
  rw [e]
  omega
/-- what stands at a sum of marks -/
theorem place_sum {p s x y u v : Int} (hx : x * s % p = u) (hy : y * s % p = v) : (x + y) * s % p = (u + v) % p := by
  rw [Int.add_mul, Int.add_emod, hx, hy]
theorem place_back {p s k b e : Int} (hp : 0 < p) (hb : b * s % p = p - e) : (k - b) * s % p = (k * s % p + e) % p := by
  have h1 := Int.emod_add_mul_ediv (k * s) p
  have h2 := Int.emod_add_mul_ediv (b * s) p
  rw [hb] at h2
  have e1 : (k - b) * s = (k * s % p + e) + p * (k * s / p - b * s / p - 1) := by
    rw [Int.sub_mul, Int.mul_sub, Int.mul_sub]; omega
  rw [e1, Int.add_mul_emod_self_left]
theorem place_back' {p s k a d : Int} (ha : a * s % p = d) : (k - a) * s % p = (k * s % p - d) % p := by
  rw [Int.sub_mul, Int.sub_emod, ha]
theorem near_on {p s a d b e : Int} (h : Near p s a d b e) (hde : e < d) : Near p s (a + b) (d - e) b e := by
  have hl := h.lt
  obtain ⟨a1, b1, d0, e0, sum, pa, pb, no⟩ := h
  have hp : 0 < p := by omega
  have pab : (a + b) * s % p = d - e := by
    rw [place_sum pa pb]
    have : d + (p - e) = (d - e) + p * 1 := by omega
    rw [this, Int.add_mul_emod_self_left]
    exact Int.emod_eq_of_lt (by omega) (by omega)
  refine ⟨by omega, b1, by omega, e0, by grind, pab, pb, fun k k0 k1 => ?_⟩
  have r1 := Int.emod_nonneg (k * s) (show p ≠ 0 by omega)
  have r2 := Int.emod_lt_of_pos (k * s) hp
  rcases Int.lt_trichotomy k (a + b) with q | q | q
  · have := no k k0 q; omega
  · rw [q, pab]; omega
  · have n := no (k - b) (by omega) (by omega)
    rw [place_back hp pb] at n
    generalize k * s % p = x at *
    rcases Int.lt_or_le (x + e) p with z | z
    · rw [Int.emod_eq_of_lt (by omega) z] at n; omega
    · have : x + e = (x + e - p) + p * 1 := by omega
      rw [this, Int.add_mul_emod_self_left, Int.emod_eq_of_lt (by omega) (by omega)] at n
      omega
theorem near_back {p s a d b e : Int} (h : Near p s a d b e) (hde : d < e) : Near p s a d (b + a) (e - d) := by
  have hl := h.lt
  obtain ⟨a1, b1, d0, e0, sum, pa, pb, no⟩ := h
  have hp : 0 < p := by omega
  have pab : (b + a) * s % p = p - (e - d) := by
    rw [place_sum pb pa]
    have : p - e + d = p - (e - d) := by omega
    rw [this]
    exact Int.emod_eq_of_lt (by omega) (by omega)
  refine ⟨a1, by omega, d0, by omega, by grind, pa, pab, fun k k0 k1 => ?_⟩
  have r1 := Int.emod_nonneg (k * s) (show p ≠ 0 by omega)
  have r2 := Int.emod_lt_of_pos (k * s) hp
  rcases Int.lt_trichotomy k (a + b) with q | q | q
  · have := no k k0 q; omega
  · have : k = b + a := by omega
    rw [this, pab]; omega
  · have n := no (k - a) (by omega) (by omega)
    rw [place_back' pa] at n
    generalize k * s % p = x at *
    rcases Int.lt_or_le x d with z | z
    · have : x - d = (x - d + p) + p * (-1) := by omega
      rw [this, Int.add_mul_emod_self_left, Int.emod_eq_of_lt (by omega) (by omega)] at n
      omega
    · rw [Int.emod_eq_of_lt (by omega) (by omega)] at n; omega
theorem near_ons {p s a d b e : Int} (h : Near p s a d b e) : ∀ t : Nat, (t : Int) * e < d → Near p s (a + t * b) (d - t * e) b e
  | 0, _ => by simpa using h
  | t + 1, q => by
    have q' : (t : Int) * e + e < d := by have : ((t + 1 : Nat) : Int) * e = t * e + e := by grind
                                          omega
    have := near_on (near_ons h t (by have := h.e0; omega)) (by omega)
    have e1 : a + (t : Int) * b + b = a + ((t + 1 : Nat) : Int) * b := by grind
    have e2 : d - (t : Int) * e - e = d - ((t + 1 : Nat) : Int) * e := by grind
    rw [e1, e2] at this
    exact this
theorem near_backs {p s a d b e : Int} (h : Near p s a d b e) : ∀ t : Nat, (t : Int) * d < e → Near p s a d (b + t * a) (e - t * d)
  | 0, _ => by simpa using h
  | t + 1, q => by
    have q' : (t : Int) * d + d < e := by have : ((t + 1 : Nat) : Int) * d = t * d + d := by grind
                                          omega
    have := near_back (near_backs h t (by have := h.d0; omega)) (by omega)
    have e1 : b + (t : Int) * a + a = b + ((t + 1 : Nat) : Int) * a := by grind
    have e2 : e - (t : Int) * d - d = e - ((t + 1 : Nat) : Int) * d := by grind
    rw [e1, e2] at this
    exact this
/-- the two are alike only when all marks are there -/
theorem near_ne {p s a d b e : Int} (h : Near p s a d b e) (ht : a + b < top p s) : d ≠ e := by
  intro q
  have hl := h.lt
  obtain ⟨a1, b1, d0, e0, sum, pa, pb, no⟩ := h
  have hp : 0 < p := by omega
  have z : (a + b) * s % p = 0 := by
    rw [place_sum pa pb, q]
    have : e + (p - e) = 0 + p * 1 := by omega
    rw [this, Int.add_mul_emod_self_left]
    rfl
  have z2 : (a + b) * s % p = 0 * s % p := by rw [z]; simp
  have := marks_apart hp (by omega) ht (by omega) (top_pos (s := s) hp) z2
  omega
/-- two turns of the search: how often, bounded -/
theorem times_spec {x y : Int} (hy : 0 < y) : (x - 1) / y * y < x ∧ (y < x → 1 ≤ (x - 1) / y) := by
  have h := Int.emod_add_mul_ediv (x - 1) y
  have h1 := Int.emod_nonneg (x - 1) (show y ≠ 0 by omega)
  have h2 := Int.emod_lt_of_pos (x - 1) hy
  rw [Int.mul_comm y] at h
  exact ⟨by omega, fun q => Int.le_ediv_of_mul_le hy (by omega)⟩
theorem div_spec {x y : Int} (hy : 0 < y) (hx : y ≤ x) : x / y * y ≤ x ∧ 1 ≤ x / y := by
  have h := Int.emod_add_mul_ediv x y
  have h1 := Int.emod_nonneg x (show y ≠ 0 by omega)
  rw [Int.mul_comm y] at h
  exact ⟨by omega, Int.le_ediv_of_mul_le hy (by omega)⟩
/-- the search's end -/
structure Nearest (p s n a d b e : Int) : Prop where
  near : Near p s a d b e
  an : a < n
  bn : b < n
  all : n ≤ a + b
theorem Nearest.no {p s n a d b e : Int} (h : Nearest p s n a d b e) (k : Int) (k0 : 0 < k) (kn : k < n) : d ≤ k * s % p ∧ k * s % p ≤ p - e := h.near.no k k0 (by have := h.all; omega)
theorem Nearest.uniq {p s n a d b e a' d' b' e' : Int} (hn : n ≤ top p s) (h : Nearest p s n a d b e) (h' : Nearest p s n a' d' b' e') : a = a' ∧ d = d' ∧ b = b' ∧ e = e' := by
  have hl := h.near.lt
  have hp : 0 < p := by have := h.near.d0; have := h.near.e0; omega
  have x1 := h.no a' (by have := h'.near.a1; omega) h'.an
  have x2 := h'.no a (by have := h.near.a1; omega) h.an
  have x3 := h.no b' (by have := h'.near.b1; omega) h'.bn
  have x4 := h'.no b (by have := h.near.b1; omega) h.bn
  rw [h.near.pa] at x2
  rw [h'.near.pa] at x1
  rw [h.near.pb] at x4
  rw [h'.near.pb] at x3
  have hd : d = d' := by omega
  have he : e = e' := by omega
  have ha := marks_apart (s := s) hp (show 0 ≤ a by have := h.near.a1; omega) (by have := h.an; omega) (show 0 ≤ a' by have := h'.near.a1; omega) (by have := h'.an; omega) (by rw [h.near.pa, h'.near.pa, hd])
  have hb := marks_apart (s := s) hp (show 0 ≤ b by have := h.near.b1; omega) (by have := h.bn; omega) (show 0 ≤ b' by have := h'.near.b1; omega) (by have := h'.bn; omega) (by rw [h.near.pb, h'.near.pb, he])
  exact ⟨ha, hd, hb, he⟩
/-- two marks or more: the step is no 0 -/
theorem step_pos {p s n : Int} (hp : 0 < p) (hs : 0 ≤ s) (hn : n ≤ top p s) (h2 : 2 ≤ n) : 0 < s := by
  rcases Int.lt_or_le 0 s with q | q
  · exact q
  · have : s = 0 := by omega
    subst this
    unfold top at hn
    rw [G_zero (by omega), Int.ediv_self (by omega)] at hn
    omega
/-! ### the gaps as they are told -/
def keep (l : List (Int × Int)) : List (Int × Int) := l.filter fun x => decide (0 < x.2)
/-- sizes rising, how many there are of each -/
def gapsL (n a d b e : Int) : List (Int × Int) :=
  if d = e then keep [(d, n - a + (n - b)), (d + e, a + b - n)]
  else if d < e then keep [(d, n - a), (e, n - b), (d + e, a + b - n)]
  else keep [(e, n - b), (d, n - a), (d + e, a + b - n)]
end RS
namespace RS
/-! ### the one number with a property -/
theorem eps_eq {P : Int → Prop} {x : Int} (hx : P x) (hu : ∀ y, P y → y = x) : Classical.epsilon P = x := hu _ (Classical.epsilon_spec ⟨x, hx⟩)
noncomputable def theInv (a m : Int) : Int := Classical.epsilon fun r : Int => 0 ≤ r ∧ r < m ∧ r * a % m = 1 % m
theorem theInv_eq {a m r : Int} (hm : 0 < m) (hg : Int.gcd m a = 1) (h0 : 0 ≤ r) (h1 : r < m) (h2 : r * a % m = 1 % m) : theInv a m = r := by
  have ht : top m a = m := by unfold top G; rw [hg]; simp
  refine eps_eq ⟨h0, h1, h2⟩ fun y ⟨y0, y1, y2⟩ => ?_
  exact marks_apart (s := a) hm y0 (by omega) h0 (by omega) (by rw [y2, h2])
noncomputable def thePlace (p s m t : Int) : Int := Classical.epsilon fun x : Int => 0 ≤ x ∧ x < p ∧ t < cnt p s m.toNat x ∧ cnt p s m.toNat (x - 1) ≤ t
theorem thePlace_eq {p s m t x : Int} (h0 : 0 ≤ x) (h1 : x < p) (h2 : t < cnt p s m.toNat x) (h3 : cnt p s m.toNat (x - 1) ≤ t) : thePlace p s m t = x := by
  refine eps_eq ⟨h0, h1, h2, h3⟩ fun y ⟨y0, y1, y2, y3⟩ => ?_
  rcases Int.lt_trichotomy x y with q | q | q
  · have := cnt_mono p s m.toNat (show x ≤ y - 1 by omega); omega
  · exact q.symm
  · have := cnt_mono p s m.toNat (show y ≤ x - 1 by omega); omega
noncomputable def theAt (p s x : Int) : Int := Classical.epsilon fun k : Int => 0 ≤ k ∧ k < top p s ∧ k * s % p = x
theorem theAt_eq {p s x k : Int} (hp : 0 < p) (h0 : 0 ≤ k) (h1 : k < top p s) (h2 : k * s % p = x) : theAt p s x = k :=
  eps_eq ⟨h0, h1, h2⟩ fun y ⟨y0, y1, y2⟩ => marks_apart hp y0 y1 h0 h1 (by rw [y2, h2])
noncomputable def theMark (p s m t : Int) : Int := Classical.epsilon fun k : Int => 0 ≤ k ∧ k < m ∧ cnt p s m.toNat (k * s % p) = t + 1
theorem theMark_eq {p s m t k : Int} (hp : 0 < p) (hm : m ≤ top p s) (h0 : 0 ≤ k) (h1 : k < m) (h2 : cnt p s m.toNat (k * s % p) = t + 1) : theMark p s m t = k := by
  refine eps_eq ⟨h0, h1, h2⟩ fun y ⟨y0, y1, y2⟩ => ?_
  have e1 : ((y.toNat : Nat) : Int) = y := by omega
  have e2 : ((k.toNat : Nat) : Int) = k := by omega
  have := rank_apart (p := p) (s := s) (n := m.toNat) (i := y.toNat) (j := k.toNat) hp (by omega) (by omega) (by omega) (by rw [e1, e2, y2, h2])
  omega
theorem step_ex (f : Int → Int) (t : Int) : ∀ (n : Nat) (lo : Int), f lo ≤ t → t < f (lo + n) → ∃ x, lo < x ∧ x ≤ lo + n ∧ f (x - 1) ≤ t ∧ t < f x
  | 0, lo, h1, h2 => by
    have : lo + ((0 : Nat) : Int) = lo := by omega
    rw [this] at h2
    omega
  | n + 1, lo, h1, h2 => by
    by_cases q : t < f (lo + n)
    · obtain ⟨x, x1, x2, x3, x4⟩ := step_ex f t n lo h1 q
      exact ⟨x, x1, by omega, x3, x4⟩
    · refine ⟨lo + ((n + 1 : Nat) : Int), by omega, by omega, ?_, h2⟩
      have : lo + ((n + 1 : Nat) : Int) - 1 = lo + n := by omega
      rw [this]
      omega
theorem place_ex {p s m t : Int} (hp : 0 < p) (t0 : 0 ≤ t) (tm : t < m) : ∃ x, 0 ≤ x ∧ x < p ∧ t < cnt p s m.toNat x ∧ cnt p s m.toNat (x - 1) ≤ t := by
  have e : (-1 : Int) + (p.toNat : Nat) = p - 1 := by omega
  obtain ⟨x, x1, x2, x3, x4⟩ := step_ex (fun x => cnt p s m.toNat x) t p.toNat (-1) (by show cnt p s m.toNat (-1) ≤ t; rw [cnt_neg p s m.toNat (-1) hp (by omega)]; exact t0) (by
    show t < cnt p s m.toNat (-1 + (p.toNat : Nat))
    rw [e, cnt_all p s m.toNat (p - 1) hp (by omega)]
    omega)
  exact ⟨x, by omega, by omega, x4, x3⟩
theorem theMark_spec {p s m t : Int} (hp : 0 < p) (hm : m ≤ top p s) (t0 : 0 ≤ t) (tm : t < m) : 0 ≤ theMark p s m t ∧ theMark p s m t < m ∧ cnt p s m.toNat (theMark p s m t * s % p) = t + 1 := by
  obtain ⟨x, x0, x1, x2, x3⟩ := place_ex (s := s) hp t0 tm
  obtain ⟨k, k1, k2, k3⟩ := found_place (s := s) hp (show ((m.toNat : Nat) : Int) ≤ top p s by omega) x2 x3
  rw [← k2] at k3
  have := theMark_eq hp hm (k := (k : Int)) (by omega) (by omega) k3
  rw [this]
  exact ⟨by omega, by omega, k3⟩
/-- the way there -/
theorem theMark_at {p s m t : Int} (hp : 0 < p) (hm : m ≤ top p s) (t0 : 0 ≤ t) (tm : t < m) : theAt p s (thePlace p s m t) = theMark p s m t := by
  obtain ⟨h0, h1, h2⟩ := theMark_spec hp hm t0 tm
  have e1 : (((theMark p s m t).toNat : Nat) : Int) = theMark p s m t := by omega
  have b0 := Int.emod_nonneg (theMark p s m t * s) (show p ≠ 0 by omega)
  have b1 := Int.emod_lt_of_pos (theMark p s m t * s) hp
  have h3 := cnt_at1 (p := p) (s := s) (x := theMark p s m t * s % p) (n := m.toNat) (k := (theMark p s m t).toNat) hp (by omega) (by omega) (by rw [e1])
  rw [thePlace_eq (x := theMark p s m t * s % p) b0 b1 (by omega) (by omega)]
  exact theAt_eq hp h0 (by omega) rfl
/-- the place found is a mark's -/
theorem thePlace_mult {p s m t : Int} (hp : 0 < p) (hm : m ≤ top p s) (t0 : 0 ≤ t) (tm : t < m) : 0 ≤ thePlace p s m t ∧ thePlace p s m t < p ∧ thePlace p s m t % G p s = 0 := by
  obtain ⟨x, x0, x1, x2, x3⟩ := place_ex (s := s) hp t0 tm
  obtain ⟨k, k1, k2, k3⟩ := found_place (s := s) hp (show ((m.toNat : Nat) : Int) ≤ top p s by omega) x2 x3
  rw [thePlace_eq x0 x1 x2 x3]
  refine ⟨x0, x1, ?_⟩
  rw [← k2]
  exact place_mult hp
end RS
namespace RS
/-! ### the row 1, 1, 2, 3, 5 -/
def row : Nat → Int × Int
  | 0 => (1, 1)
  | n + 1 => ((row n).2, (row n).1 + (row n).2)
theorem row_pos : ∀ n, 1 ≤ (row n).1 ∧ (row n).1 ≤ (row n).2
  | 0 => by simp [row]
  | n + 1 => by
    have := row_pos n
    show 1 ≤ (row n).2 ∧ (row n).2 ≤ (row n).1 + (row n).2
    omega
theorem row_lt {n : Nat} (h : 1 ≤ n) : (row n).1 < (row n).2 := by
  match n, h with
  | n + 1, _ =>
    have := row_pos n
    show (row n).2 < (row n).1 + (row n).2
    omega
theorem row_ge : ∀ n : Nat, (n : Int) ≤ (row n).2
  | 0 => by simp [row]
  | n + 1 => by
    have := row_pos n
    have := row_ge n
    show ((n + 1 : Nat) : Int) ≤ (row n).1 + (row n).2
    omega
theorem row_le : ∀ n : Nat, (row n).2 ≤ ((2 ^ n : Nat) : Int)
  | 0 => by simp [row]
  | n + 1 => by
    have h1 := row_pos n
    have h2 := row_le n
    show (row n).1 + (row n).2 ≤ _
    rw [Nat.pow_succ]
    omega
theorem row_gcd : ∀ n : Nat, Int.gcd (row n).2 (row n).1 = 1
  | 0 => by simp [row]
  | n + 1 => by
    show Int.gcd ((row n).1 + (row n).2) (row n).2 = 1
    have h := row_gcd n
    rw [Int.gcd_comm, Int.gcd_add_self_right]
    exact h
theorem G_row (n : Nat) : G (row n).2 (row n).1 = 1 := by unfold G; rw [row_gcd]; rfl
theorem G_mul7 {p s : Int} (h : G p s = 1) : G (7 * p) (7 * s) = 7 := by
  unfold G at *
  rw [Int.gcd_mul_left]
  have : Int.gcd p s = 1 := by omega
  rw [this]
  rfl
/-! ### all marks laid: every place has one -/
theorem cnt_slope {p s x : Int} {n : Nat} (hp : 0 < p) (hn : (n : Int) ≤ top p s) : ∀ d : Nat, cnt p s n (x + d) ≤ cnt p s n x + d
  | 0 => by simp
  | d + 1 => by
    have ih := cnt_slope (x := x) hp hn d
    have h1 := cnt_diff p s n (x + ((d + 1 : Nat) : Int))
    have h2 := one_apart (x := x + ((d + 1 : Nat) : Int)) hp hn
    have e : x + ((d + 1 : Nat) : Int) - 1 = x + d := by omega
    rw [e] at h1
    omega
theorem cnt_full {p s x : Int} (hp : 0 < p) (hg : G p s = 1) (h0 : 0 ≤ x) (h1 : x < p) : cnt p s p.toNat x = x + 1 := by
  have ht : top p s = p := by unfold top; rw [hg]; omega
  have hn : ((p.toNat : Nat) : Int) ≤ top p s := by omega
  have a := cnt_slope (x := -1) hp hn (x + 1).toNat
  have b := cnt_slope (x := x) hp hn (p - 1 - x).toNat
  rw [cnt_neg p s p.toNat (-1) hp (by omega)] at a
  rw [cnt_all p s p.toNat (x + (p - 1 - x).toNat) hp (by omega)] at b
  have e : (-1 : Int) + ((x + 1).toNat : Nat) = x := by omega
  rw [e] at a
  omega
/-! ### a few marks in order -/
def spots (p s : Int) (m : Nat) : List Int := (List.range m).map fun i : Nat => (i : Int) * s % p
theorem spots_nodup {p s : Int} {m : Nat} (hp : 0 < p) (hm : (m : Int) ≤ top p s) : (spots p s m).Nodup := by
  unfold spots
  refine List.pairwise_map.mpr ?_
  refine List.Pairwise.imp_of_mem ?_ (List.nodup_range (n := m))
  intro i j hi hj hne q
  have hi := List.mem_range.mp hi
  have hj := List.mem_range.mp hj
  have := marks_apart (s := s) hp (i := i) (j := j) (by omega) (by omega) (by omega) (by omega) q
  omega
theorem filter_cnt {p s x : Int} (m : Nat) : (((spots p s m).filter fun y => decide (y ≤ x)).length : Int) = cnt p s m x := by
  unfold spots
  rw [List.filter_map, List.length_map]
  induction m with
  | zero => rfl
  | succ m ih =>
    rw [List.range_succ, List.filter_append, List.length_append]
    show ((_ + _ : Nat) : Int) = cnt p s m x + hit p s x m
    rw [← ih]
    unfold hit
    by_cases h : (m : Int) * s % p ≤ x
    · rw [if_pos h, List.filter_cons, if_pos (by simpa using h)]; simp
    · rw [if_neg h, List.filter_cons, if_neg (by simpa using h)]; simp
theorem filter_cnt2 {p s b e : Int} (m : Nat) (hbe : b ≤ e + 1) : (((spots p s m).filter fun y => decide (b ≤ y) && decide (y ≤ e)).length : Int) = cnt p s m e - cnt p s m (b - 1) := by
  unfold spots
  rw [List.filter_map, List.length_map]
  induction m with
  | zero => rfl
  | succ m ih =>
    rw [List.range_succ, List.filter_append, List.length_append]
    show ((_ + _ : Nat) : Int) = (cnt p s m e + hit p s e m) - (cnt p s m (b - 1) + hit p s (b - 1) m)
    have e1 : ∀ a b c d : Int, (a + b) - (c + d) = (a - c) + (b - d) := fun a b c d => by omega
    rw [e1, ← ih]
    unfold hit
    by_cases h : b ≤ (m : Int) * s % p
    · by_cases h2 : (m : Int) * s % p ≤ e
      · rw [if_pos h2, if_neg (by omega), List.filter_cons, if_pos (by simp; exact ⟨h, h2⟩)]; simp
      · rw [if_neg h2, if_neg (by omega), List.filter_cons, if_neg (by simp; intro _; omega)]; simp
    · by_cases h2 : (m : Int) * s % p ≤ e
      · rw [if_pos h2, if_pos (by omega), List.filter_cons, if_neg (by simp; intro z; omega)]; simp
      · rw [if_neg h2, if_neg (by omega), List.filter_cons, if_neg (by simp; intro z; omega)]; simp
/-- in a rising list the index is the count ahead -/
theorem index_cnt : ∀ {l : List Int} {j : Nat} {x : Int}, l.Pairwise (· < ·) → l[j]? = some x → (l.filter fun y => decide (y ≤ x)).length = j + 1
  | [], j, x, _, h => by simp at h
  | a :: t, 0, x, hp, h => by
    have hx : a = x := by simpa using h
    subst hx
    have hp' := List.pairwise_cons.mp hp
    rw [List.filter_cons, if_pos (by simp)]
    have : t.filter (fun y => decide (y ≤ a)) = [] := List.filter_eq_nil_iff.mpr fun y hy => by have := hp'.1 y hy; simp; omega
    rw [this]
    rfl
  | a :: t, j + 1, x, hp, h => by
    have hp' := List.pairwise_cons.mp hp
    have h' : t[j]? = some x := by simpa using h
    have := hp'.1 x (List.mem_of_getElem? h')
    rw [List.filter_cons, if_pos (by simp; omega), List.length_cons, index_cnt hp'.2 h']
theorem pw_lt {l : List Int} (h : l.Pairwise (· ≤ ·)) (hn : l.Nodup) : l.Pairwise (· < ·) := by
  have := List.Pairwise.and h hn
  exact this.imp fun {a b} h => by have := h.1; have := h.2; omega
/-- by the index -/
theorem filter_ix (l : List Int) (q : Int → Bool) : ((List.range l.length).filter fun i => q (l.getD i 0)).length = (l.filter q).length := by
  have h : l = (List.range l.length).map fun i => l.getD i 0 := by
    apply List.ext_getElem?
    intro i
    rw [List.getElem?_map]
    by_cases hi : i < l.length
    · rw [List.getElem?_eq_getElem hi, List.getElem?_range hi]
      simp [List.getD, hi]
    · rw [List.getElem?_eq_none (by omega), List.getElem?_eq_none (by simp; omega)]
      rfl
  conv => rhs; rw [h]
  rw [List.filter_map, List.length_map]
  rfl
end RS
namespace RS
/-! ### the nearest marks exist -/
theorem near_ex {p s n : Int} (hn : n ≤ top p s) : ∀ (k : Nat) (a d b e : Int), (2 * n - a - b).toNat ≤ k → Near p s a d b e → a < n → b < n → ∃ a' d' b' e', Nearest p s n a' d' b' e'
  | 0, a, d, b, e, hk, h, ha, hb => absurd hk (by omega)
  | k + 1, a, d, b, e, hk, h, ha, hb => by
    by_cases q : n ≤ a + b
    · exact ⟨a, d, b, e, h, ha, hb, q⟩
    · have hne := near_ne h (by omega)
      have := h.a1
      have := h.b1
      rcases Int.lt_or_le e d with z | z
      · exact near_ex hn k (a + b) (d - e) b e (by omega) (near_on h z) (by omega) hb
      · exact near_ex hn k a d (b + a) (e - d) (by omega) (near_back h (by omega)) ha (by omega)
noncomputable def theNear (p s n : Int) : Int × Int × Int × Int := Classical.epsilon fun q : Int × Int × Int × Int => Nearest p s n q.1 q.2.1 q.2.2.1 q.2.2.2
theorem theNear_spec {p s n : Int} (hp : 0 < p) (s0 : 0 ≤ s) (sp : s < p) (h2 : 2 ≤ n) (hn : n ≤ top p s) : Nearest p s n (theNear p s n).1 (theNear p s n).2.1 (theNear p s n).2.2.1 (theNear p s n).2.2.2 := by
  have s1 := step_pos hp s0 hn h2
  obtain ⟨a, d, b, e, h⟩ := near_ex hn _ 1 s 1 (p - s) (Nat.le_refl _) (near_start s1 sp) (by omega) (by omega)
  exact Classical.epsilon_spec (p := fun q : Int × Int × Int × Int => Nearest p s n q.1 q.2.1 q.2.2.1 q.2.2.2) ⟨(a, d, b, e), h⟩
theorem theNear_eq {p s n a d b e : Int} (hp : 0 < p) (s0 : 0 ≤ s) (sp : s < p) (h2 : 2 ≤ n) (hn : n ≤ top p s) (h : Nearest p s n a d b e) : theNear p s n = (a, d, b, e) := by
  obtain ⟨h1, h3, h4, h5⟩ := (theNear_spec hp s0 sp h2 hn).uniq hn h
  rw [← h1, ← h3, ← h4, ← h5]
noncomputable def gapsOf (p s n : Int) : List (Int × Int) := if n = 1 then [(p, 1)] else gapsL n (theNear p s n).1 (theNear p s n).2.1 (theNear p s n).2.2.1 (theNear p s n).2.2.2
theorem gapsOf_one {p s : Int} : gapsOf p s 1 = [(p, 1)] := if_pos rfl
theorem gapsOf_eq {p s n a d b e : Int} (hp : 0 < p) (s0 : 0 ≤ s) (sp : s < p) (h2 : 2 ≤ n) (hn : n ≤ top p s) (h : Nearest p s n a d b e) : gapsOf p s n = gapsL n a d b e := by
  unfold gapsOf
  rw [if_neg (by omega), theNear_eq hp s0 sp h2 hn h]
/-- sizes rise -/
theorem gapsL_rise {n a d b e : Int} (hd : 0 < d) (he : 0 < e) : (gapsL n a d b e).Pairwise fun x y => x.1 < y.1 := by
  unfold gapsL
  split
  · exact List.Pairwise.filter _ (by simp; omega)
  · split
    · exact List.Pairwise.filter _ (by simp; omega)
    · exact List.Pairwise.filter _ (by simp; omega)
/-- the order of the dict -/
def rawL (n a d b e : Int) : List (Int × Int) := if d = e then [(d, n - a + (n - b)), (d + e, a + b - n)] else [(d, n - a), (e, n - b), (d + e, a + b - n)]
theorem gapsL_perm {n a d b e : Int} : (gapsL n a d b e).Perm (keep (rawL n a d b e)) := by
  unfold gapsL rawL
  by_cases z : d = e
  · rw [if_pos z, if_pos z]
  · rw [if_neg z, if_neg z]
    split
    · exact List.Perm.refl _
    · exact (List.Perm.swap _ _ _).filter _
end RS
namespace RS
/-! ### what comes next behind a mark -/
/-- how far it is to the next place behind mark k's -/
def gapAt (n a d b e k : Int) : Int := if k + a < n then d else if b ≤ k then e else d + e
theorem place_diff {p s i j u v : Int} (hu : i * s % p = u) (hv : j * s % p = v) : (i - j) * s % p = (u - v) % p := by
  rw [Int.sub_mul, Int.sub_emod, hu, hv]
theorem mod_in {x p : Int} (h0 : 0 ≤ x) (h1 : x < p) : x % p = x := Int.emod_eq_of_lt h0 h1
theorem mod_low {x p : Int} (hp : 0 < p) (h0 : -p ≤ x) (h1 : x < 0) : x % p = x + p := by
  have : x % p = (x + p * 1) % p := by rw [Int.add_mul_emod_self_left]
  rw [this, Int.mul_one]
  exact Int.emod_eq_of_lt (by omega) (by omega)
theorem mod_high {x p : Int} (hp : 0 < p) (h0 : p ≤ x) (h1 : x < 2 * p) : x % p = x - p := by
  have : x % p = (x + p * (-1)) % p := by rw [Int.add_mul_emod_self_left]
  rw [this]
  have e : x + p * (-1) = x - p := by omega
  rw [e]
  exact Int.emod_eq_of_lt (by omega) (by omega)
/-- no mark stands within the gap -/
theorem gap_free {p s n a d b e k j : Int} (h : Nearest p s n a d b e) (k0 : 0 ≤ k) (kn : k < n) (j0 : 0 ≤ j) (jn : j < n) : j * s % p ≤ k * s % p ∨ k * s % p + gapAt n a d b e k ≤ j * s % p := by
  have hl := h.near.lt
  have d0 := h.near.d0
  have e0 := h.near.e0
  have a1 := h.near.a1
  have b1 := h.near.b1
  have pa := h.near.pa
  have pb := h.near.pb
  have hall := h.all
  have an := h.an
  have bn := h.bn
  have hp : 0 < p := by omega
  have y0 := Int.emod_nonneg (k * s) (show p ≠ 0 by omega)
  have y1 := Int.emod_lt_of_pos (k * s) hp
  have z0 := Int.emod_nonneg (j * s) (show p ≠ 0 by omega)
  have z1 := Int.emod_lt_of_pos (j * s) hp
  generalize hy : k * s % p = y at *
  generalize hz : j * s % p = z at *
  rcases Int.lt_or_le y z with q | q
  · right
    have hka : (k + a) * s % p = (y + d) % p := place_sum hy pa
    have hkb : (k - b) * s % p = (y + e) % p := by rw [place_back hp pb, hy]
    unfold gapAt
    split
    · rename_i h1
      rcases Int.lt_or_le z (y + d) with w | w
      · exfalso
        have e1 : (k + a - j) * s % p = (y + d - z) % p := by rw [Int.sub_mul, Int.sub_emod, hka, hz, Int.emod_sub_emod]
        have e1 := e1.trans (mod_in (x := y + d - z) (p := p) (by omega) (by omega))
        rcases Int.lt_or_le 0 (k + a - j) with w2 | w2
        · have := (h.no (k + a - j) w2 (by omega)).1
          omega
        · rcases Int.lt_or_le (k + a - j) 0 with w3 | w3
          · have hjk : (j - k) * s % p = z - y := by exact (place_diff hz hy).trans (mod_in (x := z - y) (by omega) (by omega))
            have := (h.no (j - k) (by omega) (by omega)).1
            omega
          · have : k + a - j = 0 := by omega
            rw [this] at e1
            simp at e1
            omega
      · omega
    · rename_i h1
      split
      · rename_i h2
        rcases Int.lt_or_le z (y + e) with w | w
        · exfalso
          rcases Int.lt_trichotomy j k with w2 | w2 | w2
          · have hkj : (k - j) * s % p = y - z + p := by exact (place_diff hy hz).trans (mod_low (x := y - z) hp (by omega) (by omega))
            have := (h.no (k - j) (by omega) (by omega)).2
            omega
          · subst w2; omega
          · have e1 : (j - (k - b)) * s % p = (z - (y + e)) % p := by rw [Int.sub_mul, Int.sub_emod, hz, hkb, Int.sub_emod_emod]
            have e1 := e1.trans (mod_low (x := z - (y + e)) hp (by omega) (by omega))
            have := (h.no (j - (k - b)) (by omega) (by omega)).2
            omega
        · omega
      · rename_i h2
        rcases Int.lt_or_le z (y + (d + e)) with w | w
        · exfalso
          rcases Int.lt_trichotomy j k with w2 | w2 | w2
          · have hkj : (k - j) * s % p = y - z + p := by exact (place_diff hy hz).trans (mod_low (x := y - z) hp (by omega) (by omega))
            have hk1 := (h.no (k - j) (by omega) (by omega)).2
            have e1 : (j - (k - b)) * s % p = (z - (y + e)) % p := by rw [Int.sub_mul, Int.sub_emod, hz, hkb, Int.sub_emod_emod]
            have e1 := e1.trans (mod_in (x := z - (y + e)) (p := p) (by omega) (by omega))
            have := (h.no (j - (k - b)) (by omega) (by omega)).1
            omega
          · subst w2; omega
          · have hjk : (j - k) * s % p = z - y := by exact (place_diff hz hy).trans (mod_in (x := z - y) (by omega) (by omega))
            have hk1 := (h.no (j - k) (by omega) (by omega)).1
            have e1 : (k + a - j) * s % p = (y + d - z) % p := by rw [Int.sub_mul, Int.sub_emod, hka, hz, Int.emod_sub_emod]
            by_cases w4 : y + d = z
            · have e2 : (k + a - j) * s % p = 0 := by rw [e1, w4]; simp
              have := (h.no (k + a - j) (by omega) (by omega)).1
              omega
            · have e1 := e1.trans (mod_low (x := y + d - z) hp (by omega) (by omega))
              have := (h.no (k + a - j) (by omega) (by omega)).2
              omega
        · omega
  · left; exact q
/-- behind the gap stands a mark, or the ring is through -/
theorem gap_next {p s n a d b e k : Int} (h : Nearest p s n a d b e) (ht : n ≤ top p s) (k0 : 0 ≤ k) (kn : k < n) :
    0 < gapAt n a d b e k ∧ k * s % p + gapAt n a d b e k ≤ p ∧ (k * s % p + gapAt n a d b e k = p ∨ ∃ j, 0 ≤ j ∧ j < n ∧ j * s % p = k * s % p + gapAt n a d b e k) := by
  have hl := h.near.lt
  have d0 := h.near.d0
  have e0 := h.near.e0
  have a1 := h.near.a1
  have b1 := h.near.b1
  have pa := h.near.pa
  have pb := h.near.pb
  have hall := h.all
  have an := h.an
  have bn := h.bn
  have hp : 0 < p := by omega
  have y0 := Int.emod_nonneg (k * s) (show p ≠ 0 by omega)
  have y1 := Int.emod_lt_of_pos (k * s) hp
  have yno : 0 < k → d ≤ k * s % p ∧ k * s % p ≤ p - e := fun z => h.no k z kn
  have yz : k = 0 → k * s % p = 0 := fun z => by rw [z]; simp
  have hka : (k + a) * s % p = (k * s % p + d) % p := place_sum rfl pa
  have hkb : (k - b) * s % p = (k * s % p + e) % p := place_back hp pb
  generalize k * s % p = y at *
  unfold gapAt
  split
  · rename_i h1
    obtain ⟨c1, c2⟩ := h.no (k + a) (by omega) h1
    rcases Int.lt_or_le (y + d) p with w | w
    · have e1 := hka.trans (mod_in (x := y + d) (by omega) w)
      exact ⟨d0, by omega, .inr ⟨k + a, by omega, h1, e1⟩⟩
    · have e1 := hka.trans (mod_high (x := y + d) hp w (by omega))
      omega
  · rename_i h1
    split
    · rename_i h2
      obtain ⟨c3, c4⟩ := yno (by omega)
      rcases Int.lt_or_le (y + e) p with w | w
      · have e1 := hkb.trans (mod_in (x := y + e) (by omega) w)
        exact ⟨e0, by omega, .inr ⟨k - b, by omega, by omega, e1⟩⟩
      · exact ⟨e0, by omega, .inl (by omega)⟩
    · rename_i h2
      have hj : (k + a - b) * s % p = (y + (d + e)) % p := by
        have := place_back (p := p) (s := s) (k := k + a) hp pb
        rw [this, hka, Int.emod_add_emod, Int.add_assoc]
      obtain ⟨c1, c2⟩ := h.no (k + a - b) (by omega) (by omega)
      rcases Int.lt_or_le (y + (d + e)) p with w | w
      · have e1 := hj.trans (mod_in (x := y + (d + e)) (by omega) w)
        exact ⟨by omega, by omega, .inr ⟨k + a - b, by omega, by omega, e1⟩⟩
      · have e1 := hj.trans (mod_high (x := y + (d + e)) hp w (by omega))
        exfalso
        by_cases z : k = 0
        · have := yz z
          omega
        · obtain ⟨c3, c4⟩ := yno (by omega)
          have e2 : (k + a - b) * s % p = a * s % p := by omega
          have := marks_apart (s := s) hp (i := k + a - b) (j := a) (by omega) (by omega) (by omega) (by omega) e2
          omega
/-! ### the differences along a rising list -/
def diffs (p : Int) : List Int → List Int
  | [] => []
  | [x] => [p - x]
  | x :: y :: t => (y - x) :: diffs p (y :: t)
theorem diffs_eq {p : Int} {P : Int → Prop} {g : Int → Int} (hfree : ∀ x z, P x → P z → z ≤ x ∨ x + g x ≤ z) (hnext : ∀ x, P x → 0 < g x ∧ (x + g x = p ∨ P (x + g x))) (hlt : ∀ z, P z → z < p) :
    ∀ {l : List Int}, l.Pairwise (· < ·) → (∀ x ∈ l, P x) → (∀ x ∈ l, ∀ z, P z → x < z → z ∈ l) → diffs p l = l.map g
  | [], _, _, _ => rfl
  | [x], _, hm, hu => by
    have hx := hm x (by simp)
    obtain ⟨g0, h⟩ := hnext x hx
    have : x + g x = p := by
      rcases h with h | h
      · exact h
      · have := hu x (by simp) _ h (by omega)
        simp at this
        omega
    show [p - x] = [g x]
    have e : p - x = g x := by omega
    rw [e]
  | x :: y :: t, hp, hm, hu => by
    have hp' := List.pairwise_cons.mp hp
    have hx := hm x (by simp)
    have hy := hm y (by simp)
    have hxy := hp'.1 y (by simp)
    obtain ⟨g0, h⟩ := hnext x hx
    have e : y - x = g x := by
      have h1 := hfree x y hx hy
      have h2 := hlt y hy
      rcases h with h | h
      · omega
      · have h3 := hu x (by simp) _ h (by omega)
        rcases List.mem_cons.mp h3 with h4 | h4
        · omega
        · rcases List.mem_cons.mp h4 with h5 | h5
          · omega
          · have := (List.pairwise_cons.mp hp'.2).1 _ h5
            omega
    show (y - x) :: diffs p (y :: t) = g x :: (y :: t).map g
    rw [e, diffs_eq hfree hnext hlt hp'.2 (fun z hz => hm z (List.mem_cons_of_mem _ hz)) fun z hz w hw hzw => by
      have := hu z (List.mem_cons_of_mem _ hz) w hw hzw
      rcases List.mem_cons.mp this with h5 | h5
      · have := hp'.1 z hz
        omega
      · exact h5]
/-- of the marks' places in order the differences are the gaps -/
theorem diffs_gaps {p s n a d b e : Int} {m : Nat} {l : List Int} (hm : n = m) (h : Nearest p s n a d b e) (ht : n ≤ top p s) (hl : l.Pairwise (· < ·)) (hp : l.Perm (spots p s m)) :
    diffs p l = l.map fun x => gapAt n a d b e (theAt p s x) := by
  have d0 := h.near.d0
  have e0 := h.near.e0
  have hll := h.near.lt
  have p0 : 0 < p := by omega
  have mem : ∀ x, x ∈ l ↔ ∃ k : Int, 0 ≤ k ∧ k < n ∧ k * s % p = x := fun x => by
    rw [hp.mem_iff]
    unfold spots
    rw [List.mem_map]
    constructor
    · rintro ⟨i, hi, rfl⟩
      have := List.mem_range.mp hi
      exact ⟨i, by omega, by omega, rfl⟩
    · rintro ⟨k, k0, k1, rfl⟩
      exact ⟨k.toNat, List.mem_range.mpr (by omega), by rw [show ((k.toNat : Nat) : Int) = k by omega]⟩
  refine diffs_eq (P := fun x => x ∈ l) (fun x z hx hz => ?_) (fun x hx => ?_) (fun z hz => ?_) hl (fun x hx => hx) fun x _ z hz _ => hz
  · obtain ⟨k, k0, k1, rfl⟩ := (mem x).mp hx
    obtain ⟨j, j0, j1, rfl⟩ := (mem z).mp hz
    rw [theAt_eq (k := k) p0 k0 (by omega) rfl]
    exact gap_free h k0 k1 j0 j1
  · obtain ⟨k, k0, k1, rfl⟩ := (mem x).mp hx
    rw [theAt_eq (k := k) p0 k0 (by omega) rfl]
    obtain ⟨h1, h2, h3⟩ := gap_next h ht k0 k1
    refine ⟨h1, ?_⟩
    rcases h3 with h3 | ⟨j, j0, j1, j2⟩
    · exact .inl h3
    · exact .inr ((mem _).mpr ⟨j, j0, j1, j2⟩)
  · obtain ⟨j, j0, j1, rfl⟩ := (mem z).mp hz
    exact Int.emod_lt_of_pos _ p0
/-- how many gaps are of a size -/
theorem gap_count {n a d b e g : Int} {m : Nat} (hm : n = m) (a0 : 0 ≤ a) (b0 : 0 ≤ b) (an : a < n) (bn : b < n) (hall : n ≤ a + b) :
    sumN (fun i : Nat => if gapAt n a d b e i = g then 1 else 0) m = (if d = g then n - a else 0) + (if d + e = g then a + b - n else 0) + (if e = g then n - b else 0) := by
  obtain ⟨A, hA⟩ : ∃ A : Nat, n - a = A := ⟨(n - a).toNat, by omega⟩
  obtain ⟨B, hB⟩ : ∃ B : Nat, a + b - n = B := ⟨(a + b - n).toNat, by omega⟩
  obtain ⟨C, hC⟩ : ∃ C : Nat, n - b = C := ⟨(n - b).toNat, by omega⟩
  have hM : m = A + B + C := by omega
  rw [hM, sumN_split, sumN_split, hA, hB, hC]
  have s1 : sumN (fun i : Nat => if gapAt n a d b e i = g then (1 : Int) else 0) A = if d = g then (A : Int) else 0 := by
    rw [sumN_congr (g := fun _ => if d = g then 1 else 0) fun i hi => by
      have q : gapAt n a d b e (i : Int) = d := if_pos (by omega)
      rw [q], sumN_const]
    split <;> simp
  have s2 : sumN (fun i : Nat => (fun i : Nat => if gapAt n a d b e i = g then (1 : Int) else 0) (A + i)) B = if d + e = g then (B : Int) else 0 := by
    rw [sumN_congr (g := fun _ => if d + e = g then 1 else 0) fun i hi => by show (if gapAt n a d b e ((A + i : Nat) : Int) = g then (1 : Int) else 0) = _; have q : gapAt n a d b e ((A + i : Nat) : Int) = d + e := (if_neg (by omega)).trans (if_neg (by omega)); rw [q], sumN_const]
    split <;> simp
  have s3 : sumN (fun i : Nat => (fun i : Nat => if gapAt n a d b e i = g then (1 : Int) else 0) (A + B + i)) C = if e = g then (C : Int) else 0 := by
    rw [sumN_congr (g := fun _ => if e = g then 1 else 0) fun i hi => by show (if gapAt n a d b e ((A + B + i : Nat) : Int) = g then (1 : Int) else 0) = _; have q : gapAt n a d b e ((A + B + i : Nat) : Int) = e := (if_neg (by omega)).trans (if_pos (by omega)); rw [q], sumN_const]
    split <;> simp
  rw [s1, s2, s3]
end RS
namespace RS
/-! ### a tally of ints -/
def tget (l : List (Int × Int)) (k : Int) : Option Int := (l.find? fun x => decide (x.1 = k)).map (·.2)
def tput (l : List (Int × Int)) (k v : Int) : List (Int × Int) := if (l.any fun x => decide (x.1 = k)) = true then l.map (fun x => if x.1 = k then (x.1, v) else x) else l ++ [(k, v)]
def tinc (l : List (Int × Int)) (k : Int) : List (Int × Int) := tput l k ((tget l k).getD 0 + 1)
def tally (ds : List Int) : List (Int × Int) := ds.foldl tinc []
/-- keys apart, each with its count -/
structure Tal (l : List (Int × Int)) (c : Int → Int) : Prop where
  nd : (l.map (·.1)).Nodup
  is : ∀ g v, (g, v) ∈ l ↔ v = c g ∧ 0 < v
theorem tget_mem {l : List (Int × Int)} (hn : (l.map (·.1)).Nodup) {k v : Int} (h : (k, v) ∈ l) : tget l k = some v := by
  induction l with
  | nil => cases h
  | cons x t ih =>
    rw [List.map_cons] at hn
    have hn' := List.nodup_cons.mp hn
    unfold tget
    rw [List.find?_cons]
    rcases List.mem_cons.mp h with e | e
    · subst e
      simp
    · have : x.1 ≠ k := fun z => hn'.1 (by rw [z]; exact List.mem_map_of_mem (f := (·.1)) e)
      have ih' := ih hn'.2 e
      unfold tget at ih'
      rw [decide_eq_false this]
      exact ih'
theorem tget_none {l : List (Int × Int)} {k : Int} (h : ∀ v, (k, v) ∉ l) : tget l k = none := by
  unfold tget
  have : (l.find? fun x => decide (x.1 = k)) = none := List.find?_eq_none.mpr fun x hx => by
    intro z
    have e : x.1 = k := by simpa using z
    exact h x.2 (by rw [← e]; exact hx)
  rw [this]
  rfl
theorem any_mem {l : List (Int × Int)} {k : Int} : (l.any fun x => decide (x.1 = k)) = true ↔ ∃ v, (k, v) ∈ l := by
  rw [List.any_eq_true]
  constructor
  · rintro ⟨x, hx, e⟩
    have e : x.1 = k := by simpa using e
    exact ⟨x.2, by rw [← e]; exact hx⟩
  · rintro ⟨v, hv⟩
    exact ⟨(k, v), hv, by simp⟩
theorem Tal.inc {l : List (Int × Int)} {c : Int → Int} (h : Tal l c) (h0 : ∀ g, 0 ≤ c g) (k : Int) : Tal (tinc l k) (fun g => c g + if g = k then 1 else 0) := by
  have hget : (tget l k).getD 0 = c k := by
    by_cases z : 0 < c k
    · rw [tget_mem h.nd ((h.is k (c k)).mpr ⟨rfl, z⟩)]; rfl
    · rw [tget_none fun v hv => by have := (h.is k v).mp hv; omega]
      have := h0 k
      show 0 = c k
      omega
  unfold tinc
  rw [hget]
  unfold tput
  by_cases q : (l.any fun x => decide (x.1 = k)) = true
  · rw [if_pos q]
    have hk : (l.map fun x => if x.1 = k then (x.1, c k + 1) else x).map (·.1) = l.map (·.1) := by
      rw [List.map_map]
      refine List.map_congr_left fun x _ => ?_
      show (if x.1 = k then (x.1, c k + 1) else x).1 = x.1
      split <;> rfl
    refine ⟨by rw [hk]; exact h.nd, fun g v => ?_⟩
    rw [List.mem_map]
    constructor
    · rintro ⟨x, hx, e⟩
      have hx' := (h.is x.1 x.2).mp hx
      by_cases z : x.1 = k
      · rw [if_pos z] at e
        have e1 : x.1 = g := congrArg (·.1) e
        have e2 : c k + 1 = v := congrArg (·.2) e
        rw [← e1, if_pos z, z]
        have := h0 k
        omega
      · rw [if_neg z] at e
        have e1 : x.1 = g := congrArg (·.1) e
        have e2 : x.2 = v := congrArg (·.2) e
        rw [if_neg (by rw [← e1]; exact z), ← e1, ← e2]
        exact ⟨by have := hx'.1; omega, hx'.2⟩
    · rintro ⟨e, hv⟩
      by_cases z : g = k
      · subst z
        obtain ⟨v0, hv0⟩ := any_mem.mp q
        exact ⟨(g, v0), hv0, by rw [if_pos rfl]; rw [if_pos rfl] at e; rw [e]⟩
      · rw [if_neg z] at e
        exact ⟨(g, v), (h.is g v).mpr ⟨by omega, hv⟩, by rw [if_neg z]⟩
  · rw [if_neg q]
    have hno : ∀ v, (k, v) ∉ l := fun v hv => q (any_mem.mpr ⟨v, hv⟩)
    have ck : c k = 0 := by
      have := h0 k
      rcases Int.lt_or_le 0 (c k) with z | z
      · exact absurd ((h.is k (c k)).mpr ⟨rfl, z⟩) (hno _)
      · omega
    refine ⟨?_, fun g v => ?_⟩
    · rw [List.map_append, List.nodup_append]
      refine ⟨h.nd, by simp, fun x hx y hy => ?_⟩
      obtain ⟨w, hw, rfl⟩ := List.mem_map.mp hx
      have : y = k := by simpa using hy
      subst this
      intro z
      exact hno w.2 (by rw [← z]; exact hw)
    · rw [List.mem_append]
      constructor
      · rintro (hx | hx)
        · have hx' := (h.is g v).mp hx
          have : g ≠ k := fun z => hno v (by rw [← z]; exact hx)
          rw [if_neg this]
          exact ⟨by omega, hx'.2⟩
        · have e : (g, v) = (k, c k + 1) := by simpa using hx
          have e1 : g = k := congrArg (·.1) e
          have e2 : v = c k + 1 := congrArg (·.2) e
          rw [e1, if_pos rfl]
          exact ⟨e2, by omega⟩
      · rintro ⟨e, hv⟩
        by_cases z : g = k
        · subst z
          rw [if_pos rfl] at e
          exact .inr (by rw [e]; simp)
        · rw [if_neg z] at e
          exact .inl ((h.is g v).mpr ⟨by omega, hv⟩)
theorem tal_fold : ∀ (ds : List Int) {l : List (Int × Int)} {c : Int → Int}, Tal l c → (∀ g, 0 ≤ c g) → Tal (ds.foldl tinc l) (fun g => c g + (ds.count g : Nat))
  | [], l, c, h, h0 => by simpa using h
  | x :: t, l, c, h, h0 => by
    have h1 := tal_fold t (h.inc h0 x) fun g => by have := h0 g; split <;> omega
    refine ⟨h1.nd, fun g v => ?_⟩
    have e : (c g + if g = x then 1 else 0) + ((t.count g : Nat) : Int) = c g + (((x :: t).count g : Nat) : Int) := by
      rw [List.count_cons]
      by_cases z : g = x
      · rw [if_pos z, if_pos (by simp [z])]; omega
      · rw [if_neg z, if_neg (by simp; exact fun y => z y.symm)]; omega
    rw [← e]
    exact h1.is g v
theorem tally_tal (ds : List Int) : Tal (tally ds) (fun g => (ds.count g : Nat)) := by
  have := tal_fold ds (l := []) (c := fun _ => 0) ⟨by simp, fun g v => ⟨fun h => (by cases h), fun ⟨h1, h2⟩ => by omega⟩⟩ fun _ => Int.le_refl 0
  refine ⟨this.nd, fun g v => ?_⟩
  have z := this.is g v
  rw [Int.zero_add] at z
  exact z
theorem Tal.perm {l l' : List (Int × Int)} {c : Int → Int} (h : Tal l c) (h' : Tal l' c) : l.Perm l' := by
  have nd : ∀ {l : List (Int × Int)}, (l.map (·.1)).Nodup → l.Nodup := fun {l} h => (List.pairwise_map.mp h).imp fun {a b} hab z => hab (by rw [z])
  exact (List.perm_ext_iff_of_nodup (nd h.nd) (nd h'.nd)).mpr fun x => (h.is x.1 x.2).trans (h'.is x.1 x.2).symm
theorem gapsL_tal {n a d b e : Int} (d0 : 0 < d) (e0 : 0 < e) (an : a < n) (bn : b < n) (hall : n ≤ a + b) :
    Tal (gapsL n a d b e) fun g => (if d = g then n - a else 0) + (if d + e = g then a + b - n else 0) + (if e = g then n - b else 0) := by
  refine ⟨?_, fun g v => ?_⟩
  · have := gapsL_rise (n := n) (a := a) (d := d) (b := b) (e := e) d0 e0
    exact List.pairwise_map.mpr (this.imp fun {x y} h z => by omega)
  · rw [gapsL_perm.mem_iff]
    unfold keep rawL
    rw [List.mem_filter]
    by_cases z : d = e
    · subst z
      rw [if_pos rfl]
      simp only [List.mem_cons, List.not_mem_nil, or_false, Prod.mk.injEq, decide_eq_true_eq]
      constructor
      · rintro ⟨⟨rfl, rfl⟩ | ⟨rfl, rfl⟩, h⟩
        · rw [if_pos rfl, if_neg (by omega), if_pos rfl]; omega
        · rw [if_neg (by omega), if_pos rfl, if_neg (by omega)]; omega
      · rintro ⟨h1, h2⟩
        refine ⟨?_, h2⟩
        by_cases q : d = g
        · rw [if_pos q, if_neg (by omega), if_pos q] at h1
          exact .inl ⟨q.symm, by omega⟩
        · by_cases q2 : d + d = g
          · rw [if_neg q, if_pos q2, if_neg q] at h1
            exact .inr ⟨q2.symm, by omega⟩
          · rw [if_neg q, if_neg q2, if_neg q] at h1
            omega
    · rw [if_neg z]
      simp only [List.mem_cons, List.not_mem_nil, or_false, Prod.mk.injEq, decide_eq_true_eq]
      constructor
      · rintro ⟨⟨rfl, rfl⟩ | ⟨rfl, rfl⟩ | ⟨rfl, rfl⟩, h⟩
        · rw [if_pos rfl, if_neg (by omega), if_neg (by omega)]; omega
        · rw [if_neg (by omega), if_neg (by omega), if_pos rfl]; omega
        · rw [if_neg (by omega), if_pos rfl, if_neg (by omega)]; omega
      · rintro ⟨h1, h2⟩
        refine ⟨?_, h2⟩
        by_cases q : d = g
        · rw [if_pos q, if_neg (by omega), if_neg (by omega)] at h1
          exact .inl ⟨q.symm, by omega⟩
        · by_cases q2 : d + e = g
          · rw [if_neg q, if_pos q2, if_neg (by omega)] at h1
            exact .inr (.inr ⟨q2.symm, by omega⟩)
          · by_cases q3 : e = g
            · rw [if_neg q, if_neg q2, if_pos q3] at h1
              exact .inr (.inl ⟨q3.symm, by omega⟩)
            · rw [if_neg q, if_neg q2, if_neg q3] at h1
              omega
theorem count_sum (f : Nat → Int) (g : Int) : ∀ m : Nat, ((((List.range m).map f).count g : Nat) : Int) = sumN (fun i => if f i = g then 1 else 0) m
  | 0 => rfl
  | m + 1 => by
    have ih := count_sum f g m
    rw [List.range_succ, List.map_append, List.count_append]
    show ((_ + _ : Nat) : Int) = sumN _ m + if f m = g then 1 else 0
    rw [← ih]
    by_cases z : f m = g
    · rw [if_pos z]; simp [z]
    · rw [if_neg z]; simp [z]
/-- the tally of the differences is the list of gaps -/
theorem tally_gaps {p s n a d b e : Int} {m : Nat} {l : List Int} (hm : n = m) (h : Nearest p s n a d b e) (ht : n ≤ top p s) (hl : l.Pairwise (· < ·)) (hp : l.Perm (spots p s m)) : (gapsL n a d b e).Perm (tally (diffs p l)) := by
  have d0 := h.near.d0
  have e0 := h.near.e0
  have a1 := h.near.a1
  have b1 := h.near.b1
  have p0 : 0 < p := by have := h.near.lt; omega
  have hc : ∀ g, (((diffs p l).count g : Nat) : Int) = (if d = g then n - a else 0) + (if d + e = g then a + b - n else 0) + (if e = g then n - b else 0) := fun g => by
    rw [diffs_gaps hm h ht hl hp, (hp.map _).count_eq]
    have e1 : (spots p s m).map (fun x => gapAt n a d b e (theAt p s x)) = (List.range m).map fun i : Nat => gapAt n a d b e (i : Int) := by
      unfold spots
      rw [List.map_map]
      refine List.map_congr_left fun i hi => ?_
      have := List.mem_range.mp hi
      show gapAt n a d b e (theAt p s ((i : Int) * s % p)) = _
      rw [theAt_eq (k := (i : Int)) p0 (by omega) (by omega) rfl]
    rw [e1, count_sum, gap_count hm (by omega) (by omega) h.an h.bn h.all]
  have t1 := gapsL_tal d0 e0 h.an h.bn h.all
  have t2 := tally_tal (diffs p l)
  refine t1.perm ⟨t2.nd, fun g v => ?_⟩
  rw [← hc g]
  exact t2.is g v
end RS
namespace RS
/-! ### the mark of a place that has one -/
theorem inv_ex {a m : Int} (hm : 0 < m) (hg : Int.gcd m a = 1) : ∀ (k : Nat) (one other u v : Int), other.toNat ≤ k → Eu a m one other u v → ∃ r, (r * a) % m = 1 % m
  | 0, one, other, u, v, hk, h => by
    have h1 := h.r
    have z : other = 0 := by omega
    subst z
    exact ⟨_, h.done hm hg⟩
  | k + 1, one, other, u, v, hk, h => by
    by_cases z : other = 0
    · subst z
      exact ⟨_, h.done hm hg⟩
    · have h1 := h.r
      have hd := Int.emod_add_mul_ediv one other
      have h2 := Int.emod_lt_of_pos one (show 0 < other by omega)
      have e1 : one - one / other * other = one % other := by rw [Int.mul_comm (one / other)]; omega
      exact inv_ex hm hg k other (one - one / other * other) v _ (by omega) (h.next (by omega))
theorem theAt_spec {p s x : Int} (hp : 0 < p) (h0 : 0 ≤ x) (h1 : x < p) (hg : x % G p s = 0) : 0 ≤ theAt p s x ∧ theAt p s x < top p s ∧ theAt p s x * s % p = x := by
  have t0 := top_pos (s := s) hp
  obtain ⟨r, hr⟩ := inv_ex t0 (coprime_of (p := p) (s := s) hp) _ _ _ _ _ (Nat.le_refl _) (Eu.start t0)
  have e := mark_at_place hp hr h0 h1 hg
  have hk := theAt_eq (k := x / G p s * r % top p s) hp (Int.emod_nonneg _ (by omega)) (Int.emod_lt_of_pos _ t0) e
  rw [hk]
  exact ⟨Int.emod_nonneg _ (by omega), Int.emod_lt_of_pos _ t0, e⟩
/-! ### the sizes next to mark 0 -/
theorem none_between {p s n x y : Int} (hp : 0 < p) (hn : n ≤ top p s) (hxy : x ≤ y) (h : ∀ k, 0 ≤ k → k < n → k * s % p ≤ x ∨ y < k * s % p) : cnt p s n.toNat y = cnt p s n.toNat x := by
  have h1 := cnt_mono p s n.toNat hxy
  rcases Int.lt_or_le (cnt p s n.toNat x) (cnt p s n.toNat y) with q | q
  · exfalso
    have e : x + ((y - x).toNat : Nat) = y := by omega
    obtain ⟨z, z1, z2, z3, z4⟩ := step_ex (fun x => cnt p s n.toNat x) (cnt p s n.toNat x) (y - x).toNat x (Int.le_refl _) (by rw [e]; exact q)
    have b0 := cnt_nn p s n.toNat x
    have b1 := cnt_le p s n.toNat y
    obtain ⟨k, k1, k2, k3⟩ := found_place (s := s) hp (show ((n.toNat : Nat) : Int) ≤ top p s by have := top_pos (s := s) hp; omega) z4 z3
    have := h k (by omega) (by omega)
    omega
  · omega
theorem next_is {p s n a d b e : Int} (hp : 0 < p) (hn : n ≤ top p s) (h : Nearest p s n a d b e) :
    theAt p s d = a ∧ theAt p s (p - e) = b ∧ d % G p s = 0 ∧ (p - e) % G p s = 0 ∧ cnt p s n.toNat (d - 1) = 1 ∧ cnt p s n.toNat (p - e) = n := by
  have d0 := h.near.d0
  have e0 := h.near.e0
  have hl := h.near.lt
  have a1 := h.near.a1
  have b1 := h.near.b1
  have an := h.an
  have bn := h.bn
  have pa := h.near.pa
  have pb := h.near.pb
  refine ⟨theAt_eq hp (by omega) (by omega) pa, theAt_eq hp (by omega) (by omega) pb, ?_, ?_, ?_, ?_⟩
  · rw [← pa]; exact place_mult hp
  · rw [← pb]; exact place_mult hp
  · have z : cnt p s n.toNat 0 = 1 := by
      have := cnt_at1 (p := p) (s := s) (x := 0) (n := n.toNat) (k := 0) hp (by omega) (by omega) (by simp)
      rw [this, cnt_neg p s n.toNat (0 - 1) hp (by omega)]
      rfl
    rw [← z]
    refine none_between hp hn (by omega) fun k k0 k1 => ?_
    by_cases q : k = 0
    · subst q; left; simp
    · right
      have := (h.no k (by omega) k1).1
      omega
  · have z : cnt p s n.toNat (p - 1) = n := by rw [cnt_all p s n.toNat (p - 1) hp (by omega)]; omega
    rw [← none_between (p := p) (s := s) (n := n) (x := p - e) (y := p - 1) hp hn (by omega) fun k k0 k1 => ?_]
    · exact z
    · left
      by_cases q : k = 0
      · subst q; simp; omega
      · exact (h.no k (by omega) k1).2
theorem next_only {p s n a d b e on back x y : Int} (hp : 0 < p) (hn : n ≤ top p s) (h : Nearest p s n a d b e) (o1 : 1 ≤ on) (o2 : on ≤ p) (k1 : 1 ≤ back) (k2 : back ≤ p)
    (hx : 0 < x) (hxn : x < n) (hy : 0 < y) (hyn : y < n) (gx : (on % p) % G p s = 0) (gy : ((p - back) % p) % G p s = 0) (ex : theAt p s (on % p) = x) (ey : theAt p s ((p - back) % p) = y)
    (c1 : cnt p s n.toNat (on - 1) = 1) (c2 : cnt p s n.toNat (p - back) = n) : on = d ∧ back = e := by
  have d0 := h.near.d0
  have e0 := h.near.e0
  have hl := h.near.lt
  have a1 := h.near.a1
  have b1 := h.near.b1
  have an := h.an
  have bn := h.bn
  have pa := h.near.pa
  have pb := h.near.pb
  have sx := (theAt_spec (s := s) hp (Int.emod_nonneg on (by omega)) (Int.emod_lt_of_pos on hp) gx).2.2
  have sy := (theAt_spec (s := s) hp (Int.emod_nonneg (p - back) (by omega)) (Int.emod_lt_of_pos (p - back) hp) gy).2.2
  rw [ex] at sx
  rw [ey] at sy
  have nz : ∀ k, 0 < k → k < n → k * s % p ≠ 0 := fun k h0 h1 z => by
    have := marks_apart (s := s) hp (i := k) (j := 0) (by omega) (by omega) (by omega) (by omega) (by rw [z]; simp)
    omega
  have far : ∀ k, 0 < k → k < n → on ≤ k * s % p := fun k h0 h1 => by
    have z := nz k h0 h1
    have z0 := Int.emod_nonneg (k * s) (show p ≠ 0 by omega)
    rcases Int.lt_or_le (k * s % p) on with q | q
    · exfalso
      have e1 : ((k.toNat : Nat) : Int) = k := by omega
      have m1 := cnt_at (p := p) (s := s) (x := k * s % p) (n := n.toNat) (k := k.toNat) (by omega) (by rw [e1])
      have m2 := cnt_at (p := p) (s := s) (x := 0) (n := n.toNat) (k := 0) (by omega) (by simp)
      have m3 := cnt_nn p s n.toNat (0 - 1)
      have m4 := cnt_mono p s n.toNat (show 0 ≤ k * s % p - 1 by omega)
      have m5 := cnt_mono p s n.toNat (show k * s % p ≤ on - 1 by omega)
      omega
    · exact q
  have low : ∀ k, 0 ≤ k → k < n → k * s % p ≤ p - back := fun k h0 h1 => by
    rcases Int.lt_or_le (p - back) (k * s % p) with q | q
    · exfalso
      have e1 : ((k.toNat : Nat) : Int) = k := by omega
      have m1 := cnt_at (p := p) (s := s) (x := k * s % p) (n := n.toNat) (k := k.toNat) (by omega) (by rw [e1])
      have m4 := cnt_mono p s n.toNat (show p - back ≤ k * s % p - 1 by omega)
      have m5 := cnt_le p s n.toNat (k * s % p)
      omega
    · exact q
  have f1 := far a (by omega) an
  have f2 := far x hx hxn
  have l1 := low b (by omega) bn
  have l2 := (h.no y hy hyn).2
  have n1 := (h.no x hx hxn).1
  have eb : (p - back) % p = p - back := Int.emod_eq_of_lt (by omega) (by omega)
  rw [sy, eb] at l2
  rw [pb] at l1
  rw [pa] at f1
  rcases Int.lt_or_le on p with q | q
  · have eo : on % p = on := Int.emod_eq_of_lt (by omega) q
    rw [sx, eo] at n1
    omega
  · omega
/-! ### their sums -/
theorem keep_sum (f : Int × Int → Int) (hf : ∀ x, x.2 = 0 → f x = 0) : ∀ l : List (Int × Int), (∀ x ∈ l, 0 ≤ x.2) → ((keep l).map f).sum = (l.map f).sum
  | [], _ => rfl
  | x :: t, h => by
    have ih := keep_sum f hf t fun y hy => h y (List.mem_cons_of_mem _ hy)
    unfold keep at ih ⊢
    rw [List.filter_cons]
    by_cases q : 0 < x.2
    · rw [if_pos (by simpa using q), List.map_cons, List.map_cons, List.sum_cons, List.sum_cons, ih]
    · have := h x (by simp)
      rw [if_neg (by simpa using q), ih, List.map_cons, List.sum_cons, hf x (by omega), Int.zero_add]
theorem gapsL_sums {p s n a d b e : Int} (h : Nearest p s n a d b e) : ((gapsL n a d b e).map fun x => x.2).sum = n ∧ ((gapsL n a d b e).map fun x => x.1 * x.2).sum = p ∧ (gapsL n a d b e).length ≤ 3 := by
  have an := h.an
  have bn := h.bn
  have hall := h.all
  have hs := h.near.sum
  unfold gapsL
  split
  · rename_i z
    subst z
    refine ⟨?_, ?_, Nat.le_trans (List.length_filter_le _ _) (by simp)⟩
    · rw [keep_sum _ (fun x hx => hx) _ (by simp; omega)]; simp; omega
    · rw [keep_sum _ (fun x hx => by rw [hx]; simp) _ (by simp; omega)]; simp; grind
  · split
    · refine ⟨?_, ?_, Nat.le_trans (List.length_filter_le _ _) (by simp)⟩
      · rw [keep_sum _ (fun x hx => hx) _ (by simp; omega)]; simp; omega
      · rw [keep_sum _ (fun x hx => by rw [hx]; simp) _ (by simp; omega)]; simp; grind
    · refine ⟨?_, ?_, Nat.le_trans (List.length_filter_le _ _) (by simp)⟩
      · rw [keep_sum _ (fun x hx => hx) _ (by simp; omega)]; simp; omega
      · rw [keep_sum _ (fun x hx => by rw [hx]; simp) _ (by simp; omega)]; simp; grind
theorem gapsOf_facts {p s n : Int} (hp : 0 < p) (s0 : 0 ≤ s) (sp : s < p) (n1 : 1 ≤ n) (hn : n ≤ top p s) :
    ((gapsOf p s n).map fun x => x.2).sum = n ∧ ((gapsOf p s n).map fun x => x.1 * x.2).sum = p ∧ (gapsOf p s n).length ≤ 3 ∧ (∀ x ∈ gapsOf p s n, 1 ≤ x.1 ∧ x.1 ≤ p ∧ 1 ≤ x.2 ∧ x.2 ≤ n) ∧ (gapsOf p s n).Pairwise fun a b => a.1 < b.1 := by
  by_cases z : n = 1
  · subst z
    rw [gapsOf_one]
    refine ⟨by simp, by simp, by simp, fun x hx => ?_, by simp⟩
    rw [List.mem_singleton.mp hx]
    refine ⟨?_, ?_, ?_, ?_⟩ <;> simp only [] <;> omega
  · have hN := theNear_spec hp s0 sp (show 2 ≤ n by omega) hn
    rw [gapsOf_eq hp s0 sp (by omega) hn hN]
    obtain ⟨h1, h2, h3⟩ := gapsL_sums hN
    refine ⟨h1, h2, h3, fun x hx => ?_, gapsL_rise hN.near.d0 hN.near.e0⟩
    have d0 := hN.near.d0
    have e0 := hN.near.e0
    have a1 := hN.near.a1
    have b1 := hN.near.b1
    have hl := hN.near.lt
    have an := hN.an
    have bn := hN.bn
    rw [gapsL_perm.mem_iff] at hx
    unfold keep rawL at hx
    have hx2 := (List.mem_filter.mp hx).2
    have hx1 := (List.mem_filter.mp hx).1
    have hx2 : 0 < x.2 := by simpa using hx2
    have hs := hN.near.sum
    have hde : (theNear p s n).2.1 + (theNear p s n).2.2.2 ≤ p := by
      have m1 : (theNear p s n).2.1 * 1 ≤ (theNear p s n).2.1 * (theNear p s n).2.2.1 := Int.mul_le_mul_of_nonneg_left b1 (by omega)
      have m2 : (theNear p s n).2.2.2 * 1 ≤ (theNear p s n).2.2.2 * (theNear p s n).1 := Int.mul_le_mul_of_nonneg_left a1 (by omega)
      omega
    have hall := hN.all
    generalize (theNear p s n).1 = a at *
    generalize (theNear p s n).2.1 = d at *
    generalize (theNear p s n).2.2.1 = b at *
    generalize (theNear p s n).2.2.2 = e at *
    split at hx1
    · simp only [List.mem_cons, List.not_mem_nil, or_false] at hx1
      rcases hx1 with rfl | rfl <;> simp only [] at hx2 ⊢ <;> omega
    · simp only [List.mem_cons, List.not_mem_nil, or_false] at hx1
      rcases hx1 with rfl | rfl | rfl <;> simp only [] at hx2 ⊢ <;> omega
end RS
namespace RS
/-! ### the dict of sizes, told by hand -/
def nextT (n a d b e : Int) : List (Int × Int) :=
  tput (tput [(d + e, a + b - n)] d ((tget [(d + e, a + b - n)] d).getD 0 + (n - a))) e ((tget (tput [(d + e, a + b - n)] d ((tget [(d + e, a + b - n)] d).getD 0 + (n - a))) e).getD 0 + (n - b))
theorem nextT_eq {n a d b e : Int} (d0 : 0 < d) (e0 : 0 < e) : nextT n a d b e = if d = e then [(d + e, a + b - n), (d, n - a + (n - b))] else [(d + e, a + b - n), (d, n - a), (e, n - b)] := by
  have h1 : ¬ d + e = d := by omega
  have h2 : ¬ d + e = e := by omega
  have e1 : tget [(d + e, a + b - n)] d = none := by unfold tget; simp [h1]
  have e2 : tput [(d + e, a + b - n)] d ((none : Option Int).getD 0 + (n - a)) = [(d + e, a + b - n), (d, n - a)] := by unfold tput; simp [h1]
  unfold nextT
  rw [e1, e2]
  by_cases z : d = e
  · subst z
    rw [if_pos rfl]
    have e3 : tget [(d + d, a + b - n), (d, n - a)] d = some (n - a) := by unfold tget; simp [h1]
    rw [e3]
    unfold tput
    simp [h1]
  · rw [if_neg z]
    have e3 : tget [(d + e, a + b - n), (d, n - a)] e = none := by unfold tget; simp [h2, z]
    rw [e3]
    unfold tput
    simp [h2, z]
theorem nextT_perm {n a d b e : Int} (d0 : 0 < d) (e0 : 0 < e) : (gapsL n a d b e).Perm (keep (nextT n a d b e)) := by
  refine gapsL_perm.trans (List.Perm.filter _ ?_)
  rw [nextT_eq d0 e0]
  unfold rawL
  split
  · exact List.Perm.swap _ _ _
  · exact (List.Perm.cons _ (List.Perm.swap _ _ _)).trans (List.Perm.swap _ _ _)
theorem nextT_nodup {n a d b e : Int} (d0 : 0 < d) (e0 : 0 < e) : ((nextT n a d b e).map (·.1)).Nodup ∧ (nextT n a d b e).length ≤ 3 := by
  rw [nextT_eq d0 e0]
  split
  · exact ⟨by simp; omega, by simp⟩
  · exact ⟨by simp; omega, by simp⟩
theorem gapsL_has {p s n a d b e : Int} (h : Nearest p s n a d b e) : (∃ j, j < (gapsL n a d b e).length ∧ ((gapsL n a d b e).getD j (0, 0)).1 = d) ∧ ∃ j, j < (gapsL n a d b e).length ∧ ((gapsL n a d b e).getD j (0, 0)).1 = e := by
  have at_ : ∀ x ∈ gapsL n a d b e, ∃ j, j < (gapsL n a d b e).length ∧ ((gapsL n a d b e).getD j (0, 0)).1 = x.1 := fun x hx => by
    obtain ⟨j, hj, e⟩ := List.mem_iff_getElem.mp hx
    exact ⟨j, hj, by rw [← e]; simp [List.getD, hj]⟩
  have an := h.an
  have bn := h.bn
  by_cases z : d = e
  · have h1 : (d, n - a + (n - b)) ∈ gapsL n a d b e := gapsL_perm.mem_iff.mpr (List.mem_filter.mpr ⟨by unfold rawL; rw [if_pos z]; simp, by simp; omega⟩)
    obtain ⟨j, h2, h3⟩ := at_ _ h1
    exact ⟨⟨j, h2, h3⟩, ⟨j, h2, h3.trans z⟩⟩
  · exact ⟨at_ (d, n - a) (gapsL_perm.mem_iff.mpr (List.mem_filter.mpr ⟨by unfold rawL; rw [if_neg z]; simp, by simp; omega⟩)),
      at_ (e, n - b) (gapsL_perm.mem_iff.mpr (List.mem_filter.mpr ⟨by unfold rawL; rw [if_neg z]; simp, by simp; omega⟩))⟩
end RS
namespace RS
theorem keys_uniq {α : Type} (f : α → Int) : ∀ {l m : List α}, l.Perm m → l.Pairwise (fun a b => f a ≤ f b) → m.Pairwise (fun a b => f a < f b) → l = m
  | [], m, h, _, _ => (List.nil_perm.mp h).symm
  | a :: l, [], h, _, _ => absurd (List.perm_nil.mp h) (by simp)
  | a :: l, b :: m, h, hl, hm => by
    have hl' := List.pairwise_cons.mp hl
    have hm' := List.pairwise_cons.mp hm
    have ha : a ∈ b :: m := h.subset List.mem_cons_self
    have hb : b ∈ a :: l := h.symm.subset List.mem_cons_self
    have e : a = b := by
      rcases List.mem_cons.mp ha with z | z
      · exact z
      · rcases List.mem_cons.mp hb with y | y
        · exact y.symm
        · have h1 := hm'.1 a z
          have h2 := hl'.1 b y
          omega
    subst e
    rw [keys_uniq f (List.Perm.cons_inv h) hl'.2 hm'.2]
/-- sorted by their places, the marks stand by their turns -/
theorem marks_order {p s : Int} {m : Nat} (hp : 0 < p) (hm : (m : Int) ≤ top p s) {ns : List Int} (pm : ns.Perm ((List.range m).map fun i : Nat => (i : Int))) (pw : ns.Pairwise fun a b => a * s % p ≤ b * s % p) :
    ns = (List.range m).map fun t : Nat => theMark p s m t := by
  have sp : ∀ t : Nat, t < m → 0 ≤ theMark p s m t ∧ theMark p s m t < m ∧ cnt p s m (theMark p s m t * s % p) = t + 1 := fun t ht => by
    have := theMark_spec (s := s) hp hm (show (0 : Int) ≤ (t : Int) by omega) (show (t : Int) < m by omega)
    simpa using this
  have rise : ((List.range m).map fun t : Nat => theMark p s m t).Pairwise fun a b => a * s % p < b * s % p := by
    rw [List.pairwise_map]
    have hr : (List.range m).Pairwise (· < ·) := List.pairwise_lt_range
    refine List.Pairwise.imp_of_mem (fun {a b} ha hb hab => ?_) hr
    have h1 := (sp a (List.mem_range.mp ha)).2.2
    have h2 := (sp b (List.mem_range.mp hb)).2.2
    rcases Int.lt_or_le (theMark p s m a * s % p) (theMark p s m b * s % p) with q | q
    · exact q
    · have := cnt_mono p s m q
      omega
  refine keys_uniq (fun k => k * s % p) (pm.trans ?_) pw rise
  have nd1 : ((List.range m).map fun i : Nat => (i : Int)).Nodup := by
    rw [List.Nodup, List.pairwise_map]
    exact (List.nodup_range).imp fun {a b} h z => h (by omega)
  have nd2 : ((List.range m).map fun t : Nat => theMark p s m t).Nodup := rise.imp fun {a b} h z => by rw [z] at h; omega
  refine (List.perm_ext_iff_of_nodup nd1 nd2).mpr fun k => ?_
  simp only [List.mem_map, List.mem_range]
  constructor
  · rintro ⟨i, hi, rfl⟩
    have c1 := cnt_at (p := p) (s := s) (x := (i : Int) * s % p) (n := m) (k := i) hi rfl
    have c2 := cnt_nn p s m ((i : Int) * s % p - 1)
    have c3 := cnt_le p s m ((i : Int) * s % p)
    refine ⟨(cnt p s m ((i : Int) * s % p) - 1).toNat, by omega, ?_⟩
    refine theMark_eq hp hm (by omega) (by omega) ?_
    show cnt p s (m : Int).toNat _ = _
    rw [show ((m : Int)).toNat = m by omega]
    omega
  · rintro ⟨t, ht, rfl⟩
    obtain ⟨h0, h1, _⟩ := sp t ht
    exact ⟨(theMark p s m t).toNat, by omega, by omega⟩
end RS
namespace RG
open PySem PySem.Spec PyProof.Rows L2 Evl
/-! ### great numbers -/
/-- below this many bits all products are made -/
def Big (i : Int) : Prop := i.natAbs < 2 ^ 60000000
def CMulB (i j : Int) : Prop := Big i ∧ Big j
theorem log2_big {i : Int} (h : Big i) : i.natAbs.log2 < 60000000 := PySem.Flt.log2_lt_of (by decide) h
theorem CMulB.ok {i j : Int} (h : CMulB i j) : IntMulOk i j := by
  have b : ∀ x : Int, Builtin.Int.intBits x ≤ x.natAbs.log2 + 1 := fun x => by
    unfold Builtin.Int.intBits
    split <;> omega
  have h1 := b i
  have h2 := b j
  have h3 := log2_big h.1
  have h4 := log2_big h.2
  have e : bitsLine = 134217728 := by decide
  unfold IntMulOk
  intro z
  rw [Bool.and_eq_true] at z
  have z2 := z.2
  unfold Builtin.Int.intTooBig at z2
  have z3 := of_decide_eq_true z2
  rw [e] at z3
  omega
theorem op_mulB {X : Cx} : OpR X (binaryOp .Mult) (rI CMulB fun i j => .int (i * j)) := opI fun _ _ _ _ _ _ _ hc q => mul_int q hc.ok
/-! ### statements over a base heap -/
def Go (t : TS) (D : Ends) (σ : L2.St) (H : Hp) : Prop := ∀ H', Ex H H' → t D σ H'
section
variable {K : PySem.W.Frag} {σ : L2.St} {H : Hp} {ta tb te tx : TE} {t u : TT} {x y z v : V} {D : Ends} {tu tw tz : TS}
theorem EvU.mono {H' : Hp} {xs : List V} (e : Ex H H') (h : EvU te σ H xs) : EvU te σ H' xs := fun H1 a Q q => h H1 (e.trans a) Q q
theorem Go.at (h : Go tu D σ H) : tu D σ H := h H (Ex.refl H)
theorem Go.mono {H' : Hp} (e : Ex H H') (h : Go tu D σ H) : Go tu D σ H' := fun H1 e1 => h H1 (e.trans e1)
theorem g_next (h : ∀ H', Ex H H' → D.nx σ H') : Go tNext D σ H := h
theorem g_cont (h : ∀ H', Ex H H' → D.ct σ H') : Go tCont D σ H := h
theorem g_brk (h : ∀ H', Ex H H' → D.bk σ H') : Go tBreak D σ H := h
theorem g_one (h : Go (tSeq tu tNext) D σ H) : Go tu D σ H := h
theorem g_seq (h : Go tu { D with nx := tw D } σ H) : Go (tSeq tu tw) D σ H := h
theorem g_asg {i : Nat} (h : Ev te σ H v) (k : Go tz D (σ.set i (some v)) H) : Go (tSeq (tAsg te (gName i)) tz) D σ H := fun H' e =>
  q_asg (h.mono e) fun H1 e1 => k H1 (e.trans e1)
theorem g_asgL {i : Nat} {xs : List V} (h : EvL te σ H xs) (k : ∀ p H1, H p = none → Ex H H1 → H1 p = some (.lst xs) → Go tz D (σ.set i (some (.ref p))) H1) : Go (tSeq (tAsg te (gName i)) tz) D σ H := fun H' e =>
  q_asgL (h.mono e) fun p H1 np e1 hp => (k p H1 (fresh_back e np) (e.trans e1) hp).at
theorem g_asgU {i : Nat} {xs : List V} (h : EvU te σ H xs) (k : ∀ p H1, H p = none → Ex H H1 → H1 p = some (.tup xs) → Go tz D (σ.set i (some (.ref p))) H1) : Go (tSeq (tAsg te (gName i)) tz) D σ H := fun H' e =>
  q_asgU (EvU.mono e h) fun p H1 np e1 hp => (k p H1 (fresh_back e np) (e.trans e1) hp).at
/-- a, b = x, y -/
theorem g_par {i j : Nat} {ta : TA} (h : EvA ta σ H [v, x]) (k : Go tz D ((σ.set i (some v)).set j (some x)) H) : Go (tSeq (tPar i j ta) tz) D σ H := fun H' e =>
  h H' e _ fun H1 e1 => ⟨v, x, rfl, k H1 (e.trans e1)⟩
theorem g_aug {i : Nat} {f : Int → Int → Int} {a b : Int} (hx : σ[i]? = some (some (.int a))) (h : Ev te σ H (.int b)) (k : Go tz D (σ.set i (some (.int (f a b)))) H) : Go (tSeq (tAug i te (ipI f)) tz) D σ H := fun H' e =>
  q_aug hx (h.mono e) fun H1 e1 => k H1 (e.trans e1)
theorem g_drop (h : Ev te σ H v) (k : Go tz D σ H) : Go (tSeq (tDrop te) tz) D σ H := fun H' e => q_drop (h.mono e) fun H1 e1 => k H1 (e.trans e1)
theorem g_ret (h : Ev te σ H v) (k : ∀ H1, Ex H H1 → D.rt v H1) : Go (tSeq (tRet te) tz) D σ H := fun H' e => s_ret (D := { D with nx := tz D }) (h.mono e) fun H1 e1 => k H1 (e.trans e1)
theorem g_retL {xs : List V} (h : EvL te σ H xs) (k : ∀ p H1, H p = none → Ex H H1 → H1 p = some (.lst xs) → D.rt (.ref p) H1) : Go (tSeq (tRet te) tz) D σ H := fun H' e =>
  s_retL (D := { D with nx := tz D }) (h.mono e) fun p H1 np e1 hp => k p H1 (fresh_back e np) (e.trans e1) hp
theorem g_retU {xs : List V} (h : EvU te σ H xs) (k : ∀ p H1, H p = none → Ex H H1 → H1 p = some (.tup xs) → D.rt (.ref p) H1) : Go (tSeq (tRet te) tz) D σ H := fun H' e =>
  s_retU (D := { D with nx := tz D }) (EvU.mono e h) fun p H1 np e1 hp => k p H1 (fresh_back e np) (e.trans e1) hp
theorem g_if {b : Bool} (h : EvT t σ H b) (h1 : b = true → Go tu { D with nx := tz D } σ H) (h2 : b = false → Go tw { D with nx := tz D } σ H) : Go (tSeq (tIfS t tu tw) tz) D σ H := fun H' e =>
  q_if (h.mono e) (fun hb H1 e1 => h1 hb H1 (e.trans e1)) (fun hb H1 e1 => h2 hb H1 (e.trans e1))
/-- an if without else -/
theorem g_when {b : Bool} (h : EvT t σ H b) (h1 : b = true → Go tu { D with nx := tz D } σ H) (h2 : b = false → Go tz D σ H) : Go (tSeq (tIfS t tu tNext) tz) D σ H := g_if h h1 h2
/-- what follows is shown once -/
theorem g_cut (M : L2.St → Hp → Prop) (h : Go tu { D with nx := M } σ H) (k : ∀ σ' H', M σ' H' → tz D σ' H') : Go (tCut tu tz) D σ H := fun H' e => ⟨M, h H' e, k⟩
theorem g_while (W : L2.St → Prop) (m : L2.St → Nat) (h0 : W σ)
    (hs : ∀ σ', W σ' → ∃ b, EvT t σ' H b ∧ (b = true → Go tu { D with nx := fun σ2 H2 => Ex H H2 ∧ W σ2 ∧ m σ2 < m σ', ct := fun σ2 H2 => Ex H H2 ∧ W σ2 ∧ m σ2 < m σ', bk := tz D } σ' H) ∧ (b = false → Go tz D σ' H)) : Go (tSeq (tWhile t tu) tz) D σ H := fun H' e =>
  q_while (fun n σ' H2 => Ex H H2 ∧ W σ' ∧ n = m σ') (m σ) ⟨e, h0, rfl⟩ fun n σ' H2 ⟨e2, w, hn⟩ => by
    subst hn
    obtain ⟨b, hb, h1, h2⟩ := hs σ' w
    refine ⟨b, hb.mono e2, fun eb H3 e3 => ⟨_, fun σ2 H2 ⟨x1, x2, x3⟩ => ⟨_, x3, x1, x2, rfl⟩, h1 eb H3 (e2.trans e3)⟩, fun eb H3 e3 => h2 eb H3 (e2.trans e3)⟩
/-- .. where the heap changes too -/
theorem g_whileH (W : L2.St → Hp → Prop) (m : L2.St → Nat) (h0 : ∀ H1, Ex H H1 → W σ H1)
    (hs : ∀ σ' H', W σ' H' → ∃ b, EvT t σ' H' b ∧ (b = true → Go tu { D with nx := fun σ2 H2 => W σ2 H2 ∧ m σ2 < m σ', ct := fun σ2 H2 => W σ2 H2 ∧ m σ2 < m σ', bk := tz D } σ' H') ∧ (b = false → Go tz D σ' H')) : Go (tSeq (tWhile t tu) tz) D σ H := fun H' e =>
  q_while (fun n σ' H2 => W σ' H2 ∧ n = m σ') (m σ) ⟨h0 H' e, rfl⟩ fun n σ' H2 ⟨w, hn⟩ => by
    subst hn
    obtain ⟨b, hb, h1, h2⟩ := hs σ' H2 w
    exact ⟨b, hb, fun eb H3 e3 => ⟨_, fun σ2 H2 ⟨x2, x3⟩ => ⟨_, x3, x2, rfl⟩, h1 eb H3 e3⟩, fun eb H3 e3 => h2 eb H3 e3⟩
/-! ### expressions -/
theorem ev_chain {r r' : R2} {b c : Bool} {tc : TE} {w : V} (ha : Ev ta σ H x) (hb : Ev tb σ H y) (hr : RV r x y H (.bl b)) (hc : b = true → Ev tc σ H w) (hr' : b = true → RV r' y w H (.bl c)) : Ev (tChain r r' ta tb tc) σ H (.bl (b && c)) := fun H1 e Q q =>
  ha H1 e _ fun H2 e2 => hb H2 (e.trans e2) _ fun H3 e3 => hr H3 ((e.trans e2).trans e3) _ fun H4 e4 => ⟨b, rfl, by
    cases b with
    | true => exact hc rfl H4 (((e.trans e2).trans e3).trans e4) _ fun H5 e5 => hr' rfl H5 ((((e.trans e2).trans e3).trans e4).trans e5) Q fun H6 e6 => q H6 ((((e2.trans e3).trans e4).trans e5).trans e6)
    | false => exact q H4 ((e2.trans e3).trans e4)⟩
theorem ev_chainI {p q : Int → Int → Bool} {i j k : Int} {tc : TE} (ha : Ev ta σ H (.int i)) (hb : Ev tb σ H (.int j)) (hc : Ev tc σ H (.int k)) : Ev (tChain (rI0 fun i j => .bl (p i j)) (rI0 fun i j => .bl (q i j)) ta tb tc) σ H (.bl (p i j && q j k)) :=
  ev_chain ha hb rv_I0 (fun _ => hc) (fun _ => rv_I0)
/-- isinstance of a class -/
theorem ev_isi {c : V} {ty cl : Value} {b : Bool} (ha : Ev ta σ H x) (hb : Ev tb σ H c) (kc : ClsV c cl) (ht : ∀ H1, Ex H H1 → TyX K H1 x ty) (hk : PySem.W.kitOne K ty cl = some b) : Ev (tCB (rIsi K) (tCons ta (tCons tb tNil))) σ H (.bl b) := fun H1 e Q q =>
  ha H1 e _ fun H2 e2 => hb H2 (e.trans e2) _ fun H3 e3 => ⟨x, c, ty, cl, b, rfl, kc, ht H3 ((e.trans e2).trans e3), hk, q H3 (e2.trans e3)⟩
theorem ev_call1 {sp : Sp} {E : XK} {ta : TA} {vs : List V} (h : EvA ta σ H vs) (hs : SpV sp vs H z) : Ev (tCall sp [] E ta) σ H z := ev_call (dvs := []) h (by rw [List.append_nil]; exact hs)
end
end RG
namespace RG
open PySem PySem.Spec PyProof.Rows L2 Evl
/-! ### sizes by level: n times eight thousand bits -/
def Lv (n : Nat) (i : Int) : Prop := i.natAbs < 2 ^ (8000 * n)
theorem lv_mono {a b : Nat} {i : Int} (h : Lv a i) (hb : a ≤ b) : Lv b i := Nat.lt_of_lt_of_le h (Nat.pow_le_pow_right (by omega) (by omega))
theorem lv_mul {a b : Nat} {i j : Int} (h : Lv a i) (h' : Lv b j) : Lv (a + b) (i * j) := by
  unfold Lv at *
  rw [Int.natAbs_mul, Nat.mul_add, Nat.pow_add]
  exact Nat.mul_lt_mul'' h h'
theorem lv_add {a b : Nat} {i j : Int} (h : Lv a i) (h' : Lv b j) : Lv (a + b + 1) (i + j) := by
  unfold Lv at *
  have h1 : i.natAbs < 2 ^ (8000 * (a + b)) := Nat.lt_of_lt_of_le h (Nat.pow_le_pow_right (by omega) (by omega))
  have h2 : j.natAbs < 2 ^ (8000 * (a + b)) := Nat.lt_of_lt_of_le h' (Nat.pow_le_pow_right (by omega) (by omega))
  have h3 : (i + j).natAbs ≤ i.natAbs + j.natAbs := Int.natAbs_add_le i j
  have h4 : 2 ^ (8000 * (a + b + 1)) = 2 ^ (8000 * (a + b)) * 2 ^ 8000 := by rw [← Nat.pow_add]; rfl
  have h5 : 2 ^ (8000 * (a + b)) * 2 ≤ 2 ^ (8000 * (a + b)) * 2 ^ 8000 := Nat.mul_le_mul_left _ (Nat.pow_le_pow_right (n := 2) (by omega) (show 1 ≤ 8000 by omega))
  rw [h4]
  generalize 2 ^ (8000 * (a + b)) = x at *
  generalize x * 2 ^ 8000 = y at *
  omega
theorem lv_neg {a : Nat} {i : Int} (h : Lv a i) : Lv a (-i) := by unfold Lv at *; rw [Int.natAbs_neg]; exact h
theorem lv_sub {a b : Nat} {i j : Int} (h : Lv a i) (h' : Lv b j) : Lv (a + b + 1) (i - j) := by rw [Int.sub_eq_add_neg]; exact lv_add h (lv_neg h')
theorem lv_abs {a : Nat} {i j : Int} (h : Lv a j) (hi : i.natAbs ≤ j.natAbs) : Lv a i := Nat.lt_of_le_of_lt hi h
theorem lv_le {a : Nat} {i j : Int} (h : Lv a j) (h0 : 0 ≤ i) (hi : i ≤ j) : Lv a i := lv_abs h (by omega)
theorem lv_div {a : Nat} {i j : Int} (h : Lv a i) (hj : 0 < j) : Lv a (i / j) := by
  refine lv_abs h ?_
  have := Int.natAbs_ediv_le_natAbs i j
  exact this
theorem lv_mod {b : Nat} {i j : Int} (h : Lv b j) (hj : 0 < j) : Lv b (i % j) := by
  have h1 := Int.emod_nonneg i (show j ≠ 0 by omega)
  have h2 := Int.emod_lt_of_pos i hj
  exact lv_le h h1 (by omega)
theorem lv_lit {i : Int} (h : i.natAbs < 2 ^ 8000) : Lv 1 i := by unfold Lv; simpa using h
theorem lv_small {i : Int} (h : i.natAbs ≤ 1000000000000000000) : Lv 1 i := by
  unfold Lv
  refine Nat.lt_of_le_of_lt h (Nat.lt_of_lt_of_le (show 1000000000000000000 < 2 ^ 64 by decide) ?_)
  exact Nat.pow_le_pow_right (by omega) (by omega)
theorem big_of {n : Nat} {i : Int} (h : Lv n i) (hn : n ≤ 7000) : Big i := by
  unfold Lv at h
  unfold Big
  exact Nat.lt_of_lt_of_le h (Nat.pow_le_pow_right (by omega) (by omega))
theorem mul_ok {a b : Nat} {i j : Int} (h : Lv a i) (h' : Lv b j) (ha : a ≤ 7000) (hb : b ≤ 7000) : CMulB i j := ⟨big_of h ha, big_of h' hb⟩
theorem div_ok {j : Int} {i : Int} (h : 0 < j) (h' : Lv 1 j) : CDivW i j := ⟨h, by
  have : j.natAbs < 2 ^ 9000 := Nat.lt_of_lt_of_le h' (Nat.pow_le_pow_right (by omega) (by omega))
  exact PySem.Flt.log2_lt_of (by decide) this⟩
/-! ### any thing that may be handed in -/
/-- a value of a kind that isinstance knows; an int is not too great -/
def Kn (K : PySem.W.Frag) (H : Hp) : V → Prop
  | .non => True
  | .bl _ => True
  | .int i => Lv 1 i
  | .str _ => True
  | .ref a => (∃ xs, H a = some (.lst xs)) ∨ (∃ xs, H a = some (.tup xs)) ∨ ∃ kvs, H a = some (.dK kvs)
  | _ => False
theorem Kn.ex {K : PySem.W.Frag} {H H' : Hp} {x : V} (h : Kn K H x) (e : Ex H H') : Kn K H' x := by
  cases x with
  | ref a =>
    rcases h with ⟨xs, h⟩ | ⟨xs, h⟩ | ⟨kvs, h⟩
    · exact .inl ⟨xs, e _ _ h⟩
    · exact .inr (.inl ⟨xs, e _ _ h⟩)
    · exact .inr (.inr ⟨kvs, e _ _ h⟩)
  | _ => exact h
/-- whether isinstance(x, int), isinstance(x, bool) -/
def isI : V → Bool
  | .int _ => true
  | .bl _ => true
  | _ => false
def isB : V → Bool
  | .bl _ => true
  | _ => false
def numV (x : V) (l m : Int) : Bool := match x with
  | .int i => decide (l ≤ i) && decide (i ≤ m)
  | _ => false
theorem Kn.ty {K : PySem.W.Frag} {H : Hp} {x : V} (h : Kn K H x) : ∃ t : String, TyX K H x (.type t) ∧ PySem.W.kitOne K (.type t) (.type "int") = some (isI x) ∧ PySem.W.kitOne K (.type t) (.type "bool") = some (isB x) := by
  cases x with
  | non => exact ⟨_, .base .non, kit_ty (r := false) (by decide +kernel), kit_ty (r := false) (by decide +kernel)⟩
  | bl b => exact ⟨_, .base (.bl b), kit_ty (r := true) (by decide +kernel), kit_ty (r := true) (by decide +kernel)⟩
  | int i => exact ⟨_, .base (.int i), kit_ty (r := true) (by decide +kernel), kit_ty (r := false) (by decide +kernel)⟩
  | str i => exact ⟨_, .base (.str i), kit_ty (r := false) (by decide +kernel), kit_ty (r := false) (by decide +kernel)⟩
  | ref a =>
    rcases h with ⟨xs, h⟩ | ⟨xs, h⟩ | ⟨kvs, h⟩
    · exact ⟨_, .base (.lst h), kit_ty (r := false) (by decide +kernel), kit_ty (r := false) (by decide +kernel)⟩
    · exact ⟨_, .base (.tup h), kit_ty (r := false) (by decide +kernel), kit_ty (r := false) (by decide +kernel)⟩
    · exact ⟨_, .base (.dK h), kit_ty (r := false) (by decide +kernel), kit_ty (r := false) (by decide +kernel)⟩
  | _ => exact h.elim
section
variable {K : PySem.W.Frag} {σ : L2.St} {H : Hp} {ta tb te tx : TE} {t u : TT} {x y z v : V} {D : Ends} {tu tw tz : TS}
theorem ev_isInt (ha : Ev ta σ H x) (hx : Kn K H x) : Ev (tCB (rIsi K) (tCons ta (tCons (tC (.ty "int")) tNil))) σ H (.bl (isI x)) := fun H1 e Q q =>
  ha H1 e _ fun H2 e2 => by
    obtain ⟨t, h1, h2, h3⟩ := (hx.ex (e.trans e2)).ty
    exact ⟨x, .ty "int", _, _, _, rfl, .ty _, h1, h2, q H2 e2⟩
theorem ev_isBool (ha : Ev ta σ H x) (hx : Kn K H x) : Ev (tCB (rIsi K) (tCons ta (tCons (tC (.ty "bool")) tNil))) σ H (.bl (isB x)) := fun H1 e Q q =>
  ha H1 e _ fun H2 e2 => by
    obtain ⟨t, h1, h2, h3⟩ := (hx.ex (e.trans e2)).ty
    exact ⟨x, .ty "bool", _, _, _, rfl, .ty _, h1, h3, q H2 e2⟩
/-! ### calls that may be refused -/
/-- how a call ends: a value, or an error of the class at C -/
inductive Out where
  | val (v : V)
  | err (C : Addr)
def SpX (sp : Sp) (vs : List V) (H : Hp) (o : Out) : Prop := ∀ H1, Ex H H1 → ∀ (Q : VK) (E : XK), (∀ v, o = .val v → ∀ H2, Ex H1 H2 → Q v H2) → (∀ C, o = .err C → ∀ H2, Ex H1 H2 → E (.ref C) none H2) → sp vs H1 Q E
def EvX (te : TE) (E : XK) (σ : L2.St) (H : Hp) (o : Out) : Prop := ∀ H1, Ex H H1 → ∀ (Q : VK), (∀ v, o = .val v → ∀ H2, Ex H1 H2 → Q v H2) → (∀ C, o = .err C → ∀ H2, Ex H1 H2 → E (.ref C) none H2) → te σ H1 Q
theorem EvX.mono {H' : Hp} {E : XK} {o : Out} (e : Ex H H') (h : EvX te E σ H o) : EvX te E σ H' o := fun H1 a Q q r => h H1 (e.trans a) Q q r
theorem evx_call {sp : Sp} {E : XK} {ta : TA} {vs : List V} {o : Out} (h : EvA ta σ H vs) (hs : SpX sp vs H o) : EvX (tCall sp [] E ta) E σ H o := fun H1 e Q q r =>
  h H1 e _ fun H2 e2 => by
    show sp (vs ++ []) H2 Q E
    rw [List.append_nil]
    exact hs H2 (e.trans e2) Q E (fun v hv H3 e3 => q v hv H3 (e2.trans e3)) fun C hC H3 e3 => r C hC H3 (e2.trans e3)
theorem spv_of {sp : Sp} {vs : List V} (h : SpX sp vs H (.val v)) : SpV sp vs H v := fun H1 e Q q E =>
  h H1 e Q E (fun v' hv H2 e2 => by cases hv; exact q H2 e2) fun C hC => nomatch hC
theorem spx_of {sp : Sp} {vs : List V} (h : SpV sp vs H v) : SpX sp vs H (.val v) := fun H1 e Q E q _ => h H1 e Q (fun H2 e2 => q v rfl H2 e2) E
theorem g_dropX {E : XK} {o : Out} (h : EvX te E σ H o) (k : ∀ v, o = .val v → Go tz D σ H) (r : ∀ C, o = .err C → ∀ H1, Ex H H1 → E (.ref C) none H1) : Go (tSeq (tDrop te) tz) D σ H := fun H' e =>
  h H' e _ (fun v hv H2 e2 => k v hv H2 (e.trans e2)) fun C hC H2 e2 => r C hC H2 (e.trans e2)
theorem g_retX {E : XK} {o : Out} (h : EvX te E σ H o) (k : ∀ v, o = .val v → ∀ H1, Ex H H1 → D.rt v H1) (r : ∀ C, o = .err C → ∀ H1, Ex H H1 → E (.ref C) none H1) : Go (tSeq (tRet te) tz) D σ H := fun H' e =>
  h H' e _ (fun v hv H2 e2 => k v hv H2 (e.trans e2)) fun C hC H2 e2 => r C hC H2 (e.trans e2)
theorem g_raise {W : L2.St → Hp → Prop} (h : ∀ H1, Ex H H1 → W σ H1) : Go (tSeq (fun _ σ H => W σ H) tz) D σ H := fun H' e => h H' e
/-- a tuple's places taken apart -/
theorem g_asgT {n : Nat} {g : TGs} {xs : List V} (h : EvU te σ H xs) (hn : xs.length = n) (k : ∀ H1, Ex H H1 → g xs σ H1 fun σ2 H2 => tz D σ2 H2) : Go (tSeq (tAsg te (gTup K n g)) tz) D σ H := fun H' e =>
  h H' e _ fun p H2 np e2 hp => ⟨p, xs, rfl, st_of hp, hn, k H2 (e.trans e2)⟩
theorem g_asg4 {i j k l : Nat} {a b c d : V} (h : EvU te σ H [a, b, c, d]) (q : Go tz D ((((σ.set i (some a)).set j (some b)).set k (some c)).set l (some d)) H) :
    Go (tSeq (tAsg te (gTup K 4 (gCons (gName i) (gCons (gName j) (gCons (gName k) (gCons (gName l) gNil)))))) tz) D σ H :=
  g_asgT h rfl fun H1 e => ⟨a, _, rfl, b, _, rfl, c, _, rfl, d, _, rfl, rfl, q H1 e⟩
theorem g_asg3 {i j k : Nat} {a b c : V} (h : EvU te σ H [a, b, c]) (q : Go tz D (((σ.set i (some a)).set j (some b)).set k (some c)) H) :
    Go (tSeq (tAsg te (gTup K 3 (gCons (gName i) (gCons (gName j) (gCons (gName k) gNil))))) tz) D σ H :=
  g_asgT h rfl fun H1 e => ⟨a, _, rfl, b, _, rfl, c, _, rfl, rfl, q H1 e⟩
theorem g_asg2 {i j : Nat} {a b : V} (h : EvU te σ H [a, b]) (q : Go tz D ((σ.set i (some a)).set j (some b)) H) :
    Go (tSeq (tAsg te (gTup K 2 (gCons (gName i) (gCons (gName j) gNil)))) tz) D σ H :=
  g_asgT h rfl fun H1 e => ⟨a, _, rfl, b, _, rfl, rfl, q H1 e⟩
end
/-- no exception leaves where none is wished -/
theorem quiet {P : Program} {w : World} {K : PySem.W.Frag} {mg : Str → Option Value} {base : Heap} {k : Nat} {f : Addr} {fd : FuncData} {ps : List Str} {sp : Sp} (F : FnOk P w K mg base (L2.CX P w) k f fd ps sp) :
    FnOk P w K mg base CX0 k f fd ps (fun vs H Q _ => sp vs H Q E0) := by
  refine ⟨fun vs H Q E h => F.len vs H Q E0 h, fun A outer s H args us vs Q E hr e0 hb r hsp => ?_⟩
  have h := F.run A outer s H args us vs Q E0 hr e0 hb r hsp
  refine codeAny_mono h fun r s' hr => ?_
  cases r with
  | ok c => cases c with
    | ret u => exact hr
    | _ => exact hr
  | error u =>
    obtain ⟨_, _, _, _, _, _, _, _, _, _, _, _, z⟩ := hr
    exact z.elim
end RG
namespace RG
open PySem PySem.Spec PyProof.Rows L2 Evl RS
theorem nt {b : Bool} (h : (!b) = false) : b = true := by cases b; cases h; rfl
theorem nf {b : Bool} (h : (!b) = true) : ¬ b = true := by cases b; simp; cases h
/-! ### how a call ends -/
def Fin (o : Out) (H : Hp) (Q : VK) (E : XK) : Prop := (∀ v, o = .val v → ∀ H', Ex H H' → Q v H') ∧ ∀ C, o = .err C → ∀ H', Ex H H' → E (.ref C) none H'
theorem Fin.val {v : V} {H : Hp} {Q : VK} {E : XK} (h : Fin (.val v) H Q E) : ∀ H', Ex H H' → Q v H' := h.1 v rfl
theorem Fin.err {C : Addr} {H : Hp} {Q : VK} {E : XK} (h : Fin (.err C) H Q E) : ∀ H', Ex H H' → E (.ref C) none H' := h.2 C rfl
theorem fin_of {o : Out} {H : Hp} {Q : VK} {E : XK} (q : ∀ v, o = .val v → ∀ H2, Ex H H2 → Q v H2) (r : ∀ C, o = .err C → ∀ H2, Ex H H2 → E (.ref C) none H2) : Fin o H Q E := ⟨q, r⟩
/-! ### the module's facts -/
/-- a def of the module: where it stands -/
structure At (K : PySem.W.Frag) (mg : Str → Option Value) (x : Str) (st : Stmt) (ps : List Str) (f : Addr) (fd : FuncData) : Prop where
  fn : Fun K x x st f fd
  b : Binds K fd ps []
  g : mg x = some (.ref f)
/-- an error's class -/
structure ErrAt (K : PySem.W.Frag) (mg : Str → Option Value) (n : Str) (C : Addr) : Prop where
  x : PySem.W.excIn K C [.type "ValueError", .type "Exception", .type "BaseException", .type "object"] "ValueError.__new__" = true
  g : mg n = some (.ref C)
  k : PySem.W.keepIn K (.ref C) = true
  b : PySem.W.subIn K (.ref C) (.type "BaseException") = some true
  t : PySem.W.typeIn K (.ref C) = some (.type "type")
/-- the built-ins stand as they are -/
structure Blt (mg : Str → Option Value) : Prop where
  z_isinstance : mg "isinstance" = none
  z_int : mg "int" = none
  z_bool : mg "bool" = none
  z_len : mg "len" = none
  z_sum : mg "sum" = none
  z_min : mg "min" = none
  z_max : mg "max" = none
  z_sorted : mg "sorted" = none
  z_range : mg "range" = none
  z_enumerate : mg "enumerate" = none
  z_reversed : mg "reversed" = none
  z_zip : mg "zip" = none
  z_abs : mg "abs" = none
  z_all : mg "all" = none
  z_any : mg "any" = none
  z_list : mg "list" = none
  z_tuple : mg "tuple" = none
  z_set : mg "set" = none
  z_str : mg "str" = none
  z_ValueError : mg "ValueError" = none
/-! ### what is told of any things -/
/-- the number that a value is -/
def iv : V → Int
  | .int i => i
  | _ => 0
def numW (x : V) (l : Int) (m : V) : Bool := match x, m with
  | .int i, .int j => decide (l ≤ i) && decide (i ≤ j)
  | _, _ => false
def okP : V → Bool
  | .int i => decide (1 ≤ i)
  | _ => false
/-- a step, a mark, a place: from l on to m -/
def okIn (x : V) (l m : Int) : Bool := match x with
  | .int i => decide (l ≤ i) && decide (i ≤ m)
  | _ => false
theorem okIn_iff {x : V} {l m : Int} : okIn x l m = true ↔ ∃ i, x = .int i ∧ l ≤ i ∧ i ≤ m := by
  cases x <;> simp [okIn]
theorem okP_iff {x : V} : okP x = true ↔ ∃ i, x = .int i ∧ 1 ≤ i := by
  cases x <;> simp [okP]
theorem numW_okIn {x : V} {l m : Int} : numW x l (.int m) = okIn x l m := by cases x <;> rfl
theorem numW_okP {x : V} : numW x 1 x = okP x := by
  cases x <;> simp [numW, okP]
/-- the classes: places, step, marks, place, mark -/
structure Cs where
  (cp cs cm cl ck : Addr)
def ringO (c : Cs) (p s : V) : Out := if okP p then (if okIn s 0 (iv p - 1) then .val .non else .err c.cs) else .err c.cp
def marksO (c : Cs) (p s m : V) : Out := match ringO c p s with
  | .err C => .err C
  | .val _ => if okIn m 1 (top (iv p) (iv s)) then .val .non else .err c.cm
def stretchO (c : Cs) (p b e : V) : Out := if okIn b 0 (iv p - 1) && okIn e 0 (iv p - 1) && decide (iv b ≤ iv e) then .val .non else .err c.cl
def markO (c : Cs) (k m : V) : Out := if okIn k 0 (iv m - 1) then .val .non else .err c.ck
/-- a ring -/
structure Ring (P S : Int) : Prop where
  p : 1 ≤ P
  s0 : 0 ≤ S
  s : S < P
theorem lv_G {p s : Int} (R : Ring p s) (l : Lv 1 p) : Lv 1 (G p s) := lv_le l (Int.le_of_lt (G_pos (s := s) (by have := R.p; omega))) (G_le (by have := R.p; omega))
theorem lv_top {p s : Int} (R : Ring p s) (l : Lv 1 p) : Lv 1 (top p s) := lv_le l (Int.le_of_lt (top_pos (s := s) (by have := R.p; omega))) (top_le (by have := R.p; omega))
theorem Ring.ls {p s : Int} (R : Ring p s) (l : Lv 1 p) : Lv 1 s := lv_le l R.s0 (by have := R.s; omega)
theorem ringO_val {c : Cs} {p s v : V} (h : ringO c p s = .val v) : v = .non ∧ ∃ P S, p = .int P ∧ s = .int S ∧ Ring P S := by
  unfold ringO at h
  split at h
  · rename_i h1
    split at h
    · rename_i h2
      obtain ⟨P, rfl, hP⟩ := okP_iff.mp h1
      obtain ⟨S, rfl, hS0, hS⟩ := okIn_iff.mp h2
      cases h
      exact ⟨rfl, P, S, rfl, rfl, hP, hS0, by have : S ≤ P - 1 := hS; omega⟩
    · cases h
  · cases h
theorem ringO_ok {c : Cs} {P S : Int} (h : Ring P S) : ringO c (.int P) (.int S) = .val .non := by
  unfold ringO
  rw [if_pos (okP_iff.mpr ⟨P, rfl, h.p⟩), if_pos (okIn_iff.mpr ⟨S, rfl, h.s0, by show S ≤ P - 1; have := h.s; omega⟩)]
theorem marksO_val {c : Cs} {p s m v : V} (h : marksO c p s m = .val v) : v = .non ∧ ∃ P S M, p = .int P ∧ s = .int S ∧ m = .int M ∧ Ring P S ∧ 1 ≤ M ∧ M ≤ top P S := by
  unfold marksO at h
  split at h
  · cases h
  · rename_i v' hr
    split at h
    · rename_i h2
      obtain ⟨_, P, S, rfl, rfl, R⟩ := ringO_val hr
      obtain ⟨M, rfl, h1, h3⟩ := okIn_iff.mp h2
      cases h
      exact ⟨rfl, P, S, M, rfl, rfl, rfl, R, h1, h3⟩
    · cases h
theorem marksO_ok {c : Cs} {P S M : Int} (h : Ring P S) (h1 : 1 ≤ M) (h2 : M ≤ top P S) : marksO c (.int P) (.int S) (.int M) = .val .non := by
  unfold marksO
  rw [ringO_ok h]
  exact if_pos (okIn_iff.mpr ⟨M, rfl, h1, h2⟩)
theorem stretchO_val {c : Cs} {p b e v : V} (h : stretchO c p b e = .val v) : v = .non ∧ ∃ B E, b = .int B ∧ e = .int E ∧ 0 ≤ B ∧ B ≤ E ∧ E < iv p := by
  unfold stretchO at h
  split at h
  · rename_i h1
    rw [Bool.and_eq_true, Bool.and_eq_true] at h1
    obtain ⟨⟨h1, h2⟩, h3⟩ := h1
    obtain ⟨B, rfl, hB0, hB⟩ := okIn_iff.mp h1
    obtain ⟨E, rfl, hE0, hE⟩ := okIn_iff.mp h2
    have h4 : B ≤ E := of_decide_eq_true h3
    cases h
    exact ⟨rfl, B, E, rfl, rfl, hB0, h4, by omega⟩
  · cases h
theorem stretchO_ok {c : Cs} {p : V} {B E : Int} (h1 : 0 ≤ B) (h2 : B ≤ E) (h3 : E < iv p) : stretchO c p (.int B) (.int E) = .val .non := by
  unfold stretchO
  rw [okIn_iff.mpr ⟨B, rfl, h1, by omega⟩, okIn_iff.mpr ⟨E, rfl, by omega, by omega⟩, decide_eq_true (show iv (.int B) ≤ iv (.int E) from h2)]
  rfl
theorem markO_val {c : Cs} {k m v : V} (h : markO c k m = .val v) : v = .non ∧ ∃ i, k = .int i ∧ 0 ≤ i ∧ i < iv m := by
  unfold markO at h
  split at h
  · rename_i h1
    obtain ⟨i, rfl, h2, h3⟩ := okIn_iff.mp h1
    cases h
    exact ⟨rfl, i, rfl, h2, by omega⟩
  · cases h
theorem markO_ok {c : Cs} {m : V} {i : Int} (h1 : 0 ≤ i) (h2 : i < iv m) : markO c (.int i) m = .val .non := by
  unfold markO
  rw [okIn_iff.mpr ⟨i, rfl, h1, by omega⟩]
  rfl
end RG
namespace RG
open PySem PySem.Spec PyProof.Rows L2 Evl RS
/-! ### data at any depth -/
mutual
theorem dp_ex {K : PySem.W.Frag} {H H' : Hp} (e : Ex H H') : ∀ {v : V} {d : PyData}, Dp K H v d → Dp K H' v d
  | _, _, .non => .non
  | _, _, .bl b => .bl b
  | _, _, .int i => .int i
  | _, _, .str x => .str x
  | _, _, .lst h hs => .lst (ex_l e h) (dps_ex e hs)
  | _, _, .tup h hs => .tup (ex_t e h) (dps_ex e hs)
theorem dps_ex {K : PySem.W.Frag} {H H' : Hp} (e : Ex H H') : ∀ {vs : List V} {ds : List PyData}, DpAll K H vs ds → DpAll K H' vs ds
  | _, _, .nil => .nil
  | _, _, .cons h hs => .cons (dp_ex e h) (dps_ex e hs)
end
/-- evaluates to some value that holds the data d -/
def EvD (K : PySem.W.Frag) (te : TE) (σ : L2.St) (H : Hp) (d : PyData) : Prop := ∀ H1, Ex H H1 → ∀ Q : VK, (∀ v H2, Ex H1 H2 → Dp K H2 v d → Q v H2) → te σ H1 Q
def EvDs (K : PySem.W.Frag) (ta : TA) (σ : L2.St) (H : Hp) (ds : List PyData) : Prop := ∀ H1, Ex H H1 → ∀ Q : List V → Hp → Prop, (∀ vs H2, Ex H1 H2 → DpAll K H2 vs ds → Q vs H2) → ta σ H1 Q
section
variable {K : PySem.W.Frag} {σ : L2.St} {H : Hp} {ta tb te tx : TE} {t u : TT} {x y z v : V} {D : Ends} {tu tw tz : TS} {g : TG} {d d' : PyData} {ds : List PyData}
theorem EvD.mono {H' : Hp} (e : Ex H H') (h : EvD K te σ H d) : EvD K te σ H' d := fun H1 a Q q => h H1 (e.trans a) Q q
theorem ed_int {i : Int} (h : Ev te σ H (.int i)) : EvD K te σ H (.int i) := fun H1 e Q q => h H1 e _ fun H2 e2 => q _ H2 e2 (.int i)
theorem ed_of (h : Ev te σ H v) (hd : Dp K H v d) : EvD K te σ H d := fun H1 e Q q => h H1 e _ fun H2 e2 => q _ H2 e2 (dp_ex (e.trans e2) hd)
theorem eds_nil : EvDs K tNil σ H [] := fun H1 e Q q => q [] H1 (Ex.refl H1) .nil
theorem eds_cons {tr : TA} (h : EvD K te σ H d) (hr : EvDs K tr σ H ds) : EvDs K (tCons te tr) σ H (d :: ds) := fun H1 e Q q =>
  h H1 e _ fun v H2 e2 h2 => hr H2 (e.trans e2) _ fun vs H3 e3 h3 => q _ H3 (e2.trans e3) (.cons (dp_ex e3 h2) h3)
theorem dps_len : ∀ {vs : List V} {ds : List PyData} {H : Hp}, DpAll K H vs ds → vs.length = ds.length
  | _, _, _, .nil => rfl
  | _, _, _, .cons _ h => congrArg (· + 1) (dps_len h)
theorem ed_tup {ta : TA} (h : EvDs K ta σ H ds) (hl : ds.length ≤ 100000) : EvD K (tTup ta) σ H (.tuple ds) := fun H1 e Q q =>
  h H1 e _ fun vs H2 e2 h2 => ⟨sz_of (by rw [dps_len h2]; exact hl), fun p hp => q (.ref p) _ (e2.trans (Ex.new hp)) (.tup (st_of upd_same) (dps_ex (Ex.new hp) h2))⟩
theorem ed_lst {ta : TA} (h : EvDs K ta σ H ds) (hl : ds.length ≤ 100000) : EvD K (tLst ta) σ H (.list ds) := fun H1 e Q q =>
  h H1 e _ fun vs H2 e2 h2 => ⟨sz_of (by rw [dps_len h2]; exact hl), fun p hp => q (.ref p) _ (e2.trans (Ex.new hp)) (.lst (sq_of upd_same) (dps_ex (Ex.new hp) h2))⟩
theorem g_asgD {i : Nat} (h : EvD K te σ H d) (k : ∀ v H1, Ex H H1 → Dp K H1 v d → Go tz D (σ.set i (some v)) H1) : Go (tSeq (tAsg te (gName i)) tz) D σ H := fun H' e =>
  h H' e _ fun v H1 e1 hv => (k v H1 (e.trans e1) hv).at
theorem g_retD (h : EvD K te σ H d) (k : ∀ v H1, Ex H H1 → Dp K H1 v d → D.rt v H1) : Go (tSeq (tRet te) tz) D σ H := fun H' e =>
  h H' e _ fun v H1 e1 hv => k v H1 (e.trans e1) hv
/-! ### lists of ints -/
theorem ev_sum {p : Addr} {ns : List Int} (ha : Ev ta σ H (.ref p)) (h : SqL K H p (ns.map V.int)) : Ev (tCB (rSum K) (tCons ta tNil)) σ H (.int ns.sum) := fun H1 e Q q =>
  ha H1 e _ fun H2 e2 => ⟨p, ns, rfl, ex_l (e.trans e2) h, q H2 e2⟩
theorem ev_sumN {ns : List Int} (ha : EvL ta σ H (ns.map V.int)) : Ev (tCB (rSum K) (tCons ta tNil)) σ H (.int ns.sum) := fun H1 e Q q =>
  ha H1 e _ fun p H2 _ e2 h2 => ⟨p, ns, rfl, sq_of h2, q H2 e2⟩
theorem ev_len' {p : Addr} {xs : List V} (ha : Ev ta σ H (.ref p)) (h : SqL K H p xs) : Ev (tCB (rLenS K) (tCons ta tNil)) σ H (.int (xs.length : Int)) := ev_len ha h
theorem el_slN {tl th : TO} {xs : List V} {lo hi : Option Int} (h : EvL te σ H xs) (h1 : EvO tl σ H lo) (h2 : EvO th σ H hi) : EvL (tSl (rSlL K) te tl th) σ H (cutV xs lo hi) := fun H1 e Q q =>
  h H1 e _ fun a H2 na e2 ha => h1 H2 (e.trans e2) _ fun H3 e3 => h2 H3 ((e.trans e2).trans e3) _ fun H4 e4 =>
    ⟨a, xs, rfl, sq_of (e4 a _ (e3 a _ ha)), fun p hp => q p _ (fresh_back ((e2.trans e3).trans e4) hp) (((e2.trans e3).trans e4).trans (Ex.new hp)) upd_same⟩
theorem el_catNN {xs ys : List V} (h1 : EvL ta σ H xs) (h2 : EvL tb σ H ys) (hl : xs.length + ys.length ≤ 100000) : EvL (tOp rCat ta tb) σ H (xs ++ ys) := fun H1 e Q q =>
  h1 H1 e _ fun a H2 na e2 ha => h2 H2 (e.trans e2) _ fun b H3 nb e3 hb => ⟨a, b, xs, ys, rfl, rfl, e3 a _ ha, hb, sz_of hl, fun p hp => q p _ (fresh_back (e2.trans e3) hp) ((e2.trans e3).trans (Ex.new hp)) upd_same⟩
theorem el_cat1N {xs ys : List V} {l : Addr} (h1 : Ev ta σ H (.ref l)) (hx : H l = some (.lst xs)) (h2 : EvL tb σ H ys) (hl : xs.length + ys.length ≤ 100000) : EvL (tOp rCat ta tb) σ H (xs ++ ys) := fun H1 e Q q =>
  h1 H1 e _ fun H2 e2 => h2 H2 (e.trans e2) _ fun b H3 nb e3 hb => ⟨l, b, xs, ys, rfl, rfl, ((e.trans e2).trans e3) l _ hx, hb, sz_of hl, fun p hp => q p _ (fresh_back (e2.trans e3) hp) ((e2.trans e3).trans (Ex.new hp)) upd_same⟩
theorem el_rep1 {xs : List V} {l : Addr} {n : Int} (h1 : Ev ta σ H (.ref l)) (hx : H l = some (.lst xs)) (h2 : Ev tb σ H (.int n)) (hn : 0 ≤ n ∧ n ≤ 1000) (hl : xs.length * n.toNat ≤ 100000) : EvL (tOp rRep ta tb) σ H (List.replicate n.toNat xs).flatten := fun H1 e Q q =>
  h1 H1 e _ fun H2 e2 => h2 H2 (e.trans e2) _ fun H3 e3 => ⟨l, n, xs, rfl, rfl, ((e.trans e2).trans e3) l _ hx, by omega, by omega, sz_of hl, fun p hp => q p _ (fresh_back (e2.trans e3) hp) ((e2.trans e3).trans (Ex.new hp)) upd_same⟩
theorem el_sortN {ns : List Int} (P : List Int → Prop) (hP : ∀ ns' : List Int, ns'.Perm ns → ns'.Pairwise (· ≤ ·) → P ns') (h : EvL te σ H (ns.map V.int)) :
    ∀ H1, Ex H H1 → ∀ Q : VK, (∀ (ns' : List Int) p H2, P ns' → H1 p = none → Ex H1 H2 → H2 p = some (.lst (ns'.map V.int)) → Q (.ref p) H2) → tCB (rSortedI K) (tCons te tNil) σ H1 Q := fun H1 e Q q =>
  h H1 e _ fun a H2 na e2 ha => ⟨a, ns, rfl, sq_of ha, fun ns' p h1 h2 hp => q ns' p _ (hP ns' h1 h2) (fresh_back e2 hp) (e2.trans (Ex.new hp)) upd_same⟩
theorem sorted2 {a b : Int} {ns : List Int} (h : ns.Perm [a, b]) (h2 : ns.Pairwise (· ≤ ·)) : ns = [min a b, max a b] := by
  have hl := h.length_eq
  match ns, hl with
  | [x, y], _ =>
    have hxy : x ≤ y := by simpa using h2
    have hx : x ∈ [a, b] := h.subset (by simp)
    have hy : y ∈ [a, b] := h.subset (by simp)
    have ha : a ∈ [x, y] := h.symm.subset (by simp)
    have hb : b ∈ [x, y] := h.symm.subset (by simp)
    simp only [List.mem_cons, List.not_mem_nil, or_false] at hx hy ha hb
    simp only [List.cons.injEq, and_true]
    omega
/-- sorted([a, b]) -/
theorem el_sort2 {a b : Int} (h : EvL te σ H [.int a, .int b]) : EvL (tCB (rSortedI K) (tCons te tNil)) σ H [.int (min a b), .int (max a b)] := fun H1 e Q q =>
  el_sortN (ns := [a, b]) (fun ns => ns = [min a b, max a b]) (fun ns h1 h2 => sorted2 h1 h2) h H1 e Q fun ns p H2 hP np e2 hp => by
    subst hP
    exact q p H2 np e2 hp
theorem rMin_eq {i j : Int} : (if j < i then j else i) = min i j := by split <;> omega
theorem rMax_eq {i j : Int} : (if j > i then j else i) = max i j := by split <;> omega
def rMin2 : List V → Hp → VK → Prop := fun xs H Q => ∃ i j, xs = [.int i, .int j] ∧ Q (.int (if j < i then j else i)) H
theorem ev_min {i j : Int} (h1 : Ev ta σ H (.int i)) (h2 : Ev tb σ H (.int j)) : Ev (tCB rMin2 (tCons ta (tCons tb tNil))) σ H (.int (min i j)) := fun H1 e Q q =>
  h1 H1 e _ fun H2 e2 => h2 H2 (e.trans e2) _ fun H3 e3 => ⟨i, j, rfl, by rw [rMin_eq]; exact q H3 (e2.trans e3)⟩
theorem ev_max {i j : Int} (h1 : Ev ta σ H (.int i)) (h2 : Ev tb σ H (.int j)) : Ev (tCB Evl.rMax2 (tCons ta (tCons tb tNil))) σ H (.int (max i j)) := fun H1 e Q q =>
  h1 H1 e _ fun H2 e2 => h2 H2 (e.trans e2) _ fun H3 e3 => ⟨i, j, rfl, by rw [rMax_eq]; exact q H3 (e2.trans e3)⟩
def rAbs : List V → Hp → VK → Prop := fun xs H Q => ∃ i, xs = [.int i] ∧ Q (.int (if i < 0 then -i else i)) H
theorem ev_abs {i : Int} (h1 : Ev ta σ H (.int i)) : Ev (tCB rAbs (tCons ta tNil)) σ H (.int i.natAbs) := fun H1 e Q q =>
  h1 H1 e _ fun H2 e2 => ⟨i, rfl, by
    have : (if i < 0 then -i else i) = (i.natAbs : Int) := by split <;> omega
    rw [this]; exact q H2 e2⟩
/-- an item of a tuple made on the way -/
theorem ev_ixU {xs : List V} {i : Int} (h : EvU ta σ H xs) (hi : Ev tb σ H (.int i)) (ha : atI xs i = some v) : Ev (tOp (rIxT K) ta tb) σ H v := fun H1 e Q q =>
  h H1 e _ fun p H2 _ e2 hp => hi H2 (e.trans e2) _ fun H3 e3 => ⟨p, xs, i, v, rfl, rfl, st_of (e3 p _ hp), ha, q H3 (e2.trans e3)⟩
theorem ev_ixL {xs : List V} {p : Addr} {i : Int} (h : Ev ta σ H (.ref p)) (hs : SqL K H p xs) (hi : Ev tb σ H (.int i)) (ha : atI xs i = some v) : Ev (tOp (rIxL K) ta tb) σ H v := ev_op h hi (rv_ixL hs ha)
theorem ev_ixT {xs : List V} {p : Addr} {i : Int} (h : Ev ta σ H (.ref p)) (hs : SqT K H p xs) (hi : Ev tb σ H (.int i)) (ha : atI xs i = some v) : Ev (tOp (rIxT K) ta tb) σ H v := ev_op h hi (rv_ixT hs ha)
/-- a, b = a list of two -/
theorem g_unl2 {i j : Nat} {a b : V} (h : EvL te σ H [a, b]) (q : Go tz D ((σ.set i (some a)).set j (some b)) H) : Go (tSeq (tAsg te (gUnl K 2 (gCons (gName i) (gCons (gName j) gNil)))) tz) D σ H := fun H' e =>
  h H' e _ fun p H2 np e2 hp => ⟨p, _, rfl, sq_of hp, rfl, a, _, rfl, b, _, rfl, rfl, q H2 (e.trans e2)⟩
/-- a, b, c = a tuple that stands -/
theorem g_unt3 {i j k : Nat} {a b c : V} {p : Addr} (h : Ev te σ H (.ref p)) (hp : SqT K H p [a, b, c]) (q : Go tz D (((σ.set i (some a)).set j (some b)).set k (some c)) H) : Go (tSeq (tAsg te (gTup K 3 (gCons (gName i) (gCons (gName j) (gCons (gName k) gNil))))) tz) D σ H := fun H' e =>
  h H' e _ fun H2 e2 => ⟨p, _, rfl, ex_t (e.trans e2) hp, rfl, a, _, rfl, b, _, rfl, c, _, rfl, rfl, q H2 (e.trans e2)⟩
theorem g_unt2 {i j : Nat} {a b : V} {p : Addr} (h : Ev te σ H (.ref p)) (hp : SqT K H p [a, b]) (q : Go tz D ((σ.set i (some a)).set j (some b)) H) : Go (tSeq (tAsg te (gTup K 2 (gCons (gName i) (gCons (gName j) gNil)))) tz) D σ H := fun H' e =>
  h H' e _ fun H2 e2 => ⟨p, _, rfl, ex_t (e.trans e2) hp, rfl, a, _, rfl, b, _, rfl, rfl, q H2 (e.trans e2)⟩
/-! ### what is walked: n turns, the target's slots behind each -/
def EvF (wi : TI) (g : TG) (σ : L2.St) (H : Hp) (n : Nat) (f : Nat → L2.St → L2.St) : Prop := ∀ H1, Ex H H1 → ∀ R : It → Hp → Prop,
  (∀ J H2, Ex H1 H2 → (∃ Y, Walk J n (Ex H2) Y ∧ ∀ i σ' H' x H'', i < n → Ex H2 H' → Y i H' x H'' → ∀ Q : L2.St → Hp → Prop, (∀ H3, Ex H' H3 → Q (f i σ') H3) → g x σ' H'' Q) → R J H2) → wi σ H1 R
theorem ef_list {p : Addr} {xs : List V} {j : Nat} (h : Ev te σ H (.ref p)) (hs : SqL K H p xs) : EvF (iList K te) (gName j) σ H xs.length fun i σ' => σ'.set j xs[i]? := fun H1 e R r =>
  h H1 e _ fun H2 e2 => ⟨p, rfl, ⟨xs, ex_l (e.trans e2) hs⟩, r _ H2 e2 ⟨_, walk_list.mono (fun H' e' => ex_l ((e.trans e2).trans e') hs) (fun _ _ _ _ _ _ y => y), fun i σ' H' x H'' hi e' y Q q => by
    obtain ⟨rfl, y2⟩ := y
    show Q (σ'.set j (some x)) H''
    rw [← y2]
    exact q H'' (Ex.refl _)⟩⟩
theorem ef_listN {xs : List V} {j : Nat} (h : EvL te σ H xs) : EvF (iList K te) (gName j) σ H xs.length fun i σ' => σ'.set j xs[i]? := fun H1 e R r =>
  h H1 e _ fun p H2 _ e2 hp => ⟨p, rfl, ⟨xs, sq_of hp⟩, r _ H2 e2 ⟨_, walk_list.mono (fun H' e' => sq_of (e' p _ hp)) (fun _ _ _ _ _ _ y => y), fun i σ' H' x H'' hi e' y Q q => by
    obtain ⟨rfl, y2⟩ := y
    show Q (σ'.set j (some x)) H''
    rw [← y2]
    exact q H'' (Ex.refl _)⟩⟩
theorem ef_range {ta : TA} {j : Nat} {n : Int} (h : EvA ta σ H [.int n]) (hn : n ≤ 1000000000) (hn0 : 0 ≤ n) : EvF (iRng1 ta) (gName j) σ H n.toNat fun i σ' => σ'.set j (some (.int (i : Nat))) := fun H1 e R r =>
  h H1 e _ fun H2 e2 => ⟨n, rfl, by omega, by omega, r _ H2 e2 ⟨_, walk_range.mono (fun _ _ => trivial) (fun _ _ _ _ _ _ y => y), fun i σ' H' x H'' hi e' y Q q => by
    obtain ⟨rfl, rfl⟩ := y
    show Q (σ'.set j (some (.int (0 + (i : Int))))) H''
    rw [Int.zero_add]
    exact q H'' (Ex.refl _)⟩⟩
theorem ef_enum {ta : TA} {p : Addr} {xs : List V} {j k : Nat} (h : EvA ta σ H [.ref p]) (hs : SqL K H p xs) : EvF (iEnum K ta) (gTup K 2 (gCons (gName j) (gCons (gName k) gNil))) σ H xs.length fun i σ' => (σ'.set j (some (.int (i : Nat)))).set k xs[i]? := fun H1 e R r =>
  h H1 e _ fun H2 e2 => ⟨p, xs, rfl, ex_l (e.trans e2) hs, r _ H2 e2 ⟨_, walk_enum.mono (fun H' e' => ex_l ((e.trans e2).trans e') hs) (fun _ _ _ _ _ _ y => y), fun i σ' H' x H'' hi e' y Q q => by
    obtain ⟨T, a, b, rfl, nT, rfl, ha, hb⟩ := y
    cases ha
    refine ⟨T, _, rfl, st_of upd_same, rfl, _, _, rfl, _, _, rfl, rfl, ?_⟩
    have z := q (upd H' T (.tup [.int (i : Nat), b])) (Ex.new nT)
    have hb' : xs[i]? = some b := hb
    show Q ((σ'.set j (some (.int (i : Nat)))).set k (some b)) (upd H' T (.tup [.int (i : Nat), b]))
    rw [← hb']
    exact z⟩⟩
theorem ef_enumN {xs : List V} {j k : Nat} (h : EvL te σ H xs) : EvF (iEnum K (tCons te tNil)) (gTup K 2 (gCons (gName j) (gCons (gName k) gNil))) σ H xs.length fun i σ' => (σ'.set j (some (.int (i : Nat)))).set k xs[i]? := fun H1 e R r =>
  h H1 e _ fun p H2 _ e2 hp => ⟨p, xs, rfl, sq_of hp, r _ H2 e2 ⟨_, walk_enum.mono (fun H' e' => sq_of (e' p _ hp)) (fun _ _ _ _ _ _ y => y), fun i σ' H' x H'' hi e' y Q q => by
    obtain ⟨T, a, b, rfl, nT, rfl, ha, hb⟩ := y
    cases ha
    refine ⟨T, _, rfl, st_of upd_same, rfl, _, _, rfl, _, _, rfl, rfl, ?_⟩
    have z := q (upd H' T (.tup [.int (i : Nat), b])) (Ex.new nT)
    have hb' : xs[i]? = some b := hb
    show Q ((σ'.set j (some (.int (i : Nat)))).set k (some b)) (upd H' T (.tup [.int (i : Nat), b]))
    rw [← hb']
    exact z⟩⟩
/-- over a list of pairs: at xs[i] stands the pair f i -/
theorem ef_pairs {p : Addr} {xs : List V} {j k : Nat} {f : Nat → V × V} (h : Ev te σ H (.ref p)) (hs : SqL K H p xs) (hf : ∀ i, i < xs.length → ∃ a, xs[i]? = some (.ref a) ∧ SqT K H a [(f i).1, (f i).2]) :
    EvF (iList K te) (gTup K 2 (gCons (gName j) (gCons (gName k) gNil))) σ H xs.length fun i σ' => (σ'.set j (some (f i).1)).set k (some (f i).2) := fun H1 e R r =>
  h H1 e _ fun H2 e2 => ⟨p, rfl, ⟨xs, ex_l (e.trans e2) hs⟩, r _ H2 e2 ⟨_, walk_list.mono (fun H' e' => ex_l ((e.trans e2).trans e') hs) (fun _ _ _ _ _ _ y => y), fun i σ' H' x H'' hi e' y Q q => by
    obtain ⟨rfl, y2⟩ := y
    obtain ⟨a, h1, h2⟩ := hf i hi
    rw [h1] at y2
    cases y2
    exact ⟨a, _, rfl, ex_t ((e.trans e2).trans e') h2, rfl, _, _, rfl, _, _, rfl, rfl, q H'' (Ex.refl _)⟩⟩⟩
/-- a for that changes nothing that stood -/
theorem g_for {wi : TI} {n : Nat} {f : Nat → L2.St → L2.St} (h : EvF wi g σ H n f) (W : Nat → L2.St → Prop) (h0 : W 0 σ)
    (hs : ∀ H2, Ex H H2 → ∀ i σ', i < n → W i σ' → Go tu { D with nx := fun σ3 H3 => Ex H2 H3 ∧ W (i + 1) σ3, ct := fun σ3 H3 => Ex H2 H3 ∧ W (i + 1) σ3, bk := tz D } (f i σ') H2)
    (hd : ∀ H2, Ex H H2 → ∀ σ', W n σ' → Go tz D σ' H2) : Go (tSeq (tFor wi g tu) tz) D σ H := fun H' e =>
  h H' e _ fun J H2 e2 ⟨Y, wk, hy⟩ => for_it (D := { D with nx := tz D }) wk (fun i σ' H3 => Ex H2 H3 ∧ W i σ') ⟨Ex.refl H2, h0⟩ (fun _ _ _ _ p => p.1)
    (fun i x σ' H3 H4 hi p y => hy i σ' H3 x H4 hi p.1 y _ fun H5 e5 => by
      have z := hs H3 ((e.trans e2).trans p.1) i σ' hi p.2 H5 e5
      have : ∀ σ3 H6, (Ex H3 H6 ∧ W (i + 1) σ3) → (Ex H2 H6 ∧ W (i + 1) σ3) := fun σ3 H6 w => ⟨p.1.trans w.1, w.2⟩
      exact hs H2 (e.trans e2) i σ' hi p.2 H5 (p.1.trans e5))
    (fun σ' H3 p => hd H2 (e.trans e2) σ' p.2 H3 p.1)
/-- a comprehension: which turns give, and what -/
theorem el_lcF {wi : TI} {n : Nat} {f : Nat → L2.St → L2.St} {vs : List Nat} (c : Nat → Bool) (w : Nat → V) (h : EvF wi g σ H n f) (hn : n ≤ 50000) (hw : ∀ i, i < n → wipe (f i (wipe σ vs)) vs = wipe σ vs)
    (ht : ∀ H2, Ex H H2 → ∀ i, i < n → EvT t (f i (wipe σ vs)) H2 (c i)) (he : ∀ H2, Ex H H2 → ∀ i, i < n → c i = true → Ev te (f i (wipe σ vs)) H2 (w i)) : EvL (tLc wi g t te vs) σ H (given n c w) := fun H1 e Q q =>
  h H1 e _ fun J H2 e2 ⟨Y, wk, hy⟩ => fun Dl hD => lc_it wk (Cw H2 c w Dl) ⟨hD, Ex.new hD, upd_same⟩ (fun _ _ _ p => p.2.1)
    (fun i x H3 H4 hi p y => hy i (wipe σ vs) H3 x H4 hi p.2.1 y _ fun H5 e5 => ⟨hw i hi, cw_turn (te := te) (t := t) (f := c) (v := w) (H := H2) (H' := H5) (Dl := Dl) (i := i) ⟨p.1, p.2.1.trans e5, e5 _ _ p.2.2⟩ (by omega) (ht H2 (e.trans e2) i hi) (he H2 (e.trans e2) i hi)⟩)
    (fun H' p => q Dl H' (fresh_back e2 p.1) (e2.trans p.2.1) p.2.2)
theorem et_yes : EvT tYes σ H true := fun H1 e Q q => q H1 (Ex.refl H1)
end
end RG
namespace RG
open PySem PySem.Spec PyProof.Rows L2 Evl RS
section
variable {K : PySem.W.Frag} {σ : L2.St} {H : Hp} {ta tb te tx : TE} {t u : TT} {x y z v : V} {D : Ends} {tu tw tz : TS} {g : TG}
/-- a, b = a new list, another one -/
theorem g_parLL {i j : Nat} {xs ys : List V} (h1 : EvL ta σ H xs) (h2 : EvL tb σ H ys)
    (k : ∀ p q H1 H2, H p = none → Ex H H1 → H1 p = some (.lst xs) → H1 q = none → Ex H1 H2 → H2 q = some (.lst ys) → Go tz D ((σ.set i (some (.ref p))).set j (some (.ref q))) H2) : Go (tSeq (tPar i j (tCons ta (tCons tb tNil))) tz) D σ H := fun H' e =>
  h1 H' e _ fun p H1 np e1 hp => h2 H1 (e.trans e1) _ fun q H2 nq e2 hq => ⟨_, _, rfl, (k p q H1 H2 (fresh_back e np) (e.trans e1) hp nq e2 hq).at⟩
/-- a for over range(n), by a word that may speak of the heap -/
theorem g_forR {ta : TA} {j : Nat} {n : Int} (h : EvA ta σ H [.int n]) (hn : 0 ≤ n ∧ n ≤ 100000) (W : Nat → L2.St → Hp → Prop) (h0 : ∀ H1, Ex H H1 → W 0 σ H1)
    (hs : ∀ (i : Nat) σ' H', (i : Int) < n → W i σ' H' → Go tu { D with nx := W (i + 1), ct := W (i + 1), bk := tz D } (σ'.set j (some (.int (i : Int)))) H') (hd : ∀ σ' H', W n.toNat σ' H' → Go tz D σ' H') : Go (tSeq (tFor (iRng1 ta) (gName j) tu) tz) D σ H := fun H' e =>
  q_forR1 (fun H1 e1 Q q => h H1 (e.trans e1) Q q) hn W (fun H1 e1 => h0 H1 (e.trans e1)) (fun i σ' H1 hi w => (hs i σ' H1 hi w).at) (fun σ' H1 w => (hd σ' H1 w).at)
/-- xs.append((a, b, ..)) -/
theorem g_appU {l : Addr} {xs ys : List V} (hl : H l = some (.lst xs)) (ha : Ev ta σ H (.ref l)) (h : EvU te σ H ys) (hz : xs.length < 100000) (k : ∀ p H1, H p = none → Ex H H1 → H1 p = some (.tup ys) → Go tz D σ (upd H1 l (.lst (xs ++ [.ref p])))) :
    Go (tSeq (tDrop (tBM K "list" rAppend ta (tCons te tNil))) tz) D σ H := fun H' e =>
  q_appU (e l _ hl) (ha.mono e) (EvU.mono e h) hz fun p H1 np e1 hp => (k p H1 (fresh_back e np) (e.trans e1) hp).at
theorem g_app {l : Addr} {xs : List V} (hl : H l = some (.lst xs)) (ha : Ev ta σ H (.ref l)) (h : Ev te σ H v) (hz : xs.length < 100000) (k : ∀ H1, Ex H H1 → Go tz D σ (upd H1 l (.lst (xs ++ [v])))) :
    Go (tSeq (tDrop (tBM K "list" rAppend ta (tCons te tNil))) tz) D σ H := fun H' e =>
  q_app (e l _ hl) (ha.mono e) (h.mono e) hz fun H1 e1 => (k H1 (e.trans e1)).at
end
/-! ### lists -/
theorem atI_mod {ns : List Int} {x m : Int} (hm : m = (ns.length : Int)) (h0 : 0 < m) : ∃ v, atI (ns.map V.int) (x % m) = some (.int v) ∧ v ∈ ns := by
  have h1 := Int.emod_nonneg x (show m ≠ 0 by omega)
  have h2 := Int.emod_lt_of_pos x h0
  have hj : (x % m).toNat < ns.length := by omega
  refine ⟨ns[(x % m).toNat], ?_, List.getElem_mem _⟩
  have z : atI (ns.map V.int) (((x % m).toNat : Nat) : Int) = some (V.int ns[(x % m).toNat]) := atI_nat (by simp [hj])
  have e : (((x % m).toNat : Nat) : Int) = x % m := by omega
  generalize ns[(x % m).toNat] = y at *
  rw [e] at z
  exact z
theorem cut_take {xs : List V} {n : Nat} : cutV xs none (some (n : Int)) = xs.take n := by
  unfold cutV
  rw [HT.sIx_none, HT.sIx_nat]
  simp [List.take_eq_take_iff]
theorem cut_mid {xs : List V} {a b : Nat} : cutV xs (some (a : Int)) (some (b : Int)) = (xs.drop (min a xs.length)).take (min b xs.length - min a xs.length) := by
  unfold cutV
  rw [HT.sIx_nat, HT.sIx_nat]
theorem cut_drop {xs : List V} {a : Nat} : cutV xs (some (a : Int)) none = xs.drop a := by
  unfold cutV
  rw [HT.sIx_nat, HT.sIx_none]
  by_cases h : a ≤ xs.length
  · rw [Nat.min_eq_left h, List.take_of_length_le (by rw [List.length_drop]; omega)]
  · rw [Nat.min_eq_right (by omega), List.drop_of_length_le (Nat.le_refl xs.length), List.drop_of_length_le (show xs.length ≤ a by omega)]
    simp
theorem cut_sub {xs : List V} {lo hi : Option Int} {x : V} (h : x ∈ cutV xs lo hi) : x ∈ xs := by
  unfold cutV at h
  exact List.mem_of_mem_drop (List.mem_of_mem_take h)
theorem sum_abs : ∀ (ns : List Int) (B : Nat), (∀ z ∈ ns, z.natAbs ≤ B) → ns.sum.natAbs ≤ ns.length * B
  | [], B, _ => by simp
  | a :: r, B, h => by
    have h1 := sum_abs r B fun z hz => h z (List.mem_cons_of_mem _ hz)
    have h2 := h a List.mem_cons_self
    rw [List.sum_cons, List.length_cons, Nat.add_mul, Nat.one_mul]
    have := Int.natAbs_add_le a r.sum
    omega
theorem lv_sum {ns : List Int} {a : Nat} (h : ∀ z ∈ ns, Lv a z) (hl : ns.length ≤ 1000) : Lv (a + 1) ns.sum := by
  unfold Lv
  have h1 := sum_abs ns (2 ^ (8000 * a)) fun z hz => Nat.le_of_lt (h z hz)
  have h2 : ns.length * 2 ^ (8000 * a) ≤ 1000 * 2 ^ (8000 * a) := Nat.mul_le_mul_right _ hl
  have h3 : 2 ^ (8000 * (a + 1)) = 2 ^ 8000 * 2 ^ (8000 * a) := by rw [Nat.mul_add, Nat.pow_add, Nat.mul_comm]
  have h4 : 1024 * 2 ^ (8000 * a) ≤ 2 ^ 8000 * 2 ^ (8000 * a) := Nat.mul_le_mul_right _ (show 2 ^ 10 ≤ 2 ^ 8000 from Nat.pow_le_pow_right (by omega) (by omega))
  have h5 : 0 < 2 ^ (8000 * a) := Nat.pow_pos (by omega)
  rw [h3]
  generalize 2 ^ (8000 * a) = x at *
  generalize 2 ^ 8000 * x = y at *
  omega
theorem lv_bits {i : Int} (h : Builtin.Int.intBits i ≤ 1048576) : Lv 132 i := by
  unfold Lv
  have h1 : i.natAbs < 2 ^ 1048576 := by
    by_cases z : i = 0
    · subst z; exact Nat.pow_pos (by omega)
    · have h2 : i.natAbs.log2 + 1 ≤ 1048576 := by
        unfold Builtin.Int.intBits at h
        split at h
        · rename_i q
          exact absurd (by simpa using q) z
        · exact h
      exact (Nat.log2_lt (by omega)).mp (by omega)
  exact Nat.lt_of_lt_of_le h1 (Nat.pow_le_pow_right (by omega) (by omega))
/-- three in a row out of a list written three times -/
theorem three_of {xs : List V} {b : Nat} (h : b + 3 ≤ xs.length) : ∃ x y z, cutV xs (some (b : Int)) (some ((b : Int) + 3)) = [x, y, z] ∧ x ∈ xs ∧ y ∈ xs ∧ z ∈ xs := by
  have e : ((b : Int) + 3) = ((b + 3 : Nat) : Int) := by omega
  rw [e, cut_mid, Nat.min_eq_left (show b ≤ xs.length by omega), Nat.min_eq_left h]
  have e2 : b + 3 - b = 3 := by omega
  rw [e2]
  obtain ⟨l, hl⟩ : ∃ l, l = (xs.drop b).take 3 := ⟨_, rfl⟩
  have hlen : l.length = 3 := by rw [hl, List.length_take, List.length_drop]; omega
  have hm : ∀ x ∈ l, x ∈ xs := fun x hx => by rw [hl] at hx; exact List.mem_of_mem_drop (List.mem_of_mem_take hx)
  rw [← hl]
  match l, hlen, hm with
  | [x, y, z], _, hm => exact ⟨x, y, z, rfl, hm x (by simp), hm y (by simp), hm z (by simp)⟩
theorem in_rep {xs : List V} {n : Nat} {x : V} (h : x ∈ (List.replicate n xs).flatten) : x ∈ xs := by
  obtain ⟨l, hl, hx⟩ := List.mem_flatten.mp h
  rw [List.mem_replicate] at hl
  rw [← hl.2]; exact hx
theorem rep_len {xs : List V} {n : Nat} : (List.replicate n xs).flatten.length = n * xs.length := by simp
/-! ### rings -/
theorem lv_140 {p : Int} (h0 : 0 ≤ p) (h : p < 2 ^ 140) : Lv 1 p := by
  unfold Lv
  refine Nat.lt_of_lt_of_le (show p.natAbs < 2 ^ 140 by omega) (Nat.pow_le_pow_right (by omega) (by omega))
/-- the greatest rings that the laws make -/
def PB : Int := 60000000000000000000000000000000000000000
theorem PB_lt : PB < 2 ^ 140 := by decide

structure Good (P S M : Int) : Prop where
  r : Ring P S
  b : P ≤ PB
  m1 : 1 ≤ M
  m2 : M ≤ top P S
def RingsAt (H : Hp) (xs : List V) : Prop := ∀ i, i < xs.length → ∃ a P S M, xs[i]? = some (.ref a) ∧ H a = some (.tup [.int P, .int S, .int M]) ∧ Good P S M
theorem Good.lp {P S M : Int} (h : Good P S M) : Lv 1 P := by
  unfold Lv
  have := h.r.p
  have := h.b
  have := PB_lt
  exact Nat.lt_of_lt_of_le (show P.natAbs < 2 ^ 140 by omega) (Nat.pow_le_pow_right (by omega) (by omega))
theorem Good.ls {P S M : Int} (h : Good P S M) : Lv 1 S := h.r.ls h.lp
theorem lv_140p {P : Int} (h1 : 1 ≤ P) (h : P ≤ PB) : Lv 1 (P + 1) := by
  have := PB_lt
  have e : (2 : Int) ^ 141 = 2 * 2 ^ 140 := by decide
  have h3 : (P + 1).natAbs < 2 ^ 141 := by omega
  exact Nat.lt_of_lt_of_le h3 (Nat.pow_le_pow_right (by omega) (by omega))
theorem Good.lm {P S M : Int} (h : Good P S M) : Lv 1 M := lv_le (lv_top h.r h.lp) (by have := h.m1; omega) h.m2
end RG
namespace RG
open PySem PySem.Spec PyProof.Rows L2 Evl RS
/-! ### some value with a property -/
def EvP (te : TE) (σ : L2.St) (H : Hp) (R : V → Hp → Prop) : Prop := ∀ H1, Ex H H1 → ∀ Q : VK, (∀ v H2, Ex H1 H2 → R v H2 → Q v H2) → te σ H1 Q
/-- tuples stand at vs -/
def TupsAt (H : Hp) (vs : List V) (pss : List (List V)) : Prop := vs.length = pss.length ∧ ∀ (i : Nat) (ps : List V), pss[i]? = some ps → ∃ a : Addr, vs[i]? = some (V.ref a) ∧ H a = some (.tup ps)
theorem TupsAt.ex {H H' : Hp} {vs : List V} {pss : List (List V)} (h : TupsAt H vs pss) (e : Ex H H') : TupsAt H' vs pss := ⟨h.1, fun i ps hi => let ⟨a, h1, h2⟩ := h.2 i ps hi; ⟨a, h1, e a _ h2⟩⟩
def EvAT (ta : TA) (σ : L2.St) (H : Hp) (pss : List (List V)) : Prop := ∀ H1, Ex H H1 → ∀ Q : List V → Hp → Prop, (∀ vs H2, Ex H1 H2 → TupsAt H2 vs pss → Q vs H2) → ta σ H1 Q
section
variable {K : PySem.W.Frag} {σ : L2.St} {H : Hp} {ta tb te tx : TE} {t u : TT} {x y z v : V} {D : Ends} {tu tw tz : TS} {g : TG}
theorem eat_nil : EvAT tNil σ H [] := fun H1 e Q q => q [] H1 (Ex.refl H1) ⟨rfl, fun i ps h => by simp at h⟩
theorem eat_cons {tr : TA} {ps : List V} {pss : List (List V)} (h : EvU te σ H ps) (hr : EvAT tr σ H pss) : EvAT (tCons te tr) σ H (ps :: pss) := fun H1 e Q q =>
  h H1 e _ fun p H2 np e2 hp => hr H2 (e.trans e2) _ fun vs H3 e3 h3 => q (.ref p :: vs) H3 (e2.trans e3) ⟨by rw [List.length_cons, List.length_cons, h3.1], fun i qs hi => by
    cases i with
    | zero =>
      have : ps = qs := by simpa using hi
      subst this
      exact ⟨p, rfl, e3 p _ hp⟩
    | succ i =>
      obtain ⟨a, h4, h5⟩ := h3.2 i qs (by simpa using hi)
      exact ⟨a, by simpa using h4, h5⟩⟩
/-- x = [(a, b), ..] -/
theorem g_asgLT {i : Nat} {ta : TA} {pss : List (List V)} (h : EvAT ta σ H pss) (hl : pss.length ≤ 100000) (k : ∀ p vs H1, H p = none → Ex H H1 → H1 p = some (.lst vs) → TupsAt H1 vs pss → Go tz D (σ.set i (some (.ref p))) H1) :
    Go (tSeq (tAsg (tLst ta) (gName i)) tz) D σ H := fun H' e =>
  h H' e _ fun vs H1 e1 h1 => ⟨sz_of (by rw [h1.1]; exact hl), fun p hp => (k p vs (upd H1 p (.lst vs)) (fresh_back (e.trans e1) hp) ((e.trans e1).trans (Ex.new hp)) upd_same (h1.ex (Ex.new hp))).at⟩
/-- a for over a list of pairs -/
theorem ef_tups2 {p : Addr} {vs : List V} {ps : List (V × V)} {j k : Nat} (h : Ev te σ H (.ref p)) (hs : SqL K H p vs) (hf : TupsAt H vs (ps.map fun x => [x.1, x.2])) :
    EvF (iList K te) (gTup K 2 (gCons (gName j) (gCons (gName k) gNil))) σ H ps.length fun i σ' => (σ'.set j (ps[i]?.map (·.1))).set k (ps[i]?.map (·.2)) := fun H1 e R r =>
  h H1 e _ fun H2 e2 => ⟨p, rfl, ⟨vs, ex_l (e.trans e2) hs⟩, r _ H2 e2 ⟨_, (show vs.length = ps.length by rw [hf.1, List.length_map]) ▸ walk_list.mono (fun H' e' => ex_l ((e.trans e2).trans e') hs) (fun _ _ _ _ _ _ y => y), fun i σ' H' x H'' hi e' y Q q => by
    obtain ⟨rfl, y2⟩ := y
    have hi' : ps[i]? = some ps[i] := List.getElem?_eq_getElem hi
    obtain ⟨a, h1, h2⟩ := hf.2 i [ps[i].1, ps[i].2] (by rw [List.getElem?_map, hi']; rfl)
    rw [h1] at y2
    cases y2
    refine ⟨a, _, rfl, st_of (((e.trans e2).trans e') a _ h2), rfl, _, _, rfl, _, _, rfl, rfl, ?_⟩
    have z : Q ((σ'.set j (ps[i]?.map (·.1))).set k (ps[i]?.map (·.2))) H'' := q H'' (Ex.refl _)
    rw [hi'] at z
    exact z⟩⟩
/-- a for over something that is made on the way -/
theorem g_forP {R : V → Hp → Prop} (h : EvP te σ H R) (k : ∀ v H2, Ex H H2 → R v H2 → Go (tSeq (tFor (iEnum K (tCons (tC v) tNil)) g tu) tz) D σ H2) : Go (tSeq (tFor (iEnum K (tCons te tNil)) g tu) tz) D σ H := fun H' e =>
  h H' e _ fun v H2 e2 hv => (k v H2 (e.trans e2) hv).at
theorem g_asgP {i : Nat} {R : V → Hp → Prop} (h : EvP te σ H R) (k : ∀ v H2, Ex H H2 → R v H2 → Go tz D (σ.set i (some v)) H2) : Go (tSeq (tAsg te (gName i)) tz) D σ H := fun H' e =>
  h H' e _ fun v H2 e2 hv => (k v H2 (e.trans e2) hv).at
theorem g_unt3c {i j k : Nat} {a b c : V} {p : Addr} (h : Ev te σ H (.ref p)) (hp : H p = some (.tup [a, b, c])) (q : Go tz D (((σ.set i (some a)).set j (some b)).set k (some c)) H) : Go (tSeq (tAsg te (gTup K 3 (gCons (gName i) (gCons (gName j) (gCons (gName k) gNil))))) tz) D σ H := g_unt3 h (st_of hp) q
end
theorem ne_same {a b : V} (h : a = b) : (!decide (a = b)) = false := by rw [decide_eq_true h]; rfl
theorem eq_same {a b : V} (h : a = b) : decide (a = b) = true := decide_eq_true h
/-! ### counts as lengths -/
theorem given_len_sum (c : Nat → Bool) (w : Nat → V) : ∀ n, ((given n c w).length : Int) = sumN (fun i => if c i = true then 1 else 0) n
  | 0 => rfl
  | n + 1 => by
    have ih := given_len_sum c w n
    cases h : c n with
    | true => rw [given_yes h, List.length_append]; simp only [sumN, h, if_true, ← ih]; simp
    | false => rw [given_no h]; simp only [sumN, h, ← ih]; simp
theorem inCnt_len {p s b e : Int} {n : Nat} (c : Nat → Bool) (w : Nat → V) (hbe : b ≤ e + 1) (hc : ∀ i, i < n → c i = (decide (b ≤ (i : Int) * s % p) && decide ((i : Int) * s % p ≤ e))) : cnt p s n e - cnt p s n (b - 1) = ((given n c w).length : Int) := by
  rw [given_len_sum]
  unfold RS.cnt
  rw [← sumN_sub]
  refine sumN_congr fun i hi => ?_
  rw [hc i hi]
  unfold hit
  generalize (i : Int) * s % p = x
  by_cases h1 : b ≤ x <;> by_cases h2 : x ≤ e <;> simp [h1, h2] <;> omega
/-- of step 1 the marks stand one behind another -/
theorem cnt_one {p x : Int} (hx : 0 ≤ x) : ∀ {n : Nat}, (n : Int) ≤ p → cnt p 1 n x = min (n : Int) (x + 1)
  | 0, _ => by
    show (0 : Int) = _
    omega
  | n + 1, h => by
    have ih := cnt_one (p := p) hx (n := n) (by omega)
    show cnt p 1 n x + hit p 1 x n = _
    rw [ih]
    unfold hit
    rw [Int.mul_one, Int.emod_eq_of_lt (by omega) (by omega)]
    split <;> omega
theorem G_one (p : Int) : G p 1 = 1 := by unfold G; simp
theorem top_one (p : Int) : top p 1 = p := by unfold top; rw [G_one]; omega
end RG
namespace RG
open PySem PySem.Spec PyProof.Rows L2 Evl RS
/-- one of two readings -/
theorem pe_orR {X : Cx} {e : Expr} {t1 t2 : TE} (h1 : PE X e t1) (h2 : PE X e t2) : PE X e (fun σ H Q => t1 σ H Q ∨ t2 σ H Q) := ⟨fun pins s σ H Q I h => by
  rcases h with h | h
  · exact h1.run pins s σ H Q I h
  · exact h2.run pins s σ H Q I h⟩
section
variable {K : PySem.W.Frag} {σ : L2.St} {H : Hp} {ta tb te tx : TE} {t u : TT} {x y z v : V} {D : Ends} {tu tw tz : TS} {g : TG}
theorem g_par3 {i j l : Nat} {ta : TA} (h : EvA ta σ H [v, x, y]) (k : Go tz D (((σ.set i (some v)).set j (some x)).set l (some y)) H) : Go (tSeq (tPar3 i j l ta) tz) D σ H := fun H' e =>
  h H' e _ fun H1 e1 => ⟨v, x, y, rfl, k H1 (e.trans e1)⟩
/-- an attribute -/
theorem ev_fld {a C dx : Addr} {fs : List (Str × V)} {f : Str} (ha : Ev ta σ H (.ref a)) (h : H a = some (.ins C dx fs)) (c : Cls K C) (n : NoAttr K C f) (l : fs.lookup f = some v) : Ev (tFld K ta f) σ H v := fun H1 e Q q =>
  ha H1 e _ fun H2 e2 => ⟨a, C, dx, fs, v, rfl, (e.trans e2) a _ h, c, n, l, q H2 e2⟩
/-- a new instance with one attribute -/
def spIni (C : Addr) (f : Str) : Sp := fun vs H Q _ => ∃ (p dx : Addr) (x : V), vs = [.ref p, x] ∧ H p = some (.ins C dx []) ∧ Q .non (upd H p (.ins C dx [(f, x)]))
theorem ev_make {C : Addr} {f : Str} {ta : TA} {E : XK} (h : EvA ta σ H [v]) : ∀ H1, Ex H H1 → ∀ Q : VK, (∀ (x : Addr) H2, H1 x = none → Ex H1 H2 → (∃ dx, H2 x = some (.ins C dx [(f, v)])) → Q (.ref x) H2) → tMake C (spIni C f) [] E ta σ H1 Q := fun H1 e Q q =>
  h H1 e _ fun H2 e2 x dx nx ndx ne => ⟨x, dx, v, rfl, upd_same, rfl, q x _ (fresh_back e2 nx) (e2.trans fun b o hb => by
    rw [upd_ne (ne_of_none hb nx), upd_ne (ne_of_none hb nx), upd_ne (ne_of_none hb ndx)]
    exact hb) ⟨dx, upd_same⟩⟩
theorem ini_body {C : Addr} {f : Str} {p dx : Addr} {x : V} {Q : VK} (c : Cls K C) (n : NoAttr K C f) (h : H p = some (.ins C dx [])) (k : Q .non (upd H p (.ins C dx [(f, x)]))) :
    (tSeq (sFld K (tVar 0) (tVar 1) f) tNext) { nx := fun _ H' => Q .non H', rt := Q } [some (.ref p), some x] H :=
  ⟨x, rfl, .ref p, rfl, p, C, dx, [], rfl, h, c, n, by decide, k⟩
/-- a method's call by values -/
theorem ev_meth {C : Addr} {m : Str} {sp : Sp} {E : XK} {a dx : Addr} {fs : List (Str × V)} {ta' : TA} {vs : List V} (ha : Ev ta σ H (.ref a)) (h : H a = some (.ins C dx fs)) (l : fs.lookup m = none) (hv : EvA ta' σ H vs) (hs : SpV sp (.ref a :: vs) H z) : Ev (tMeth C m sp [] E ta ta') σ H z := fun H1 e Q q =>
  ha H1 e _ fun H2 e2 => ⟨a, dx, fs, rfl, (e.trans e2) a _ h, l, hv H2 (e.trans e2) _ fun H3 e3 => by
    show sp (.ref a :: (vs ++ [])) H3 Q E
    rw [List.append_nil]
    exact hs H3 ((e.trans e2).trans e3) Q (fun H4 e4 => q H4 ((e2.trans e3).trans e4)) E⟩
theorem ev_orl {t1 t2 : TE} (h : Ev t1 σ H v) : Ev (fun σ H Q => t1 σ H Q ∨ t2 σ H Q) σ H v := fun H1 e Q q => .inl (h H1 e Q q)
theorem ev_orr {t1 t2 : TE} (h : Ev t2 σ H v) : Ev (fun σ H Q => t1 σ H Q ∨ t2 σ H Q) σ H v := fun H1 e Q q => .inr (h H1 e Q q)
/-- over reversed(a list of triples) -/
theorem ef_rev3 {ta : TA} {p : Addr} {vs : List V} {ps : List (Int × Int × Int)} {i j k : Nat} (h : EvA ta σ H [.ref p]) (hs : SqL K H p vs) (hf : TupsAt H vs (ps.map fun x => [V.int x.1, V.int x.2.1, V.int x.2.2])) :
    EvF (iRev K ta) (gTup K 3 (gCons (gName i) (gCons (gName j) (gCons (gName k) gNil)))) σ H ps.length fun n σ' => ((σ'.set i (ps[ps.length - 1 - n]?.map fun x => V.int x.1)).set j (ps[ps.length - 1 - n]?.map fun x => V.int x.2.1)).set k (ps[ps.length - 1 - n]?.map fun x => V.int x.2.2) := fun H1 e R r =>
  have hl : vs.length = ps.length := by rw [hf.1, List.length_map]
  h H1 e _ fun H2 e2 => ⟨p, vs, rfl, ex_l (e.trans e2) hs, r _ H2 e2 ⟨fun i H x H' => H' = H ∧ vs[vs.length - 1 - i]? = some x, by
    have w := walk_rev (K := K) (a := p) (xs := vs)
    rw [hl] at w ⊢
    exact w.mono (fun H' e' => ex_l ((e.trans e2).trans e') hs) (fun _ _ _ _ _ _ y => y), fun n σ' H' x H'' hi e' y Q q => by
    obtain ⟨rfl, y2⟩ := y
    rw [hl] at y2
    have hi2 : ps.length - 1 - n < ps.length := by omega
    have hi' : ps[ps.length - 1 - n]? = some ps[ps.length - 1 - n] := List.getElem?_eq_getElem hi2
    obtain ⟨a, h1, h2⟩ := hf.2 (ps.length - 1 - n) _ (by rw [List.getElem?_map, hi']; rfl)
    rw [h1] at y2
    cases y2
    refine ⟨a, _, rfl, st_of (((e.trans e2).trans e') a _ h2), rfl, _, _, rfl, _, _, rfl, _, _, rfl, rfl, ?_⟩
    have z : Q (((σ'.set i (ps[ps.length - 1 - n]?.map fun x => V.int x.1)).set j (ps[ps.length - 1 - n]?.map fun x => V.int x.2.1)).set k (ps[ps.length - 1 - n]?.map fun x => V.int x.2.2)) H'' := q H'' (Ex.refl _)
    rw [hi'] at z
    exact z⟩⟩
end
theorem TupsAt.upd {H : Hp} {vs ys : List V} {pss : List (List V)} {d : Addr} {o : HO} (h : TupsAt H vs pss) (hd : H d = some (.lst ys)) : TupsAt (upd H d o) vs pss := ⟨h.1, fun i ps hi => by
  obtain ⟨a, h1, h2⟩ := h.2 i ps hi
  exact ⟨a, h1, by rw [upd_ne (ne_of h2 hd (by intro z; cases z))]; exact h2⟩⟩
theorem TupsAt.snoc {H : Hp} {vs : List V} {pss : List (List V)} {q : Addr} {ps : List V} (h : TupsAt H vs pss) (hq : H q = some (.tup ps)) : TupsAt H (vs ++ [.ref q]) (pss ++ [ps]) := ⟨by rw [List.length_append, List.length_append, h.1]; rfl, fun i qs hi => by
  by_cases hl : i < pss.length
  · rw [List.getElem?_append_left hl] at hi
    obtain ⟨a, h1, h2⟩ := h.2 i qs hi
    exact ⟨a, by rw [List.getElem?_append_left (by rw [h.1]; exact hl)]; exact h1, h2⟩
  · have hi2 : i = pss.length := by
      have := (List.getElem?_eq_some_iff.mp hi).1
      rw [List.length_append] at this
      simp at this
      omega
    subst hi2
    have e : ps = qs := by simpa using hi
    subst e
    exact ⟨q, by rw [← h.1]; simp, hq⟩⟩
/-- two to a power below a number of this size -/
theorem pow_small {n : Nat} {P : Int} (h : (2 : Int) ^ n ≤ P) (l : Lv 1 P) : n < 8000 := by
  unfold Lv at l
  rcases Nat.lt_or_ge n 8000 with q | q
  · exact q
  · have h1 : 2 ^ (8000 * 1) ≤ 2 ^ n := Nat.pow_le_pow_right (by omega) (by omega)
    have h2 : ((2 ^ n : Nat) : Int) = (2 : Int) ^ n := by rw [Int.natCast_pow]; rfl
    omega
/-! ### what answers show -/
def inCnt (p s : Int) (n : Nat) (b e : Int) : Int := RS.cnt p s n e - RS.cnt p s n (b - 1)
def showsF (p s b e m : Int) : Bool := decide (0 ≤ m) && (decide (b ≤ m * s % p) && decide (m * s % p ≤ e)) && decide (inCnt p s m.toNat b e = 0)
def showsN (p s b e c : Int) : Bool := decide (1 ≤ c) && decide (p % c = 0) && decide (s % c = 0) && decide (e / c * c < b)
/-- no mark ahead is there -/
theorem inCnt_none {p s b e : Int} {n : Nat} (hbe : b ≤ e + 1) : inCnt p s n b e = 0 ↔ ∀ k : Nat, k < n → ¬ RS.In p s b e k := by
  have key : inCnt p s n b e = sumN (fun k => if RS.In p s b e k then 1 else 0) n := by
    unfold inCnt RS.cnt
    rw [← sumN_sub]
    refine sumN_congr fun k _ => ?_
    unfold hit
    by_cases q : RS.In p s b e k
    · obtain ⟨h1, h2⟩ := id q
      rw [if_pos q, if_pos h2, if_neg (by omega)]
      rfl
    · rw [if_neg q]
      unfold RS.In at q
      split <;> split <;> omega
  have nn : ∀ k : Nat, k < n → (0 : Int) ≤ if RS.In p s b e k then 1 else 0 := fun k _ => by split <;> omega
  rw [key]
  constructor
  · intro h k hk q
    have := sumN_ge (f := fun k : Nat => if RS.In p s b e k then (1 : Int) else 0) (n := n) (k := k) nn hk
    have this : (if RS.In p s b e k then (1 : Int) else 0) ≤ _ := this
    rw [if_pos q] at this
    omega
  · intro h
    rw [sumN_congr (g := fun _ => 0), sumN_const]
    · simp
    · intro k hk
      rw [if_neg (h k hk)]
theorem showsF_iff {p s b e m : Int} (hbe : b ≤ e) : showsF p s b e m = true ↔ FirstIn p s b e m := by
  unfold showsF
  rw [Bool.and_eq_true, Bool.and_eq_true, Bool.and_eq_true, decide_eq_true_iff, decide_eq_true_iff, decide_eq_true_iff, decide_eq_true_iff]
  constructor
  · rintro ⟨⟨h0, h1, h2⟩, h3⟩
    refine ⟨h0, ⟨h1, h2⟩, fun j j0 jm q => ?_⟩
    have := (inCnt_none (show b ≤ e + 1 by omega)).mp h3 j.toNat (by omega)
    have e1 : ((j.toNat : Nat) : Int) = j := by omega
    rw [e1] at this
    exact this q
  · rintro ⟨h0, ⟨h1, h2⟩, h3⟩
    exact ⟨⟨h0, h1, h2⟩, (inCnt_none (by omega)).mpr fun k hk => h3 k (by omega) (by omega)⟩
end RG
namespace RG
open PySem PySem.Spec PyProof.Rows L2 Evl RS
/-! ### own classes -/
/-- what isinstance asks of an instance of C -/
structure InsI (K : PySem.W.Frag) (C : Addr) : Prop where
  cl : Cls K C
  ha : PySem.W.findIn K (.ref C) "__class__" = some (some (.builtin "object.__class__"))
  hn : PySem.W.specialIn K (.builtin "object.__class__") "__get__" = some (some (.builtin "getset_descriptor.__get__"))
  htk : PySem.W.takesIn K (.builtin "object.__class__") = some true
  hm : PySem.W.mroIn K C (.type "object") = some true
theorem kit_own {K : PySem.W.Frag} {C D : Addr} {b : Bool} (i : PySem.W.isClsIn K D = true) (t : PySem.W.typeIn K (.ref D) = some (.type "type")) (s : PySem.W.subIn K (.ref C) (.ref D) = some b) (r : PySem.W.subIn K (.ref D) (.ref D) = some true) : PySem.W.kitOne K (.ref C) (.ref D) = some b := by
  unfold PySem.W.kitOne
  by_cases e : (Value.ref C == Value.ref D) = true
  · rw [if_pos e]
    have : C = D := by have := eq_of_beq e; injection this
    subst this
    rw [s] at r
    exact r.symm
  · rw [if_neg e]
    have e2 : ((PySem.W.clsIn K D).isSome && PySem.W.typeIn K (.ref D) == some (.type "type")) = true := by
      have h2' : (PySem.W.clsIn K D).isSome = true := i
      rw [h2', t] <;> rfl
    show (if ((PySem.W.clsIn K D).isSome && PySem.W.typeIn K (.ref D) == some (.type "type")) = true then PySem.W.subIn K (.ref C) (.ref D) else none) = some b
    rw [if_pos e2]
    exact s
section
variable {K : PySem.W.Frag} {σ : L2.St} {H : Hp} {ta tb te tx : TE} {t u : TT} {x y z v : V} {D : Ends} {tu tw tz : TS} {g : TG}
theorem ev_isIns {a C B dx : Addr} {fs : List (Str × V)} {b : Bool} (ha : Ev ta σ H (.ref a)) (h : H a = some (.ins C dx fs)) (i : InsI K C) (k : PySem.W.kitOne K (.ref C) (.ref B) = some b) : Ev (tCB (rIsi K) (tCons ta (tCons (tC (.ref B)) tNil))) σ H (.bl b) := fun H1 e Q q =>
  ha H1 e _ fun H2 e2 => ⟨.ref a, .ref B, .ref C, .ref B, b, rfl, .own B, .base (.ins ((e.trans e2) a _ h) i.cl i.ha i.hn i.htk i.hm), k, q H2 e2⟩
theorem lk_ne {m f : Str} {v : V} (h : m ≠ f) : List.lookup m [(f, v)] = none := by
  have q : (m == f) = false := by simpa using h
  simp [List.lookup, q]
theorem lk_eq {f : Str} {v : V} : List.lookup f [(f, v)] = some v := by simp [List.lookup]
/-- C(v).m(..) -/
theorem ev_methMk {C : Addr} {f m : Str} {sp : Sp} {E E' : XK} {ta ta' : TA} {vs : List V} {i : Int} (h : EvA ta σ H [.int i]) (hm : m ≠ f) (hv : EvA ta' σ H vs) (hs : ∀ a H', Ex H H' → (∃ dx, H' a = some (.ins C dx [(f, .int i)])) → SpV sp (.ref a :: vs) H' z) :
    Ev (tMeth C m sp [] E (tMake C (spIni C f) [] E' ta) ta') σ H z := fun H1 e Q q =>
  ev_make h H1 e _ fun a H2 na e2 ⟨dx, ha⟩ => ⟨a, dx, _, rfl, ha, lk_ne hm, hv H2 (e.trans e2) _ fun H3 e3 => by
    show sp (.ref a :: (vs ++ [])) H3 Q E
    rw [List.append_nil]
    exact hs a H3 ((e.trans e2).trans e3) ⟨dx, e3 a _ ha⟩ H3 (Ex.refl H3) Q (fun H4 e4 => q H4 ((e2.trans e3).trans e4)) E⟩
theorem given_rep (n : Nat) : given n (fun _ => true) (fun _ => V.bl true) = (List.replicate n true).map V.bl := by
  induction n with
  | zero => rfl
  | succ n ih => rw [given_yes rfl, ih, List.replicate_succ', List.map_append]; rfl
theorem all_rep (n : Nat) : (List.replicate n true).all id = true := by
  induction n with
  | zero => rfl
  | succ n ih => rw [List.replicate_succ, List.all_cons, ih]; rfl
theorem ev_allT {n : Nat} (h : EvL te σ H (given n (fun _ => true) (fun _ => V.bl true))) : Ev (tCB (rAll K) (tCons te tNil)) σ H (.bl true) := fun H1 e Q q =>
  h H1 e _ fun p H2 _ e2 hp => ⟨p, List.replicate n true, rfl, sq_of (by rw [hp, given_rep]), by rw [all_rep]; exact q H2 e2⟩
theorem ev_allB {bs : List Bool} (h : EvL te σ H (bs.map V.bl)) : Ev (tCB (rAll K) (tCons te tNil)) σ H (.bl (bs.all id)) := fun H1 e Q q =>
  h H1 e _ fun p H2 _ e2 hp => ⟨p, bs, rfl, sq_of hp, q H2 e2⟩
/-- a for over a list of pairs that is written in its head -/
theorem ef_disp2 {ta : TA} {ps : List (V × V)} {j k : Nat} (h : EvAT ta σ H (ps.map fun x => [x.1, x.2])) (hl : ps.length ≤ 100000) :
    EvF (iList K (tLst ta)) (gTup K 2 (gCons (gName j) (gCons (gName k) gNil))) σ H ps.length fun i σ' => (σ'.set j (ps[i]?.map (·.1))).set k (ps[i]?.map (·.2)) := fun H1 e R r =>
  h H1 e _ fun vs H2 e2 hT => ⟨sz_of (by rw [hT.1, List.length_map]; exact hl), fun p np => by
    have hT' := hT.ex (Ex.new (o := .lst vs) np)
    have e3 : Ex H2 (upd H2 p (.lst vs)) := Ex.new np
    refine ⟨p, rfl, ⟨vs, sq_of upd_same⟩, r _ (upd H2 p (.lst vs)) (e2.trans e3) ⟨fun i H x H' => H' = H ∧ vs[i]? = some x, by
      have w := walk_list (K := K) (a := p) (xs := vs)
      have hl2 : vs.length = ps.length := by rw [hT.1, List.length_map]
      rw [hl2] at w
      exact w.mono (fun H' e' => sq_of (e' p _ upd_same)) (fun _ _ _ _ _ _ y => y), fun i σ' H' x H'' hi e' y Q q => ?_⟩⟩
    obtain ⟨rfl, y2⟩ := y
    have hi' : ps[i]? = some ps[i] := List.getElem?_eq_getElem hi
    obtain ⟨a, h1, h2⟩ := hT'.2 i [ps[i].1, ps[i].2] (by rw [List.getElem?_map, hi']; rfl)
    rw [h1] at y2
    cases y2
    refine ⟨a, _, rfl, st_of (e' a _ h2), rfl, _, _, rfl, _, _, rfl, rfl, ?_⟩
    have z : Q ((σ'.set j (ps[i]?.map (·.1))).set k (ps[i]?.map (·.2))) H'' := q H'' (Ex.refl _)
    rw [hi'] at z
    exact z⟩
end
theorem lv_e61 {i : Int} (h : i.natAbs ≤ 10 ^ 61) : Lv 1 i := by
  unfold Lv
  exact Nat.lt_of_le_of_lt h (Nat.lt_of_lt_of_le (show 10 ^ 61 < 2 ^ 300 by decide) (Nat.pow_le_pow_right (by omega) (by omega)))
end RG
namespace RG
open PySem PySem.Spec PyProof.Rows L2 Evl RS
/-! ### all but one object stands as it stood -/
def Xl (l : Addr) (H H' : Hp) : Prop := ∀ b o, b ≠ l → H b = some o → H' b = some o
theorem Xl.of {l : Addr} {H H' : Hp} (e : Ex H H') : Xl l H H' := fun b o _ h => e b o h
theorem Xl.trans {l : Addr} {H H' H'' : Hp} (a : Xl l H H') (b : Xl l H' H'') : Xl l H H'' := fun c o n h => b c o n (a c o n h)
theorem Xl.upd {l : Addr} {H : Hp} {o : HO} : Xl l H (upd H l o) := fun b o' n h => by rw [upd_ne n]; exact h
theorem Xl.ex {l : Addr} {H H1 H' : Hp} (x : Xl l H1 H') (e : Ex H H1) (n : H l = none) : Ex H H' := fun b o h => x b o (ne_of_none h n) (e b o h)
theorem TupsAt.xl {l : Addr} {H H' : Hp} {vs ys : List V} {pss : List (List V)} (h : TupsAt H vs pss) (hl : H l = some (.lst ys)) (x : Xl l H H') : TupsAt H' vs pss := ⟨h.1, fun i ps hi => by
  obtain ⟨a, h1, h2⟩ := h.2 i ps hi
  exact ⟨a, h1, x a _ (ne_of h2 hl (by intro z; cases z)) h2⟩⟩
theorem TupsAt.take {H : Hp} {vs : List V} {pss : List (List V)} (n : Nat) (h : TupsAt H vs pss) : TupsAt H (vs.take n) (pss.take n) := ⟨by rw [List.length_take, List.length_take, h.1], fun i ps hi => by
  rw [List.getElem?_take] at hi ⊢
  by_cases q : i < n
  · rw [if_pos q] at hi ⊢
    exact h.2 i ps hi
  · rw [if_neg q] at hi
    cases hi⟩
/-- arguments that make something on the way -/
def EvAR (ta : TA) (σ : L2.St) (H : Hp) (R : List V → Hp → Prop) : Prop := ∀ H1, Ex H H1 → ∀ Q : List V → Hp → Prop, (∀ vs H2, Ex H1 H2 → R vs H2 → Q vs H2) → ta σ H1 Q
section
variable {K : PySem.W.Frag} {σ : L2.St} {H : Hp} {ta tb te tx : TE} {t u : TT} {x y z v : V} {D : Ends} {tu tw tz : TS} {g : TG} {d d' : PyData}
theorem ear_of {tr : TA} {vs : List V} (h : EvA tr σ H vs) : EvAR tr σ H (fun us _ => us = vs) := fun H1 e Q q => h H1 e _ fun H2 e2 => q _ H2 e2 rfl
theorem ear_cons {tr : TA} {R : List V → Hp → Prop} (h : Ev te σ H v) (hr : EvAR tr σ H R) : EvAR (tCons te tr) σ H (fun vs H2 => ∃ r, vs = v :: r ∧ R r H2) := fun H1 e Q q =>
  h H1 e _ fun H2 e2 => hr H2 (e.trans e2) _ fun vs H3 e3 hR => q _ H3 (e2.trans e3) ⟨vs, rfl, hR⟩
theorem ear_lst {xs : List V} (h : EvL te σ H xs) : EvAR (tCons te tNil) σ H (fun vs H2 => ∃ p, vs = [.ref p] ∧ H2 p = some (.lst xs)) := fun H1 e Q q =>
  h H1 e _ fun p H2 _ e2 hp => q _ H2 e2 ⟨p, rfl, hp⟩
theorem ev_callR {sp : Sp} {E : XK} {tr : TA} {R : List V → Hp → Prop} (h : EvAR tr σ H R) (hs : ∀ vs H2, Ex H H2 → R vs H2 → SpV sp vs H2 v) : Ev (tCall sp [] E tr) σ H v := fun H1 e Q q =>
  h H1 e _ fun vs H2 e2 hR => by
    show sp (vs ++ []) H2 Q E
    rw [List.append_nil]
    exact hs vs H2 (e.trans e2) hR H2 (Ex.refl H2) Q (fun H3 e3 => q H3 (e2.trans e3)) E
/-- an attribute of something that is made on the way -/
theorem ev_fldP {f : Str} {R : V → Hp → Prop} (h : EvP te σ H R) (k : ∀ v H2, R v H2 → ∃ a C dx fs, v = .ref a ∧ H2 a = some (.ins C dx fs) ∧ Cls K C ∧ NoAttr K C f ∧ fs.lookup f = some z) : Ev (tFld K te f) σ H z := fun H1 e Q q =>
  h H1 e _ fun v H2 e2 hR => by
    obtain ⟨a, C, dx, fs, rfl, h1, h2, h3, h4⟩ := k v H2 hR
    exact ⟨a, C, dx, fs, z, rfl, h1, h2, h3, h4, q H2 e2⟩
/-! ### data at any depth, compared -/
theorem dp_ints {H : Hp} : ∀ ns : List Int, DpAll K H (ns.map V.int) (ns.map PyData.int)
  | [] => .nil
  | n :: ns => .cons (.int n) (dp_ints ns)
theorem ed_ints {ns : List Int} (h : EvL te σ H (ns.map V.int)) : EvD K te σ H (.list (ns.map PyData.int)) := fun H1 e Q q =>
  h H1 e _ fun p H2 _ e2 hp => q _ H2 e2 (.lst (sq_of hp) (dp_ints ns))
theorem ev_neD (h1 : EvD K ta σ H d) (h2 : EvD K tb σ H d') (s1 : SeqAt.shaped d = true) (s2 : SeqAt.shaped d' = true) : Ev (tOp (rNeD K) ta tb) σ H (.bl (!PyData.eqv d d')) := fun H1 e Q q =>
  h1 H1 e _ fun v H2 e2 hv => h2 H2 (e.trans e2) _ fun v' H3 e3 hv' => ⟨d, d', dp_ex e3 hv, hv', s1, s2, q H3 (e2.trans e3)⟩
theorem ev_eqD (h1 : EvD K ta σ H d) (h2 : EvD K tb σ H d') (s1 : SeqAt.shaped d = true) (s2 : SeqAt.shaped d' = true) : Ev (tOp (rEqD K) ta tb) σ H (.bl (PyData.eqv d d')) := fun H1 e Q q =>
  h1 H1 e _ fun v H2 e2 hv => h2 H2 (e.trans e2) _ fun v' H3 e3 hv' => ⟨d, d', dp_ex e3 hv, hv', s1, s2, q H3 (e2.trans e3)⟩
theorem ed_if {b : Bool} (h : EvT t σ H b) (h1 : b = true → EvD K ta σ H d) (h2 : b = false → EvD K tb σ H d) : EvD K (tIf t ta tb) σ H d := fun H1 e Q q => h H1 e _ fun H2 e2 => by
  cases b with
  | true =>
    show ta σ H2 Q
    exact h1 rfl H2 (e.trans e2) Q fun v H3 e3 => q v H3 (e2.trans e3)
  | false =>
    show tb σ H2 Q
    exact h2 rfl H2 (e.trans e2) Q fun v H3 e3 => q v H3 (e2.trans e3)
theorem rv_notB {a b : Bool} : RV rNotB (.bl a) (.bl b) H (.bl (!decide (a = b))) := fun H1 _ _ q => ⟨a, b, rfl, rfl, q H1 (Ex.refl H1)⟩
theorem rv_isB {a b : Bool} : RV rIsB (.bl a) (.bl b) H (.bl (decide (a = b))) := fun H1 _ _ q => ⟨a, b, rfl, rfl, q H1 (Ex.refl H1)⟩
/-- a for over a list written in its head, one object alone is changed -/
theorem g_forXl {xs : List V} {tl : TE} {j : Nat} {l : Addr} {o : HO} (h : EvL tl σ H xs) (hl : H l = some o) (W : Nat → L2.St → Hp → Prop) (h0 : ∀ H1, Ex H H1 → W 0 σ H1)
    (hs : ∀ B, Ex H B → ∀ i x σ' H', xs[i]? = some x → Xl l B H' → W i σ' H' → Go tu { D with nx := fun σ2 H2 => Xl l B H2 ∧ W (i + 1) σ2 H2, ct := fun σ2 H2 => Xl l B H2 ∧ W (i + 1) σ2 H2, bk := tz D } (σ'.set j (some x)) H')
    (hd : ∀ σ' H', Xl l H H' → W xs.length σ' H' → Go tz D σ' H') : Go (tSeq (tFor (iList K tl) (gName j) tu) tz) D σ H := fun H' e => by
  have hl' := e l _ hl
  refine h H' e _ fun p B np e1 hp => ?_
  have npl : p ≠ l := fun z => by rw [z, hl'] at np; cases np
  refine ⟨p, rfl, ⟨xs, sq_of hp⟩, ?_⟩
  refine for_it (D := { D with nx := tz D }) (G := fun H2 => SqL K H2 p xs) walk_list (fun i σ' H2 => Xl l B H2 ∧ W i σ' H2) ⟨Xl.of (Ex.refl B), h0 B (e.trans e1)⟩ (fun i σ' H2 _ w => sq_of (w.1 p _ npl hp)) (fun i x σ' H2 H3 hi w y => ?_) (fun σ' H2 w => (hd σ' H2 ((Xl.of (e.trans e1)).trans w.1) w.2).at)
  obtain ⟨rfl, y2⟩ := y
  exact (hs B (e.trans e1) i x σ' _ y2 w.1 w.2).at
end
/-! ### the first of what is given -/
theorem given_none {c : Nat → Bool} {w : Nat → V} : ∀ {n : Nat}, (∀ i, i < n → c i = false) → given n c w = []
  | 0, _ => rfl
  | n + 1, h => by rw [given_no (h n (by omega))]; exact given_none fun i hi => h i (by omega)
theorem given_first {c : Nat → Bool} {w : Nat → V} {k : Nat} (h : ∀ i, i < k → c i = false) (hk : c k = true) : ∀ {n : Nat}, k < n → (given n c w).take 1 = [w k]
  | 0, hn => absurd hn (by omega)
  | n + 1, hn => by
    by_cases q : k < n
    · have ih := given_first h hk (w := w) q
      have hne : 1 ≤ (given n c w).length := by
        cases z : given n c w with
        | nil => rw [z] at ih; cases ih
        | cons a b => simp
      cases z : c n with
      | true => rw [given_yes z, List.take_append_of_le_length hne]; exact ih
      | false => rw [given_no z]; exact ih
    · have : k = n := by omega
      subst this
      rw [given_yes hk, given_none h]
      rfl
end RG
namespace RG
open PySem PySem.Spec PyProof.Rows L2 Evl RS
/-! ### great powers -/
def CPowB (i j : Int) : Prop := 0 ≤ j ∧ (Builtin.Int.intBits i : Int) * j ≤ 2 ^ 27
theorem op_powB {X : Cx} : OpR X (binaryOp .Pow) (rI CPowB fun i j => .int (i ^ j.toNat)) := opI fun _ _ _ _ _ _ _ hc q => pow_int hc.1 hc.2 q
theorem powB_ok {i j : Int} {n : Nat} (h : i.natAbs < 2 ^ n) (hn : 0 < n) (hj : 0 ≤ j) (hb : (n : Int) * j ≤ 134217728) : CPowB i j := by
  refine ⟨hj, ?_⟩
  have b : Builtin.Int.intBits i ≤ n := by
    unfold Builtin.Int.intBits
    have := PySem.Flt.log2_lt_of hn h
    split <;> omega
  have h1 : (Builtin.Int.intBits i : Int) * j ≤ (n : Int) * j := Int.mul_le_mul_of_nonneg_right (by omega) hj
  have e : (2 : Int) ^ 27 = 134217728 := by decide
  rw [e]
  omega
section
variable {K : PySem.W.Frag} {σ : L2.St} {H : Hp} {ta tb te tx : TE} {t u : TT} {x y z v : V} {D : Ends} {tu tw tz : TS} {g : TG}
/-- xs.index(y), of ints -/
theorem ev_indexI {p : Addr} {ns : List Int} {y : Int} {j : Nat} (ha : Ev ta σ H (.ref p)) (hs : SqL K H p (ns.map V.int)) (hb : Ev tb σ H (.int y)) (hj : ns[j]? = some y) (hn : ∀ (m : Nat) (z : Int), m < j → ns[m]? = some z → z ≠ y) : Ev (tBM K "list" (rIndex K) ta (tCons tb tNil)) σ H (.int (j : Nat)) := fun H1 e Q q =>
  ha H1 e _ fun H2 e2 => ⟨.inl ⟨rfl, _, ex_l (e.trans e2) hs⟩, hb H2 (e.trans e2) _ fun H3 e3 => ⟨p, ns.map V.int, .int y, j, .int y, rfl, rfl, ex_l ((e.trans e2).trans e3) hs, rfl, by rw [List.all_eq_true]; intro w hw; obtain ⟨i, _, rfl⟩ := List.mem_map.mp hw; rfl, by rw [List.getElem?_map, hj]; rfl, by show (y == y) = true; simp, fun m z' hm hz => by
    rw [List.getElem?_map] at hz
    cases q : ns[m]? with
    | none => rw [q] at hz; cases hz
    | some w =>
      rw [q] at hz
      cases hz
      have := hn m w hm q
      show (w == y) = false
      simpa using this, q H3 (e2.trans e3)⟩⟩
/-- a, b = sorted(ints), y -/
theorem g_parS {i j : Nat} {ns : List Int} {q : Addr} (P : List Int → Prop) (hP : ∀ ns' : List Int, ns'.Perm ns → ns'.Pairwise (· ≤ ·) → P ns') (h1 : Ev ta σ H (.ref q)) (hs : SqL K H q (ns.map V.int)) (h2 : Ev tb σ H v)
    (k : ∀ ns' p H1, P ns' → H p = none → Ex H H1 → H1 p = some (.lst (ns'.map V.int)) → Go tz D ((σ.set i (some (.ref p))).set j (some v)) H1) : Go (tSeq (tPar i j (tCons (tCB (rSortedI K) (tCons ta tNil)) (tCons tb tNil))) tz) D σ H := fun H' e =>
  h1 H' e _ fun H1 e1 => ⟨q, ns, rfl, ex_l (e.trans e1) hs, fun ns' p a b np => by
    have e2 : Ex H1 (upd H1 p (.lst (ns'.map V.int))) := Ex.new np
    exact h2 _ ((e.trans e1).trans e2) _ fun H2 e3 => ⟨_, _, rfl, (k ns' p H2 (hP ns' a b) (fresh_back (e.trans e1) np) (((e.trans e1).trans e2).trans e3) (e3 p _ upd_same)).at⟩⟩
/-- a for over a tuple of pairs that is written in its head -/
theorem ef_tdisp2 {ta : TA} {ps : List (V × V)} {j k : Nat} (h : EvAT ta σ H (ps.map fun x => [x.1, x.2])) (hl : ps.length ≤ 100000) :
    EvF (iTup K (tTup ta)) (gTup K 2 (gCons (gName j) (gCons (gName k) gNil))) σ H ps.length fun i σ' => (σ'.set j (ps[i]?.map (·.1))).set k (ps[i]?.map (·.2)) := fun H1 e R r =>
  h H1 e _ fun vs H2 e2 hT => ⟨sz_of (by rw [hT.1, List.length_map]; exact hl), fun p np => by
    have hT' := hT.ex (Ex.new (o := .tup vs) np)
    have e3 : Ex H2 (upd H2 p (.tup vs)) := Ex.new np
    refine ⟨p, rfl, ⟨vs, st_of upd_same⟩, r _ (upd H2 p (.tup vs)) (e2.trans e3) ⟨fun i H x H' => H' = H ∧ vs[i]? = some x, by
      have w := walk_tup (K := K) (a := p) (xs := vs)
      have hl2 : vs.length = ps.length := by rw [hT.1, List.length_map]
      rw [hl2] at w
      exact w.mono (fun H' e' => st_of (e' p _ upd_same)) (fun _ _ _ _ _ _ y => y), fun i σ' H' x H'' hi e' y Q q => ?_⟩⟩
    obtain ⟨rfl, y2⟩ := y
    have hi' : ps[i]? = some ps[i] := List.getElem?_eq_getElem hi
    obtain ⟨a, h1, h2⟩ := hT'.2 i [ps[i].1, ps[i].2] (by rw [List.getElem?_map, hi']; rfl)
    rw [h1] at y2
    cases y2
    refine ⟨a, _, rfl, st_of (e' a _ h2), rfl, _, _, rfl, _, _, rfl, rfl, ?_⟩
    have z : Q ((σ'.set j (ps[i]?.map (·.1))).set k (ps[i]?.map (·.2))) H'' := q H'' (Ex.refl _)
    rw [hi'] at z
    exact z⟩
end
theorem given_spots (p s : Int) (m : Nat) : given m (fun _ => true) (fun i => V.int ((i : Int) * s % p)) = (spots p s m).map V.int := by
  unfold given spots
  rw [List.filter_eq_self.mpr fun _ _ => rfl, List.map_map]
  rfl
end RG
namespace RG
open PySem PySem.Spec PyProof.Rows L2 Evl RS
/-! ### dicts with ints as keys -/
theorem hu1 {A : Around} {k : Nat} (hr : Room k A) : A.units + 1 < cLine := Nat.lt_of_le_of_lt (Nat.add_le_add_left (by decide : 1 ≤ 64) _) hr.units
section
variable {K : PySem.W.Frag} {σ : L2.St} {H : Hp} {ta tb te tx td : TE} {t u : TT} {x y z v : V} {D : Ends} {tu tw tz : TS} {g : TG}
/-- x = {k: v} -/
theorem g_asgDisp1 {i : Nat} {k : Int} (hk : Ev ta σ H (.int k)) (hv : Ev tb σ H v) (q : ∀ p H1, H p = none → Ex H H1 → H1 p = some (.dK [(.inl k, v)]) → Go tz D (σ.set i (some (.ref p))) H1) : Go (tSeq (tAsg (tDisp [(ta, tb)]) (gName i)) tz) D σ H := fun H' e p np => by
  have e1 : Ex H' (upd H' p (.dK [])) := Ex.new np
  refine hk _ (e.trans e1) _ fun H2 e2 => hv H2 ((e.trans e1).trans e2) _ fun H3 e3 => ⟨e3 _ _ (e2 _ _ upd_same), [(.inl k, v)], rfl, by show 1 ≤ 15; decide, ?_⟩
  have np0 : H p = none := fresh_back e np
  exact (q p (upd H3 p (.dK [(.inl k, v)])) np0 (Ex.mut (((e.trans e1).trans e2).trans e3) np0) upd_same).at
/-- x[k] = v -/
theorem g_dput {d : Addr} {k : Int} {kvs : List (Key × V)} (hd : H d = some (.dK kvs)) (hl : kvs.length < 100000) (hv : Ev tx σ H v) (ho : Ev ta σ H (.ref d)) (hk : Ev tb σ H (.int k)) (q : ∀ H1, Ex H H1 → Go tz D σ (upd H1 d (.dK (putK kvs (.inl k) v)))) :
    Go (tSeq (sDPut ta tb tx) tz) D σ H := fun H' e =>
  hv H' e _ fun H1 e1 => ho H1 (e.trans e1) _ fun H2 e2 => hk H2 ((e.trans e1).trans e2) _ fun H3 e3 =>
    ⟨d, _, rfl, DPut.k (k := .inl k) ((((e.trans e1).trans e2).trans e3) d _ hd) (sz_lt hl), (q H3 (((e.trans e1).trans e2).trans e3)).at⟩
/-- x.get(k, z) -/
theorem ev_dget2 {d : Addr} {k : Int} {kvs : List (Key × V)} (hd : H d = some (.dK kvs)) (ho : Ev ta σ H (.ref d)) (hk : Ev tb σ H (.int k)) (hz : Ev tx σ H z) : Ev (tDGet2 ta tb tx) σ H ((valV kvs (.inl k)).getD z) := fun H1 e Q q =>
  ho H1 e _ fun H2 e2 => ⟨d, rfl, .inl ⟨kvs, .inl ((e.trans e2) d _ hd)⟩, hk H2 (e.trans e2) _ fun H3 e3 => hz H3 ((e.trans e2).trans e3) _ fun H4 e4 =>
    ⟨_, DGet.k (k := .inl k) ((((e.trans e2).trans e3).trans e4) d _ hd), q H4 ((e2.trans e3).trans e4)⟩⟩
/-- a new list of new tuples -/
def EvLT (te : TE) (σ : L2.St) (H : Hp) (pss : List (List V)) : Prop := ∀ H1, Ex H H1 → ∀ Q : VK, (∀ p vs H2, H1 p = none → Ex H1 H2 → H2 p = some (.lst vs) → TupsAt H2 vs pss → Q (.ref p) H2) → te σ H1 Q
theorem elt_lst {ta : TA} {pss : List (List V)} (h : EvAT ta σ H pss) (hl : pss.length ≤ 100000) : EvLT (tLst ta) σ H pss := fun H1 e Q q =>
  h H1 e _ fun vs H2 e2 hT => ⟨sz_of (by rw [hT.1]; exact hl), fun p hp => q p vs _ (fresh_back e2 hp) (e2.trans (Ex.new hp)) upd_same (hT.ex (Ex.new hp))⟩
theorem g_retLT {pss : List (List V)} (h : EvLT te σ H pss) (k : ∀ p vs H1, H p = none → Ex H H1 → H1 p = some (.lst vs) → TupsAt H1 vs pss → D.rt (.ref p) H1) : Go (tSeq (tRet te) tz) D σ H := fun H' e =>
  h H' e _ fun p vs H1 np e1 hp hT => k p vs H1 (fresh_back e np) (e.trans e1) hp hT
def givenT (n : Nat) (c : Nat → Bool) (w : Nat → List V) : List (List V) := ((List.range n).filter c).map w
theorem givenT_yes {n : Nat} {c : Nat → Bool} {w : Nat → List V} (h : c n = true) : givenT (n + 1) c w = givenT n c w ++ [w n] := by
  unfold givenT
  rw [List.range_succ, List.filter_append, List.map_append, List.filter_cons, if_pos h] <;> rfl
theorem givenT_no {n : Nat} {c : Nat → Bool} {w : Nat → List V} (h : c n = false) : givenT (n + 1) c w = givenT n c w := by
  unfold givenT
  rw [List.range_succ, List.filter_append, List.map_append, List.filter_cons, if_neg (by rw [h]; decide)]
  show _ ++ [] = _
  rw [List.append_nil]
theorem givenT_len (n : Nat) (c : Nat → Bool) (w : Nat → List V) : (givenT n c w).length ≤ n := by
  unfold givenT
  rw [List.length_map]
  have h := List.length_filter_le c (List.range n)
  rw [List.length_range] at h
  exact h
/-- [(k, v) for k, v in x.items() if ..] -/
theorem elt_items {i j iD : Nat} {d : Addr} {vs : List Nat} {kvs : List (Key × V)} (hs : σ[iD]? = some (some (.ref d))) (hD : H d = some (.dK kvs)) (hn : kvs.length ≤ 50000) (c : Nat → Bool) (w : Nat → List V)
    (hw : ∀ n, n < kvs.length → wipe (((wipe σ vs).set i (kvs[n]?.map fun kv => kV kv.1)).set j (kvs[n]?.map Prod.snd)) vs = wipe σ vs)
    (ht : ∀ H2 n, n < kvs.length → EvT t (((wipe σ vs).set i (kvs[n]?.map fun kv => kV kv.1)).set j (kvs[n]?.map Prod.snd)) H2 (c n))
    (he : ∀ H2 n, n < kvs.length → c n = true → EvU te (((wipe σ vs).set i (kvs[n]?.map fun kv => kV kv.1)).set j (kvs[n]?.map Prod.snd)) H2 (w n)) :
    EvLT (tLockE (tLc (iItems (tVar iD)) (gTup K 2 (gCons (gName i) (gCons (gName j) gNil))) t te vs)) σ H (givenT kvs.length c w) := fun H1 e Q q => by
  have hD1 := e d _ hD
  refine ⟨d, .dK kvs, hD1, trivial, fun od => ?_⟩
  have hF : (upd H1 d (.frz od (.dK kvs))) d = some (.frz od (.dK kvs)) := upd_same
  generalize hHF : upd H1 d (.frz od (.dK kvs)) = HF at *
  have hb : ∀ b, b ≠ d → HF b = H1 b := fun b n => by rw [← hHF, upd_ne n]
  refine ⟨.ref d, hs, d, od, kvs, rfl, hF, fun Dl hDl => ?_⟩
  have nDd : Dl ≠ d := fun z => by rw [z, hF] at hDl; cases hDl
  refine lc_it (G := fun H' => H' d = some (.frz od (.dK kvs))) walk_items (fun n H' => Ex HF H' ∧ ∃ us, H' Dl = some (.lst us) ∧ TupsAt H' us (givenT n c w)) ⟨Ex.new hDl, [], upd_same, rfl, fun n ps h => by simp [givenT] at h⟩ (fun n H' _ p => p.1 d _ hF) (fun n x H3 H4 hi p yy => ?_) (fun H' p => ?_)
  · obtain ⟨p1, us, p2, p3⟩ := p
    obtain ⟨T, a, b, rfl, nT, rfl, ha, hb2⟩ := yy
    have ha : kvs[n]?.map (fun kv => kV kv.1) = some a := ha
    have hb2 : kvs[n]?.map Prod.snd = some b := hb2
    have e4 : Ex H3 (upd H3 T (.tup [a, b])) := Ex.new nT
    refine ⟨T, _, rfl, st_of upd_same, rfl, _, _, rfl, _, _, rfl, rfl, ?_⟩
    have key : ∀ H5, Ex H3 H5 → (wipe (((wipe σ vs).set i (kvs[n]?.map fun kv => kV kv.1)).set j (kvs[n]?.map Prod.snd)) vs = wipe σ vs ∧ t (((wipe σ vs).set i (kvs[n]?.map fun kv => kV kv.1)).set j (kvs[n]?.map Prod.snd)) H5 fun b H3 =>
        if b = true then te (((wipe σ vs).set i (kvs[n]?.map fun kv => kV kv.1)).set j (kvs[n]?.map Prod.snd)) H3 fun y H4 => ∃ acc, H4 Dl = some (.lst acc) ∧ acc.length < sizeLine ∧ (Ex HF (upd H4 Dl (.lst (acc ++ [y]))) ∧ ∃ us, (upd H4 Dl (.lst (acc ++ [y]))) Dl = some (.lst us) ∧ TupsAt (upd H4 Dl (.lst (acc ++ [y]))) us (givenT (n + 1) c w)) else (Ex HF H3 ∧ ∃ us, H3 Dl = some (.lst us) ∧ TupsAt H3 us (givenT (n + 1) c w))) := fun H5 e5 => by
      refine ⟨hw n hi, ht H5 n hi H5 (Ex.refl H5) _ fun H6 e6 => ?_⟩
      cases hc : c n with
      | true =>
        show te _ H6 _
        refine he H6 n hi hc H6 (Ex.refl H6) _ fun q H7 nq e7 hq => ?_
        have e37 := (e5.trans e6).trans e7
        have nqD : q ≠ Dl := fun z => by
          rw [z, (e5.trans e6) Dl _ p2] at nq
          cases nq
        refine ⟨us, e37 Dl _ p2, sz_lt (by have := givenT_len n c w; rw [p3.1]; omega), Ex.mut (p1.trans e37) hDl, us ++ [.ref q], upd_same, ?_⟩
        rw [givenT_yes hc]
        exact ((p3.ex e37).upd (e37 Dl _ p2)).snoc (by rw [upd_ne nqD]; exact hq)
      | false =>
        show Ex HF H6 ∧ _
        rw [givenT_no hc]
        exact ⟨p1.trans (e5.trans e6), us, (e5.trans e6) Dl _ p2, p3.ex (e5.trans e6)⟩
    have z := key _ e4
    rw [ha, hb2] at z
    exact z
  · obtain ⟨p1, us, p2, p3⟩ := p
    refine ⟨p1 d _ hF, q Dl us (upd H' d (.dK kvs)) ?_ ?_ (by rw [upd_ne nDd]; exact p2) ⟨p3.1, fun n ps hn' => ?_⟩⟩
    · rw [← hb Dl nDd]; exact hDl
    · intro b o hbo
      by_cases z : b = d
      · rw [z] at hbo ⊢
        rw [upd_same, ← hbo, hD1]
      · rw [upd_ne z]
        exact p1 b o (by rw [hb b z]; exact hbo)
    · obtain ⟨a, h1, h2⟩ := p3.2 n ps hn'
      refine ⟨a, h1, ?_⟩
      rw [upd_ne (fun z => by rw [z, p1 d _ hF] at h2; cases h2)]
      exact h2
end
/-! ### pairs in order -/
theorem pairs_uniq : ∀ {l m : List (Int × Int)}, l.Perm m → l.Pairwise (fun a b => a.1 ≤ b.1) → m.Pairwise (fun a b => a.1 < b.1) → l = m
  | [], m, h, _, _ => (List.nil_perm.mp h).symm
  | a :: l, [], h, _, _ => absurd (List.perm_nil.mp h) (by simp)
  | a :: l, b :: m, h, hl, hm => by
    have hl' := List.pairwise_cons.mp hl
    have hm' := List.pairwise_cons.mp hm
    have ha : a ∈ b :: m := h.subset List.mem_cons_self
    have hb : b ∈ a :: l := h.symm.subset List.mem_cons_self
    have e : a = b := by
      rcases List.mem_cons.mp ha with z | z
      · exact z
      · rcases List.mem_cons.mp hb with y | y
        · exact y.symm
        · have h1 := hm'.1 a z
          have h2 := hl'.1 b y
          omega
    subst e
    rw [pairs_uniq (List.Perm.cons_inv h) hl'.2 hm'.2]
/-- what a pair at an address tells -/
def pairK (H : Hp) : V → Int × Int
  | .ref t => match H t with
    | some (.tup [.int i, .int j]) => (i, j)
    | _ => (0, 0)
  | _ => (0, 0)
theorem pairs_at {H : Hp} {vs : List V} {ps : List (Int × Int)} (h : TupsAt H vs (ps.map fun x => [V.int x.1, V.int x.2])) : vs.map (pairK H) = ps ∧ ∀ x ∈ vs, ∃ t, x = V.ref t ∧ H t = some (.tup [.int (pairK H x).1, .int (pairK H x).2]) := by
  have at_ : ∀ i, i < vs.length → ∃ t x, ps[i]? = some x ∧ vs[i]? = some (V.ref t) ∧ H t = some (.tup [.int x.1, .int x.2]) ∧ pairK H (V.ref t) = x := fun i hi => by
    have hl := h.1
    rw [List.length_map] at hl
    have hi' : i < ps.length := by omega
    obtain ⟨a, h1, h2⟩ := h.2 i [V.int ps[i].1, V.int ps[i].2] (by rw [List.getElem?_map, List.getElem?_eq_getElem hi']; rfl)
    exact ⟨a, ps[i], List.getElem?_eq_getElem hi', h1, h2, by simp only [pairK, h2]⟩
  constructor
  · apply List.ext_getElem?
    intro i
    rw [List.getElem?_map]
    by_cases hi : i < vs.length
    · obtain ⟨t, x, h1, h2, h3, h4⟩ := at_ i hi
      rw [h2, h1]
      exact congrArg some h4
    · have hl := h.1
      rw [List.length_map] at hl
      rw [List.getElem?_eq_none (by omega), List.getElem?_eq_none (by omega)]
      rfl
  · intro x hx
    obtain ⟨i, hi⟩ := List.mem_iff_getElem?.mp hx
    obtain ⟨t, y, h1, h2, h3, h4⟩ := at_ i (List.getElem?_eq_some_iff.mp hi).1
    rw [h2] at hi
    cases hi
    exact ⟨t, rfl, by rw [h4]; exact h3⟩
section
variable {K : PySem.W.Frag} {σ : L2.St} {H : Hp} {te : TE}
/-- sorted(new pairs), their sizes all apart -/
theorem elt_sorted {ps qs : List (Int × Int)} (hp : qs.Perm ps) (hq : qs.Pairwise fun a b => a.1 < b.1) (h : EvLT te σ H (ps.map fun x => [V.int x.1, V.int x.2])) : EvLT (tCB (rSortedPO K) (tCons te tNil)) σ H (qs.map fun x => [V.int x.1, V.int x.2]) := fun H1 e Q q =>
  h H1 e _ fun a vs H2 na e2 ha hT => by
    obtain ⟨hk, hx⟩ := pairs_at hT
    refine ⟨a, vs, pairK H2, rfl, sq_of ha, hx, fun ys p srt stb np => ?_⟩
    have hperm : (ys.map (pairK H2)).Perm qs := by
      have := stb.perm.map (pairK H2)
      rw [hk] at this
      exact this.trans hp.symm
    have hs : (ys.map (pairK H2)).Pairwise fun a b => a.1 ≤ b.1 := by
      refine List.pairwise_map.mpr ?_
      refine List.Pairwise.imp ?_ srt
      intro x y hxy
      have := SrtO.lexB_no.mp hxy
      omega
    have he := pairs_uniq hperm hs hq
    refine q p ys _ (fresh_back e2 np) (e2.trans (Ex.new np)) upd_same (TupsAt.ex ⟨by rw [← he, List.length_map, List.length_map], fun i us hi => ?_⟩ (Ex.new np))
    rw [← he, List.map_map, List.getElem?_map] at hi
    cases hy : ys[i]? with
    | none => rw [hy] at hi; cases hi
    | some y =>
      rw [hy] at hi
      obtain ⟨t, rfl, ht⟩ := hx y (stb.perm.subset (List.mem_of_getElem? hy))
      cases hi
      exact ⟨t, rfl, ht⟩
end
/-- by the index, with what is made of each -/
theorem givenT_list (l : List (Int × Int)) (q : Int × Int → Bool) (f : Int × Int → List V) : givenT l.length (fun i => q (l.getD i (0, 0))) (fun i => f (l.getD i (0, 0))) = (l.filter q).map f := by
  have h : l = (List.range l.length).map fun i => l.getD i (0, 0) := by
    apply List.ext_getElem?
    intro i
    rw [List.getElem?_map]
    by_cases hi : i < l.length
    · rw [List.getElem?_eq_getElem hi, List.getElem?_range hi]
      simp [List.getD, hi]
    · rw [List.getElem?_eq_none (by omega), List.getElem?_eq_none (by simp; omega)]
      rfl
  unfold givenT
  conv => rhs; rw [h]
  rw [List.filter_map, List.map_map]
  rfl
end RG
namespace RG
open PySem PySem.Spec PyProof.Rows L2 Evl RS
section
variable {K : PySem.W.Frag} {σ : L2.St} {H : Hp} {ta tb te tx : TE} {t u : TT} {x y z v : V} {D : Ends} {tu tw tz : TS} {g : TG}
theorem ev_isTup {p : Addr} {xs : List V} (ha : Ev ta σ H (.ref p)) (h : H p = some (.tup xs)) : Ev (tCB (rIsi K) (tCons ta (tCons (tC (.ty "tuple")) tNil))) σ H (.bl true) := fun H1 e Q q =>
  ha H1 e _ fun H2 e2 => ⟨.ref p, .ty "tuple", _, _, _, rfl, .ty _, .base (.tup ((e.trans e2) p _ h)), kit_ty (r := true) (by decide +kernel), q H2 e2⟩
theorem ev_isLst {p : Addr} {xs : List V} (ha : Ev ta σ H (.ref p)) (h : H p = some (.lst xs)) : Ev (tCB (rIsi K) (tCons ta (tCons (tC (.ty "list")) tNil))) σ H (.bl true) := fun H1 e Q q =>
  ha H1 e _ fun H2 e2 => ⟨.ref p, .ty "list", _, _, _, rfl, .ty _, .base (.lst ((e.trans e2) p _ h)), kit_ty (r := true) (by decide +kernel), q H2 e2⟩
theorem ev_lenT {p : Addr} {xs : List V} (ha : Ev ta σ H (.ref p)) (h : H p = some (.tup xs)) : Ev (tCB (rLenS K) (tCons ta tNil)) σ H (.int (xs.length : Int)) := fun H1 e Q q =>
  ha H1 e _ fun H2 e2 => ⟨p, xs, rfl, Or.inr (st_of ((e.trans e2) p _ h)), q H2 e2⟩
theorem ef_tup {p : Addr} {xs : List V} {j : Nat} (h : Ev te σ H (.ref p)) (hs : SqT K H p xs) : EvF (iTup K te) (gName j) σ H xs.length fun i σ' => σ'.set j xs[i]? := fun H1 e R r =>
  h H1 e _ fun H2 e2 => ⟨p, rfl, ⟨xs, ex_t (e.trans e2) hs⟩, r _ H2 e2 ⟨_, walk_tup.mono (fun H' e' => ex_t ((e.trans e2).trans e') hs) (fun _ _ _ _ _ _ y => y), fun i σ' H' x H'' hi e' y Q q => by
    obtain ⟨rfl, y2⟩ := y
    show Q (σ'.set j (some x)) H''
    rw [← y2]
    exact q H'' (Ex.refl _)⟩⟩
end
end RG
namespace RG
open PySem PySem.Spec PyProof.Rows L2 Evl RS
section
variable {K : PySem.W.Frag} {σ : L2.St} {H : Hp} {ta tb te tx : TE} {t u : TT} {x y z v : V} {D : Ends} {tu tw tz : TS} {g : TG}
/-- a for over zip(a list, a new list), one object alone is changed -/
theorem g_forZipXl {xs ys : List V} {i j n : Nat} {l p : Addr} {o : HO} (hp : Ev ta σ H (.ref p)) (hx : H p = some (.lst xs)) (hb : EvL tb σ H ys) (hn : n = min xs.length ys.length) (hl : H l = some o) (npl : p ≠ l) (W : Nat → L2.St → Hp → Prop) (h0 : ∀ H1, Ex H H1 → W 0 σ H1)
    (hs : ∀ B, Ex H B → ∀ m σ' H', m < n → Xl l B H' → W m σ' H' → Go tu { D with nx := fun σ2 H2 => Xl l B H2 ∧ W (m + 1) σ2 H2, ct := fun σ2 H2 => Xl l B H2 ∧ W (m + 1) σ2 H2, bk := tz D } ((σ'.set i xs[m]?).set j ys[m]?) H')
    (hW : ∀ m σ' H' H'', W m σ' H' → Ex H' H'' → W m σ' H'')
    (hd : ∀ σ' H', Xl l H H' → W n σ' H' → Go tz D σ' H') : Go (tSeq (tFor (iZip K (tCons ta (tCons tb tNil))) (gTup K 2 (gCons (gName i) (gCons (gName j) gNil))) tu) tz) D σ H := fun H' e => by
  have hl' := e l _ hl
  refine hp H' e _ fun H1 e1 => hb H1 (e.trans e1) _ fun q B nq e2 hq => ?_
  have npl2 : q ≠ l := fun z => by rw [z, e1 l _ hl'] at nq; cases nq
  have hxB := e2 p _ (e1 p _ (e p _ hx))
  have eB := (e.trans e1).trans e2
  refine ⟨p, q, xs, ys, rfl, sq_of hxB, sq_of hq, ?_⟩
  refine for_it (D := { D with nx := tz D }) (G := fun H2 => SqL K H2 p xs ∧ SqL K H2 q ys) (walk_zip hn) (fun m σ' H2 => Xl l B H2 ∧ W m σ' H2) ⟨Xl.of (Ex.refl B), h0 B eB⟩ (fun m σ' H2 _ w => ⟨sq_of (w.1 p _ npl hxB), sq_of (w.1 q _ npl2 hq)⟩) (fun m x σ' H2 H3 hm w y => ?_) (fun σ' H2 w => (hd σ' H2 ((Xl.of eB).trans w.1) w.2).at)
  obtain ⟨T, a, b, rfl, nT, rfl, ha, hb2⟩ := y
  have ha : xs[m]? = some a := ha
  have hb2 : ys[m]? = some b := hb2
  have e4 : Ex H2 (upd H2 T (.tup [a, b])) := Ex.new nT
  refine ⟨T, _, rfl, st_of upd_same, rfl, _, _, rfl, _, _, rfl, rfl, ?_⟩
  have z := (hs B eB m σ' (upd H2 T (.tup [a, b])) hm (w.1.trans (Xl.of e4)) (hW m σ' H2 _ w.2 e4)).at
  rw [ha, hb2] at z
  exact z
/-- [.. for k in x if ..], x a dict -/
theorem elt_keys {j iD : Nat} {d : Addr} {vs : List Nat} {kvs : List (Key × V)} (hs : σ[iD]? = some (some (.ref d))) (hD : H d = some (.dK kvs)) (hn : kvs.length ≤ 50000) (c : Nat → Bool) (w : Nat → List V)
    (hw : ∀ n, n < kvs.length → wipe ((wipe σ vs).set j (kvs[n]?.map fun kv => kV kv.1)) vs = wipe σ vs)
    (ht : ∀ H2 od n, H2 d = some (.frz od (.dK kvs)) → n < kvs.length → EvT t ((wipe σ vs).set j (kvs[n]?.map fun kv => kV kv.1)) H2 (c n))
    (he : ∀ H2 od n, H2 d = some (.frz od (.dK kvs)) → n < kvs.length → c n = true → EvU te ((wipe σ vs).set j (kvs[n]?.map fun kv => kV kv.1)) H2 (w n)) :
    EvLT (tLockE (tLc (iKeys (tVar iD)) (gName j) t te vs)) σ H (givenT kvs.length c w) := fun H1 e Q q => by
  have hD1 := e d _ hD
  refine ⟨d, .dK kvs, hD1, trivial, fun od => ?_⟩
  have hF : (upd H1 d (.frz od (.dK kvs))) d = some (.frz od (.dK kvs)) := upd_same
  generalize hHF : upd H1 d (.frz od (.dK kvs)) = HF at *
  have hb : ∀ b, b ≠ d → HF b = H1 b := fun b n => by rw [← hHF, upd_ne n]
  refine ⟨.ref d, hs, d, od, rfl, .inl ⟨kvs, hF, fun Dl hDl => ?_⟩⟩
  have nDd : Dl ≠ d := fun z => by rw [z, hF] at hDl; cases hDl
  refine lc_it (G := fun H' => H' d = some (.frz od (.dK kvs))) walk_keys (fun n H' => Ex HF H' ∧ ∃ us, H' Dl = some (.lst us) ∧ TupsAt H' us (givenT n c w)) ⟨Ex.new hDl, [], upd_same, rfl, fun n ps h => by simp [givenT] at h⟩ (fun n H' _ p => p.1 d _ hF) (fun n x H3 H4 hi p yy => ?_) (fun H' p => ?_)
  · obtain ⟨p1, us, p2, p3⟩ := p
    obtain ⟨rfl, kk, vv, hkv, rfl⟩ := yy
    have ha : kvs[n]?.map (fun kv => kV kv.1) = some (kV kk) := by rw [hkv]; rfl
    have key : ∀ H5, Ex H4 H5 → (wipe ((wipe σ vs).set j (kvs[n]?.map fun kv => kV kv.1)) vs = wipe σ vs ∧ t ((wipe σ vs).set j (kvs[n]?.map fun kv => kV kv.1)) H5 fun b H3 =>
        if b = true then te ((wipe σ vs).set j (kvs[n]?.map fun kv => kV kv.1)) H3 fun y H4 => ∃ acc, H4 Dl = some (.lst acc) ∧ acc.length < sizeLine ∧ (Ex HF (upd H4 Dl (.lst (acc ++ [y]))) ∧ ∃ us, (upd H4 Dl (.lst (acc ++ [y]))) Dl = some (.lst us) ∧ TupsAt (upd H4 Dl (.lst (acc ++ [y]))) us (givenT (n + 1) c w)) else (Ex HF H3 ∧ ∃ us, H3 Dl = some (.lst us) ∧ TupsAt H3 us (givenT (n + 1) c w))) := fun H5 e5 => by
      have f5 := e5 d _ (p1 d _ hF)
      refine ⟨hw n hi, ht H5 od n f5 hi H5 (Ex.refl H5) _ fun H6 e6 => ?_⟩
      cases hc : c n with
      | true =>
        show te _ H6 _
        refine he H6 od n (e6 d _ f5) hi hc H6 (Ex.refl H6) _ fun q H7 nq e7 hq => ?_
        have e37 := (e5.trans e6).trans e7
        have nqD : q ≠ Dl := fun z => by
          rw [z, (e5.trans e6) Dl _ p2] at nq
          cases nq
        refine ⟨us, e37 Dl _ p2, sz_lt (by have := givenT_len n c w; rw [p3.1]; omega), Ex.mut (p1.trans e37) hDl, us ++ [.ref q], upd_same, ?_⟩
        rw [givenT_yes hc]
        exact ((p3.ex e37).upd (e37 Dl _ p2)).snoc (by rw [upd_ne nqD]; exact hq)
      | false =>
        show Ex HF H6 ∧ _
        rw [givenT_no hc]
        exact ⟨p1.trans (e5.trans e6), us, (e5.trans e6) Dl _ p2, p3.ex (e5.trans e6)⟩
    have z := key _ (Ex.refl _)
    rw [ha] at z
    exact z
  · obtain ⟨p1, us, p2, p3⟩ := p
    refine ⟨p1 d _ hF, q Dl us (upd H' d (.dK kvs)) ?_ ?_ (by rw [upd_ne nDd]; exact p2) ⟨p3.1, fun n ps hn' => ?_⟩⟩
    · rw [← hb Dl nDd]; exact hDl
    · intro b o hbo
      by_cases z : b = d
      · rw [z] at hbo ⊢
        rw [upd_same, ← hbo, hD1]
      · rw [upd_ne z]
        exact p1 b o (by rw [hb b z]; exact hbo)
    · obtain ⟨a, h1, h2⟩ := p3.2 n ps hn'
      refine ⟨a, h1, ?_⟩
      rw [upd_ne (fun z => by rw [z, p1 d _ hF] at h2; cases h2)]
      exact h2
end
end RG
namespace RG
open PySem PySem.Spec PyProof.Rows L2 Evl RS
section
variable {K : PySem.W.Frag} {σ : L2.St} {H : Hp} {ta tb te tx : TE} {t u : TT} {x y z v : V} {D : Ends} {tu tw tz : TS} {g : TG}
/-- a, b = sorted(new ints), {} -/
theorem g_asgSD {i j : Nat} {ns : List Int} (P : List Int → Prop) (hP : ∀ ns' : List Int, ns'.Perm ns → ns'.Pairwise (· ≤ ·) → P ns') (h : EvL te σ H (ns.map V.int))
    (k : ∀ ns' p q H1, P ns' → H p = none → H q = none → p ≠ q → Ex H H1 → H1 p = some (.lst (ns'.map V.int)) → H1 q = some (.dK []) → Go tz D ((σ.set i (some (.ref p))).set j (some (.ref q))) H1) :
    Go (tSeq (tAsg (tTup (tCons (tCB (rSortedI K) (tCons te tNil)) (tCons tDNewK tNil))) (gTup K 2 (gCons (gName i) (gCons (gName j) gNil)))) tz) D σ H := fun H' e =>
  el_sortN P hP h H' e _ fun ns' p H1 hp np e1 ha => fun q nq => ⟨sz_of (by show 2 ≤ 100000; decide), fun T nT => by
    have e2 : Ex H1 (upd H1 q (.dK [])) := Ex.new nq
    have e3 : Ex (upd H1 q (.dK [])) (upd (upd H1 q (.dK [])) T (.tup [.ref p, .ref q])) := Ex.new nT
    have npq : p ≠ q := fun z => by rw [z, nq] at ha; cases ha
    exact ⟨T, _, rfl, st_of upd_same, rfl, _, _, rfl, _, _, rfl, rfl, (k ns' p q _ hp (fresh_back e np) (fresh_back (e.trans e1) nq) npq (((e.trans e1).trans e2).trans e3) (e3 p _ (e2 p _ ha)) (e3 q _ upd_same)).at⟩⟩
end
end RG
namespace RG
open PySem PySem.Spec PyProof.Rows L2 Evl RS
theorem given_mapI {α : Type} (l : List α) (x0 : α) (f : α → V) : given l.length (fun _ => true) (fun i => f (l.getD i x0)) = l.map f := by
  have h : l = (List.range l.length).map fun i => l.getD i x0 := by
    apply List.ext_getElem?
    intro i
    rw [List.getElem?_map]
    by_cases hi : i < l.length
    · rw [List.getElem?_eq_getElem hi, List.getElem?_range hi]
      simp [List.getD, hi]
    · rw [List.getElem?_eq_none (by omega), List.getElem?_eq_none (by simp; omega)]
      rfl
  unfold given
  rw [List.filter_eq_self.mpr fun _ _ => rfl]
  conv => rhs; rw [h]
  rw [List.map_map]
  rfl
section
variable {K : PySem.W.Frag} {σ : L2.St} {H : Hp} {ta tb te tx : TE} {t u : TT} {x y z v : V} {D : Ends} {tu tw tz : TS} {g : TG}
/-- over a list of pairs of ints -/
theorem ef_pairsI {p : Addr} {us : List V} {L : List (Int × Int)} {j k : Nat} (h : Ev te σ H (.ref p)) (hs : H p = some (.lst us)) (hf : TupsAt H us (L.map fun x => [V.int x.1, V.int x.2])) :
    EvF (iList K te) (gTup K 2 (gCons (gName j) (gCons (gName k) gNil))) σ H L.length fun i σ' => (σ'.set j (some (.int (L.getD i (0, 0)).1))).set k (some (.int (L.getD i (0, 0)).2)) := fun H1 e R r =>
  h H1 e _ fun H2 e2 => ⟨p, rfl, ⟨us, sq_of ((e.trans e2) p _ hs)⟩, r _ H2 e2 ⟨_, (show us.length = L.length by rw [hf.1, List.length_map]) ▸ walk_list.mono (fun H' e' => sq_of (((e.trans e2).trans e') p _ hs)) (fun _ _ _ _ _ _ y => y), fun i σ' H' x H'' hi e' y Q q => by
    obtain ⟨rfl, y2⟩ := y
    have hg : L.getD i (0, 0) = L[i] := by simp [List.getD, hi]
    obtain ⟨a, h1, h2⟩ := hf.2 i [V.int L[i].1, V.int L[i].2] (by rw [List.getElem?_map, List.getElem?_eq_getElem hi]; rfl)
    rw [h1] at y2
    cases y2
    refine ⟨a, _, rfl, st_of (((e.trans e2).trans e') a _ h2), rfl, _, _, rfl, _, _, rfl, rfl, ?_⟩
    have z : Q ((σ'.set j (some (.int (L.getD i (0, 0)).1))).set k (some (.int (L.getD i (0, 0)).2))) H'' := q H'' (Ex.refl _)
    rw [hg] at z
    exact z⟩⟩
/-- [f of each pair] -/
theorem el_pairsI {p : Addr} {us : List V} {L : List (Int × Int)} {j k : Nat} (f : Int × Int → V) (h : Ev te σ H (.ref p)) (hs : H p = some (.lst us)) (hf : TupsAt H us (L.map fun x => [V.int x.1, V.int x.2])) (hl : L.length ≤ 50000)
    (hw : ∀ a b, wipe (((wipe σ [j, k]).set j a).set k b) [j, k] = wipe σ [j, k])
    (he : ∀ H2, Ex H H2 → ∀ x ∈ L, Ev tx (((wipe σ [j, k]).set j (some (.int x.1))).set k (some (.int x.2))) H2 (f x)) :
    EvL (tLc (iList K te) (gTup K 2 (gCons (gName j) (gCons (gName k) gNil))) tYes tx [j, k]) σ H (L.map f) := by
  rw [← given_mapI L (0, 0) f]
  exact el_lcF (fun _ => true) (fun i => f (L.getD i (0, 0))) (ef_pairsI h hs hf) hl (fun i hi => hw _ _) (fun _ _ _ _ => et_yes) fun H2 e2 i hi _ => he H2 e2 _ (by
    have : L.getD i (0, 0) = L[i] := by simp [List.getD, hi]
    rw [this]
    exact List.getElem_mem hi)
theorem el_isL {xs ys : List V} (h : EvL te σ H xs) (e : xs = ys) : EvL te σ H ys := e ▸ h
/-! ### lists of pairs as data -/
def dPairs (L : List (Int × Int)) : List PyData := L.map fun x => .tuple [.int x.1, .int x.2]
theorem dps_pairs {H : Hp} {L : List (Int × Int)} : ∀ {us : List V}, TupsAt H us (L.map fun x => [V.int x.1, V.int x.2]) → DpAll K H us (dPairs L) := by
  induction L with
  | nil =>
    intro us h
    have : us = [] := List.length_eq_zero_iff.mp h.1
    subst this
    exact .nil
  | cons x t ih =>
    intro us h
    cases us with
    | nil => have := h.1; simp at this
    | cons u ut =>
      obtain ⟨a, h1, h2⟩ := h.2 0 [V.int x.1, V.int x.2] rfl
      have h1 : u = .ref a := by simpa using h1
      subst h1
      refine .cons (.tup (st_of h2) (.cons (.int _) (.cons (.int _) .nil))) (ih ⟨by have := h.1; simpa using this, fun i ps hi => ?_⟩)
      obtain ⟨b, h3, h4⟩ := h.2 (i + 1) ps (by simpa using hi)
      exact ⟨b, by simpa using h3, h4⟩
theorem dp_pairs {p : Addr} {us : List V} {L : List (Int × Int)} (hs : H p = some (.lst us)) (hf : TupsAt H us (L.map fun x => [V.int x.1, V.int x.2])) : Dp K H (.ref p) (.list (dPairs L)) := .lst (sq_of hs) (dps_pairs hf)
theorem ed_LT {L : List (Int × Int)} (h : EvLT te σ H (L.map fun x => [V.int x.1, V.int x.2])) : EvD K te σ H (.list (dPairs L)) := fun H1 e Q q =>
  h H1 e _ fun p us H2 _ e2 hp hT => q _ H2 e2 (dp_pairs hp hT)
theorem eqv_pairs (L : List (Int × Int)) : PyData.eqv (.list (dPairs L)) (.list (dPairs L)) = true := by
  show PyData.eqvAll _ _ = true
  induction L with
  | nil => rfl
  | cons x t ih =>
    show (PyData.eqvAll [.int x.1, .int x.2] [.int x.1, .int x.2] && PyData.eqvAll (dPairs t) (dPairs t)) = true
    rw [ih]
    simp [PyData.eqvAll, PyData.eqv]
/-- a for over a list of new pairs, one object alone is changed -/
theorem g_forLTXl {L : List (Int × Int)} {tl : TE} {i j : Nat} {l : Addr} {o : HO} (h : EvLT tl σ H (L.map fun x => [V.int x.1, V.int x.2])) (hl : H l = some o) (ho : ∀ xs, o ≠ .tup xs) (W : Nat → L2.St → Hp → Prop) (h0 : ∀ H1, Ex H H1 → W 0 σ H1)
    (hs : ∀ B, Ex H B → ∀ m σ' H' (hm : m < L.length), Xl l B H' → W m σ' H' → Go tu { D with nx := fun σ2 H2 => Xl l B H2 ∧ W (m + 1) σ2 H2, ct := fun σ2 H2 => Xl l B H2 ∧ W (m + 1) σ2 H2, bk := tz D } ((σ'.set i (some (.int L[m].1))).set j (some (.int L[m].2))) H')
    (hd : ∀ σ' H', Xl l H H' → W L.length σ' H' → Go tz D σ' H') : Go (tSeq (tFor (iList K tl) (gTup K 2 (gCons (gName i) (gCons (gName j) gNil))) tu) tz) D σ H := fun H' e => by
  have hl' := e l _ hl
  refine h H' e _ fun p us B np e1 hp hT => ?_
  have npl : p ≠ l := fun z => by rw [z, hl'] at np; cases np
  have hlB := e1 l _ hl'
  have hlen : us.length = L.length := by rw [hT.1, List.length_map]
  refine ⟨p, rfl, ⟨us, sq_of hp⟩, ?_⟩
  refine for_it (D := { D with nx := tz D }) (G := fun H2 => SqL K H2 p us) (hlen ▸ walk_list) (fun m σ' H2 => Xl l B H2 ∧ W m σ' H2) ⟨Xl.of (Ex.refl B), h0 B (e.trans e1)⟩ (fun m σ' H2 _ w => sq_of (w.1 p _ npl hp)) (fun m x σ' H2 H3 hm w y => ?_) (fun σ' H2 w => (hd σ' H2 ((Xl.of (e.trans e1)).trans w.1) w.2).at)
  obtain ⟨rfl, y2⟩ := y
  obtain ⟨a, h1, h2⟩ := hT.2 m [V.int L[m].1, V.int L[m].2] (by rw [List.getElem?_map, List.getElem?_eq_getElem hm]; rfl)
  rw [h1] at y2
  cases y2
  have nal : a ≠ l := fun z => by rw [z, hlB] at h2; cases h2; exact ho _ rfl
  exact ⟨a, _, rfl, st_of (w.1 a _ nal h2), rfl, _, _, rfl, _, _, rfl, rfl, (hs B (e.trans e1) m σ' _ hm w.1 w.2).at⟩
end
end RG
namespace RG
open PySem PySem.Spec PyProof.Rows L2 Evl RS
theorem shaped_pairs (L : List (Int × Int)) : SeqAt.shaped (.list (dPairs L)) = true := by
  have h : PyData.canLayAll0 (dPairs L) = true ∧ PyData.depthAll (dPairs L) ≤ 1 := by
    induction L with
    | nil => exact ⟨rfl, by decide⟩
    | cons x t ih =>
      refine ⟨?_, ?_⟩
      · show (PyData.canLayAll0 [.int x.1, .int x.2] && PyData.canLayAll0 (dPairs t)) = true
        rw [ih.1]
        rfl
      · show max (PyData.depthAll [.int x.1, .int x.2] + 1) (PyData.depthAll (dPairs t)) ≤ 1
        have : PyData.depthAll [.int x.1, .int x.2] = 0 := rfl
        rw [this]
        have := ih.2
        omega
  show (PyData.canLayAll0 (dPairs L) && decide (PyData.depthAll (dPairs L) + 1 ≤ 64)) = true
  rw [h.1, decide_eq_true (show PyData.depthAll (dPairs L) + 1 ≤ 64 by have := h.2; omega)]
  rfl
section
variable {K : PySem.W.Frag} {σ : L2.St} {H : Hp} {ta tb te tx : TE} {t u : TT} {x y z v : V} {D : Ends} {tu tw tz : TS} {g : TG} {P : Program} {w : World}
/-- x = new pairs -/
theorem g_asgE {i : Nat} {pss : List (List V)} (h : EvLT te σ H pss) (k : ∀ p vs H1, H p = none → Ex H H1 → H1 p = some (.lst vs) → TupsAt H1 vs pss → Go tz D (σ.set i (some (.ref p))) H1) : Go (tSeq (tAsg te (gName i)) tz) D σ H := fun H' e =>
  h H' e _ fun p vs H1 np e1 hp hT => (k p vs H1 (fresh_back e np) (e.trans e1) hp hT).at
/-- a for over something that is made on the way, by items -/
theorem g_forPL {R : V → Hp → Prop} (h : EvP te σ H R) (k : ∀ v H2, Ex H H2 → R v H2 → Go (tSeq (tFor (iList K (tC v)) g tu) tz) D σ H2) : Go (tSeq (tFor (iList K te) g tu) tz) D σ H := fun H' e =>
  h H' e _ fun v H2 e2 hv => (k v H2 (e.trans e2) hv).at
def ringAt (H : Hp) (xs : List V) (m : Nat) : Int × Int × Int := match xs[m]? with
  | some (.ref a) => match H a with
    | some (.tup [.int P, .int S, .int M]) => (P, S, M)
    | _ => (0, 0, 0)
  | _ => (0, 0, 0)
theorem ringAt_good {xs : List V} (hR : RingsAt H xs) {m : Nat} (hm : m < xs.length) : Good (ringAt H xs m).1 (ringAt H xs m).2.1 (ringAt H xs m).2.2 ∧ ∃ a, xs[m]? = some (.ref a) ∧ H a = some (.tup [.int (ringAt H xs m).1, .int (ringAt H xs m).2.1, .int (ringAt H xs m).2.2]) := by
  obtain ⟨a, P, S, M, h1, h2, G'⟩ := hR m hm
  have e : ringAt H xs m = (P, S, M) := by unfold ringAt; simp only [h1, h2]
  rw [e]
  exact ⟨G', a, h1, h2⟩
theorem ef_rings {p : Addr} {xs : List V} {i j k : Nat} (h : Ev te σ H (.ref p)) (hs : H p = some (.lst xs)) (hR : RingsAt H xs) :
    EvF (iList K te) (gTup K 3 (gCons (gName i) (gCons (gName j) (gCons (gName k) gNil)))) σ H xs.length fun m σ' => ((σ'.set i (some (.int (ringAt H xs m).1))).set j (some (.int (ringAt H xs m).2.1))).set k (some (.int (ringAt H xs m).2.2)) := fun H1 e R r =>
  h H1 e _ fun H2 e2 => ⟨p, rfl, ⟨xs, sq_of ((e.trans e2) p _ hs)⟩, r _ H2 e2 ⟨_, walk_list.mono (fun H' e' => sq_of (((e.trans e2).trans e') p _ hs)) (fun _ _ _ _ _ _ y => y), fun m σ' H' x H'' hi e' y Q q => by
    obtain ⟨rfl, y2⟩ := y
    obtain ⟨_, a, h1, h2⟩ := ringAt_good hR hi
    rw [h1] at y2
    cases y2
    exact ⟨a, _, rfl, st_of (((e.trans e2).trans e') a _ h2), rfl, _, _, rfl, _, _, rfl, _, _, rfl, rfl, q H'' (Ex.refl _)⟩⟩⟩
/-- list(xs) -/
theorem el_listOf {p : Addr} {xs : List V} (h : Ev te σ H (.ref p)) (hs : H p = some (.lst xs)) : EvL (tCB (fun xs H Q => ∃ p ys, xs = [.ref p] ∧ (SqL K H p ys ∨ SqT K H p ys) ∧ ∀ l, H l = none → Q (.ref l) (upd H l (.lst ys))) (tCons te tNil)) σ H xs := fun H1 e Q q =>
  h H1 e _ fun H2 e2 => ⟨p, xs, rfl, .inl (sq_of ((e.trans e2) p _ hs)), fun l nl => q l _ (fresh_back e2 nl) (e2.trans (Ex.new nl)) upd_same⟩
/-! ### sorted(set(pairs)) -/
theorem code2 (B x y : Int) : TS.code B [x, y] = x * B + y := by
  show x * B ^ 1 + (y * B ^ 0 + 0) = x * B + y
  rw [Int.pow_succ, Int.pow_zero, Int.one_mul, Int.mul_one, Int.add_zero]
def adrOf : V → Addr
  | .ref a => a
  | _ => 0
theorem elt_sortSet {p : Addr} {us : List V} {L : List (Int × Int)} {B : Int} (h : Ev te σ H (.ref p)) (hs : H p = some (.lst us)) (hT : TupsAt H us (L.map fun x => [V.int x.1, V.int x.2])) (hl : L.length < 64) (hB : ∀ x ∈ L, 0 ≤ x.1 ∧ x.1 < B ∧ 0 ≤ x.2 ∧ x.2 < B) (hr : L.Pairwise fun a b => a.1 < b.1) :
    EvLT (tCB (rSortedT K P w) (tCons (tCB (rSetOfT K P w) (tCons te tNil)) tNil)) σ H (L.map fun x => [V.int x.1, V.int x.2]) := fun H1 e Q q =>
  h H1 e _ fun H2 e2 => by
    have e02 := e.trans e2
    have hT2 := hT.ex e02
    obtain ⟨hk, hx⟩ := pairs_at hT2
    have hlen : us.length = L.length := by rw [hT.1, List.length_map]
    let ks : List (Addr × List Int) := us.map fun u => (adrOf u, [(pairK H2 u).1, (pairK H2 u).2])
    have hks : ks.map (fun p => V.ref p.1) = us := by
      show (us.map fun u => (adrOf u, [(pairK H2 u).1, (pairK H2 u).2])).map (fun p => V.ref p.1) = us
      rw [List.map_map]
      have : ∀ u ∈ us, ((fun p : Addr × List Int => V.ref p.1) ∘ fun u => (adrOf u, [(pairK H2 u).1, (pairK H2 u).2])) u = u := fun u hu => by
        obtain ⟨t, rfl, _⟩ := hx u hu
        rfl
      rw [List.map_congr_left this, List.map_id']
    have hk2 : ks.map (fun p => p.2) = L.map fun x => [x.1, x.2] := by
      show (us.map fun u => (adrOf u, [(pairK H2 u).1, (pairK H2 u).2])).map (fun p => p.2) = _
      rw [← hk, List.map_map, List.map_map]
      rfl
    have hkt : ∀ p ∈ ks, H2 p.1 = some (.tup (p.2.map V.int)) ∧ ∃ x ∈ L, p.2 = [x.1, x.2] := fun p hp => by
      obtain ⟨u, hu, rfl⟩ := List.mem_map.mp hp
      obtain ⟨t, rfl, ht⟩ := hx u hu
      exact ⟨ht, pairK H2 (.ref t), by rw [← hk]; exact List.mem_map_of_mem hu, rfl⟩
    refine ⟨p, ks, rfl, by rw [hks]; exact sq_of (e02 p _ hs), fun p hp => st_of (hkt p hp).1, by show (us.map _).length < 64; rw [List.length_map, hlen]; exact hl, fun a S na hS1 hS2 => ?_⟩
    have e3 : Ex H2 (upd H2 a (SetTO P w a S)) := Ex.new na
    refine ⟨a, S, 2, B, rfl, upd_same, fun p hp => st_of (e3 _ _ (hkt p (hS1 p hp)).1), by decide, fun p hp => ?_, fun L' l pm nd few pw nl => ?_⟩
    · obtain ⟨_, x, hx, e⟩ := hkt p (hS1 p hp)
      rw [e]
      obtain ⟨b1, b2, b3, b4⟩ := hB x hx
      refine ⟨rfl, fun z hz => ?_⟩
      simp only [List.mem_cons, List.not_mem_nil, or_false] at hz
      rcases hz with rfl | rfl
      · exact ⟨b1, b2⟩
      · exact ⟨b3, b4⟩
    · have hL' : ∀ r ∈ L', r ∈ ks := fun r hr' => hS1 r (pm.subset hr')
      let f : Addr × List Int → Int × Int := fun r => (r.2.getD 0 0, r.2.getD 1 0)
      have hf : ∀ r ∈ L', r.2 = [(f r).1, (f r).2] ∧ f r ∈ L := fun r hr' => by
        obtain ⟨_, x, hx, e⟩ := hkt r (hL' r hr')
        show r.2 = [r.2.getD 0 0, r.2.getD 1 0] ∧ (r.2.getD 0 0, r.2.getD 1 0) ∈ L
        rw [e]
        exact ⟨rfl, hx⟩
      have hndL : L.Nodup := hr.imp fun {a b} hab z => by rw [z] at hab; omega
      have hmapf : (L'.map f).map (fun x => [x.1, x.2]) = L'.map (·.2) := by
        rw [List.map_map]
        exact List.map_congr_left fun r hr' => (hf r hr').1.symm
      have hnd' : (L'.map f).Nodup := by
        rw [← hmapf] at nd
        exact List.Pairwise.of_map _ (fun a b hne e => hne (by rw [e])) nd
      have hperm : (L'.map f).Perm L := (List.perm_ext_iff_of_nodup hnd' hndL).mpr fun x => by
        constructor
        · intro hx'
          obtain ⟨r, hr', rfl⟩ := List.mem_map.mp hx'
          exact (hf r hr').2
        · intro hx'
          have : [x.1, x.2] ∈ ks.map (fun p => p.2) := by rw [hk2]; exact List.mem_map_of_mem (f := fun x : Int × Int => [x.1, x.2]) hx'
          obtain ⟨r, hr', e⟩ := List.mem_map.mp this
          obtain ⟨r', hr2, e2⟩ := List.mem_map.mp (hS2 r hr')
          have hr3 := pm.symm.subset hr2
          have : f r' = x := by
            show (r'.2.getD 0 0, r'.2.getD 1 0) = x
            rw [e2, e]
            rfl
          rw [← this]
          exact List.mem_map_of_mem hr3
      have hsort : (L'.map f).Pairwise fun a b => a.1 ≤ b.1 := by
        rw [List.pairwise_map]
        refine List.Pairwise.imp_of_mem ?_ pw
        intro r r' hr1 hr2 hc
        obtain ⟨e1, m1⟩ := hf r hr1
        obtain ⟨e2, m2⟩ := hf r' hr2
        rw [e1, e2, code2, code2] at hc
        obtain ⟨b1, b2, b3, b4⟩ := hB _ m1
        obtain ⟨c1, c2, c3, c4⟩ := hB _ m2
        rcases Int.lt_or_le (f r').1 (f r).1 with z | z
        · have : ((f r').1 + 1) * B ≤ (f r).1 * B := Int.mul_le_mul_of_nonneg_right (by omega) (by omega)
          rw [Int.add_mul, Int.one_mul] at this
          omega
        · exact z
      have heq := pairs_uniq hperm hsort hr
      refine q l _ _ (fresh_back e2 (fresh_back e3 nl)) ((e2.trans e3).trans (Ex.new nl)) upd_same (TupsAt.ex ⟨by rw [← heq, List.length_map, List.length_map, List.length_map], fun i ps hi => ?_⟩ (Ex.new nl))
      rw [← heq, List.map_map, List.getElem?_map] at hi
      rw [List.getElem?_map]
      cases hy : L'[i]? with
      | none => rw [hy] at hi; cases hi
      | some y =>
        rw [hy] at hi
        have hm := List.mem_of_getElem? hy
        have ht := e3 _ _ (hkt y (hL' y hm)).1
        cases hi
        refine ⟨y.1, rfl, ?_⟩
        rw [ht, (hf y hm).1]
        rfl
end
end RG
namespace RG
open PySem PySem.Spec PyProof.Rows L2 Evl RS LamX
/-! ### a lambda y0: y0 * y1 % y2, y1 and y2 captured -/
structure LamK (sc scope : Scope) (y0 y1 y2 : Str) : Prop where
  kind : scope.kind = .function
  co : scope.isCoroutine = false
  gen : scope.isGenerator = false
  nocell : ∀ y ∈ scope.names, y.2 ≠ .cell
  k0 : scope.names.lookup y0 = some .local
  k1 : scope.names.lookup y1 = some .free
  k2 : scope.names.lookup y2 = some .free
  free : ∀ y ∈ scope.names, y.2 = .free → sc.names.lookup y.1 = some .cell ∨ sc.names.lookup y.1 = some .free
def lamKB (sc scope : Scope) (y0 y1 y2 : Str) : Bool :=
  decide (scope.kind = .function) && !scope.isCoroutine && !scope.isGenerator && decide (scope.names.lookup y0 = some .local) && decide (scope.names.lookup y1 = some .free) && decide (scope.names.lookup y2 = some .free) &&
  scope.names.all fun y => !decide (y.2 = .cell) && (!decide (y.2 = .free) || decide (sc.names.lookup y.1 = some .cell) || decide (sc.names.lookup y.1 = some .free))
theorem lamK_by {sc scope : Scope} {y0 y1 y2 : Str} (h : lamKB sc scope y0 y1 y2 = true) : LamK sc scope y0 y1 y2 := by
  unfold lamKB at h
  simp only [Bool.and_eq_true, Bool.or_eq_true, Bool.not_eq_true', decide_eq_true_eq, decide_eq_false_iff_not, List.all_eq_true] at h
  obtain ⟨⟨⟨⟨⟨⟨h1, h2⟩, h3⟩, h5⟩, h6⟩, h7⟩, h4⟩ := h
  refine ⟨h1, h2, h3, fun y hy => (h4 y hy).1, h5, h6, h7, fun y hy e => ?_⟩
  rcases (h4 y hy).2 with (z | z) | z
  · exact absurd e z
  · exact .inl z
  · exact .inr z
/-- one call of it -/
theorem lam_turn {P : Program} {w : World} {A : Around} {s : Shared} {f c' c1 c2 : Addr} {q y0 y1 y2 : Str} {params : Arguments} {scope sc : Scope} {cl : List (Str × Addr)} {pm ctv : Value} {p1 p2 p3 p4 p5 : Pos} {i st m : Int} {ti t1 t2 : Tok}
    (hroom : A.depth < recursionLimit) (lim : s.heap.NoLimit) (of1 : s.heap.get? f = some (PySem.W.kla_obj "<lambda>" q params (.BinOp (.BinOp (.Name y0 p1) .Mult (.Name y1 p2) p3) .Mod (.Name y2 p4) p5) scope cl pm c' ctv)) (hcode : s.heap.CodeRec (.ref c') q) (L : LamK sc scope y0 y1 y2)
    (hbind : ∀ u : Value, bindArgs (PySem.W.kla_fn "<lambda>" q params (.BinOp (.BinOp (.Name y0 p1) .Mult (.Name y1 p2) p3) .Mod (.Name y2 p4) p5) scope cl pm (.ref c') ctv) ⟨[u], []⟩ = pure [(y0, u)])
    (hc1 : cl.lookup y1 = some c1) (hc2 : cl.lookup y2 = some c2) (v1 : s.heap.IsCell c1 (some (.int st t1))) (v2 : s.heap.IsCell c2 (some (.int m t2))) (hm : 0 < m) (hmul : IntMulOk i st)
    (d0 : (y0 == ("__debug__" : Str)) = false) (d1 : (y1 == ("__debug__" : Str)) = false) (d2 : (y2 == ("__debug__" : Str)) = false) (e1 : (y1 == ("__classdict__" : Str)) = false) (e2 : (y2 == ("__classdict__" : Str)) = false) :
    wpAny (model P w) A (call (.ref f) [.int i ti]) (PySem.W.KeyPure (.int (i * st % m)) s) (fun _ _ => False) s := by
  refine wpAny_call (PySem.W.kla_callFunE hroom of1 rfl L.co L.gen rfl hcode ?_)
  rw [hbind]
  refine wpAny_pure (wpAny_newFunctionEnv L.nocell (fun y hy => ?_) (fun h₁ hns hsb => ⟨lim.fresh _ hsb, ?_⟩) L.kind)
  · rw [List.mem_singleton.mp hy]; exact L.k0
  have kp : ∀ b o, s.heap.get? b = some o → h₁.get? b = some o := fun b o e => hsb.extBut b o (Nat.ne_of_lt (Heap.lt_size e)) (Heap.get?_push_of_some _ e)
  have kc : ∀ {c : Addr} {v : Option Value}, s.heap.IsCell c v → h₁.IsCell c v := fun ⟨o, ho, hd⟩ => ⟨o, kp _ _ ho, hd⟩
  refine PySem.W.kla_codeExpr ?_
  refine wpAny_BinOp (wpAny_BinOp (wpAny_Name (wpAny_loadName_local (v := .int i ti) L.kind L.k0 hns (by simp) ?_) d0))
  refine wpAny_Name (wpAny_loadName_free L.kind L.k1 hc1 (kc v1) ?_ e1) d1
  refine mul_int ?_ hmul
  refine wpAny_Name (wpAny_loadName_free L.kind L.k2 hc2 (kc v2) ?_ e2) d2
  refine mod_int' (by omega) ?_
  rw [Int.fmod_eq_emod_of_nonneg _ (by omega)]
  exact ⟨h₁, _, rfl, kp, .int _ _⟩
section
open PySem.W Srt SrtO PySem.Calls
theorem vals_each {R : Value → Int → Prop} (hR : ∀ v x, R v x → ∃ t, v = .int x t) {us : List Value} {ns : List Int} (h : EachIs R us ns) : Vals (ns.map V.int) us := by
  induction h with
  | nil => exact .nil
  | cons r _ ih => exact .cons (hR _ _ r) ih
theorem alike_ints (ns : List Int) (k : Int → Int) : AllAlike (ns.map fun x => PyData.int (k x)) := fun d hd d' hd' => by
  obtain ⟨x, _, rfl⟩ := List.mem_map.mp hd
  obtain ⟨y, _, rfl⟩ := List.mem_map.mp hd'
  simp [alike]
theorem sortable_ints (ns : List Int) (k : Int → Int) : Sortable (ns.map fun x => PyData.int (k x)) := .inr fun d hd => by
  obtain ⟨x, _, rfl⟩ := List.mem_map.mp hd
  exact ⟨by simp, fun xs => by simp⟩
/-- sorted(range(n), key=f) -/
theorem sorted_range_key {P : Program} {w : World} {A : Around} {E : Value → Shared → Prop} {s : Shared} {Q : Value → Shared → Prop} {r f : Addr} {n : Nat} {t u v : Tok} (key : Int → Int) (hh : A.handled = none) (hu : A.units + 2 < cLine) (hr : IsRange s.heap r 0 (n : Int) 1 t u v) (hn : n ≤ 1000)
    (turn : ∀ (i : Nat) (ti : Tok), i < n → ∀ (h : Heap) (tk : Nat), (∀ b o, s.heap.get? b = some o → h.get? b = some o) → wpAny (model P w) A.in1.in1 (call (.ref f) [.int (i : Int) ti]) (KeyPure (.int (key i)) { s with heap := h, toks := tk }) (fun _ _ => False) { s with heap := h, toks := tk })
    (h : ∀ (ns : List Int) (out : List Value) (h1 : Heap) (c : Nat) (h' : Heap) (tk : Nat), (∀ b o, s.heap.get? b = some o → h1.get? b = some o) → (∀ b o, h1.get? b = some o → h'.get? b = some o) → h'.get? h1.objs.size = some (seqObj "list" out.toArray c) → Vals (ns.map V.int) out → ns.Perm ((List.range n).map fun i : Nat => (i : Int)) → ns.Pairwise (fun a b => key a ≤ key b) → Q (.ref h1.objs.size) { s with heap := h', toks := tk }) :
    wpAny (model P w) A (call (.builtin "sorted") [.ref r] [(Str.ofString "key", .ref f)]) Q E s := by
  refine call_function_entry_kw kind_sorted plain_sorted entry_sorted (by unfold argsOk; kernel_rfl) ?_
  unfold Builtin.«sorted»
  refine wpAny_bind (m := checkCount "sorted" 1 1 _) (wpAny_pure ?_)
  refine wpAny_bind (L2.collect_range (n := n) hh hr (small_one (by omega) (by omega) (by omega) (by omega)) (by rw [rangeSize_nat]; omega) (by omega) fun h1 tk1 acc hk hi => ?_)
  have hlen : acc.toList.length = n := by rw [Array.length_toList]; exact hi.1
  refine wpAny_bind (wpAny_newList ?_ (by rw [hlen, sizeLine_eq]; omega))
  have hat : (h1.push { cls := .type "list", data := .seq acc.toList.toArray }).get? h1.objs.size = some (seqObj "list" acc.toList.toArray 0) := Heap.get?_push_size _ rfl
  have old : ∀ b o, h1.get? b = some o → b ≠ h1.objs.size ∧ (h1.push { cls := .type "list", data := .seq acc.toList.toArray }).get? b = some o := fun b o e =>
    ⟨Nat.ne_of_lt (Heap.lt_size e), Heap.get?_push_of_some _ e⟩
  refine wpAny_bind (wpAny_holding (wpAny_call_entry_kw slot_list_sort ⟨_, hat, rfl⟩ entry_list_sort ?body (by unfold argsOk; kernel_rfl)))
  case body =>
    show wpAny (model P w) A.in1.in1 (Builtin.«list.sort» ⟨[.ref h1.objs.size], [(Str.ofString "key", .ref f)]⟩) _ _ _
    rw [ksk_t1]
    have hE : EachIs (fun (v : Value) (x : Int) => ∃ t, v = .int x t) acc.toList ((List.range n).map fun i : Nat => (i : Int)) := by
      refine EachIs.of_zip (by rw [hlen]; simp) fun p hp => ?_
      obtain ⟨j, hj⟩ := List.mem_iff_getElem?.mp hp
      rw [List.getElem?_zip_eq_some] at hj
      obtain ⟨h1', h2'⟩ := hj
      obtain ⟨t, e⟩ := hi.2 j p.1 (by rw [← h1', Array.getElem?_toList])
      rw [List.getElem?_map] at h2'
      have hjn : j < n := by
        rw [← hlen]
        exact (List.getElem?_eq_some_iff.mp h1').1
      rw [List.getElem?_range hjn] at h2'
      have e2 : (j : Int) = p.2 := by simpa using h2'
      exact ⟨t, by rw [e, ← e2]; congr 1; omega⟩
    refine keyH_tree (kz := ((List.range n).map fun i : Nat => (i : Int)).map fun x => PyData.int (key x)) (vs := acc.toList) hat (by simp [hi.1]) (by rw [hlen, sizeLine_eq]; omega) (alike_ints _ _) (sortable_ints _ _) (fun d hd => ?_) (fun i v k hv hkz g tk kp => ?_) fun g tk out c kp hout ko => ?_
    · obtain ⟨x, _, rfl⟩ := List.mem_map.mp hd
      have : PyData.depth (.int (key x)) = 0 := rfl
      rw [this]
      exact hu
    · have hin : i < n := by rw [← hlen]; exact (List.getElem?_eq_some_iff.mp hv).1
      obtain ⟨ti, e⟩ := hi.2 i v (by rw [← hv, Array.getElem?_toList])
      have e1 : (0 : Int) + (i : Int) * 1 = i := by omega
      rw [e1] at e
      subst e
      rw [List.getElem?_map, List.getElem?_map, List.getElem?_range hin] at hkz
      have e2 : PyData.int (key (i : Int)) = k := by simpa using hkz
      rw [← e2]
      exact turn i ti hin g tk fun b o e => kp b o (old b o (hk b o e)).1 (old b o (hk b o e)).2
    · refine ⟨_, rfl, wpAny_pure ⟨_, rfl, ?_⟩⟩
      have hO := keyedOut_each (R := fun (v : Value) (x : Int) => ∃ t, v = .int x t) (fun x => PyData.int (key x)) ko hE
      refine h _ out h1 c g tk hk (fun b o e => kp b o (old b o e).1 (old b o e).2) hout (vals_each (fun _ _ r => r) hO) (List.mergeSort_perm _ _) ?_
      rw [dataLe_int]
      have := List.pairwise_mergeSort (le := fun a b : Int => decide (key a ≤ key b)) (fun a b c h1 h2 => by simp at h1 h2 ⊢; omega) (fun a b => by simp; omega) ((List.range n).map fun i : Nat => (i : Int))
      exact this.imp fun {a b} h => by simpa using h
end
end RG
namespace RG
open PySem PySem.Spec PyProof.Rows L2 Evl RS LamX
def tRangeV (ta : TE) : TE := fun σ H Q => ta σ H fun x H1 => ∃ n, x = .int n ∧ ∀ r, H1 r = none → Q (.ref r) (upd H1 r (.rng 0 n))
/-- what the sorted list answers -/
def kSortKey (T : List (Addr × Str)) (i1 i2 : Nat) (σ : L2.St) (Q : VK) : V → Hp → Prop := fun x H1 => ∃ (r : Addr) (n : Nat) (st m : Int), x = .ref r ∧ H1 r = some (.rng 0 (n : Int)) ∧ n ≤ 1000 ∧ σ[i1]? = some (some (.int st)) ∧ σ[i2]? = some (some (.int m)) ∧ 0 < m ∧
  (∀ i : Nat, i < n → IntMulOk (i : Int) st) ∧ Tabs T H1 ∧ ∀ (ns : List Int) (l : Addr) (H2 : Hp), ExtN H1 H2 → Tabs T H2 → H2 l = none → ns.Perm ((List.range n).map fun i : Nat => (i : Int)) → ns.Pairwise (fun a b => a * st % m ≤ b * st % m) → Q (.ref l) (upd H2 l (.lst (ns.map V.int)))
def tSortKey (T : List (Addr × Str)) (i1 i2 : Nat) (ta : TE) : TE := fun σ H Q => ta σ H (kSortKey T i1 i2 σ Q)
section
variable {X : Cx}
theorem pe_rangeV {a : Expr} {ta : TE} {p pos : Pos} (hg : Gl X "range") (hm : X.mg "range" = none) (ha : PE X a ta) (na : starEach [a] X.env = (false, eval a X.env) :: starEach [] X.env := by rfl) : PE X (.Call (.Name "range" p) [a] [] pos) (tRangeV ta) := by
  refine ⟨fun pins s σ H Q I h => ?_⟩
  refine Call_ (ld_blt I hg hm boot_range (PyProof.Rows.callWith_type1 (one_arg ha I h (fun v s2 x H2 I2 r q => ?_) na) na))
  obtain ⟨n, rfl, q⟩ := q
  obtain ⟨t, rfl⟩ := r
  exact call_range_1 ⟨.ref s2.heap.objs.size, upd H2 s2.heap.objs.size (.rng 0 n), I2.laid (fun b u e => Heap.get?_push_of_some _ e) (Nat.le_refl _) ⟨_, _, _, Heap.get?_push_size _ rfl⟩, rfl, q _ (I2.hok.fresh (Nat.le_refl _))⟩
theorem pe_sortKey {T : List (Addr × Str)} {c P : Addr} {i1 i2 : Nat} {y0 y1 y2 : Str} {e : Expr} {te : TE} {params : Arguments} {scope : Scope} {p p1 p2 p3 p4 p5 lpos kpos pos : Pos} (hc : X.calm = true) (hg : Gl X "sorted") (hm : X.mg "sorted" = none) (he : PA X [e] (tCons te tNil))
    (TB : TabB X.base X.mg c P) (hcode : X.env.code = .ref c) (hmT : (P, X.env.qual ++ "<lambda>") ∈ T) (hu : ∀ p ∈ T, p.1 = P → p.2 = X.env.qual ++ "<lambda>") (hr : Room 2 X.A) (L : LamK X.env.scope scope y0 y1 y2) (hdef : defaultsOf params X.env = ([], []))
    (hbind : ∀ (q : Str) (cl : List (Str × Addr)) (pm cv ctv u : Value), bindArgs (PySem.W.kla_fn "<lambda>" q params (.BinOp (.BinOp (.Name y0 p1) .Mult (.Name y1 p2) p3) .Mod (.Name y2 p4) p5) scope cl pm cv ctv) ⟨[u], []⟩ = pure [(y0, u)])
    (n1 : X.N[i1]? = some y1) (n2 : X.N[i2]? = some y2)
    (na : backTo pos (starEach [e] X.env) = (false, eval e X.env) :: backTo pos (starEach [] X.env) := by rfl) (npl : (backTo pos (starEach [e] X.env)).any (·.1) = false := by rfl)
    (d0 : (y0 == ("__debug__" : Str)) = false := by decide) (d1 : (y1 == ("__debug__" : Str)) = false := by decide) (d2 : (y2 == ("__debug__" : Str)) = false := by decide) (e1 : (y1 == ("__classdict__" : Str)) = false := by decide) (e2 : (y2 == ("__classdict__" : Str)) = false := by decide) :
    PE X (.Call (.Name "sorted" p) [e] [⟨some "key", .Lambda params (.BinOp (.BinOp (.Name y0 p1) .Mult (.Name y1 p2) p3) .Mod (.Name y2 p4) p5) scope lpos, kpos⟩] pos) (tSortKey T i1 i2 te) := by
  refine ⟨fun pins s σ H Q I h => ?_⟩
  refine wpAny_Call_Name_kw (ld_blt I hg hm boot_sorted ?_)
  refine PyProof.Rows.callWith_kw (thn (he.run pos pins s σ H (fun vs H' => match vs with | [x] => kSortKey T i1 i2 σ Q x H' | _ => False) I (show te σ H _ from h)) fun us s1 ⟨vs, H1, I1, r1, q1⟩ => ?_) na npl rfl rfl
  match vs, r1, q1 with
  | [x], r1, q1 =>
    have q1 : kSortKey T i1 i2 σ Q x H1 := q1
    obtain ⟨r, n, st, m, rfl, hrng, hn, s1', s2', hm0, hmul, hT, k⟩ := q1
    rw [Vals.ref1 r1]
    have hfree : ∀ y ∈ scope.names, y.2 = .free → ∃ c, X.env.cells.lookup y.1 = some c := fun y hy e => by
      rcases L.free y hy e with z | z
      · exact I.ok.has _ (.inl z)
      · exact I.ok.has _ (.inr z)
    show wpAny _ _ (evalAll ((do let v ← eval (.Lambda params (.BinOp (.BinOp (.Name y0 p1) .Mult (.Name y1 p2) p3) .Mod (.Name y2 p4) p5) scope lpos) X.env; standAt pos; pure v) :: (backToKw pos (keywordEach [] X.env)).map (·.2))) _ _ s1
    refine wpAny_evalAll_cons (wpAny_bind (lam_make2 I1 TB hcode hmT hu hT hdef hfree fun f c' pm ctv H2 s2 I2 eN T2 hf hfn hfr hco => wpAny_bind (wpAny_standAt (wpAny_pure (wpAny_evalAll_nil ?_)))))
    show wpAny _ _ (call (.builtin "sorted") [.ref r] [(Str.ofString "key", .ref f)]) _ _ s2
    have hrng2 : H2 r = some (.rng 0 (n : Int)) := eN _ _ hrng (fun ps z => by cases z)
    obtain ⟨tt, tu, tv, hR⟩ : ∃ t u v, IsRange s2.heap r 0 (n : Int) 1 t u v := I2.hok r _ hrng2
    obtain ⟨mm, hns, hl⟩ := I2.loc
    have cm : ∀ {y}, scope.names.lookup y = some .free → ∀ {v : V} {i : Nat}, X.N[i]? = some y → σ[i]? = some (some v) → ∃ u c, RelV v u ∧ (cloFrom X.env.cells scope.names []).lookup y = some c ∧ s2.heap.IsCell c (some u) := fun {y} hy {v i} hi hσ => by
      have hmem : (y, NameKind.free) ∈ scope.names := PySem.mem_of_lookup hy
      have hk := L.free _ hmem rfl
      have hvis : Vis X.env.scope y := hk.elim (fun z => .inr (.inl z)) (fun z => .inr (.inr z))
      obtain ⟨u, ru, lk⟩ := hl i y v hi hσ hvis
      obtain ⟨c2, h2⟩ := mem_lookup (cloFrom_has (cells := X.env.cells) (acc := []) hmem)
      have hc2 : X.env.cells.lookup y = some c2 := by
        rcases cloFrom_mem (PySem.mem_of_lookup h2) with hm | ⟨h1, h3⟩
        · cases hm
        · obtain ⟨c1, hc1⟩ := hfree _ h1 rfl
          have hc1 : X.env.cells.lookup y = some c1 := hc1
          have : c2 = c1 := by
            rw [h3, hc1] <;> rfl
          rw [this]
          exact hc1
      rcases lk with ⟨z, _⟩ | ⟨_, c3, e3, hcell⟩
      · have z : X.env.scope.names.lookup y = some .local := z
        rcases hk with z2 | z2 <;> rw [show X.env.scope.names.lookup y = _ from z2] at z <;> cases z
      · rw [hc2] at e3
        cases e3
        exact ⟨u, c2, ru, h2, hcell⟩
    obtain ⟨u1, c1, ⟨t1, rfl⟩, k1, v1⟩ := cm L.k1 n1 s1'
    obtain ⟨u2, c2, ⟨t2, rfl⟩, k2, v2⟩ := cm L.k2 n2 s2'
    have kc : ∀ {h : Heap} {c : Addr} {v : Option Value}, (∀ b o, s2.heap.get? b = some o → h.get? b = some o) → s2.heap.IsCell c v → h.IsCell c v := fun kp ⟨o, ho, hd⟩ => ⟨o, kp _ _ ho, hd⟩
    obtain ⟨⟨oc, vs', tq, hoc, hdc, hvc⟩, _, _⟩ := I2.hok c' _ hco
    refine sorted_range_key (fun i => i * st % m) hr.hd (by have := hr.un; omega) hR hn (fun i ti hi h tk kp => ?_) fun ns out h1 cc h' tk kp1 kp2 hout rv pm pw => ?_
    · exact lam_turn (s := { s2 with heap := h, toks := tk }) hr.depth (I2.nolimit.keeps kp) (kp _ _ hf) ⟨c', oc, vs', tq, rfl, kp _ _ hoc, hdc, hvc⟩ L (fun u => hbind _ _ _ _ _ u) k1 k2 (kc kp v1) (kc kp v2) hm0 (hmul i hi) d0 d1 d2 e1 e2
    · have I3 : Inv X pins σ H2 { s2 with heap := h1, toks := tk } := I2.kept kp1
      have hz : ns.length ≤ sizeLine := by rw [pm.length_eq, List.length_map, List.length_range, sizeLine_eq]; omega
      have I4 : Inv X pins σ (upd H2 h1.objs.size (.lst (ns.map V.int))) { s2 with heap := h', toks := tk } := I3.laid kp2 (Nat.le_refl _) ⟨by rw [List.length_map]; exact hz, out, cc, rv, hout⟩
      exact ⟨.ref h1.objs.size, _, I4, rfl, k ns _ H2 eN T2 (I3.hok.fresh (Nat.le_refl _)) pm pw⟩
end
end RG
namespace RG
open PySem PySem.Spec PyProof.Rows L2 Evl RS LamX
theorem okC {P : Program} {w : World} {K : PySem.W.Frag} {mg : Str → Option Value} {base : Heap} {c : Addr} {x qual : Str} {st : Stmt} {f : Addr} {fd : FuncData} {N ps : List Str} {k : Nat} {sp : Sp} (hcode : fd.code = .ref c) (F : Fun K x qual st f fd) (S : FnScope N ps (defScope st)) (len : ∀ vs H Q E, sp vs H Q E → vs.length = ps.length)
    (hbody : ∀ (A : Around) (outer : List Env) (s : Shared) (H : Hp) (vs : List V) (Q : VK) (E : XK), Room k (A.deeper (envOfC qual (defScope st) s.heap.objs.size f (.ref c))) → sp vs H Q E →
      ∃ t, PSs (cxOf CX0 P w K mg base N qual (defScope st) f (.ref c) A outer s H E).nox (defBody st) t ∧ t { nx := fun _ H' => Q .non H', rt := Q } (start N vs) H) : FnOk P w K mg base CX0 (k + 1) f fd ps sp := by
  obtain ⟨oc, od, kV, doc, pm, an, cdv, ct, osl, rfl, lk, hcd⟩ := F.ex
  have hcode : cdv = .ref c := hcode
  subst hcode
  refine fn_of lk hcd S len fun A outer s H vs Q E hr hsp => ?_
  obtain ⟨t, h, q⟩ := hbody A outer s H vs Q E hr hsp
  exact ⟨t, h.nox, q⟩
def lamQ (x : Str) : Str := x ++ ".<locals>." ++ "<lambda>"
/-- the end, with the empty tables of these defs -/
theorem walk_ofTabs {l : PySem.W.OpenLaw} {n k : Nat} {q : Program} {loose : List Str} {XP : (Str → Option Value) → Heap → Prop} {YP : World → Heap → Prop} {d : DefRec} {K : Params → PySem.W.Frag} {CX : World → CXT} {x : Str} (names : List Str)
    (hn : l.most = some n) (hn2 : n ≤ sizeLine) (hdf : d.params.defaults = []) (hr : Room k callerA) (hrec : (names.all fun x => ((recsOf q).find? fun e => e.name == x).isSome) = true) (hY : ∀ (w : World) (h : Heap), YP w h → (K w.params).In h)
    (F : ∀ (w : World) (mg : Str → Option Value) (fa : Addr) (h : Heap), YP w h → (K w.params).In h → h.Ns mainGlobals mg → mg d.name = some (.ref fa) →
      (∀ x ∈ names, ∀ c P, PySem.W.tabIn (K w.params) x = some (c, P) → PySem.W.CodeHd h c P ∧ h.get? P = some { cls := .none, data := .fields #[] }) → LawAtS l w (K w.params) (CX w) k n x mg fa h)
    (hCX : ∀ (w : World) (H : Hp) (s : Shared) (e : Value) (s' : Shared), CX w [] H s (fun _ _ _ => False) e s' → False) :
    PySem.W.WalkO q loose XP YP l.row.toRowW d [] (fun f vs => PySem.call f vs) := by
  refine Att.attach_callB hn hdf fun w s₀ s₁ mg mb fa o pm cd doc a vs ns G Y ho hd hcd hmg hobj hints hlen hbits hg => ?_
  have KX := hY w _ Y
  have own : ∀ x ∈ names, ∀ c P, PySem.W.tabIn (K w.params) x = some (c, P) → PySem.W.CodeHd s₁.heap c P ∧ s₁.heap.get? P = some { cls := .none, data := .fields #[] } := fun x hx c P ht => by
    obtain ⟨dL, hm⟩ := Option.isSome_iff_exists.mp (List.all_eq_true.mp hrec x hx)
    exact PySem.W.tab_of G.T KX hm ht
  obtain ⟨fd, cs, sp, hT, nT, C, hb, hsp, hF⟩ := F w mg fa _ Y KX G.T.g hmg own
  exact law_callTs KX G.T.g G.T.b G.T.builtins G.T.nolimit hg hT nT C G.T.bmain hobj hints (Nat.le_trans hlen hn2) hr hF hb (fun H hH hS => hsp H a ns hlen hbits hH hS) fun H e s' => hCX w H s₁ e s'
/-- what is known of a def's table -/
theorem tabs_of {K : PySem.W.Frag} {x : Str} (h1 : ((PySem.W.tabIn K x).map fun p => (K.lookup p.2).isNone) = some true) : ∃ c P, PySem.W.tabIn K x = some (c, P) ∧ K.lookup P = none := by
  cases h : PySem.W.tabIn K x with
  | none => rw [h] at h1; cases h1
  | some p =>
    rw [h] at h1
    have h1 : (K.lookup p.2).isNone = true := by simpa using h1
    exact ⟨p.1, p.2, rfl, Option.isNone_iff_eq_none.mp h1⟩
section
variable {K : PySem.W.Frag} {σ : L2.St} {H : Hp} {ta tb te tx : TE} {t u : TT} {x y z v : V} {D : Ends} {tu tw tz : TS} {g : TG} {T : List (Addr × Str)}
theorem extN_lst {H H' : Hp} (e : ExtN H H') {p : Addr} {xs : List V} (h : H p = some (.lst xs)) : H' p = some (.lst xs) := e p _ h (fun ps z => by cases z)
theorem extN_tup {H H' : Hp} (e : ExtN H H') {p : Addr} {xs : List V} (h : H p = some (.tup xs)) : H' p = some (.tup xs) := e p _ h (fun ps z => by cases z)
theorem sqN {H H' : Hp} (e : ExtN H H') {p : Addr} {xs : List V} (h : SqL K H p xs) : SqL K H' p xs := by
  rcases h with (h | ⟨o, h⟩) | h
  · exact .inl (.inl (extN_lst e h))
  · exact .inl (.inr ⟨o, e _ _ h (fun ps z => by cases z)⟩)
  · exact .inr h
theorem ringsN {H H' : Hp} (e : ExtN H H') {xs : List V} (h : RingsAt H xs) : RingsAt H' xs := fun i hi => by
  obtain ⟨a, P, S, M, h1, h2, h3⟩ := h i hi
  exact ⟨a, P, S, M, h1, extN_tup e h2, h3⟩
/-- x = sorted(range(n), key=lambda ..) -/
theorem g_asgSortKey {i i1 i2 : Nat} {n : Nat} {st m : Int} (h : Ev te σ H (.int (n : Int))) (hn : n ≤ 1000) (h1 : σ[i1]? = some (some (.int st))) (h2 : σ[i2]? = some (some (.int m))) (hm : 0 < m) (hmul : ∀ i : Nat, i < n → IntMulOk (i : Int) st) (hT : Tabs T H)
    (k : ∀ (ns : List Int) (l : Addr) (H1 : Hp), ExtN H H1 → Tabs T H1 → H1 l = some (.lst (ns.map V.int)) → ns.Perm ((List.range n).map fun i : Nat => (i : Int)) → ns.Pairwise (fun a b => a * st % m ≤ b * st % m) → Go tz D (σ.set i (some (.ref l))) H1) :
    Go (tSeq (tAsg (tSortKey T i1 i2 (tRangeV te)) (gName i)) tz) D σ H := fun H' e => by
  refine h H' e _ fun H1 e1 => ⟨(n : Int), rfl, fun r nr => ?_⟩
  have e2 : Ex H1 (upd H1 r (.rng 0 (n : Int))) := Ex.new nr
  refine ⟨r, n, st, m, rfl, upd_same, hn, h1, h2, hm, hmul, hT.ext fun b o hb => e2 b o (e1 b o (e b o hb)), fun ns l H2 eN T2 nl pm pw => ?_⟩
  have e3 : Ex H2 (upd H2 l (.lst (ns.map V.int))) := Ex.new nl
  exact (k ns l _ (((ExtN.of fun b o hb => e2 b o (e1 b o (e b o hb))).trans eN).trans (ExtN.of e3)) (T2.ext e3) upd_same pm pw).at
/-- a for over enumerate(a list), the tables may grow -/
theorem g_forEnN {p : Addr} {xs : List V} {j k : Nat} (h : Ev te σ H (.ref p)) (hx : H p = some (.lst xs)) (hT : Tabs T H) (W : Nat → L2.St → Prop) (h0 : W 0 σ)
    (hs : ∀ B, Ex H B → ∀ i σ' H', i < xs.length → ExtN B H' → Tabs T H' → W i σ' → Go tu { D with nx := fun σ2 H2 => ExtN B H2 ∧ Tabs T H2 ∧ W (i + 1) σ2, ct := fun σ2 H2 => ExtN B H2 ∧ Tabs T H2 ∧ W (i + 1) σ2, bk := tz D } ((σ'.set j (some (.int (i : Nat)))).set k xs[i]?) H')
    (hd : ∀ B, ExtN H B → Tabs T B → ∀ σ', W xs.length σ' → Go tz D σ' B) : Go (tSeq (tFor (iEnum K (tCons te tNil)) (gTup K 2 (gCons (gName j) (gCons (gName k) gNil))) tu) tz) D σ H := fun H' e => by
  refine h H' e _ fun H1 e1 => ?_
  have eB : Ex H H1 := e.trans e1
  have hxB := eB p _ hx
  refine ⟨p, xs, rfl, sq_of hxB, ?_⟩
  refine for_it (D := { D with nx := tz D }) (G := fun H2 => SqL K H2 p xs) walk_enum (fun i σ' H2 => ExtN H1 H2 ∧ Tabs T H2 ∧ W i σ') ⟨ExtN.refl _, hT.ext eB, h0⟩ (fun i σ' H2 _ w => sq_of (extN_lst w.1 hxB)) (fun i x σ' H2 H3 hi w y => ?_) (fun σ' H2 w => (hd H2 ((ExtN.of eB).trans w.1) w.2.1 σ' w.2.2).at)
  obtain ⟨t0, a, b, rfl, nT, rfl, ha, hb⟩ := y
  cases ha
  refine ⟨t0, _, rfl, st_of upd_same, rfl, _, _, rfl, _, _, rfl, rfl, ?_⟩
  have e4 : Ex H2 (upd H2 t0 (.tup [.int (i : Nat), b])) := Ex.new nT
  have hb' : xs[i]? = some b := hb
  have z := (hs H1 eB i σ' (upd H2 t0 (.tup [.int (i : Nat), b])) hi (w.1.trans (ExtN.of e4)) (w.2.1.ext e4) w.2.2).at
  rw [hb'] at z
  exact z
theorem ed_U2 {a b : Int} (h : EvU te σ H [.int a, .int b]) : EvD K te σ H (.tuple [.int a, .int b]) := fun H1 e Q q => h H1 e _ fun p H2 _ e2 hp => q _ H2 e2 (.tup (st_of hp) (.cons (.int _) (.cons (.int _) .nil)))
end
theorem shaped_ints (ns : List Int) : SeqAt.shaped (.list (ns.map PyData.int)) = true := by
  have h : PyData.canLayAll0 (ns.map PyData.int) = true ∧ PyData.depthAll (ns.map PyData.int) = 0 := by
    induction ns with
    | nil => exact ⟨rfl, rfl⟩
    | cons x t ih =>
      refine ⟨?_, ?_⟩
      · show (true && PyData.canLayAll0 (t.map PyData.int)) = true
        rw [ih.1]
        rfl
      · show max 0 (PyData.depthAll (t.map PyData.int)) = 0
        rw [ih.2]
        rfl
  show (PyData.canLayAll0 (ns.map PyData.int) && decide (PyData.depthAll (ns.map PyData.int) + 1 ≤ 64)) = true
  rw [h.1, h.2]
  rfl
theorem eqv_ints (ns : List Int) : PyData.eqv (.list (ns.map PyData.int)) (.list (ns.map PyData.int)) = true := by
  show PyData.eqvAll _ _ = true
  induction ns with
  | nil => rfl
  | cons x t ih =>
    show (PyData.eqv (.int x) (.int x) && PyData.eqvAll (t.map PyData.int) (t.map PyData.int)) = true
    rw [ih]
    simp [PyData.eqv]
end RG
namespace RP
open PySem PySem.Spec PyProof.Rows L2 Evl RG RS
def topS (i : Nat) : Stmt := PySem.Challenge.pw_ringsteps_k03_whole_turns.main.body.getD i (.Pass ⟨0, 0, 0, 0⟩)
section
variable {P : Program} {w : World} {K : PySem.W.Frag} {mg : Str → Option Value} {base : Heap} {f f1 f2 f3 f4 f5 f6 f7 f8 f9 : Addr} {fd fd1 fd2 fd3 fd4 fd5 fd6 fd7 fd8 fd9 : FuncData}
/-! ### the numbers -/
abbrev s_is_number : Stmt := topS 8
theorem sc_is_number : FnScope ["thing", "least", "most"] ["thing", "least", "most"] (defScope s_is_number) := ⟨rfl, rfl, rfl, by decide +kernel, rfl, by decide +kernel, by decide +kernel⟩
def spIsNum (K : PySem.W.Frag) : Sp := fun vs H Q _ => ∃ x l m, vs = [x, .int l, m] ∧ Kn K H x ∧ (∀ i, x = .int i → ∃ j, m = .int j) ∧ ∀ H', Ex H H' → Q (.bl (numW x l m)) H'
theorem spv_isNum {K : PySem.W.Frag} {H : Hp} {x m : V} {l : Int} (h : Kn K H x) (h2 : ∀ i, x = .int i → ∃ j, m = .int j) : SpV (spIsNum K) [x, .int l, m] H (.bl (numW x l m)) :=
  fun H1 e Q q E => ⟨x, l, m, rfl, h.ex e, h2, q⟩
theorem ok_is_number (hA : Blt mg) (F : Fun K "is_number" "is_number" s_is_number f fd) : FnOk P w K mg base CX0 1 f fd ["thing", "least", "most"] (spIsNum K) := by
  refine F.ok sc_is_number (fun vs H Q E h => ?_) (fun cdv A outer s H vs Q E hr h => ?_)
  · obtain ⟨x, l, m, rfl, _⟩ := h
    rfl
  · obtain ⟨x, l, m, rfl, hx, hm, k⟩ := h
    refine ⟨_, (pss_cons (ps_ret (pe_and (pe_callB call_isi rfl hA.z_isinstance (by decide +kernel) (pa_cons (pv 0) (pa_cons (pe_bltn (v := .ty "int") (u := .type "int") rfl hA.z_int (by decide +kernel) rfl) pa_nil))) (pe_and (pe_not (pe_callB call_isi rfl hA.z_isinstance (by decide +kernel) (pa_cons (pv 0) (pa_cons (pe_bltn (v := .ty "bool") (u := .type "bool") rfl hA.z_bool (by decide +kernel) rfl) pa_nil)))) (pe_one (pe_chain op_le op_le (pv 1) (pv 0) (pv 2))))))
      pss_nil), Go.at (g_ret (v := .bl (numW x l m)) ?_ k)⟩
    have e1 : Ev (tCB (rIsi K) (tCons (tVar 0) (tCons (tC (.ty "int")) tNil))) (start ["thing", "least", "most"] [x, .int l, m]) H (.bl (isI x)) := ev_isInt (ev_var rfl) hx
    have e2 : Ev (tCB (rIsi K) (tCons (tVar 0) (tCons (tC (.ty "bool")) tNil))) (start ["thing", "least", "most"] [x, .int l, m]) H (.bl (isB x)) := ev_isBool (ev_var rfl) hx
    cases x with
    | int i =>
      obtain ⟨j, rfl⟩ := hm i rfl
      exact ev_is (ev_andV e1 fun _ => ev_andV (ev_notV e2) fun _ => ev_chainI (ev_var rfl) (ev_var rfl) (ev_var rfl)) rfl
    | bl b => exact ev_andV (b := false) e1 fun _ => ev_andV (b := false) (ev_notV e2) fun h => nomatch h
    | _ => exact ev_andV (b := false) e1 fun h => nomatch h
abbrev s_common : Stmt := topS 9
theorem sc_common : FnScope ["one", "other"] ["one", "other"] (defScope s_common) := ⟨rfl, rfl, rfl, by decide +kernel, rfl, by decide +kernel, by decide +kernel⟩
def spCommon : Sp := fun vs H Q _ => ∃ a b : Int, vs = [.int a, .int b] ∧ 0 ≤ a ∧ 0 ≤ b ∧ ∀ H', Ex H H' → Q (.int (G a b)) H'
theorem spv_common {H : Hp} {a b : Int} (h : 0 ≤ a) (h2 : 0 ≤ b) : SpV spCommon [.int a, .int b] H (.int (G a b)) := fun H1 e Q q E => ⟨a, b, rfl, h, h2, q⟩
theorem ok_common (F : Fun K "common" "common" s_common f fd) : FnOk P w K mg base CX0 1 f fd ["one", "other"] spCommon := by
  refine F.ok sc_common (fun vs H Q E h => ?_) (fun cdv A outer s H vs Q E hr h => ?_)
  · obtain ⟨a, b, rfl, _⟩ := h
    rfl
  · obtain ⟨a, b, rfl, ha, hb, k⟩ := h
    refine ⟨_, (pss_cons (ps_while PassesOwn.never (pt_cmpR op_gt (pv 1) pe_int (nomark _)) (pss_cons (ps_par (i := 0) (j := 1) (by rfl) sc_common.nd rfl rfl (by decide) rfl rfl (pa_cons (pv 1) (pa_cons (pe_op op_mod (pv 0) (pv 1)) pa_nil)) (by rfl))
      pss_nil))
      (pss_cons (ps_ret (pv 0))
      pss_nil)), Go.at ?_⟩
    refine g_while (fun σ => ∃ x y : Int, σ = [some (.int x), some (.int y)] ∧ 0 ≤ x ∧ 0 ≤ y ∧ G x y = G a b) (fun σ => match σ with | [_, some (.int y)] => y.toNat | _ => 0) ⟨a, b, rfl, ha, hb, rfl⟩ ?_
    rintro σ ⟨x, y, rfl, hx, hy, hg⟩
    refine ⟨_, et_test (ev_op (ev_var rfl) ev_c rv_I0), fun hb => ?_, fun hb => ?_⟩
    · have hy : 0 < y := of_decide_eq_true hb
      refine g_par (ea_cons (ev_var rfl) (ea_cons (ev_op (ev_var rfl) (ev_var rfl) (rv_I hy)) ea_nil)) (g_next fun H' e => ⟨e, ⟨y, x % y, rfl, by omega, Int.emod_nonneg _ (by omega), by rw [G_step x y hy, hg]⟩, ?_⟩)
      have := Int.emod_lt_of_pos x hy
      have := Int.emod_nonneg x (show y ≠ 0 by omega)
      show (x % y).toNat < y.toNat
      omega
    · have hy0 : y = 0 := by have := of_decide_eq_false hb; omega
      subst hy0
      rw [G_zero hx] at hg
      subst hg
      exact g_ret (ev_var rfl) k
abbrev s_check_ring : Stmt := topS 11
theorem sc_check_ring : FnScope ["places", "step"] ["places", "step"] (defScope s_check_ring) := ⟨rfl, rfl, rfl, by decide +kernel, rfl, by decide +kernel, by decide +kernel⟩
def spRing (K : PySem.W.Frag) (c : Cs) : Sp := fun vs H Q E => ∃ p s, vs = [p, s] ∧ Kn K H p ∧ Kn K H s ∧ Fin (ringO c p s) H Q E
theorem spx_ring {K : PySem.W.Frag} {c : Cs} {H : Hp} {p s : V} (h : Kn K H p) (h2 : Kn K H s) : SpX (spRing K c) [p, s] H (ringO c p s) := fun H1 e Q E q r => ⟨p, s, rfl, h.ex e, h2.ex e, q, r⟩
theorem ok_check_ring {c : Cs} (F : Fun K "check_ring" "check_ring" s_check_ring f fd) (G_is_number : FnOk P w K mg base CX0 1 f1 fd1 ["thing", "least", "most"] (spIsNum K)) (A_is_number : At K mg "is_number" s_is_number ["thing", "least", "most"] f1 fd1)
    (E_BadPlaces : ErrAt K mg "BadPlaces" c.cp) (E_BadStep : ErrAt K mg "BadStep" c.cs) : FnOk P w K mg base (L2.CX P w) 2 f fd ["places", "step"] (spRing K c) := by
  refine F.okX sc_check_ring (fun vs H Q E h => ?_) (fun cdv A outer s H vs Q E hr h => ?_)
  · obtain ⟨p, s, rfl, _⟩ := h
    rfl
  · obtain ⟨p, s, rfl, hp, hs, k⟩ := h
    refine ⟨_, (pss_cons (ps_if (pt_not (pt_val (pe_call G_is_number (hr.mono (by omega)) rfl A_is_number.g A_is_number.fn.kp A_is_number.b .nil pass0 (pa_cons (pv 0) (pa_cons pe_int (pa_cons (pv 0) pa_nil)))))) (pss_cons (ps_raise rfl (takes_of rfl rfl rfl rfl) (pmk_own PySem.F.excBase_ValueError E_BadPlaces.x E_BadPlaces.g E_BadPlaces.k (raises_own E_BadPlaces.b E_BadPlaces.t) rfl))
      pss_nil) pss_nil)
      (pss_cons (ps_if (pt_not (pt_val (pe_call G_is_number (hr.mono (by omega)) rfl A_is_number.g A_is_number.fn.kp A_is_number.b .nil pass0 (pa_cons (pv 1) (pa_cons pe_int (pa_cons (pe_op op_sub (pv 0) pe_int) pa_nil)))))) (pss_cons (ps_raise rfl (takes_of rfl rfl rfl rfl) (pmk_own PySem.F.excBase_ValueError E_BadStep.x E_BadStep.g E_BadStep.k (raises_own E_BadStep.b E_BadStep.t) rfl))
      pss_nil) pss_nil)
      pss_nil)), Go.at ?_⟩
    refine g_when (et_not (et_B (ev_call1 (ea_cons (ev_var rfl) (ea_cons ev_c (ea_cons (ev_var rfl) ea_nil))) (spv_isNum hp fun i e => ⟨i, e⟩)))) (fun h => ?_) (fun h => ?_)
    · refine g_raise fun H1 e => k.2 _ ?_ H1 e
      rw [numW_okP] at h
      unfold ringO
      rw [if_neg (by first | exact nf h | exact nt h)]
    · rw [numW_okP] at h
      have h' : okP p = true := by simpa using h
      obtain ⟨P, rfl, hP⟩ := okP_iff.mp h'
      refine g_when (et_not (et_B (ev_call1 (ea_cons (ev_var rfl) (ea_cons ev_c (ea_cons (ev_op (ev_var rfl) ev_c rv_I0) ea_nil))) (spv_isNum hs fun i e => ⟨_, rfl⟩)))) (fun h2 => ?_) (fun h2 => ?_)
      · refine g_raise fun H1 e => k.2 _ ?_ H1 e
        rw [numW_okIn] at h2
        unfold ringO
        rw [if_pos h']; exact if_neg (nf h2)
      · refine g_next fun H1 e => k.1 .non ?_ H1 e
        rw [numW_okIn] at h2
        unfold ringO
        rw [if_pos h']; exact if_pos (nt h2)
abbrev s_most_of : Stmt := topS 10
theorem sc_most_of : FnScope ["places", "step"] ["places", "step"] (defScope s_most_of) := ⟨rfl, rfl, rfl, by decide +kernel, rfl, by decide +kernel, by decide +kernel⟩
def spMostOf : Sp := fun vs H Q _ => ∃ p s : Int, vs = [.int p, .int s] ∧ Ring p s ∧ Lv 1 p ∧ ∀ H', Ex H H' → Q (.int (top p s)) H'
theorem spv_mostOf {H : Hp} {p s : Int} (h : Ring p s) (h2 : Lv 1 p) : SpV spMostOf [.int p, .int s] H (.int (top p s)) := fun H1 e Q q E => ⟨p, s, rfl, h, h2, q⟩
theorem ok_most_of (F : Fun K "most_of" "most_of" s_most_of f fd) (G_common : FnOk P w K mg base CX0 1 f1 fd1 ["one", "other"] spCommon) (A_common : At K mg "common" s_common ["one", "other"] f1 fd1) : FnOk P w K mg base CX0 2 f fd ["places", "step"] spMostOf := by
  refine F.ok sc_most_of (fun vs H Q E h => ?_) (fun cdv A outer s H vs Q E hr h => ?_)
  · obtain ⟨p, s, rfl, _⟩ := h
    rfl
  · obtain ⟨p, s, rfl, R, l, k⟩ := h
    have R1 := R.p
    refine ⟨_, (pss_cons (ps_ret (pe_op op_fdivW (pv 0) (pe_call G_common (hr.mono (by omega)) rfl A_common.g A_common.fn.kp A_common.b .nil pass0 (pa_cons (pv 0) (pa_cons (pv 1) pa_nil)))))
      pss_nil), Go.at (g_ret (ev_op (ev_var rfl) (ev_call1 (ea_cons (ev_var rfl) (ea_cons (ev_var rfl) ea_nil)) (spv_common (by omega) R.s0)) (rv_I (div_ok (G_pos (by omega)) (lv_G R l)))) k)⟩
abbrev s_check_marks : Stmt := topS 12
theorem sc_check_marks : FnScope ["places", "step", "marks"] ["places", "step", "marks"] (defScope s_check_marks) := ⟨rfl, rfl, rfl, by decide +kernel, rfl, by decide +kernel, by decide +kernel⟩
def spMarks (K : PySem.W.Frag) (c : Cs) : Sp := fun vs H Q E => ∃ p s m, vs = [p, s, m] ∧ Kn K H p ∧ Kn K H s ∧ Kn K H m ∧ Fin (marksO c p s m) H Q E
theorem spx_marks {K : PySem.W.Frag} {c : Cs} {H : Hp} {p s m : V} (h : Kn K H p) (h2 : Kn K H s) (h3 : Kn K H m) : SpX (spMarks K c) [p, s, m] H (marksO c p s m) := fun H1 e Q E q r => ⟨p, s, m, rfl, h.ex e, h2.ex e, h3.ex e, q, r⟩
theorem ok_check_marks {c : Cs} (F : Fun K "check_marks" "check_marks" s_check_marks f fd) (G_is_number : FnOk P w K mg base CX0 1 f1 fd1 ["thing", "least", "most"] (spIsNum K)) (A_is_number : At K mg "is_number" s_is_number ["thing", "least", "most"] f1 fd1)
    (G_most_of : FnOk P w K mg base CX0 2 f2 fd2 ["places", "step"] spMostOf) (A_most_of : At K mg "most_of" s_most_of ["places", "step"] f2 fd2) (G_check_ring : FnOk P w K mg base (L2.CX P w) 2 f3 fd3 ["places", "step"] (spRing K c)) (A_check_ring : At K mg "check_ring" s_check_ring ["places", "step"] f3 fd3)
    (E_BadMarks : ErrAt K mg "BadMarks" c.cm) : FnOk P w K mg base (L2.CX P w) 3 f fd ["places", "step", "marks"] (spMarks K c) := by
  refine F.okX sc_check_marks (fun vs H Q E h => ?_) (fun cdv A outer s H vs Q E hr h => ?_)
  · obtain ⟨p, s, m, rfl, _⟩ := h
    rfl
  · obtain ⟨p, s, m, rfl, hp, hs, hm, k⟩ := h
    refine ⟨_, (pss_cons (ps_expr (pe_call G_check_ring (hr.mono (by omega)) rfl A_check_ring.g A_check_ring.fn.kp A_check_ring.b .nil (passes_call (takes_of rfl rfl rfl rfl) (fun _ _ _ _ h => h)) (pa_cons (pv 0) (pa_cons (pv 1) pa_nil))))
      (pss_cons (ps_if (pt_not (pt_val (pe_call G_is_number (hr.mono (by omega)) rfl A_is_number.g A_is_number.fn.kp A_is_number.b .nil pass0 (pa_cons (pv 2) (pa_cons pe_int (pa_cons (pe_call G_most_of (hr.mono (by omega)) rfl A_most_of.g A_most_of.fn.kp A_most_of.b .nil pass0 (pa_cons (pv 0) (pa_cons (pv 1) pa_nil))) pa_nil)))))) (pss_cons (ps_raise rfl (takes_of rfl rfl rfl rfl) (pmk_own PySem.F.excBase_ValueError E_BadMarks.x E_BadMarks.g E_BadMarks.k (raises_own E_BadMarks.b E_BadMarks.t) rfl))
      pss_nil) pss_nil)
      pss_nil)), Go.at ?_⟩
    refine g_dropX (evx_call (ea_cons (ev_var rfl) (ea_cons (ev_var rfl) ea_nil)) (spx_ring hp hs)) (fun v hv => ?_) (fun C hC H1 e => k.2 C (by unfold marksO; rw [hC]) H1 e)
    obtain ⟨rfl, P, S, rfl, rfl, R⟩ := ringO_val hv
    have eO : marksO c (.int P) (.int S) m = if okIn m 1 (top P S) then .val .non else .err c.cm := by
      unfold marksO
      rw [hv]
      rfl
    rw [eO] at k
    refine g_when (et_not (et_B (ev_call1 (ea_cons (ev_var rfl) (ea_cons ev_c (ea_cons (ev_call1 (ea_cons (ev_var rfl) (ea_cons (ev_var rfl) ea_nil)) (spv_mostOf R hp)) ea_nil))) (spv_isNum hm fun i e => ⟨_, rfl⟩)))) (fun h => ?_) (fun h => ?_)
    · rw [numW_okIn] at h
      rw [if_neg (by first | exact nf h | exact nt h)] at k
      exact g_raise fun H1 e => k.err H1 e
    · rw [numW_okIn] at h
      rw [if_pos (by first | exact nf h | exact nt h)] at k
      exact g_next fun H1 e => k.val H1 e
abbrev s_quotients : Stmt := topS 13
theorem sc_quotients : FnScope ["many", "by", "times", "more", "rest", "found", "last"] ["many", "by", "times", "more"] (defScope s_quotients) := ⟨rfl, rfl, rfl, by decide +kernel, rfl, by decide +kernel, by decide +kernel⟩
def spQuot : Sp := fun vs H Q _ => ∃ (n : Nat) (m a b : Int), vs = [.int n, .int m, .int a, .int b] ∧ 0 < m ∧ 0 ≤ a ∧ Lv 1 n ∧ Lv 1 m ∧ Lv 1 a ∧ Lv 4 b ∧ ∀ H', Ex H H' → Q (.int (S n m a b)) H'
theorem spv_quot {H : Hp} {n m a b : Int} (h0 : 0 ≤ n) (h : 0 < m) (h2 : 0 ≤ a) (l1 : Lv 1 n) (l2 : Lv 1 m) (l3 : Lv 1 a) (l4 : Lv 4 b) : SpV spQuot [.int n, .int m, .int a, .int b] H (.int (S n.toNat m a b)) := fun H1 e Q q E => by
  have : ((n.toNat : Nat) : Int) = n := by omega
  exact ⟨n.toNat, m, a, b, by rw [this], h, h2, by rw [this]; exact l1, l2, l3, l4, q⟩
theorem ok_quotients (F : Fun K "quotients" "quotients" s_quotients f fd) : FnOk P w K mg base CX0 1 f fd ["many", "by", "times", "more"] spQuot := by
  refine F.ok sc_quotients (fun vs H Q E h => ?_) (fun cdv A outer s H vs Q E hr h => ?_)
  · obtain ⟨n, m, a, b, rfl, _⟩ := h
    rfl
  · obtain ⟨n, m, a, b, rfl, hm, ha, l1, l2, l3, l4, k⟩ := h
    refine ⟨_, (pss_cons (ps_set (i := 4) sc_quotients.nd rfl (Or.inl rfl) (pe_op op_mod (pv 3) (pv 1)))
      (pss_cons (ps_set (i := 5) sc_quotients.nd rfl (Or.inl rfl) (pe_op op_mulB (pv 0) (pe_op op_fdivW (pe_op op_sub (pv 3) (pv 4)) (pv 1))))
      (pss_cons (ps_set (i := 3) sc_quotients.nd rfl (Or.inl rfl) (pv 4))
      (pss_cons (ps_while PassesOwn.never (pt_cmpR op_gt (pv 0) pe_int (nomark _)) (pss_cons (ps_aug (i := 5) sc_quotients.nd rfl (Or.inl rfl) (pe_op op_add (pe_op op_mulB (pe_op op_fdivW (pe_op op_mulB (pv 0) (pe_op op_sub (pv 0) pe_int)) pe_int) (pe_op op_fdivW (pv 2) (pv 1))) (pe_op op_mulB (pv 0) (pe_op op_fdivW (pv 3) (pv 1)))) ip_add)
      (pss_cons (ps_par (i := 2) (j := 3) (by rfl) sc_quotients.nd rfl rfl (by decide) rfl rfl (pa_cons (pe_op op_mod (pv 2) (pv 1)) (pa_cons (pe_op op_mod (pv 3) (pv 1)) pa_nil)) (by rfl))
      (pss_cons (ps_set (i := 6) sc_quotients.nd rfl (Or.inl rfl) (pe_op op_add (pe_op op_mulB (pv 2) (pv 0)) (pv 3)))
      (pss_cons (ps_if (pt_cmpR op_lt (pv 6) (pv 1) (nomark _)) (pss_cons (ps_ret (pv 5))
      pss_nil) pss_nil)
      (pss_cons (ps_asg (pe_tup (pa_cons (pe_op op_fdivW (pv 6) (pv 1)) (pa_cons (pe_op op_mod (pv 6) (pv 1)) (pa_cons (pv 2) (pa_cons (pv 1) pa_nil))))) (pg_tup rfl (pgs_cons (pg_name (i := 0) sc_quotients.nd rfl (Or.inl rfl)) (pgs_cons (pg_name (i := 3) sc_quotients.nd rfl (Or.inl rfl)) (pgs_cons (pg_name (i := 1) sc_quotients.nd rfl (Or.inl rfl)) (pgs_cons (pg_name (i := 2) sc_quotients.nd rfl (Or.inl rfl)) pgs_nil))))))
      pss_nil))))))
      (pss_cons (ps_ret (pv 5))
      pss_nil))))), Go.at ?_⟩
    refine g_asg (ev_op (ev_var rfl) (ev_var rfl) (rv_I hm)) ?_
    refine g_asg (ev_op (ev_var rfl) (ev_op (ev_op (ev_var rfl) (ev_var rfl) rv_I0) (ev_var rfl) (rv_I (div_ok hm l2))) (rv_I (mul_ok l1 (lv_div (lv_sub l4 (lv_mod l2 hm)) hm) (by decide) (by decide)))) ?_
    refine g_asg (ev_var rfl) ?_
    have d : (b - b % m) / m = b / m := by
      have h := Int.emod_add_mul_ediv b m
      have e : b - b % m = m * (b / m) := by omega
      rw [e]; exact Int.mul_ediv_cancel_left _ (by omega)
    refine g_while (fun σ => ∃ (n' : Nat) (m' a' b' r t : Int) (l : Option V), σ = [some (.int n'), some (.int m'), some (.int a'), some (.int b'), some (.int r), some (.int t), l] ∧ 0 < m' ∧ 0 ≤ a' ∧ 0 ≤ b' ∧ Lv 1 n' ∧ Lv 1 m' ∧ Lv 1 a' ∧ Lv 1 b' ∧ t + S n' m' a' b' = S n m a b)
      (fun σ => match σ with | some (.int n') :: some (.int m') :: _ => m'.toNat | _ => 0) ⟨n, m, a, b % m, b % m, n * ((b - b % m) / m), none, rfl, hm, ha, Int.emod_nonneg _ (by omega), l1, l2, l3, lv_mod l2 hm, by rw [d, S_redb n m a b hm]⟩ ?_
    rintro σ ⟨n', m', a', b', r, t, l, rfl, hm', ha', hb', ln, lm, la, lb, hT⟩
    refine ⟨_, et_test (ev_op (ev_var rfl) ev_c rv_I0), fun h => ?_, fun h => ?_⟩
    · have hn : 0 < (n' : Int) := of_decide_eq_true h
      refine g_aug (f := fun i j => i + j) rfl (ev_op (ev_op (ev_op (ev_op (ev_var rfl) (ev_op (ev_var rfl) ev_c rv_I0) (rv_I (mul_ok ln (lv_sub ln (lv_small (by decide))) (by decide) (by decide)))) ev_c (rv_I (div_ok (by decide) (lv_small (by decide)))))
        (ev_op (ev_var rfl) (ev_var rfl) (rv_I (div_ok hm' lm))) (rv_I (mul_ok (lv_div (lv_mul ln (lv_sub ln (lv_small (by decide)))) (by decide)) (lv_div la hm') (by decide) (by decide))))
        (ev_op (ev_var rfl) (ev_op (ev_var rfl) (ev_var rfl) (rv_I (div_ok hm' lm))) (rv_I (mul_ok ln (lv_div lb hm') (by decide) (by decide)))) rv_I0) ?_
      refine g_par (ea_cons (ev_op (ev_var rfl) (ev_var rfl) (rv_I hm')) (ea_cons (ev_op (ev_var rfl) (ev_var rfl) (rv_I hm')) ea_nil)) ?_
      refine g_asg (ev_op (ev_op (ev_var rfl) (ev_var rfl) (rv_I (mul_ok (lv_mod lm hm') ln (by decide) (by decide)))) (ev_var rfl) rv_I0) ?_
      have red := S_red n' m' a' b' hm'
      have a0 := Int.emod_nonneg a' (show m' ≠ 0 by omega)
      have a1 := Int.emod_lt_of_pos a' hm'
      have b0 := Int.emod_nonneg b' (show m' ≠ 0 by omega)
      have b1 := Int.emod_lt_of_pos b' hm'
      have x0 : 0 ≤ a' % m' * (n' : Int) := Int.mul_nonneg a0 (by omega)
      refine g_when (et_test (ev_op (ev_var rfl) (ev_var rfl) rv_I0)) (fun h => ?_) (fun h => ?_)
      · have h1 : a' % m' * (n' : Int) + b' % m' < m' := of_decide_eq_true h
        have z := S_zero n' m' (a' % m') (b' % m') hm' a0 b0 h1
        rw [z] at red
        refine g_ret (v := .int (S n m a b)) (ev_is (ev_var rfl) ?_) k
        rw [← hT, red]
        simp
      · have h1 : m' ≤ a' % m' * (n' : Int) + b' % m' := by have := of_decide_eq_false h; omega
        have ap : 0 < a' % m' := by
          rcases Int.lt_or_le 0 (a' % m') with q | q
          · exact q
          · have : a' % m' = 0 := by omega
            rw [this, Int.zero_mul] at h1
            omega
        have fl := S_flip n' m' (a' % m') (b' % m') ap a1 b0 b1
        have q0 : 0 ≤ (a' % m' * (n' : Int) + b' % m') / m' := Int.ediv_nonneg (by omega) (by omega)
        have qn : (a' % m' * (n' : Int) + b' % m') / m' ≤ n' := by
          have : (a' % m' * (n' : Int) + b' % m') / m' < n' + 1 := by
            refine Int.ediv_lt_of_lt_mul hm' ?_
            have h2 : a' % m' * (n' : Int) ≤ (m' - 1) * n' := Int.mul_le_mul_of_nonneg_right (by omega) (by omega)
            have h3 : (m' - 1) * (n' : Int) = m' * n' - n' := by rw [Int.sub_mul, Int.one_mul]
            have h4 : ((n' : Int) + 1) * m' = m' * n' + m' := by rw [Int.add_mul, Int.one_mul, Int.mul_comm]
            omega
          omega
        obtain ⟨N, hN⟩ : ∃ N : Nat, (a' % m' * (n' : Int) + b' % m') / m' = N := ⟨((a' % m' * (n' : Int) + b' % m') / m').toNat, by omega⟩
        have eN : ((a' % m' * (n' : Int) + b' % m') / m').toNat = N := by omega
        rw [eN] at fl
        refine g_asg4 (eu_tup (ea_cons (ev_is (ev_op (ev_var rfl) (ev_var rfl) (rv_I (div_ok hm' lm))) (congrArg V.int hN)) (ea_cons (ev_op (ev_var rfl) (ev_var rfl) (rv_I hm')) (ea_cons (ev_var rfl) (ea_cons (ev_var rfl) ea_nil)))) (by show 4 ≤ 100000; decide)) (g_next fun H' e => ⟨e, ⟨N, a' % m', m', (a' % m' * (n' : Int) + b' % m') % m', r, t + (n' * (n' - 1) / 2 * (a' / m') + n' * (b' / m')), some (.int (a' % m' * (n' : Int) + b' % m')), rfl, ap, by omega, Int.emod_nonneg _ (by omega), lv_le ln (by omega) (by omega), lv_mod lm hm', lm, lv_mod lm hm', ?_⟩, ?_⟩)
        · rw [← fl, ← hT, red]
          omega
        · show (a' % m').toNat < m'.toNat
          omega
    · have hn : n' = 0 := by have := of_decide_eq_false h; omega
      subst hn
      refine g_ret (v := .int (S n m a b)) (ev_is (ev_var rfl) ?_) k
      rw [← hT]
      simp [S, sumN]
abbrev s_marks_to : Stmt := topS 14
theorem sc_marks_to : FnScope ["places", "step", "marks", "place"] ["places", "step", "marks", "place"] (defScope s_marks_to) := ⟨rfl, rfl, rfl, by decide +kernel, rfl, by decide +kernel, by decide +kernel⟩
def spMarksTo : Sp := fun vs H Q _ => ∃ p s n x : Int, vs = [.int p, .int s, .int n, .int x] ∧ Ring p s ∧ 0 ≤ n ∧ 0 ≤ x ∧ x < p ∧ Lv 1 p ∧ Lv 1 n ∧ ∀ H', Ex H H' → Q (.int (cnt p s n.toNat x)) H'
theorem spv_marksTo {H : Hp} {p s n x : Int} (R : Ring p s) (h0 : 0 ≤ n) (h : 0 ≤ x) (h2 : x < p) (l1 : Lv 1 p) (l2 : Lv 1 n) : SpV spMarksTo [.int p, .int s, .int n, .int x] H (.int (cnt p s n.toNat x)) := fun H1 e Q q E => ⟨p, s, n, x, rfl, R, h0, h, h2, l1, l2, q⟩
theorem ok_marks_to (F : Fun K "marks_to" "marks_to" s_marks_to f fd) (G_quotients : FnOk P w K mg base CX0 1 f1 fd1 ["many", "by", "times", "more"] spQuot) (A_quotients : At K mg "quotients" s_quotients ["many", "by", "times", "more"] f1 fd1) : FnOk P w K mg base CX0 2 f fd ["places", "step", "marks", "place"] spMarksTo := by
  refine F.ok sc_marks_to (fun vs H Q E h => ?_) (fun cdv A outer s H vs Q E hr h => ?_)
  · obtain ⟨p, s, n, x, rfl, _⟩ := h
    rfl
  · obtain ⟨p, s, n, x, rfl, R, hn, hx, hxp, lp, ln, k⟩ := h
    have lx : Lv 1 x := lv_le lp hx (by omega)
    refine ⟨_, (pss_cons (ps_ret (pe_op op_sub (pe_call G_quotients (hr.mono (by omega)) rfl A_quotients.g A_quotients.fn.kp A_quotients.b .nil pass0 (pa_cons (pv 2) (pa_cons (pv 0) (pa_cons (pv 1) (pa_cons pe_int pa_nil))))) (pe_call G_quotients (hr.mono (by omega)) rfl A_quotients.g A_quotients.fn.kp A_quotients.b .nil pass0 (pa_cons (pv 2) (pa_cons (pv 0) (pa_cons (pv 1) (pa_cons (pe_op op_sub (pe_un un_neg (pv 3)) pe_int) pa_nil)))))))
      pss_nil), Go.at (g_ret (v := .int (cnt p s n.toNat x)) (ev_is (ev_op (ev_call1 (ea_cons (ev_var rfl) (ea_cons (ev_var rfl) (ea_cons (ev_var rfl) (ea_cons ev_c ea_nil)))) (spv_quot hn (by omega) R.s0 ln lp (R.ls lp) (lv_small (by decide) |> (lv_mono · (by decide)))))
      (ev_call1 (ea_cons (ev_var rfl) (ea_cons (ev_var rfl) (ea_cons (ev_var rfl) (ea_cons (ev_op (ev_un (ev_var rfl) ru_neg) ev_c rv_I0) ea_nil)))) (spv_quot hn (by omega) R.s0 ln lp (R.ls lp) (lv_mono (lv_sub (lv_neg lx) (lv_small (by decide))) (by decide)))) rv_I0) ?_) k)⟩
    rw [cnt_S p s n.toNat x hx hxp]
/-! ### turns -/
abbrev s_check_mark : Stmt := topS 19
theorem sc_check_mark : FnScope ["mark", "marks"] ["mark", "marks"] (defScope s_check_mark) := ⟨rfl, rfl, rfl, by decide +kernel, rfl, by decide +kernel, by decide +kernel⟩
def spMark (K : PySem.W.Frag) (c : Cs) : Sp := fun vs H Q E => ∃ k M, vs = [k, .int M] ∧ Kn K H k ∧ Fin (markO c k (.int M)) H Q E
theorem spx_mark {K : PySem.W.Frag} {c : Cs} {H : Hp} {k : V} {M : Int} (h : Kn K H k) : SpX (spMark K c) [k, .int M] H (markO c k (.int M)) := fun H1 x Q E q r => ⟨k, M, rfl, h.ex x, q, r⟩
theorem ok_check_mark {c : Cs} (F : Fun K "check_mark" "check_mark" s_check_mark f fd) (G_is_number : FnOk P w K mg base CX0 1 f1 fd1 ["thing", "least", "most"] (spIsNum K)) (A_is_number : At K mg "is_number" s_is_number ["thing", "least", "most"] f1 fd1)
    (E_BadMark : ErrAt K mg "BadMark" c.ck) : FnOk P w K mg base (L2.CX P w) 2 f fd ["mark", "marks"] (spMark K c) := by
  refine F.okX sc_check_mark (fun vs H Q E h => ?_) (fun cdv A outer s H vs Q E hr h => ?_)
  · obtain ⟨k, M, rfl, _⟩ := h
    rfl
  · obtain ⟨k, M, rfl, hk, q⟩ := h
    have eO : markO c k (.int M) = if okIn k 0 (M - 1) then .val .non else .err c.ck := rfl
    rw [eO] at q
    refine ⟨_, (pss_cons (ps_if (pt_not (pt_val (pe_call G_is_number (hr.mono (by omega)) rfl A_is_number.g A_is_number.fn.kp A_is_number.b .nil pass0 (pa_cons (pv 0) (pa_cons pe_int (pa_cons (pe_op op_sub (pv 1) pe_int) pa_nil)))))) (pss_cons (ps_raise rfl (takes_of rfl rfl rfl rfl) (pmk_own PySem.F.excBase_ValueError E_BadMark.x E_BadMark.g E_BadMark.k (raises_own E_BadMark.b E_BadMark.t) rfl))
      pss_nil) pss_nil)
      pss_nil), Go.at ?_⟩
    refine g_when (et_not (et_B (ev_call1 (ea_cons (ev_var rfl) (ea_cons ev_c (ea_cons (ev_op (ev_var rfl) ev_c rv_I0) ea_nil))) (spv_isNum hk fun i e => ⟨_, rfl⟩)))) (fun h => ?_) (fun h => ?_)
    · rw [numW_okIn] at h
      rw [if_neg (by first | exact nf h | exact nt h)] at q
      exact g_raise fun H1 e => q.err H1 e
    · rw [numW_okIn] at h
      rw [if_pos (by first | exact nf h | exact nt h)] at q
      exact g_next fun H1 e => q.val H1 e
abbrev s_turn_of : Stmt := topS 20
theorem sc_turn_of : FnScope ["places", "step", "marks", "mark"] ["places", "step", "marks", "mark"] (defScope s_turn_of) := ⟨rfl, rfl, rfl, by decide +kernel, rfl, by decide +kernel, by decide +kernel⟩
def turnO (c : Cs) (p s m k : V) : Out := match marksO c p s m with
  | .err C => .err C
  | .val _ => (match markO c k m with
    | .err C => .err C
    | .val _ => .val (.int (RS.cnt (iv p) (iv s) (iv m).toNat (iv k * iv s % iv p) - 1)))
def spTurnOf (K : PySem.W.Frag) (c : Cs) : Sp := fun vs H Q E => ∃ p s m k, vs = [p, s, m, k] ∧ Kn K H p ∧ Kn K H s ∧ Kn K H m ∧ Kn K H k ∧ Fin (turnO c p s m k) H Q E
def spTurnQ (K : PySem.W.Frag) (c : Cs) : Sp := fun vs H Q _ => spTurnOf K c vs H Q E0
theorem spx_turnOf {K : PySem.W.Frag} {c : Cs} {H : Hp} {p s m k : V} (h1 : Kn K H p) (h2 : Kn K H s) (h3 : Kn K H m) (h4 : Kn K H k) : SpX (spTurnOf K c) [p, s, m, k] H (turnO c p s m k) :=
  fun H1 x Q E q r => ⟨p, s, m, k, rfl, h1.ex x, h2.ex x, h3.ex x, h4.ex x, q, r⟩
theorem turnO_ok {c : Cs} {p s m k : Int} (R : Ring p s) (m1 : 1 ≤ m) (m2 : m ≤ top p s) (k0 : 0 ≤ k) (km : k < m) : turnO c (.int p) (.int s) (.int m) (.int k) = .val (.int (RS.cnt p s m.toNat (k * s % p) - 1)) := by
  unfold turnO
  rw [marksO_ok R m1 m2]
  show (match markO c (.int k) (.int m) with | .err C => Out.err C | .val _ => _) = _
  rw [markO_ok k0 (show k < iv (.int m) from km)]
  rfl
theorem spv_turnOf {K : PySem.W.Frag} {c : Cs} {H : Hp} {p s m k : Int} (R : Ring p s) (l : Lv 1 p) (m1 : 1 ≤ m) (m2 : m ≤ top p s) (k0 : 0 ≤ k) (km : k < m) :
    SpV (spTurnQ K c) [.int p, .int s, .int m, .int k] H (.int (RS.cnt p s m.toNat (k * s % p) - 1)) := by
  have lm : Lv 1 m := lv_le (lv_top R l) (by omega) m2
  have h := spx_turnOf (K := K) (c := c) (H := H) (p := .int p) (s := .int s) (m := .int m) (k := .int k) l (R.ls l) lm (lv_le lm k0 (by omega))
  rw [turnO_ok R m1 m2 k0 km] at h
  exact fun H1 x Q q E => spv_of h H1 x Q q E0
theorem ok_turn_of {c : Cs} (F : Fun K "turn_of" "turn_of" s_turn_of f fd) (G_check_marks : FnOk P w K mg base (L2.CX P w) 3 f1 fd1 ["places", "step", "marks"] (spMarks K c)) (A_check_marks : At K mg "check_marks" s_check_marks ["places", "step", "marks"] f1 fd1)
    (G_check_mark : FnOk P w K mg base (L2.CX P w) 2 f2 fd2 ["mark", "marks"] (spMark K c)) (A_check_mark : At K mg "check_mark" s_check_mark ["mark", "marks"] f2 fd2)
    (G_marks_to : FnOk P w K mg base CX0 2 f3 fd3 ["places", "step", "marks", "place"] spMarksTo) (A_marks_to : At K mg "marks_to" s_marks_to ["places", "step", "marks", "place"] f3 fd3) : FnOk P w K mg base (L2.CX P w) 4 f fd ["places", "step", "marks", "mark"] (spTurnOf K c) := by
  refine F.okX sc_turn_of (fun vs H Q E h => ?_) (fun cdv A outer s H vs Q E hr h => ?_)
  · obtain ⟨p, s, m, k, rfl, _⟩ := h
    rfl
  · obtain ⟨p, s, m, k, rfl, h1, h2, h3, h4, q⟩ := h
    refine ⟨_, (pss_cons (ps_expr (pe_call G_check_marks (hr.mono (by omega)) rfl A_check_marks.g A_check_marks.fn.kp A_check_marks.b .nil (passes_call (takes_of rfl rfl rfl rfl) (fun _ _ _ _ h => h)) (pa_cons (pv 0) (pa_cons (pv 1) (pa_cons (pv 2) pa_nil)))))
      (pss_cons (ps_expr (pe_call G_check_mark (hr.mono (by omega)) rfl A_check_mark.g A_check_mark.fn.kp A_check_mark.b .nil (passes_call (takes_of rfl rfl rfl rfl) (fun _ _ _ _ h => h)) (pa_cons (pv 3) (pa_cons (pv 2) pa_nil))))
      (pss_cons (ps_ret (pe_op op_sub (pe_call G_marks_to (hr.mono (by omega)) rfl A_marks_to.g A_marks_to.fn.kp A_marks_to.b .nil pass0 (pa_cons (pv 0) (pa_cons (pv 1) (pa_cons (pv 2) (pa_cons (pe_op op_mod (pe_op op_mulB (pv 3) (pv 1)) (pv 0)) pa_nil))))) pe_int))
      pss_nil))), Go.at ?_⟩
    refine g_dropX (evx_call (ea_cons (ev_var rfl) (ea_cons (ev_var rfl) (ea_cons (ev_var rfl) ea_nil))) (spx_marks h1 h2 h3)) (fun v hv => ?_) (fun C hC H1 x => q.2 C (by unfold turnO; rw [hC]) H1 x)
    obtain ⟨rfl, P, S, M, rfl, rfl, rfl, R, m1, m2⟩ := marksO_val hv
    refine g_dropX (evx_call (ea_cons (ev_var rfl) (ea_cons (ev_var rfl) ea_nil)) (spx_mark h4)) (fun v hv2 => ?_) (fun C hC H1 x => q.2 C (by unfold turnO; rw [hv]; show (match markO c k (.int M) with | .err C => Out.err C | .val _ => _) = _; rw [hC]) H1 x)
    obtain ⟨rfl, i, rfl, i0, im⟩ := markO_val hv2
    rw [turnO_ok R m1 m2 i0 im] at q
    have p1 := R.p
    have lS := R.ls h1
    have x0 := Int.emod_nonneg (i * S) (show P ≠ 0 by omega)
    have x1 := Int.emod_lt_of_pos (i * S) (show 0 < P by omega)
    exact g_ret (ev_op (ev_call1 (ea_cons (ev_var rfl) (ea_cons (ev_var rfl) (ea_cons (ev_var rfl) (ea_cons (ev_op (ev_op (ev_var rfl) (ev_var rfl) (rv_I (mul_ok h4 lS (by decide) (by decide)))) (ev_var rfl) (rv_I (show (0 : Int) < P by omega))) ea_nil)))) (spv_marksTo R (by omega) x0 x1 h1 h3)) ev_c rv_I0) q.val
/-! ### marks by turn -/
abbrev s_turned_about : Stmt := topS 16
theorem sc_turned_about : FnScope ["number", "by", "one", "other", "first", "second", "times"] ["number", "by"] (defScope s_turned_about) := ⟨rfl, rfl, rfl, by decide +kernel, rfl, by decide +kernel, by decide +kernel⟩
def spTurned : Sp := fun vs H Q _ => ∃ a m : Int, vs = [.int a, .int m] ∧ 0 < m ∧ 0 ≤ a ∧ Int.gcd m a = 1 ∧ Lv 1 m ∧ ∀ H', Ex H H' → Q (.int (theInv a m)) H'
theorem spv_turned {H : Hp} {a m : Int} (h1 : 0 < m) (h2 : 0 ≤ a) (h3 : Int.gcd m a = 1) (l : Lv 1 m) : SpV spTurned [.int a, .int m] H (.int (theInv a m)) := fun H1 e Q q E => ⟨a, m, rfl, h1, h2, h3, l, q⟩
theorem ok_turned_about (F : Fun K "turned_about" "turned_about" s_turned_about f fd) : FnOk P w K mg base CX0 1 f fd ["number", "by"] spTurned := by
  refine F.ok sc_turned_about (fun vs H Q E h => ?_) (fun cdv A outer s H vs Q E hr h => ?_)
  · obtain ⟨a, m, rfl, _⟩ := h
    rfl
  · obtain ⟨a, m, rfl, m0, a0, hg, lm, k⟩ := h
    refine ⟨_, (pss_cons (ps_asg (pe_tup (pa_cons (pv 1) (pa_cons (pe_op op_mod (pv 0) (pv 1)) (pa_cons pe_int (pa_cons pe_int pa_nil))))) (pg_tup rfl (pgs_cons (pg_name (i := 2) sc_turned_about.nd rfl (Or.inl rfl)) (pgs_cons (pg_name (i := 3) sc_turned_about.nd rfl (Or.inl rfl)) (pgs_cons (pg_name (i := 4) sc_turned_about.nd rfl (Or.inl rfl)) (pgs_cons (pg_name (i := 5) sc_turned_about.nd rfl (Or.inl rfl)) pgs_nil))))))
      (pss_cons (ps_while PassesOwn.never (pt_cmpR op_gt (pv 3) pe_int (nomark _)) (pss_cons (ps_set (i := 6) sc_turned_about.nd rfl (Or.inl rfl) (pe_op op_fdivW (pv 2) (pv 3)))
      (pss_cons (ps_par (i := 2) (j := 3) (by rfl) sc_turned_about.nd rfl rfl (by decide) rfl rfl (pa_cons (pv 3) (pa_cons (pe_op op_sub (pv 2) (pe_op op_mulB (pv 6) (pv 3))) pa_nil)) (by rfl))
      (pss_cons (ps_par (i := 4) (j := 5) (by rfl) sc_turned_about.nd rfl rfl (by decide) rfl rfl (pa_cons (pv 5) (pa_cons (pe_op op_sub (pv 4) (pe_op op_mulB (pv 6) (pv 5))) pa_nil)) (by rfl))
      pss_nil))))
      (pss_cons (ps_ret (pe_op op_mod (pv 4) (pv 1)))
      pss_nil))), Go.at ?_⟩
    refine g_asg4 (eu_tup (ea_cons (ev_var rfl) (ea_cons (ev_op (ev_var rfl) (ev_var rfl) (rv_I m0)) (ea_cons ev_c (ea_cons ev_c ea_nil)))) (by show 4 ≤ 100000; decide)) ?_
    refine g_while (fun σ => ∃ (one other x y : Int) (o : Option V), σ = [some (.int a), some (.int m), some (.int one), some (.int other), some (.int x), some (.int y), o] ∧ Eu a m one other x y ∧ 0 < one ∧ one ≤ m ∧ other < m)
      (fun σ => match σ with | [_, _, _, some (.int y), _, _, _] => y.toNat | _ => 0) ⟨_, _, _, _, _, rfl, Eu.start m0, m0, Int.le_refl m, Int.emod_lt_of_pos a m0⟩ ?_
    rintro σ ⟨one, other, x, y, o, rfl, E0', p1, p2, p3⟩
    have b := E0'.b
    have r0 := E0'.r
    have ly : Lv 1 y := by
      have h1 : (y.natAbs : Int) * 1 ≤ y.natAbs * one := Int.mul_le_mul_of_nonneg_left p1 (by omega)
      have h2 : 0 ≤ (x.natAbs : Int) * other := Int.mul_nonneg (by omega) r0
      exact lv_abs lm (by omega)
    refine ⟨_, et_test (ev_op (ev_var rfl) ev_c rv_I0), fun h => ?_, fun h => ?_⟩
    · have o0 : 0 < other := of_decide_eq_true h
      have lo : Lv 1 one := lv_le lm (by omega) p2
      have lt : Lv 1 other := lv_le lm (by omega) (by omega)
      have ld : Lv 1 (one / other) := lv_div lo o0
      refine g_asg (ev_op (ev_var rfl) (ev_var rfl) (rv_I (div_ok o0 lt))) ?_
      refine g_par (ea_cons (ev_var rfl) (ea_cons (ev_op (ev_var rfl) (ev_op (ev_var rfl) (ev_var rfl) (rv_I (mul_ok ld lt (by decide) (by decide)))) rv_I0) ea_nil)) ?_
      refine g_par (ea_cons (ev_var rfl) (ea_cons (ev_op (ev_var rfl) (ev_op (ev_var rfl) (ev_var rfl) (rv_I (mul_ok ld ly (by decide) (by decide)))) rv_I0) ea_nil)) ?_
      have hd := Int.emod_add_mul_ediv one other
      have h1 := Int.emod_nonneg one (show other ≠ 0 by omega)
      have h2 := Int.emod_lt_of_pos one o0
      have e1 : one - one / other * other = one % other := by rw [Int.mul_comm (one / other)]; omega
      refine g_next fun H' e => ⟨e, ⟨_, _, _, _, _, rfl, E0'.next o0, o0, by omega, by omega⟩, ?_⟩
      show (one - one / other * other).toNat < other.toNat
      omega
    · have z : other = 0 := by have := of_decide_eq_false h; omega
      subst z
      have hd := E0'.done m0 hg
      have h1 := Int.emod_nonneg x (show m ≠ 0 by omega)
      have h2 := Int.emod_lt_of_pos x m0
      refine g_ret (v := .int (theInv a m)) (ev_is (ev_op (ev_var rfl) (ev_var rfl) (rv_I m0)) ?_) k
      rw [theInv_eq m0 hg h1 h2 hd]
abbrev s_mark_at : Stmt := topS 17
theorem sc_mark_at : FnScope ["places", "step", "place", "by", "wide"] ["places", "step", "place"] (defScope s_mark_at) := ⟨rfl, rfl, rfl, by decide +kernel, rfl, by decide +kernel, by decide +kernel⟩
def spMarkAt : Sp := fun vs H Q _ => ∃ p s x : Int, vs = [.int p, .int s, .int x] ∧ Ring p s ∧ Lv 1 p ∧ 0 ≤ x ∧ x < p ∧ x % G p s = 0 ∧ ∀ H', Ex H H' → Q (.int (theAt p s x)) H'
theorem spv_markAt {H : Hp} {p s x : Int} (R : Ring p s) (l : Lv 1 p) (h1 : 0 ≤ x) (h2 : x < p) (h3 : x % G p s = 0) : SpV spMarkAt [.int p, .int s, .int x] H (.int (theAt p s x)) := fun H1 e Q q E => ⟨p, s, x, rfl, R, l, h1, h2, h3, q⟩
theorem ok_mark_at (F : Fun K "mark_at" "mark_at" s_mark_at f fd) (G_common : FnOk P w K mg base CX0 1 f1 fd1 ["one", "other"] spCommon) (A_common : At K mg "common" s_common ["one", "other"] f1 fd1) (G_turned_about : FnOk P w K mg base CX0 1 f2 fd2 ["number", "by"] spTurned) (A_turned_about : At K mg "turned_about" s_turned_about ["number", "by"] f2 fd2) :
    FnOk P w K mg base CX0 2 f fd ["places", "step", "place"] spMarkAt := by
  refine F.ok sc_mark_at (fun vs H Q E h => ?_) (fun cdv A outer s H vs Q E hr h => ?_)
  · obtain ⟨p, s, x, rfl, _⟩ := h
    rfl
  · obtain ⟨p, s, x, rfl, R, lp, x0, x1, xg, k⟩ := h
    have p1 := R.p
    have g0 : 0 < G p s := G_pos (by omega)
    have t0 : 0 < top p s := top_pos (by omega)
    have lG := lv_G R lp
    have lt := lv_top R lp
    have hg := coprime_of (p := p) (s := s) (by omega)
    have s0 : 0 ≤ s / G p s := Int.ediv_nonneg R.s0 (by omega)
    -- the inverse
    have inv : ∃ r, 0 ≤ r ∧ r < top p s ∧ r * (s / G p s) % top p s = 1 % top p s := by
      have st := Eu.start (a := s / G p s) t0
      obtain ⟨one, x', y', hE⟩ : ∃ one x' y', Eu (s / G p s) (top p s) one 0 x' y' := by
        have go : ∀ (n : Nat) (one other x y : Int), other.toNat ≤ n → Eu (s / G p s) (top p s) one other x y → ∃ one x' y', Eu (s / G p s) (top p s) one 0 x' y' := by
          intro n
          induction n with
          | zero =>
            intro one other x y hn hE
            have : other = 0 := by have := hE.r; omega
            subst this
            exact ⟨_, _, _, hE⟩
          | succ n ih =>
            intro one other x y hn hE
            by_cases z : 0 < other
            · refine ih _ _ _ _ ?_ (hE.next z)
              have hd := Int.emod_add_mul_ediv one other
              have h1 := Int.emod_nonneg one (show other ≠ 0 by omega)
              have h2 := Int.emod_lt_of_pos one z
              have e1 : one - one / other * other = one % other := by rw [Int.mul_comm (one / other)]; omega
              omega
            · have : other = 0 := by have := hE.r; omega
              subst this
              exact ⟨_, _, _, hE⟩
        exact go _ _ _ _ _ (Nat.le_refl _) st
      exact ⟨x' % top p s, Int.emod_nonneg _ (by omega), Int.emod_lt_of_pos _ t0, hE.done t0 hg⟩
    obtain ⟨r, r0, r1, r2⟩ := inv
    have eR := theInv_eq t0 hg r0 r1 r2
    have lr : Lv 1 r := lv_le lt r0 (by omega)
    have lx : Lv 1 x := lv_le lp x0 (by omega)
    refine ⟨_, (pss_cons (ps_set (i := 3) sc_mark_at.nd rfl (Or.inl rfl) (pe_call G_common (hr.mono (by omega)) rfl A_common.g A_common.fn.kp A_common.b .nil pass0 (pa_cons (pv 0) (pa_cons (pv 1) pa_nil))))
      (pss_cons (ps_set (i := 4) sc_mark_at.nd rfl (Or.inl rfl) (pe_op op_fdivW (pv 0) (pv 3)))
      (pss_cons (ps_ret (pe_op op_mod (pe_op op_mulB (pe_op op_fdivW (pv 2) (pv 3)) (pe_call G_turned_about (hr.mono (by omega)) rfl A_turned_about.g A_turned_about.fn.kp A_turned_about.b .nil pass0 (pa_cons (pe_op op_fdivW (pv 1) (pv 3)) (pa_cons (pv 4) pa_nil)))) (pv 4)))
      pss_nil))), Go.at ?_⟩
    refine g_asg (ev_call1 (ea_cons (ev_var rfl) (ea_cons (ev_var rfl) ea_nil)) (spv_common (by omega) R.s0)) ?_
    refine g_asg (v := .int (top p s)) (ev_op (ev_var rfl) (ev_var rfl) (rv_I (div_ok g0 lG))) ?_
    refine g_ret (v := .int (theAt p s x)) (ev_is (ev_op (ev_op (ev_op (ev_var rfl) (ev_var rfl) (rv_I (div_ok g0 lG))) (ev_is (ev_call1 (ea_cons (ev_op (ev_var rfl) (ev_var rfl) (rv_I (div_ok g0 lG))) (ea_cons (ev_var rfl) ea_nil)) (spv_turned t0 s0 hg lt)) (congrArg V.int eR)) (rv_I (mul_ok (lv_div lx g0) lr (by decide) (by decide)))) (ev_var rfl) (rv_I t0)) ?_) k
    rw [theAt_eq (k := x / G p s * r % top p s) (by omega) (Int.emod_nonneg _ (by omega)) (Int.emod_lt_of_pos _ t0) (mark_at_place (by omega) r2 x0 x1 xg)]
abbrev s_place_by : Stmt := topS 18
theorem sc_place_by : FnScope ["places", "step", "marks", "turn", "high", "middle", "low"] ["places", "step", "marks", "turn"] (defScope s_place_by) := ⟨rfl, rfl, rfl, by decide +kernel, rfl, by decide +kernel, by decide +kernel⟩
def spPlaceBy : Sp := fun vs H Q _ => ∃ p s m t : Int, vs = [.int p, .int s, .int m, .int t] ∧ Ring p s ∧ Lv 1 p ∧ 0 ≤ t ∧ t < m ∧ Lv 1 m ∧ ∀ H', Ex H H' → Q (.int (thePlace p s m t)) H'
theorem spv_placeBy {H : Hp} {p s m t : Int} (R : Ring p s) (l : Lv 1 p) (h1 : 0 ≤ t) (h2 : t < m) (l2 : Lv 1 m) : SpV spPlaceBy [.int p, .int s, .int m, .int t] H (.int (thePlace p s m t)) := fun H1 e Q q E => ⟨p, s, m, t, rfl, R, l, h1, h2, l2, q⟩
theorem ok_place_by (F : Fun K "place_by" "place_by" s_place_by f fd) (G_marks_to : FnOk P w K mg base CX0 2 f3 fd3 ["places", "step", "marks", "place"] spMarksTo) (A_marks_to : At K mg "marks_to" s_marks_to ["places", "step", "marks", "place"] f3 fd3) : FnOk P w K mg base CX0 3 f fd ["places", "step", "marks", "turn"] spPlaceBy := by
  refine F.ok sc_place_by (fun vs H Q E h => ?_) (fun cdv A outer s H vs Q E hr h => ?_)
  · obtain ⟨p, s, m, t, rfl, _⟩ := h
    rfl
  · obtain ⟨p, s, m, t, rfl, R, lp, t0, tm, lm, k⟩ := h
    have p1 := R.p
    refine ⟨_, (pss_cons (ps_par (i := 6) (j := 4) (by rfl) sc_place_by.nd rfl rfl (by decide) rfl rfl (pa_cons pe_int (pa_cons (pe_op op_sub (pv 0) pe_int) pa_nil)) (by rfl))
      (pss_cons (ps_while PassesOwn.never (pt_cmpR op_lt (pv 6) (pv 4) (nomark _)) (pss_cons (ps_set (i := 5) sc_place_by.nd rfl (Or.inl rfl) (pe_op op_fdivW (pe_op op_add (pv 6) (pv 4)) pe_int))
      (pss_cons (ps_if (pt_cmpR op_gt (pe_call G_marks_to (hr.mono (by omega)) rfl A_marks_to.g A_marks_to.fn.kp A_marks_to.b .nil pass0 (pa_cons (pv 0) (pa_cons (pv 1) (pa_cons (pv 2) (pa_cons (pv 5) pa_nil))))) (pv 3) (nomark _)) (pss_cons (ps_set (i := 4) sc_place_by.nd rfl (Or.inl rfl) (pv 5))
      pss_nil) (pss_cons (ps_set (i := 6) sc_place_by.nd rfl (Or.inl rfl) (pe_op op_add (pv 5) pe_int))
      pss_nil))
      pss_nil)))
      (pss_cons (ps_ret (pv 6))
      pss_nil))), Go.at ?_⟩
    refine g_par (ea_cons ev_c (ea_cons (ev_op (ev_var rfl) ev_c rv_I0) ea_nil)) ?_
    refine g_while (fun σ => ∃ (hi lo : Int) (o : Option V), σ = [some (.int p), some (.int s), some (.int m), some (.int t), some (.int hi), o, some (.int lo)] ∧ 0 ≤ lo ∧ lo ≤ hi ∧ hi < p ∧ t < RS.cnt p s m.toNat hi ∧ RS.cnt p s m.toNat (lo - 1) ≤ t)
      (fun σ => match σ with | [_, _, _, _, some (.int hi), _, some (.int lo)] => (hi - lo).toNat | _ => 0) ⟨p - 1, 0, none, rfl, Int.le_refl 0, by omega, by omega, by rw [cnt_all p s m.toNat (p - 1) (by omega) (by omega)]; omega, by rw [cnt_neg p s m.toNat (0 - 1) (by omega) (by omega)]; omega⟩ ?_
    rintro σ ⟨hi, lo, o, rfl, q0, q1, q2, q3, q4⟩
    refine ⟨_, et_test (ev_op (ev_var rfl) (ev_var rfl) rv_I0), fun h => ?_, fun h => ?_⟩
    · have hlt : lo < hi := of_decide_eq_true h
      refine g_asg (ev_op (ev_op (ev_var rfl) (ev_var rfl) rv_I0) ev_c (rv_I (div_ok (by decide) (lv_small (by decide))))) ?_
      have d1 : lo ≤ (lo + hi) / 2 := by omega
      have d2 : (lo + hi) / 2 < hi := by omega
      generalize (lo + hi) / 2 = md at *
      refine g_if (et_test (ev_op (ev_call1 (ea_cons (ev_var rfl) (ea_cons (ev_var rfl) (ea_cons (ev_var rfl) (ea_cons (ev_var rfl) ea_nil)))) (spv_marksTo R (by omega) (by omega) (by omega) lp lm)) (ev_var rfl) rv_I0)) (fun h2 => ?_) (fun h2 => ?_)
      · have c1 : RS.cnt p s m.toNat md > t := of_decide_eq_true h2
        exact g_asg (ev_var rfl) (g_next fun H' e => And.intro e (And.intro ⟨md, lo, _, rfl, q0, d1, by omega, c1, q4⟩ (by show (md - lo).toNat < (hi - lo).toNat; omega)))
      · have c1 : ¬ RS.cnt p s m.toNat md > t := of_decide_eq_false h2
        exact g_asg (ev_op (ev_var rfl) ev_c rv_I0) (g_next fun H' e => And.intro e (And.intro ⟨hi, md + 1, _, rfl, by omega, by omega, q2, q3, by rw [show md + 1 - 1 = md by omega]; omega⟩ (by show (hi - (md + 1)).toNat < (hi - lo).toNat; omega)))
    · have heq : lo = hi := by have := of_decide_eq_false h; omega
      subst heq
      exact g_ret (v := .int (thePlace p s m t)) (ev_is (ev_var rfl) (congrArg V.int (thePlace_eq q0 q2 q3 q4).symm)) k
abbrev s_mark_by : Stmt := topS 21
theorem sc_mark_by : FnScope ["places", "step", "marks", "turn"] ["places", "step", "marks", "turn"] (defScope s_mark_by) := ⟨rfl, rfl, rfl, by decide +kernel, rfl, by decide +kernel, by decide +kernel⟩
noncomputable def markByO (c : Cs) (p s m t : V) : Out := match marksO c p s m with
  | .err C => .err C
  | .val _ => (match markO c t m with
    | .err C => .err C
    | .val _ => .val (.int (theMark (iv p) (iv s) (iv m) (iv t))))
def spMarkBy (K : PySem.W.Frag) (c : Cs) : Sp := fun vs H Q E => ∃ p s m t, vs = [p, s, m, t] ∧ Kn K H p ∧ Kn K H s ∧ Kn K H m ∧ Kn K H t ∧ Fin (markByO c p s m t) H Q E
def spMarkByQ (K : PySem.W.Frag) (c : Cs) : Sp := fun vs H Q _ => spMarkBy K c vs H Q E0
theorem spx_markBy {K : PySem.W.Frag} {c : Cs} {H : Hp} {p s m t : V} (h1 : Kn K H p) (h2 : Kn K H s) (h3 : Kn K H m) (h4 : Kn K H t) : SpX (spMarkBy K c) [p, s, m, t] H (markByO c p s m t) :=
  fun H1 x Q E q r => ⟨p, s, m, t, rfl, h1.ex x, h2.ex x, h3.ex x, h4.ex x, q, r⟩
theorem markByO_ok {c : Cs} {p s m t : Int} (R : Ring p s) (m1 : 1 ≤ m) (m2 : m ≤ top p s) (t0 : 0 ≤ t) (tm : t < m) : markByO c (.int p) (.int s) (.int m) (.int t) = .val (.int (theMark p s m t)) := by
  unfold markByO
  rw [marksO_ok R m1 m2]
  show (match markO c (.int t) (.int m) with | .err C => Out.err C | .val _ => _) = _
  rw [markO_ok t0 (show t < iv (.int m) from tm)]
  rfl
theorem spv_markBy {K : PySem.W.Frag} {c : Cs} {H : Hp} {p s m t : Int} (R : Ring p s) (l : Lv 1 p) (m1 : 1 ≤ m) (m2 : m ≤ top p s) (t0 : 0 ≤ t) (tm : t < m) :
    SpV (spMarkByQ K c) [.int p, .int s, .int m, .int t] H (.int (theMark p s m t)) := by
  have lm : Lv 1 m := lv_le (lv_top R l) (by omega) m2
  have h := spx_markBy (K := K) (c := c) (H := H) (p := .int p) (s := .int s) (m := .int m) (t := .int t) l (R.ls l) lm (lv_le lm t0 (by omega))
  rw [markByO_ok R m1 m2 t0 tm] at h
  exact fun H1 x Q q E => spv_of h H1 x Q q E0
theorem ok_mark_by {c : Cs} (F : Fun K "mark_by" "mark_by" s_mark_by f fd) (G_check_marks : FnOk P w K mg base (L2.CX P w) 3 f1 fd1 ["places", "step", "marks"] (spMarks K c)) (A_check_marks : At K mg "check_marks" s_check_marks ["places", "step", "marks"] f1 fd1)
    (G_check_mark : FnOk P w K mg base (L2.CX P w) 2 f2 fd2 ["mark", "marks"] (spMark K c)) (A_check_mark : At K mg "check_mark" s_check_mark ["mark", "marks"] f2 fd2)
    (G_mark_at : FnOk P w K mg base CX0 2 f3 fd3 ["places", "step", "place"] spMarkAt) (A_mark_at : At K mg "mark_at" s_mark_at ["places", "step", "place"] f3 fd3) (G_place_by : FnOk P w K mg base CX0 3 f4 fd4 ["places", "step", "marks", "turn"] spPlaceBy) (A_place_by : At K mg "place_by" s_place_by ["places", "step", "marks", "turn"] f4 fd4) : FnOk P w K mg base (L2.CX P w) 4 f fd ["places", "step", "marks", "turn"] (spMarkBy K c) := by
  refine F.okX sc_mark_by (fun vs H Q E h => ?_) (fun cdv A outer s H vs Q E hr h => ?_)
  · obtain ⟨p, s, m, t, rfl, _⟩ := h
    rfl
  · obtain ⟨p, s, m, t, rfl, h1, h2, h3, h4, q⟩ := h
    refine ⟨_, (pss_cons (ps_expr (pe_call G_check_marks (hr.mono (by omega)) rfl A_check_marks.g A_check_marks.fn.kp A_check_marks.b .nil (passes_call (takes_of rfl rfl rfl rfl) (fun _ _ _ _ h => h)) (pa_cons (pv 0) (pa_cons (pv 1) (pa_cons (pv 2) pa_nil)))))
      (pss_cons (ps_expr (pe_call G_check_mark (hr.mono (by omega)) rfl A_check_mark.g A_check_mark.fn.kp A_check_mark.b .nil (passes_call (takes_of rfl rfl rfl rfl) (fun _ _ _ _ h => h)) (pa_cons (pv 3) (pa_cons (pv 2) pa_nil))))
      (pss_cons (ps_ret (pe_call G_mark_at (hr.mono (by omega)) rfl A_mark_at.g A_mark_at.fn.kp A_mark_at.b .nil pass0 (pa_cons (pv 0) (pa_cons (pv 1) (pa_cons (pe_call G_place_by (hr.mono (by omega)) rfl A_place_by.g A_place_by.fn.kp A_place_by.b .nil pass0 (pa_cons (pv 0) (pa_cons (pv 1) (pa_cons (pv 2) (pa_cons (pv 3) pa_nil))))) pa_nil)))))
      pss_nil))), Go.at ?_⟩
    refine g_dropX (evx_call (ea_cons (ev_var rfl) (ea_cons (ev_var rfl) (ea_cons (ev_var rfl) ea_nil))) (spx_marks h1 h2 h3)) (fun v hv => ?_) (fun C hC H1 x => q.2 C (by unfold markByO; rw [hC]) H1 x)
    obtain ⟨rfl, P, S, M, rfl, rfl, rfl, R, m1, m2⟩ := marksO_val hv
    refine g_dropX (evx_call (ea_cons (ev_var rfl) (ea_cons (ev_var rfl) ea_nil)) (spx_mark h4)) (fun v hv2 => ?_) (fun C hC H1 x => q.2 C (by unfold markByO; rw [hv]; show (match markO c t (.int M) with | .err C => Out.err C | .val _ => _) = _; rw [hC]) H1 x)
    obtain ⟨rfl, i, rfl, i0, im⟩ := markO_val hv2
    have im : i < M := im
    rw [markByO_ok R m1 m2 i0 im] at q
    have p1 := R.p
    obtain ⟨b0, b1, b2⟩ := thePlace_mult (s := S) (show 0 < P by omega) m2 i0 im
    exact g_ret (v := .int (theMark P S M i)) (ev_is (ev_call1 (ea_cons (ev_var rfl) (ea_cons (ev_var rfl) (ea_cons (ev_call1 (ea_cons (ev_var rfl) (ea_cons (ev_var rfl) (ea_cons (ev_var rfl) (ea_cons (ev_var rfl) ea_nil)))) (spv_placeBy R h1 i0 im h3)) ea_nil))) (spv_markAt R h1 b0 b1 b2)) (congrArg V.int (theMark_at (by omega) m2 i0 im))) q.val
abbrev s_beside : Stmt := topS 22
theorem sc_beside : FnScope ["places", "step", "marks", "place", "turn"] ["places", "step", "marks", "place"] (defScope s_beside) := ⟨rfl, rfl, rfl, by decide +kernel, rfl, by decide +kernel, by decide +kernel⟩
def placeO (c : Cs) (x p : V) : Out := if okIn x 0 (iv p - 1) then .val .non else .err c.cl
def besideO (c : Cs) (p s m x : V) : Out := match marksO c p s m with
  | .err C => .err C
  | .val _ => placeO c x p
noncomputable def besA (p s m x : Int) : Int := theMark p s m (RS.cnt p s m.toNat x - 1)
noncomputable def besB (p s m x : Int) : Int := theMark p s m (RS.cnt p s m.toNat x % m)
def spBeside (K : PySem.W.Frag) (c : Cs) : Sp := fun vs H Q E => ∃ p s m x, vs = [p, s, m, x] ∧ Kn K H p ∧ Kn K H s ∧ Kn K H m ∧ Kn K H x ∧ (∀ C, besideO c p s m x = .err C → ∀ H', Ex H H' → E (.ref C) none H') ∧
  (∀ v, besideO c p s m x = .val v → ∀ q H', H q = none → Ex H H' → H' q = some (.tup [.int (besA (iv p) (iv s) (iv m) (iv x)), .int (besB (iv p) (iv s) (iv m) (iv x))]) → Q (.ref q) H')
def spBesideQ (K : PySem.W.Frag) (c : Cs) : Sp := fun vs H Q _ => spBeside K c vs H Q E0
theorem besideO_ok {c : Cs} {p s m x : Int} (R : Ring p s) (m1 : 1 ≤ m) (m2 : m ≤ top p s) (x0 : 0 ≤ x) (xp : x < p) : besideO c (.int p) (.int s) (.int m) (.int x) = .val .non := by
  unfold besideO
  rw [marksO_ok R m1 m2]
  show placeO c (.int x) (.int p) = _
  exact if_pos (okIn_iff.mpr ⟨x, rfl, x0, by show x ≤ p - 1; omega⟩)
theorem eu_beside {c : Cs} {σ : L2.St} {H : Hp} {ta : TA} {E : XK} {p s m x : Int} (R : Ring p s) (l : Lv 1 p) (m1 : 1 ≤ m) (m2 : m ≤ top p s) (x0 : 0 ≤ x) (xp : x < p) (h : EvA ta σ H [.int p, .int s, .int m, .int x]) :
    EvU (tCall (spBesideQ K c) [] E ta) σ H [.int (besA p s m x), .int (besB p s m x)] := fun H1 e Q q =>
  h H1 e _ fun H2 e2 => by
    have lm : Lv 1 m := lv_le (lv_top R l) (by omega) m2
    refine ⟨.int p, .int s, .int m, .int x, rfl, l, R.ls l, lm, lv_le l x0 (by omega), fun C hC => ?_, fun v _ q' H3 nq e3 hq => q q' H3 (fresh_back e2 nq) (e2.trans e3) hq⟩
    rw [besideO_ok R m1 m2 x0 xp] at hC
    cases hC
theorem cnt_pos {p s m x : Int} (hp : 0 < p) (m1 : 1 ≤ m) (x0 : 0 ≤ x) : 1 ≤ RS.cnt p s m.toNat x := by
  have h := rank_nn (p := p) (s := s) (n := m.toNat) (i := 0) (by omega)
  have e : ((0 : Nat) : Int) * s % p = 0 := by simp
  rw [e] at h
  have := cnt_mono p s m.toNat x0
  omega
theorem ok_beside {c : Cs} (F : Fun K "beside" "beside" s_beside f fd) (G_check_marks : FnOk P w K mg base (L2.CX P w) 3 f1 fd1 ["places", "step", "marks"] (spMarks K c)) (A_check_marks : At K mg "check_marks" s_check_marks ["places", "step", "marks"] f1 fd1)
    (G_is_number : FnOk P w K mg base CX0 1 f2 fd2 ["thing", "least", "most"] (spIsNum K)) (A_is_number : At K mg "is_number" s_is_number ["thing", "least", "most"] f2 fd2)
    (G_marks_to : FnOk P w K mg base CX0 2 f3 fd3 ["places", "step", "marks", "place"] spMarksTo) (A_marks_to : At K mg "marks_to" s_marks_to ["places", "step", "marks", "place"] f3 fd3)
    (G_mark_by : FnOk P w K mg base (L2.CX P w) 4 f4 fd4 ["places", "step", "marks", "turn"] (spMarkBy K c)) (A_mark_by : At K mg "mark_by" s_mark_by ["places", "step", "marks", "turn"] f4 fd4) (E_BadPlace : ErrAt K mg "BadPlace" c.cl) :
    FnOk P w K mg base (L2.CX P w) 5 f fd ["places", "step", "marks", "place"] (spBeside K c) := by
  refine F.okX sc_beside (fun vs H Q E h => ?_) (fun cdv A outer s H vs Q E hr h => ?_)
  · obtain ⟨p, s, m, x, rfl, _⟩ := h
    rfl
  · obtain ⟨p, s, m, x, rfl, h1, h2, h3, h4, qe, qv⟩ := h
    refine ⟨_, (pss_cons (ps_expr (pe_call G_check_marks (hr.mono (by omega)) rfl A_check_marks.g A_check_marks.fn.kp A_check_marks.b .nil (passes_call (takes_of rfl rfl rfl rfl) (fun _ _ _ _ h => h)) (pa_cons (pv 0) (pa_cons (pv 1) (pa_cons (pv 2) pa_nil)))))
      (pss_cons (ps_if (pt_not (pt_val (pe_call G_is_number (hr.mono (by omega)) rfl A_is_number.g A_is_number.fn.kp A_is_number.b .nil pass0 (pa_cons (pv 3) (pa_cons pe_int (pa_cons (pe_op op_sub (pv 0) pe_int) pa_nil)))))) (pss_cons (ps_raise rfl (takes_of rfl rfl rfl rfl) (pmk_own PySem.F.excBase_ValueError E_BadPlace.x E_BadPlace.g E_BadPlace.k (raises_own E_BadPlace.b E_BadPlace.t) rfl))
      pss_nil) pss_nil)
      (pss_cons (ps_set (i := 4) sc_beside.nd rfl (Or.inl rfl) (pe_call G_marks_to (hr.mono (by omega)) rfl A_marks_to.g A_marks_to.fn.kp A_marks_to.b .nil pass0 (pa_cons (pv 0) (pa_cons (pv 1) (pa_cons (pv 2) (pa_cons (pv 3) pa_nil))))))
      (pss_cons (ps_ret (pe_tup (pa_cons (pe_call G_mark_by (hr.mono (by omega)) rfl A_mark_by.g A_mark_by.fn.kp A_mark_by.b .nil (passes_call (takes_of rfl rfl rfl rfl) (fun _ _ _ _ h => h)) (pa_cons (pv 0) (pa_cons (pv 1) (pa_cons (pv 2) (pa_cons (pe_op op_sub (pv 4) pe_int) pa_nil))))) (pa_cons (pe_call G_mark_by (hr.mono (by omega)) rfl A_mark_by.g A_mark_by.fn.kp A_mark_by.b .nil (passes_call (takes_of rfl rfl rfl rfl) (fun _ _ _ _ h => h)) (pa_cons (pv 0) (pa_cons (pv 1) (pa_cons (pv 2) (pa_cons (pe_op op_mod (pv 4) (pv 2)) pa_nil))))) pa_nil))))
      pss_nil)))), Go.at ?_⟩
    refine g_dropX (evx_call (ea_cons (ev_var rfl) (ea_cons (ev_var rfl) (ea_cons (ev_var rfl) ea_nil))) (spx_marks h1 h2 h3)) (fun v hv => ?_) (fun C hC H1 x => qe C (by unfold besideO; rw [hC]) H1 x)
    obtain ⟨rfl, P, S, M, rfl, rfl, rfl, R, m1, m2⟩ := marksO_val hv
    have eO : besideO c (.int P) (.int S) (.int M) x = if okIn x 0 (P - 1) then .val .non else .err c.cl := by
      unfold besideO
      rw [hv]
      rfl
    have p1 := R.p
    refine g_when (et_not (et_B (ev_call1 (ea_cons (ev_var rfl) (ea_cons ev_c (ea_cons (ev_op (ev_var rfl) ev_c rv_I0) ea_nil))) (spv_isNum h4 fun i e => ⟨_, rfl⟩)))) (fun h => ?_) (fun h => ?_)
    · rw [numW_okIn] at h
      rw [if_neg (by first | exact nf h | exact nt h)] at eO
      exact g_raise fun H1 e => qe _ eO H1 e
    · rw [numW_okIn] at h
      have hx : okIn x 0 (P - 1) = true := by first | exact nt h | exact nf h
      rw [if_pos hx] at eO
      obtain ⟨X, rfl, x0, x1⟩ := okIn_iff.mp hx
      have t1 := cnt_pos (p := P) (s := S) (show 0 < P by omega) m1 x0
      have t2 := cnt_le P S M.toNat X
      have t3 := Int.emod_nonneg (RS.cnt P S M.toNat X) (show M ≠ 0 by omega)
      have t4 := Int.emod_lt_of_pos (RS.cnt P S M.toNat X) (show 0 < M by omega)
      have mb : ∀ {t : Int} {H : Hp}, 0 ≤ t → t < M → SpV (spMarkBy K c) [.int P, .int S, .int M, .int t] H (.int (theMark P S M t)) := fun {t H} a b => by
        have hh := spx_markBy (K := K) (c := c) (H := H) (p := .int P) (s := .int S) (m := .int M) (t := .int t) h1 h2 h3 (lv_le h3 a (by omega))
        rw [markByO_ok R m1 m2 a b] at hh
        exact spv_of hh
      refine g_asg (ev_call1 (ea_cons (ev_var rfl) (ea_cons (ev_var rfl) (ea_cons (ev_var rfl) (ea_cons (ev_var rfl) ea_nil)))) (spv_marksTo R (by omega) x0 (by omega) h1 h3)) ?_
      exact g_retU (eu_tup (ea_cons (ev_call1 (ea_cons (ev_var rfl) (ea_cons (ev_var rfl) (ea_cons (ev_var rfl) (ea_cons (ev_op (ev_var rfl) ev_c rv_I0) ea_nil)))) (mb (by omega) (by omega))) (ea_cons (ev_call1 (ea_cons (ev_var rfl) (ea_cons (ev_var rfl) (ea_cons (ev_var rfl) (ea_cons (ev_op (ev_var rfl) (ev_var rfl) (rv_I (show (0 : Int) < M by omega))) ea_nil)))) (mb t3 t4)) ea_nil)) (by show 2 ≤ 100000; decide)) fun q H1 nq e hq => qv _ eO q H1 nq e hq
/-! ### the law's own numbers -/
abbrev s__law_number : Stmt := topS 24
theorem sc__law_number : FnScope ["_law_cell", "_law_at", "_law_whole_here", "_law_mixed", "_law_more"] ["_law_cell", "_law_at", "_law_whole_here"] (defScope s__law_number) := ⟨rfl, rfl, rfl, by decide +kernel, rfl, by decide +kernel, by decide +kernel⟩
def lawNum (c a h : Int) : Int := if 1000000000000000000 ≤ c then c else
  let m := ((c + 977 * a) * 48271 + h) % 2147483647
  let o := m * (m + 31 * a + 7) * (m + c + 5)
  o * (o + 48271) / 1009
def spNum : Sp := fun vs H Q _ => ∃ c a h : Int, vs = [.int c, .int a, .int h] ∧ Lv 132 c ∧ Lv 1 a ∧ Lv 400 h ∧ ∀ H', Ex H H' → Q (.int (lawNum c a h)) H'
theorem spv_num {H : Hp} {c a h : Int} (h1 : Lv 132 c) (h2 : Lv 1 a) (h3 : Lv 400 h) : SpV spNum [.int c, .int a, .int h] H (.int (lawNum c a h)) := fun H1 e Q q E => ⟨c, a, h, rfl, h1, h2, h3, q⟩
theorem lv_num {c a h : Int} (h1 : Lv 132 c) (h2 : Lv 1 a) : Lv 600 (lawNum c a h) := by
  unfold lawNum
  split
  · exact lv_mono h1 (by decide)
  · have lm : Lv 1 (((c + 977 * a) * 48271 + h) % 2147483647) := lv_mod (lv_small (by decide)) (by decide)
    have k9 : Lv 1 (31 : Int) := lv_small (by decide)
    have k7 : Lv 1 (7 : Int) := lv_small (by decide)
    have k5 : Lv 1 (5 : Int) := lv_small (by decide)
    have k4 : Lv 1 (48271 : Int) := lv_small (by decide)
    have lo := lv_mul (lv_mul lm (lv_add (lv_add lm (lv_mul k9 h2)) k7)) (lv_add (lv_add lm h1) k5)
    exact lv_mono (lv_div (lv_mul lo (lv_add lo k4)) (by decide)) (by decide)
theorem ok__law_number (F : Fun K "_law_number" "_law_number" s__law_number f fd) : FnOk P w K mg base CX0 1 f fd ["_law_cell", "_law_at", "_law_whole_here"] spNum := by
  refine F.ok sc__law_number (fun vs H Q E h => ?_) (fun cdv A outer s H vs Q E hr h => ?_)
  · obtain ⟨c, a, h, rfl, _⟩ := h
    rfl
  · obtain ⟨c, a, h, rfl, h1, h2, h3, k⟩ := h
    have k9 : Lv 1 (31 : Int) := lv_small (by decide)
    have k7 : Lv 1 (7 : Int) := lv_small (by decide)
    have k5 : Lv 1 (5 : Int) := lv_small (by decide)
    have k4 : Lv 1 (48271 : Int) := lv_small (by decide)
    have k977 : Lv 1 (977 : Int) := lv_small (by decide)
    have k1009 : Lv 1 (1009 : Int) := lv_small (by decide)
    refine ⟨_, (pss_cons (ps_if (pt_cmpR op_ge (pv 0) (pe_op op_pow pe_int pe_int) (nomark _)) (pss_cons (ps_ret (pv 0))
      pss_nil) pss_nil)
      (pss_cons (ps_set (i := 3) sc__law_number.nd rfl (Or.inl rfl) (pe_op op_mod (pe_op op_add (pe_op op_mulB (pe_op op_add (pv 0) (pe_op op_mulB pe_int (pv 1))) pe_int) (pv 2)) pe_int))
      (pss_cons (ps_set (i := 4) sc__law_number.nd rfl (Or.inl rfl) (pe_op op_mulB (pe_op op_mulB (pv 3) (pe_op op_add (pe_op op_add (pv 3) (pe_op op_mulB pe_int (pv 1))) pe_int)) (pe_op op_add (pe_op op_add (pv 3) (pv 0)) pe_int)))
      (pss_cons (ps_ret (pe_op op_fdivW (pe_op op_mulB (pv 4) (pe_op op_add (pv 4) pe_int)) pe_int))
      pss_nil)))), Go.at ?_⟩
    refine g_when (et_test (ev_op (ev_var rfl) (ev_op ev_c ev_c (rv_I ⟨by decide, by decide, by decide⟩)) rv_I0)) (fun hc => ?_) (fun hc => ?_)
    · have e : (1000000000000000000 : Int) ≤ c := of_decide_eq_true hc
      refine g_ret (v := .int (lawNum c a h)) (ev_is (ev_var rfl) ?_) k
      unfold lawNum
      rw [if_pos e]
    · have e : ¬ (1000000000000000000 : Int) ≤ c := of_decide_eq_false hc
      have lm : Lv 1 (((c + 977 * a) * 48271 + h) % 2147483647) := lv_mod (lv_small (by decide)) (by decide)
      have lo := lv_mul (lv_mul lm (lv_add (lv_add lm (lv_mul k9 h2)) k7)) (lv_add (lv_add lm h1) k5)
      refine g_asg (ev_op (ev_op (ev_op (ev_op (ev_var rfl) (ev_op ev_c (ev_var rfl) (rv_I (mul_ok k977 h2 (by decide) (by decide)))) rv_I0) ev_c (rv_I (mul_ok (lv_add h1 (lv_mul k977 h2)) k4 (by decide) (by decide)))) (ev_var rfl) rv_I0) ev_c (rv_I (show (0 : Int) < 2147483647 by decide))) ?_
      refine g_asg (ev_op (ev_op (ev_var rfl) (ev_op (ev_op (ev_var rfl) (ev_op ev_c (ev_var rfl) (rv_I (mul_ok k9 h2 (by decide) (by decide)))) rv_I0) ev_c rv_I0) (rv_I (mul_ok lm (lv_add (lv_add lm (lv_mul k9 h2)) k7) (by decide) (by decide))))
        (ev_op (ev_op (ev_var rfl) (ev_var rfl) rv_I0) ev_c rv_I0) (rv_I (mul_ok (lv_mul lm (lv_add (lv_add lm (lv_mul k9 h2)) k7)) (lv_add (lv_add lm h1) k5) (by decide) (by decide)))) ?_
      refine g_ret (v := .int (lawNum c a h)) (ev_is (ev_op (ev_op (ev_var rfl) (ev_op (ev_var rfl) ev_c rv_I0) (rv_I (mul_ok lo (lv_add lo k4) (by decide) (by decide)))) ev_c (rv_I (div_ok (by decide) k1009))) ?_) k
      unfold lawNum
      rw [if_neg e]
abbrev s__law_common : Stmt := topS 26
theorem sc__law_common : FnScope ["_law_one", "_law_other"] ["_law_one", "_law_other"] (defScope s__law_common) := ⟨rfl, rfl, rfl, by decide +kernel, rfl, by decide +kernel, by decide +kernel⟩
theorem ok__law_common (F : Fun K "_law_common" "_law_common" s__law_common f fd) : FnOk P w K mg base CX0 1 f fd ["_law_one", "_law_other"] spCommon := by
  refine F.ok sc__law_common (fun vs H Q E h => ?_) (fun cdv A outer s H vs Q E hr h => ?_)
  · obtain ⟨a, b, rfl, _⟩ := h
    rfl
  · obtain ⟨a, b, rfl, ha, hb, k⟩ := h
    refine ⟨_, (pss_cons (ps_while PassesOwn.never (pt_cmpR op_gt (pv 1) pe_int (nomark _)) (pss_cons (ps_par (i := 0) (j := 1) (by rfl) sc__law_common.nd rfl rfl (by decide) rfl rfl (pa_cons (pv 1) (pa_cons (pe_op op_mod (pv 0) (pv 1)) pa_nil)) (by rfl))
      pss_nil))
      (pss_cons (ps_ret (pv 0))
      pss_nil)), Go.at ?_⟩
    refine g_while (fun σ => ∃ x y : Int, σ = [some (.int x), some (.int y)] ∧ 0 ≤ x ∧ 0 ≤ y ∧ G x y = G a b) (fun σ => match σ with | [_, some (.int y)] => y.toNat | _ => 0) ⟨a, b, rfl, ha, hb, rfl⟩ ?_
    rintro σ ⟨x, y, rfl, hx, hy, hg⟩
    refine ⟨_, et_test (ev_op (ev_var rfl) ev_c rv_I0), fun hb => ?_, fun hb => ?_⟩
    · have hy : 0 < y := of_decide_eq_true hb
      refine g_par (ea_cons (ev_var rfl) (ea_cons (ev_op (ev_var rfl) (ev_var rfl) (rv_I hy)) ea_nil)) (g_next fun H' e => ⟨e, ⟨y, x % y, rfl, by omega, Int.emod_nonneg _ (by omega), by rw [G_step x y hy, hg]⟩, ?_⟩)
      have := Int.emod_lt_of_pos x hy
      have := Int.emod_nonneg x (show y ≠ 0 by omega)
      show (x % y).toNat < y.toNat
      omega
    · have hy0 : y = 0 := by have := of_decide_eq_false hb; omega
      subst hy0
      rw [G_zero hx] at hg
      subst hg
      exact g_ret (ev_var rfl) k
abbrev s__law_rounds : Stmt := topS 27
theorem sc__law_rounds : FnScope ["_law_many", "_law_by", "_law_times", "_law_more", "_law_whole_here", "_law_last"] ["_law_many", "_law_by", "_law_times", "_law_more"] (defScope s__law_rounds) := ⟨rfl, rfl, rfl, by decide +kernel, rfl, by decide +kernel, by decide +kernel⟩
/-- how deep the sum goes: the row 0, 1, 1, 2, 3, 5 .. -/
def fbp : Nat → Int × Int
  | 0 => (0, 1)
  | n + 1 => ((fbp n).2, (fbp n).1 + (fbp n).2)
def fb (n : Nat) : Int := (fbp n).1
theorem fb_next (n : Nat) : fb (n + 2) = fb (n + 1) + fb n := by
  show (fbp n).1 + (fbp n).2 = (fbp n).2 + (fbp n).1
  omega
def dep (n : Nat) (b t : Int) : Prop := b < fb (n + 2) ∨ (b < t ∧ t < fb (n + 3))
theorem dep_zero {b t : Int} (h : dep 0 b t) : b < 1 := by
  have e2 : fb (0 + 2) = 1 := by decide
  have e3 : fb (0 + 3) = 2 := by decide
  unfold dep at h
  rw [e2, e3] at h
  omega
theorem dep_next {n : Nat} {b t : Int} (h : dep (n + 1) b t) (hb : 0 < b) (ht : 0 ≤ t) : dep n (t % b) b := by
  unfold dep at *
  have h1 := Int.emod_nonneg t (show b ≠ 0 by omega)
  have h2 := Int.emod_lt_of_pos t hb
  have h3 := Int.emod_add_mul_ediv t b
  have e1 : n + 1 + 2 = n + 3 := by omega
  have e2 : n + 1 + 3 = (n + 2) + 2 := by omega
  have e3 := fb_next (n + 2)
  have e4 : n + 2 + 1 = n + 3 := by omega
  rw [e1, e2, e3, e4] at h
  rcases h with h | ⟨h4, h5⟩
  · exact .inr ⟨h2, h⟩
  · rcases Int.lt_or_le b (fb (n + 3)) with q | q
    · exact .inr ⟨h2, q⟩
    · have q1 : 1 ≤ t / b := Int.le_ediv_of_mul_le hb (by omega)
      have : b * 1 ≤ b * (t / b) := Int.mul_le_mul_of_nonneg_left q1 (by omega)
      exact .inl (by omega)
def spRounds (n : Nat) : Sp := fun vs H Q _ => ∃ (k : Nat) (b t m : Int), vs = [.int k, .int b, .int t, .int m] ∧ 0 < b ∧ 0 ≤ t ∧ 0 ≤ m ∧ dep n b t ∧ Lv 1 k ∧ Lv 1 b ∧ Lv 1 t ∧ Lv 1 m ∧ ∀ H', Ex H H' → Q (.int (S k b t m)) H'
theorem spv_rounds {H : Hp} {n : Nat} {k b t m : Int} (h0 : 0 ≤ k) (h1 : 0 < b) (h2 : 0 ≤ t) (h3 : 0 ≤ m) (h4 : dep n b t) (l1 : Lv 1 k) (l2 : Lv 1 b) (l3 : Lv 1 t) (l4 : Lv 1 m) : SpV (spRounds n) [.int k, .int b, .int t, .int m] H (.int (S k.toNat b t m)) := fun H1 e Q q E => by
  have : ((k.toNat : Nat) : Int) = k := by omega
  exact ⟨k.toNat, b, t, m, by rw [this], h1, h2, h3, h4, by rw [this]; exact l1, l2, l3, l4, q⟩
theorem ok__law_rounds (F : Fun K "_law_rounds" "_law_rounds" s__law_rounds f fd) (A__law_rounds : At K mg "_law_rounds" s__law_rounds ["_law_many", "_law_by", "_law_times", "_law_more"] f fd) : ∀ n, FnOk P w K mg base CX0 (n + 1) f fd ["_law_many", "_law_by", "_law_times", "_law_more"] (spRounds n) := by
  intro n
  induction n with
  | zero =>
    refine F.ok sc__law_rounds (fun vs H Q E h => ?_) (fun cdv A outer s H vs Q E hr h => ?_)
    · obtain ⟨k, b, t, m, rfl, _⟩ := h
      rfl
    · obtain ⟨k, b, t, m, rfl, h1, h2, h3, h4, _⟩ := h
      have := dep_zero h4
      exact absurd h1 (by omega)
  | succ n ih =>
    have G__law_rounds := ih
    refine F.ok sc__law_rounds (fun vs H Q E h => ?_) (fun cdv A outer s H vs Q E hr h => ?_)
    · obtain ⟨k, b, t, m, rfl, _⟩ := h
      rfl
    · obtain ⟨k, b, t, m, rfl, hb, ht, hm, hd, lk, lb, lt, lm, q⟩ := h
      refine ⟨_, (pss_cons (ps_if (pt_cmpR op_eq (pv 0) pe_int (nomark _)) (pss_cons (ps_ret pe_int)
      pss_nil) pss_nil)
      (pss_cons (ps_set (i := 4) sc__law_rounds.nd rfl (Or.inl rfl) (pe_op op_add (pe_op op_mulB (pe_op op_fdivW (pe_op op_mulB (pv 0) (pe_op op_sub (pv 0) pe_int)) pe_int) (pe_op op_fdivW (pv 2) (pv 1))) (pe_op op_mulB (pv 0) (pe_op op_fdivW (pv 3) (pv 1)))))
      (pss_cons (ps_par (i := 2) (j := 3) (by rfl) sc__law_rounds.nd rfl rfl (by decide) rfl rfl (pa_cons (pe_op op_mod (pv 2) (pv 1)) (pa_cons (pe_op op_mod (pv 3) (pv 1)) pa_nil)) (by rfl))
      (pss_cons (ps_set (i := 5) sc__law_rounds.nd rfl (Or.inl rfl) (pe_op op_fdivW (pe_op op_add (pe_op op_mulB (pv 2) (pv 0)) (pv 3)) (pv 1)))
      (pss_cons (ps_if (pt_cmpR op_eq (pv 5) pe_int (nomark _)) (pss_cons (ps_ret (pv 4))
      pss_nil) pss_nil)
      (pss_cons (ps_ret (pe_op op_add (pv 4) (pe_call G__law_rounds (hr.mono (by omega)) rfl A__law_rounds.g A__law_rounds.fn.kp A__law_rounds.b .nil pass0 (pa_cons (pv 5) (pa_cons (pv 2) (pa_cons (pv 1) (pa_cons (pe_op op_mod (pe_op op_add (pe_op op_mulB (pv 2) (pv 0)) (pv 3)) (pv 1)) pa_nil)))))))
      pss_nil)))))), Go.at ?_⟩
      refine g_when (et_test (ev_op (ev_var rfl) ev_c (rv_eq rfl))) (fun h => ?_) (fun h => ?_)
      · have hk : (k : Int) = 0 := by have := of_decide_eq_true h; injection this
        have : k = 0 := by omega
        subst this
        exact g_ret ev_c q
      have hk : 0 < (k : Int) := by
        have h1 := of_decide_eq_false h
        rcases Int.lt_or_le 0 (k : Int) with z | z
        · exact z
        · exact absurd (show V.int (k : Int) = V.int 0 by congr 1; omega) h1
      refine g_asg (ev_op (ev_op (ev_op (ev_op (ev_var rfl) (ev_op (ev_var rfl) ev_c rv_I0) (rv_I (mul_ok lk (lv_sub lk (lv_small (by decide))) (by decide) (by decide)))) ev_c (rv_I (div_ok (by decide) (lv_small (by decide)))))
        (ev_op (ev_var rfl) (ev_var rfl) (rv_I (div_ok hb lb))) (rv_I (mul_ok (lv_div (lv_mul lk (lv_sub lk (lv_small (by decide)))) (by decide)) (lv_div lt hb) (by decide) (by decide))))
        (ev_op (ev_var rfl) (ev_op (ev_var rfl) (ev_var rfl) (rv_I (div_ok hb lb))) (rv_I (mul_ok lk (lv_div lm hb) (by decide) (by decide)))) rv_I0) ?_
      refine g_par (ea_cons (ev_op (ev_var rfl) (ev_var rfl) (rv_I hb)) (ea_cons (ev_op (ev_var rfl) (ev_var rfl) (rv_I hb)) ea_nil)) ?_
      refine g_asg (ev_op (ev_op (ev_op (ev_var rfl) (ev_var rfl) (rv_I (mul_ok (lv_mod lb hb) lk (by decide) (by decide)))) (ev_var rfl) rv_I0) (ev_var rfl) (rv_I (div_ok hb lb))) ?_
      have red := S_red k b t m hb
      have a0 := Int.emod_nonneg t (show b ≠ 0 by omega)
      have a1 := Int.emod_lt_of_pos t hb
      have b0 := Int.emod_nonneg m (show b ≠ 0 by omega)
      have b1 := Int.emod_lt_of_pos m hb
      have x0 : 0 ≤ t % b * (k : Int) := Int.mul_nonneg a0 (by omega)
      have q0 : 0 ≤ (t % b * (k : Int) + m % b) / b := Int.ediv_nonneg (by omega) (by omega)
      refine g_when (et_test (ev_op (ev_var rfl) ev_c (rv_eq rfl))) (fun h => ?_) (fun h => ?_)
      · have hl : (t % b * (k : Int) + m % b) / b = 0 := by have := of_decide_eq_true h; injection this
        have h1 : t % b * (k : Int) + m % b < b := by
          have d := Int.emod_add_mul_ediv (t % b * (k : Int) + m % b) b
          have e := Int.emod_lt_of_pos (t % b * (k : Int) + m % b) hb
          rw [hl, Int.mul_zero] at d
          omega
        have z := S_zero k b (t % b) (m % b) hb a0 b0 h1
        rw [z] at red
        refine g_ret (v := .int (S k b t m)) (ev_is (ev_var rfl) ?_) q
        rw [red]
        simp
      · have hl : (t % b * (k : Int) + m % b) / b ≠ 0 := fun z => by
          have h1 := of_decide_eq_false h
          rw [z] at h1
          exact h1 rfl
        have ap : 0 < t % b := by
          rcases Int.lt_or_le 0 (t % b) with z | z
          · exact z
          · have : t % b = 0 := by omega
            rw [this, Int.zero_mul, Int.zero_add] at hl
            exact absurd (Int.ediv_eq_zero_of_lt b0 b1) hl
        have fl := S_flip k b (t % b) (m % b) ap a1 b0 b1
        have qn : (t % b * (k : Int) + m % b) / b ≤ k := by
          have : (t % b * (k : Int) + m % b) / b < k + 1 := by
            refine Int.ediv_lt_of_lt_mul hb ?_
            have h2 : t % b * (k : Int) ≤ (b - 1) * k := Int.mul_le_mul_of_nonneg_right (by omega) (by omega)
            have h3 : (b - 1) * (k : Int) = b * k - k := by rw [Int.sub_mul, Int.one_mul]
            have h4 : ((k : Int) + 1) * b = b * k + b := by rw [Int.add_mul, Int.one_mul, Int.mul_comm]
            omega
          omega
        have call := spv_rounds (H := H) (n := n) (k := (t % b * (k : Int) + m % b) / b) (b := t % b) (t := b) (m := (t % b * (k : Int) + m % b) % b) q0 ap (by omega) (Int.emod_nonneg _ (by omega)) (dep_next hd hb ht) (lv_le lk q0 qn) (lv_mod lb hb) lb (lv_mod lb hb)
        refine g_ret (v := .int (S k b t m)) (ev_is (ev_op (ev_var rfl) (ev_call1 (ea_cons (ev_var rfl) (ea_cons (ev_var rfl) (ea_cons (ev_var rfl) (ea_cons (ev_op (ev_op (ev_op (ev_var rfl) (ev_var rfl) (rv_I (mul_ok (lv_mod lb hb) lk (by decide) (by decide)))) (ev_var rfl) rv_I0) (ev_var rfl) (rv_I hb)) ea_nil)))) call) rv_I0) ?_) q
        rw [red, fl]
abbrev s__law_to : Stmt := topS 28
theorem sc__law_to : FnScope ["_law_places", "_law_step", "_law_marks", "_law_place"] ["_law_places", "_law_step", "_law_marks", "_law_place"] (defScope s__law_to) := ⟨rfl, rfl, rfl, by decide +kernel, rfl, by decide +kernel, by decide +kernel⟩
def spTo : Sp := fun vs H Q _ => ∃ p s n x : Int, vs = [.int p, .int s, .int n, .int x] ∧ Ring p s ∧ 0 ≤ n ∧ x < p ∧ p ≤ PB ∧ Lv 1 n ∧ ∀ H', Ex H H' → Q (.int (cnt p s n.toNat x)) H'
theorem spv_to {H : Hp} {p s n x : Int} (R : Ring p s) (h0 : 0 ≤ n) (h : x < p) (h2 : p ≤ PB) (l2 : Lv 1 n) : SpV spTo [.int p, .int s, .int n, .int x] H (.int (cnt p s n.toNat x)) := fun H1 e Q q E => ⟨p, s, n, x, rfl, R, h0, h, h2, l2, q⟩
theorem ok__law_to (F : Fun K "_law_to" "_law_to" s__law_to f fd) (G__law_rounds : FnOk P w K mg base CX0 196 f1 fd1 ["_law_many", "_law_by", "_law_times", "_law_more"] (spRounds 195)) (A__law_rounds : At K mg "_law_rounds" s__law_rounds ["_law_many", "_law_by", "_law_times", "_law_more"] f1 fd1) : FnOk P w K mg base CX0 197 f fd ["_law_places", "_law_step", "_law_marks", "_law_place"] spTo := by
  refine F.ok sc__law_to (fun vs H Q E h => ?_) (fun cdv A outer s H vs Q E hr h => ?_)
  · obtain ⟨p, s, n, x, rfl, _⟩ := h
    rfl
  · obtain ⟨p, s, n, x, rfl, R, hn, hx, hp, ln, k⟩ := h
    have hp1 := R.p
    have lp : Lv 1 p := lv_140 (by omega) (Int.lt_of_le_of_lt hp PB_lt)
    have hd : dep 195 p s := by
      have e : PB < fb (195 + 2) := by decide +kernel
      exact .inl (by omega)
    refine ⟨_, (pss_cons (ps_if (pt_cmpR op_lt (pv 3) pe_int (nomark _)) (pss_cons (ps_ret pe_int)
      pss_nil) pss_nil)
      (pss_cons (ps_ret (pe_op op_sub (pe_op op_add (pv 2) (pe_call G__law_rounds (hr.mono (by omega)) rfl A__law_rounds.g A__law_rounds.fn.kp A__law_rounds.b .nil pass0 (pa_cons (pv 2) (pa_cons (pv 0) (pa_cons (pv 1) (pa_cons pe_int pa_nil)))))) (pe_call G__law_rounds (hr.mono (by omega)) rfl A__law_rounds.g A__law_rounds.fn.kp A__law_rounds.b .nil pass0 (pa_cons (pv 2) (pa_cons (pv 0) (pa_cons (pv 1) (pa_cons (pe_op op_sub (pe_op op_sub (pv 0) (pv 3)) pe_int) pa_nil)))))))
      pss_nil)), Go.at ?_⟩
    refine g_when (et_test (ev_op (ev_var rfl) ev_c rv_I0)) (fun h => ?_) (fun h => ?_)
    · have h1 : x < 0 := of_decide_eq_true h
      refine g_ret (v := .int (cnt p s n.toNat x)) (ev_is ev_c ?_) k
      rw [cnt_neg p s n.toNat x (by omega) h1]
    · have h1 : ¬ x < 0 := of_decide_eq_false h
      refine g_ret (v := .int (cnt p s n.toNat x)) (ev_is (ev_op (ev_op (ev_var rfl) (ev_call1 (ea_cons (ev_var rfl) (ea_cons (ev_var rfl) (ea_cons (ev_var rfl) (ea_cons ev_c ea_nil)))) (spv_rounds hn (by omega) R.s0 (by decide) hd ln lp (R.ls lp) (lv_small (by decide)))) rv_I0)
        (ev_call1 (ea_cons (ev_var rfl) (ea_cons (ev_var rfl) (ea_cons (ev_var rfl) (ea_cons (ev_op (ev_op (ev_var rfl) (ev_var rfl) rv_I0) ev_c rv_I0) ea_nil)))) (spv_rounds hn (by omega) R.s0 (by omega) hd ln lp (R.ls lp) (lv_le lp (by omega) (by omega)))) rv_I0) ?_) k
      rw [← cnt_S' p s n.toNat x (by omega) hx]
      congr 1
      omega
abbrev s__law_whole : Stmt := topS 29
theorem sc__law_whole : FnScope ["_law_found"] ["_law_found"] (defScope s__law_whole) := ⟨rfl, rfl, rfl, by decide +kernel, rfl, by decide +kernel, by decide +kernel⟩
def spWhole (K : PySem.W.Frag) : Sp := fun vs H Q _ => ∃ x, vs = [x] ∧ Kn K H x ∧ ∀ H', Ex H H' → Q (.bl (isI x && !isB x)) H'
theorem spv_whole {K : PySem.W.Frag} {H : Hp} {x : V} (h : Kn K H x) : SpV (spWhole K) [x] H (.bl (isI x && !isB x)) := fun H1 e Q q E => ⟨x, rfl, h.ex e, q⟩
theorem spv_wholeI {K : PySem.W.Frag} {H : Hp} {i : Int} (h : Lv 1 i) : SpV (spWhole K) [.int i] H (.bl true) := spv_whole (x := .int i) h
theorem ok__law_whole (hA : Blt mg) (F : Fun K "_law_whole" "_law_whole" s__law_whole f fd) : FnOk P w K mg base CX0 1 f fd ["_law_found"] (spWhole K) := by
  refine F.ok sc__law_whole (fun vs H Q E h => ?_) (fun cdv A outer s H vs Q E hr h => ?_)
  · obtain ⟨x, rfl, _⟩ := h
    rfl
  · obtain ⟨x, rfl, hx, k⟩ := h
    exact ⟨_, (pss_cons (ps_ret (pe_and (pe_callB call_isi rfl hA.z_isinstance (by decide +kernel) (pa_cons (pv 0) (pa_cons (pe_bltn (v := .ty "int") (u := .type "int") rfl hA.z_int (by decide +kernel) rfl) pa_nil))) (pe_one (pe_not (pe_callB call_isi rfl hA.z_isinstance (by decide +kernel) (pa_cons (pv 0) (pa_cons (pe_bltn (v := .ty "bool") (u := .type "bool") rfl hA.z_bool (by decide +kernel) rfl) pa_nil)))))))
      pss_nil), Go.at (g_ret (ev_andV (ev_isInt (ev_var rfl) hx) fun _ => ev_notV (ev_isBool (ev_var rfl) hx)) k)⟩
/-! ### the law -/
abbrev s__law_turn_right : Stmt := topS 31
theorem sc__law_turn_right : FnScope ["_law_places", "_law_step", "_law_marks", "_law_turn", "_law_mark", "_law_place", "_law_again"] ["_law_places", "_law_step", "_law_marks", "_law_turn"] (defScope s__law_turn_right) := ⟨rfl, rfl, rfl, by decide +kernel, rfl, by decide +kernel, by decide +kernel⟩
def spTR : Sp := fun vs H Q _ => ∃ p s m t : Int, vs = [.int p, .int s, .int m, .int t] ∧ Ring p s ∧ p ≤ PB ∧ 1 ≤ m ∧ m ≤ top p s ∧ 0 ≤ t ∧ t < m ∧ ∀ H', Ex H H' → Q (.bl true) H'
theorem spv_TR {H : Hp} {p s m t : Int} (R : Ring p s) (pb : p ≤ PB) (m1 : 1 ≤ m) (m2 : m ≤ top p s) (t0 : 0 ≤ t) (tm : t < m) : SpV spTR [.int p, .int s, .int m, .int t] H (.bl true) := fun H1 x Q q E => ⟨p, s, m, t, rfl, R, pb, m1, m2, t0, tm, q⟩
theorem ok__law_turn_right {c : Cs} (F : Fun K "_law_turn_right" "_law_turn_right" s__law_turn_right f fd) (G_mark_by : FnOk P w K mg base CX0 4 f1 fd1 ["places", "step", "marks", "turn"] (spMarkByQ K c)) (A_mark_by : At K mg "mark_by" s_mark_by ["places", "step", "marks", "turn"] f1 fd1)
    (G_turn_of : FnOk P w K mg base CX0 4 f2 fd2 ["places", "step", "marks", "mark"] (spTurnQ K c)) (A_turn_of : At K mg "turn_of" s_turn_of ["places", "step", "marks", "mark"] f2 fd2) (G__law_whole : FnOk P w K mg base CX0 1 f3 fd3 ["_law_found"] (spWhole K)) (A__law_whole : At K mg "_law_whole" s__law_whole ["_law_found"] f3 fd3)
    (G__law_to : FnOk P w K mg base CX0 197 f4 fd4 ["_law_places", "_law_step", "_law_marks", "_law_place"] spTo) (A__law_to : At K mg "_law_to" s__law_to ["_law_places", "_law_step", "_law_marks", "_law_place"] f4 fd4) : FnOk P w K mg base CX0 198 f fd ["_law_places", "_law_step", "_law_marks", "_law_turn"] spTR := by
  refine F.ok sc__law_turn_right (fun vs H Q E h => ?_) (fun cdv A outer s H vs Q E hr h => ?_)
  · obtain ⟨p, s, m, t, rfl, _⟩ := h
    rfl
  · obtain ⟨p, s, m, t, rfl, R, pb, m1, m2, t0, tm, k⟩ := h
    have p1 := R.p
    have lp : Lv 1 p := lv_140 (by omega) (Int.lt_of_le_of_lt pb PB_lt)
    have ls := R.ls lp
    have lm : Lv 1 m := lv_le (lv_top R lp) (by omega) m2
    obtain ⟨k0, k1, k2⟩ := theMark_spec (s := s) (show 0 < p by omega) m2 t0 tm
    refine ⟨_, (pss_cons (ps_set (i := 4) sc__law_turn_right.nd rfl (Or.inl rfl) (pe_call G_mark_by (hr.mono (by omega)) rfl A_mark_by.g A_mark_by.fn.kp A_mark_by.b .nil pass0 (pa_cons (pv 0) (pa_cons (pv 1) (pa_cons (pv 2) (pa_cons (pv 3) pa_nil))))))
      (pss_cons (ps_if (PW.pt (pw_or (pt_not (pt_val (pe_call G__law_whole (hr.mono (by omega)) rfl A__law_whole.g A__law_whole.fn.kp A__law_whole.b .nil pass0 (pa_cons (pv 4) pa_nil)))) (pw_or1 (pt_not (pt_chain op_le op_lt pe_int (pv 4) (pv 2)))))) (pss_cons (ps_ret pe_bl)
      pss_nil) pss_nil)
      (pss_cons (ps_set (i := 5) sc__law_turn_right.nd rfl (Or.inl rfl) (pe_op op_mod (pe_op op_mulB (pv 4) (pv 1)) (pv 0)))
      (pss_cons (ps_set (i := 6) sc__law_turn_right.nd rfl (Or.inl rfl) (pe_call G_turn_of (hr.mono (by omega)) rfl A_turn_of.g A_turn_of.fn.kp A_turn_of.b .nil pass0 (pa_cons (pv 0) (pa_cons (pv 1) (pa_cons (pv 2) (pa_cons (pv 4) pa_nil))))))
      (pss_cons (ps_if (PW.pt (pw_or (pt_not (pt_val (pe_call G__law_whole (hr.mono (by omega)) rfl A__law_whole.g A__law_whole.fn.kp A__law_whole.b .nil pass0 (pa_cons (pv 6) pa_nil)))) (pw_or1 (pt_cmpR op_ne (pv 6) (pv 3) (nomark _))))) (pss_cons (ps_ret pe_bl)
      pss_nil) pss_nil)
      (pss_cons (ps_ret (pe_cmpR op_eq (pe_call G__law_to (hr.mono (by omega)) rfl A__law_to.g A__law_to.fn.kp A__law_to.b .nil pass0 (pa_cons (pv 0) (pa_cons (pv 1) (pa_cons (pv 2) (pa_cons (pv 5) pa_nil))))) (pe_op op_add (pv 3) pe_int) (nomark _)))
      pss_nil)))))), Go.at ?_⟩
    refine g_asg (ev_call1 (ea_cons (ev_var rfl) (ea_cons (ev_var rfl) (ea_cons (ev_var rfl) (ea_cons (ev_var rfl) ea_nil)))) (spv_markBy R lp m1 m2 t0 tm)) ?_
    generalize theMark p s m t = mk at *
    have lk : Lv 1 mk := lv_le lm k0 (by omega)
    refine g_when (b := false) (et_or (a := false) (b := false) (et_not (a := true) (et_B (ev_call1 (ea_cons (ev_var rfl) ea_nil) (spv_wholeI lk)))) fun _ => et_not (a := true) (et_is (et_test (ev_chainI ev_c (ev_var rfl) (ev_var rfl))) ?_)) (fun h => nomatch h) (fun _ => ?_)
    · show (decide (0 ≤ mk) && decide (mk < m)) = true
      rw [decide_eq_true k0, decide_eq_true k1]; rfl
    have x0 := Int.emod_nonneg (mk * s) (show p ≠ 0 by omega)
    have x1 := Int.emod_lt_of_pos (mk * s) (show 0 < p by omega)
    refine g_asg (ev_op (ev_op (ev_var rfl) (ev_var rfl) (rv_I (mul_ok lk ls (by decide) (by decide)))) (ev_var rfl) (rv_I (show (0 : Int) < p by omega))) ?_
    have ht := spv_turnOf (K := K) (c := c) (H := H) R lp m1 m2 k0 k1
    rw [k2, show t + 1 - 1 = t by omega] at ht
    refine g_asg (ev_call1 (ea_cons (ev_var rfl) (ea_cons (ev_var rfl) (ea_cons (ev_var rfl) (ea_cons (ev_var rfl) ea_nil)))) ht) ?_
    refine g_when (b := false) (et_or (a := false) (b := false) (et_not (a := true) (et_B (ev_call1 (ea_cons (ev_var rfl) ea_nil) (spv_wholeI (lv_le lm t0 (by omega)))))) fun _ => et_is (et_test (ev_op (ev_var rfl) (ev_var rfl) (rv_ne rfl))) (ne_same rfl)) (fun h => nomatch h) (fun _ => ?_)
    exact g_ret (v := .bl true) (ev_is (ev_op (ev_call1 (ea_cons (ev_var rfl) (ea_cons (ev_var rfl) (ea_cons (ev_var rfl) (ea_cons (ev_var rfl) ea_nil)))) (spv_to R (by omega) x1 pb lm)) (ev_op (ev_var rfl) ev_c rv_I0) (rv_eq rfl)) (congrArg V.bl (eq_same (congrArg V.int k2)))) k
abbrev s__law_beside_right : Stmt := topS 30
theorem sc__law_beside_right : FnScope ["_law_places", "_law_step", "_law_marks", "_law_place", "_law_found", "_law_back", "_law_on", "_law_low", "_law_high", "_law_mark"] ["_law_places", "_law_step", "_law_marks", "_law_place"] (defScope s__law_beside_right) := ⟨rfl, rfl, rfl, by decide +kernel, rfl, by decide +kernel, by decide +kernel⟩
def spBR : Sp := fun vs H Q _ => ∃ p s m x : Int, vs = [.int p, .int s, .int m, .int x] ∧ Ring p s ∧ p ≤ PB ∧ 1 ≤ m ∧ m ≤ top p s ∧ 0 ≤ x ∧ x < p ∧ ∀ H', Ex H H' → Q (.bl true) H'
theorem spv_BR {H : Hp} {p s m x : Int} (R : Ring p s) (pb : p ≤ PB) (m1 : 1 ≤ m) (m2 : m ≤ top p s) (x0 : 0 ≤ x) (xp : x < p) : SpV spBR [.int p, .int s, .int m, .int x] H (.bl true) := fun H1 y Q q E => ⟨p, s, m, x, rfl, R, pb, m1, m2, x0, xp, q⟩
/-- the mark behind, the mark ahead -/
theorem bes_spec {p s m x : Int} (hp : 0 < p) (m1 : 1 ≤ m) (m2 : m ≤ top p s) (x0 : 0 ≤ x) (xp : x < p) :
    (0 ≤ besA p s m x ∧ besA p s m x < m ∧ besA p s m x * s % p ≤ x ∧ RS.cnt p s m.toNat (besA p s m x * s % p) = RS.cnt p s m.toNat x) ∧ 0 ≤ besB p s m x ∧ besB p s m x < m ∧
    ((RS.cnt p s m.toNat x < m ∧ x < besB p s m x * s % p ∧ RS.cnt p s m.toNat (besB p s m x * s % p) = RS.cnt p s m.toNat x + 1) ∨ (RS.cnt p s m.toNat x = m ∧ besB p s m x = 0)) := by
  have c1 := cnt_pos (s := s) hp m1 x0
  have c2 := cnt_le p s m.toNat x
  have c3 : RS.cnt p s m.toNat x ≤ m := by omega
  obtain ⟨a0, a1, a2⟩ := theMark_spec (s := s) (t := RS.cnt p s m.toNat x - 1) hp m2 (by omega) (by omega)
  have hA : besA p s m x = theMark p s m (RS.cnt p s m.toNat x - 1) := rfl
  have t3 := Int.emod_nonneg (RS.cnt p s m.toNat x) (show m ≠ 0 by omega)
  have t4 := Int.emod_lt_of_pos (RS.cnt p s m.toNat x) (show 0 < m by omega)
  obtain ⟨b0, b1, b2⟩ := theMark_spec (s := s) (t := RS.cnt p s m.toNat x % m) hp m2 t3 t4
  have hB : besB p s m x = theMark p s m (RS.cnt p s m.toNat x % m) := rfl
  rw [← hA] at a0 a1 a2
  rw [← hB] at b0 b1 b2
  refine ⟨⟨a0, a1, ?_, by omega⟩, b0, b1, ?_⟩
  · rcases Int.lt_or_le x (besA p s m x * s % p) with q | q
    · have e1 : (((besA p s m x).toNat : Nat) : Int) = besA p s m x := by omega
      have h1 := cnt_at (p := p) (s := s) (x := besA p s m x * s % p) (n := m.toNat) (k := (besA p s m x).toNat) (by omega) (by rw [e1])
      have h2 := cnt_mono p s m.toNat (show x ≤ besA p s m x * s % p - 1 by omega)
      omega
    · exact q
  · rcases Int.lt_or_le (RS.cnt p s m.toNat x) m with q | q
    · rw [Int.emod_eq_of_lt (by omega) q] at b2
      refine .inl ⟨q, ?_, b2⟩
      rcases Int.lt_or_le x (besB p s m x * s % p) with z | z
      · exact z
      · have := cnt_mono p s m.toNat z
        omega
    · have e : RS.cnt p s m.toNat x = m := by omega
      refine .inr ⟨e, ?_⟩
      rw [hB, e, Int.emod_self]
      refine theMark_eq hp m2 (Int.le_refl 0) (by omega) ?_
      have h1 := cnt_at1 (p := p) (s := s) (x := 0) (n := m.toNat) (k := 0) hp (by omega) (by omega) (by simp)
      rw [cnt_neg p s m.toNat (0 - 1) hp (by omega)] at h1
      rw [Int.zero_mul, Int.zero_emod]
      exact h1
theorem ok__law_beside_right {c : Cs} (hA : Blt mg) (F : Fun K "_law_beside_right" "_law_beside_right" s__law_beside_right f fd) (G_beside : FnOk P w K mg base CX0 5 f1 fd1 ["places", "step", "marks", "place"] (spBesideQ K c)) (A_beside : At K mg "beside" s_beside ["places", "step", "marks", "place"] f1 fd1)
    (G__law_whole : FnOk P w K mg base CX0 1 f3 fd3 ["_law_found"] (spWhole K)) (A__law_whole : At K mg "_law_whole" s__law_whole ["_law_found"] f3 fd3)
    (G__law_to : FnOk P w K mg base CX0 197 f4 fd4 ["_law_places", "_law_step", "_law_marks", "_law_place"] spTo) (A__law_to : At K mg "_law_to" s__law_to ["_law_places", "_law_step", "_law_marks", "_law_place"] f4 fd4) : FnOk P w K mg base CX0 198 f fd ["_law_places", "_law_step", "_law_marks", "_law_place"] spBR := by
  refine F.ok sc__law_beside_right (fun vs H Q E h => ?_) (fun cdv A outer s H vs Q E hr h => ?_)
  · obtain ⟨p, s, m, x, rfl, _⟩ := h
    rfl
  · obtain ⟨p, s, m, x, rfl, R, pb, m1, m2, x0, xp, k⟩ := h
    have p1 := R.p
    have lp : Lv 1 p := lv_140 (by omega) (Int.lt_of_le_of_lt pb PB_lt)
    have ls := R.ls lp
    have lm : Lv 1 m := lv_le (lv_top R lp) (by omega) m2
    obtain ⟨⟨a0, a1, a2, a3⟩, b0, b1, b2⟩ := bes_spec (s := s) (show 0 < p by omega) m1 m2 x0 xp
    refine ⟨_, (pss_cons (ps_set (i := 4) sc__law_beside_right.nd rfl (Or.inl rfl) (pe_call G_beside (hr.mono (by omega)) rfl A_beside.g A_beside.fn.kp A_beside.b .nil pass0 (pa_cons (pv 0) (pa_cons (pv 1) (pa_cons (pv 2) (pa_cons (pv 3) pa_nil))))))
      (pss_cons (ps_if (PW.pt (pw_or (pt_not (pt_val (pe_callB call_isi rfl hA.z_isinstance (by decide +kernel) (pa_cons (pv 4) (pa_cons (pe_bltn (v := .ty "tuple") (u := .type "tuple") rfl hA.z_tuple (by decide +kernel) rfl) pa_nil))))) (pw_or (pt_cmpR op_ne (pe_callB call_len_seq rfl hA.z_len (by decide +kernel) (pa_cons (pv 4) pa_nil)) pe_int (nomark _)) (pw_or1 (pt_not (pt_val (pe_callB (cr_all rfl) rfl hA.z_all (by decide +kernel) (pa_cons (pe_lc (own := [("_law_mark", 9)]) (g := (gName 9)) rfl sc__law_beside_right.nd (pi_tup (pv 4)) (blkOk_by (own := [("_law_mark", 9)]) (N := ["_law_places", "_law_step", "_law_marks", "_law_place", "_law_found", "_law_back", "_law_on", "_law_low", "_law_high", "_law_mark"]) (sc := defScope s__law_beside_right) (by decide +kernel)) (fun _ _ _ _ _ => (pg_name (i := 9) sc__law_beside_right.nd rfl (Or.inl rfl))) (fun _ _ _ _ _ => pts_nil) (fun _ _ _ _ _ => (pe_call G__law_whole (hr.mono (by omega)) rfl A__law_whole.g A__law_whole.fn.kp A__law_whole.b .nil pass0 (pa_cons (pv 9) pa_nil)))) pa_nil)))))))) (pss_cons (ps_ret pe_bl)
      pss_nil) pss_nil)
      (pss_cons (ps_if (pt_not (pt_val (pe_callB (cr_all rfl) rfl hA.z_all (by decide +kernel) (pa_cons (pe_lc (own := [("_law_mark", 9)]) (g := (gName 9)) rfl sc__law_beside_right.nd (pi_tup (pv 4)) (blkOk_by (own := [("_law_mark", 9)]) (N := ["_law_places", "_law_step", "_law_marks", "_law_place", "_law_found", "_law_back", "_law_on", "_law_low", "_law_high", "_law_mark"]) (sc := defScope s__law_beside_right) (by decide +kernel)) (fun _ _ _ _ _ => (pg_name (i := 9) sc__law_beside_right.nd rfl (Or.inl rfl))) (fun _ _ _ _ _ => pts_nil) (fun _ _ _ _ _ => (pe_chain op_le op_lt pe_int (pv 9) (pv 2)))) pa_nil)))) (pss_cons (ps_ret pe_bl)
      pss_nil) pss_nil)
      (pss_cons (ps_set (i := 5) sc__law_beside_right.nd rfl (Or.inl rfl) (pe_op op_mod (pe_op op_sub (pv 3) (pe_op op_mulB (pe_ix ix_tup (pv 4) pe_int (fun _ _ => rfl)) (pv 1))) (pv 0)))
      (pss_cons (ps_set (i := 6) sc__law_beside_right.nd rfl (Or.inl rfl) (pe_op op_add (pe_op op_mod (pe_op op_sub (pe_op op_sub (pe_op op_mulB (pe_ix ix_tup (pv 4) pe_int (fun _ _ => rfl)) (pv 1)) (pv 3)) pe_int) (pv 0)) pe_int))
      (pss_cons (ps_par (i := 7) (j := 8) (by rfl) sc__law_beside_right.nd rfl rfl (by decide) rfl rfl (pa_cons (pe_call G__law_to (hr.mono (by omega)) rfl A__law_to.g A__law_to.fn.kp A__law_to.b .nil pass0 (pa_cons (pv 0) (pa_cons (pv 1) (pa_cons (pv 2) (pa_cons (pv 3) pa_nil))))) (pa_cons (pe_call G__law_to (hr.mono (by omega)) rfl A__law_to.g A__law_to.fn.kp A__law_to.b .nil pass0 (pa_cons (pv 0) (pa_cons (pv 1) (pa_cons (pv 2) (pa_cons (pe_op op_mod (pe_op op_add (pv 3) (pv 6)) (pv 0)) pa_nil))))) pa_nil)) (by rfl))
      (pss_cons (ps_if (PW.pt (pw_or (pt_cmpR op_gt (pv 5) (pv 3) (nomark _)) (pw_or1 (pt_cmpR op_ne (pe_call G__law_to (hr.mono (by omega)) rfl A__law_to.g A__law_to.fn.kp A__law_to.b .nil pass0 (pa_cons (pv 0) (pa_cons (pv 1) (pa_cons (pv 2) (pa_cons (pe_op op_sub (pv 3) (pv 5)) pa_nil))))) (pv 7) (nomark _))))) (pss_cons (ps_ret pe_bl)
      pss_nil) pss_nil)
      (pss_cons (ps_if (pt_cmpR op_lt (pe_op op_add (pv 3) (pv 6)) (pv 0) (nomark _)) (pss_cons (ps_ret (pe_cmpR op_eq (pv 8) (pe_op op_add (pv 7) pe_int) (nomark _)))
      pss_nil) pss_nil)
      (pss_cons (ps_ret (pe_and (pe_cmpR op_eq (pe_ix ix_tup (pv 4) pe_int (fun _ _ => rfl)) pe_int (nomark _)) (pe_one (pe_cmpR op_eq (pv 7) (pv 2) (nomark _)))))
      pss_nil))))))))), Go.at ?_⟩
    refine g_asgU (eu_beside R lp m1 m2 x0 xp (ea_cons (ev_var rfl) (ea_cons (ev_var rfl) (ea_cons (ev_var rfl) (ea_cons (ev_var rfl) ea_nil))))) ?_
    intro q H1 nq e1 hq
    generalize besA p s m x = mA at *
    generalize besB p s m x = mB at *
    have lA : Lv 1 mA := lv_le lm a0 (by omega)
    have lB : Lv 1 mB := lv_le lm b0 (by omega)
    refine g_when (b := false) (et_or (a := false) (b := false) (et_not (a := true) (et_B (ev_isTup (ev_var rfl) hq))) fun _ => et_or (a := false) (b := false) (et_is (et_test (ev_op (ev_lenT (ev_var rfl) hq) ev_c (rv_ne rfl))) rfl) fun _ => et_not (a := true) (et_B (ev_allT (el_lcF (fun _ => true) (fun _ => V.bl true) (ef_tup (ev_var rfl) (st_of hq)) (by show 2 ≤ 50000; decide) (fun i hi => rfl) (fun _ _ _ _ => et_yes) ?w1)))) (fun h => nomatch h) (fun _ => ?_)
    case w1 =>
      intro H2 e2 i hi _
      have hi' : i < 2 := hi
      match i, hi' with
      | 0, _ => exact ev_call1 (ea_cons (ev_var rfl) ea_nil) (spv_wholeI lA)
      | 1, _ => exact ev_call1 (ea_cons (ev_var rfl) ea_nil) (spv_wholeI lB)
    refine g_when (b := false) (et_not (a := true) (et_B (ev_allT (el_lcF (fun _ => true) (fun _ => V.bl true) (ef_tup (ev_var rfl) (st_of hq)) (by show 2 ≤ 50000; decide) (fun i hi => rfl) (fun _ _ _ _ => et_yes) ?w2)))) (fun h => nomatch h) (fun _ => ?_)
    case w2 =>
      intro H2 e2 i hi _
      have hi' : i < 2 := hi
      match i, hi' with
      | 0, _ => exact ev_is (ev_chainI ev_c (ev_var rfl) (ev_var rfl)) (by rw [show (decide (0 ≤ mA) && decide (mA < m)) = true by rw [decide_eq_true a0, decide_eq_true a1]; rfl])
      | 1, _ => exact ev_is (ev_chainI ev_c (ev_var rfl) (ev_var rfl)) (by rw [show (decide (0 ≤ mB) && decide (mB < m)) = true by rw [decide_eq_true b0, decide_eq_true b1]; rfl])
    have y0 := Int.emod_nonneg (mA * s) (show p ≠ 0 by omega)
    have z0 := Int.emod_nonneg (mB * s) (show p ≠ 0 by omega)
    have z1 := Int.emod_lt_of_pos (mB * s) (show 0 < p by omega)
    have eback : (x - mA * s) % p = x - mA * s % p := by
      rw [Int.sub_emod, Int.emod_eq_of_lt x0 xp]
      exact Int.emod_eq_of_lt (by omega) (by omega)
    refine g_asg (v := .int (x - mA * s % p)) (ev_is (ev_op (ev_op (ev_var rfl) (ev_op (ev_ixT (ev_var rfl) (st_of hq) ev_c rfl) (ev_var rfl) (rv_I (mul_ok lA ls (by decide) (by decide)))) rv_I0) (ev_var rfl) (rv_I (show (0 : Int) < p by omega))) (congrArg V.int eback)) ?_
    refine g_asg (ev_op (ev_op (ev_op (ev_op (ev_op (ev_ixT (ev_var rfl) (st_of hq) ev_c rfl) (ev_var rfl) (rv_I (mul_ok lB ls (by decide) (by decide)))) (ev_var rfl) rv_I0) ev_c rv_I0) (ev_var rfl) (rv_I (show (0 : Int) < p by omega))) ev_c rv_I0) ?_
    have w0 := Int.emod_nonneg (mB * s - x - 1) (show p ≠ 0 by omega)
    have w1 := Int.emod_lt_of_pos (mB * s - x - 1) (show 0 < p by omega)
    have eon : (RS.cnt p s m.toNat x < m ∧ x + ((mB * s - x - 1) % p + 1) = mB * s % p ∧ RS.cnt p s m.toNat (mB * s % p) = RS.cnt p s m.toNat x + 1) ∨ (RS.cnt p s m.toNat x = m ∧ mB = 0 ∧ x + ((mB * s - x - 1) % p + 1) = p) := by
      rcases b2 with ⟨h1, h2, h3⟩ | ⟨h1, h2⟩
      · refine .inl ⟨h1, ?_, h3⟩
        have : (mB * s - x - 1) % p = mB * s % p - x - 1 := by
          rw [show mB * s - x - 1 = mB * s - (x + 1) by omega, Int.sub_emod, Int.emod_eq_of_lt (a := x + 1) (by omega) (by omega)]
          rw [Int.emod_eq_of_lt (by omega) (by omega)]
          omega
        omega
      · refine .inr ⟨h1, h2, ?_⟩
        subst h2
        have : (0 * s - x - 1) % p = p - x - 1 := by
          rw [Int.zero_mul, show (0 : Int) - x - 1 = (p - x - 1) + p * (-1) by omega, Int.add_mul_emod_self_left]
          exact Int.emod_eq_of_lt (by omega) (by omega)
        omega
    generalize (mB * s - x - 1) % p + 1 = on at *
    have v0 := Int.emod_nonneg (x + on) (show p ≠ 0 by omega)
    have v1 := Int.emod_lt_of_pos (x + on) (show 0 < p by omega)
    refine g_par (ea_cons (ev_call1 (ea_cons (ev_var rfl) (ea_cons (ev_var rfl) (ea_cons (ev_var rfl) (ea_cons (ev_var rfl) ea_nil)))) (spv_to R (by omega) xp pb lm)) (ea_cons (ev_call1 (ea_cons (ev_var rfl) (ea_cons (ev_var rfl) (ea_cons (ev_var rfl) (ea_cons (ev_op (ev_op (ev_var rfl) (ev_var rfl) rv_I0) (ev_var rfl) (rv_I (show (0 : Int) < p by omega))) ea_nil)))) (spv_to R (by omega) v1 pb lm)) ea_nil)) ?_
    have ey : x - (x - mA * s % p) = mA * s % p := by omega
    refine g_when (b := false) (et_or (a := false) (b := false) (et_is (et_test (ev_op (ev_var rfl) (ev_var rfl) rv_I0)) (decide_eq_false (by omega))) fun _ => et_is (et_test (ev_op (ev_call1 (ea_cons (ev_var rfl) (ea_cons (ev_var rfl) (ea_cons (ev_var rfl) (ea_cons (ev_is (ev_op (ev_var rfl) (ev_var rfl) rv_I0) (congrArg V.int ey)) ea_nil)))) (spv_to R (by omega) (by omega) pb lm)) (ev_var rfl) (rv_ne rfl))) (ne_same (congrArg V.int a3))) (fun h => nomatch h) (fun _ => ?_)
    rcases eon with ⟨h1, h2, h3⟩ | ⟨h1, h2, h3⟩
    · refine g_when (b := true) (et_is (et_test (ev_op (ev_op (ev_var rfl) (ev_var rfl) rv_I0) (ev_var rfl) rv_I0)) (decide_eq_true (by omega))) (fun _ => ?_) (fun h => nomatch h)
      refine g_ret (v := .bl true) (ev_is (ev_op (ev_var rfl) (ev_op (ev_var rfl) ev_c rv_I0) (rv_eq rfl)) (congrArg V.bl (eq_same (congrArg V.int ?_)))) fun H' e' => k H' (e1.trans e')
      rw [h2, Int.emod_eq_of_lt z0 z1]
      exact h3
    · refine g_when (b := false) (et_is (et_test (ev_op (ev_op (ev_var rfl) (ev_var rfl) rv_I0) (ev_var rfl) rv_I0)) (decide_eq_false (by omega))) (fun h => nomatch h) (fun _ => ?_)
      exact g_ret (v := .bl true) (ev_is (ev_andV (a := true) (b := true) (ev_is (ev_op (ev_ixT (ev_var rfl) (st_of hq) ev_c rfl) ev_c (rv_eq rfl)) (congrArg V.bl (eq_same (congrArg V.int h2)))) fun _ => ev_is (ev_op (ev_var rfl) (ev_var rfl) (rv_eq rfl)) (congrArg V.bl (eq_same (congrArg V.int h1)))) rfl) fun H' e' => k H' (e1.trans e')
abbrev s__law_rings : Stmt := topS 25
theorem sc__law_rings : FnScope ["_law_script", "_law_cells", "_law_whole_here", "_law_many", "_law_at", "_law_begin", "_law_three", "_law_wide", "_law_places", "_law_step", "_law_kind", "_law_times", "_law_by", "_law_top", "_law_marks", "_law_found", "_law_cell", "_law_k"] ["_law_script"] (defScope s__law_rings) := ⟨rfl, rfl, rfl, by decide +kernel, rfl, by decide +kernel, by decide +kernel⟩
def spRings (K : PySem.W.Frag) : Sp := fun vs H Q _ => ∃ (a : Addr) (ns : List Int), vs = [.ref a] ∧ SqL K H a (ns.map V.int) ∧ ns.length ≤ 63 ∧ (∀ z ∈ ns, Lv 132 z) ∧
  ∀ p H' xs, H p = none → Ex H H' → H' p = some (.lst xs) → RingsAt H' xs → xs.length ≤ ns.length → xs.length ≤ 6 → Q (.ref p) H'
theorem pow140 : (10 : Int) ^ 40 * 6 < 2 ^ 140 := by decide
theorem ok__law_rings (hA : Blt mg) (F : Fun K "_law_rings" "_law_rings" s__law_rings f fd) (G__law_number : FnOk P w K mg base CX0 1 f1 fd1 ["_law_cell", "_law_at", "_law_whole_here"] spNum) (A__law_number : At K mg "_law_number" s__law_number ["_law_cell", "_law_at", "_law_whole_here"] f1 fd1)
    (G__law_common : FnOk P w K mg base CX0 1 f2 fd2 ["_law_one", "_law_other"] spCommon) (A__law_common : At K mg "_law_common" s__law_common ["_law_one", "_law_other"] f2 fd2) : FnOk P w K mg base CX0 2 f fd ["_law_script"] (spRings K) := by
  refine F.ok sc__law_rings (fun vs H Q E h => ?_) (fun cdv A outer s H vs Q E hr h => ?_)
  · obtain ⟨a, ns, rfl, _⟩ := h
    rfl
  · obtain ⟨a, ns, rfl, hS, hlen, hlv, k⟩ := h
    refine ⟨_, (pss_cons (ps_par (i := 1) (j := 15) (by rfl) sc__law_rings.nd rfl rfl (by decide) rfl rfl (pa_cons (pe_slice sl_list (pv 0) po_none (po_some pe_int)) (pa_cons (pe_lst pa_nil) pa_nil)) (by rfl))
      (pss_cons (ps_asg (pe_tup (pa_cons (pe_callB (cr_sum rfl) rfl hA.z_sum (by decide +kernel) (pa_cons (pv 1) pa_nil)) (pa_cons (pe_op op_fdivW (pe_op op_add (pe_callB call_len_seq rfl hA.z_len (by decide +kernel) (pa_cons (pv 1) pa_nil)) pe_int) pe_int) pa_nil))) (pg_tup rfl (pgs_cons (pg_name (i := 2) sc__law_rings.nd rfl (Or.inr rfl)) (pgs_cons (pg_name (i := 3) sc__law_rings.nd rfl (Or.inl rfl)) pgs_nil))))
      (pss_cons (ps_for PassesOwn.never rfl (pi_range1 rfl hA.z_range (pa_cons (pe_callB (call_min2 rfl) rfl hA.z_min (by decide +kernel) (pa_cons pe_int (pa_cons (pv 3) pa_nil))) pa_nil)) (pg_name (i := 4) sc__law_rings.nd rfl (Or.inl rfl)) (pss_cons (ps_set (i := 5) sc__law_rings.nd rfl (Or.inr rfl) (pe_op op_mulB pe_int (pe_op op_mod (pe_op op_add (pv 4) (pv 2)) (pv 3))))
      (pss_cons (ps_setLc (i := 6) (own := [("_law_k", 17), ("_law_cell", 16)]) (g := (gTup K 2 (gCons (gName 17) (gCons (gName 16) gNil)))) rfl sc__law_rings.nd rfl rfl (sw_true rfl rfl rfl (by decide +kernel)) (pi_enum rfl hA.z_enumerate (pa_cons (pe_slice sl_list (pe_op op_rep (pv 1) pe_int) (po_some (pv 5)) (po_some (pe_op op_add (pv 5) pe_int))) pa_nil)) (blkOk_by (own := [("_law_k", 17), ("_law_cell", 16)]) (N := ["_law_script", "_law_cells", "_law_whole_here", "_law_many", "_law_at", "_law_begin", "_law_three", "_law_wide", "_law_places", "_law_step", "_law_kind", "_law_times", "_law_by", "_law_top", "_law_marks", "_law_found", "_law_cell", "_law_k"]) (sc := defScope s__law_rings) (by decide +kernel)) (fun _ _ _ _ _ => (pg_tup rfl (pgs_cons (pg_name (i := 17) sc__law_rings.nd rfl (Or.inl rfl)) (pgs_cons (pg_name (i := 16) sc__law_rings.nd rfl (Or.inl rfl)) pgs_nil)))) (fun _ _ _ _ _ => pts_nil) (fun _ _ _ _ _ => (pe_call G__law_number (hr.mono (by omega)) rfl A__law_number.g A__law_number.fn.kp A__law_number.b .nil pass0 (pa_cons (pv 16) (pa_cons (pe_op op_add (pv 5) (pv 17)) (pa_cons (pv 2) pa_nil))))))
      (pss_cons (ps_set (i := 7) sc__law_rings.nd rfl (Or.inl rfl) (pe_ix ix_tup (pe_tup (pa_cons pe_int (pa_cons pe_int (pa_cons pe_int (pa_cons pe_int (pa_cons pe_int (pa_cons pe_int pa_nil))))))) (pe_op op_mod (pe_op op_add (pe_op op_fdivW (pv 2) pe_int) (pv 4)) pe_int) (fun _ _ => rfl)))
      (pss_cut (ps_if (PW.pt (pw_and (pt_cmpR op_eq (pv 4) pe_int (nomark _)) (pw_and1 (pt_cmpR op_eq (pe_op op_mod (pv 2) pe_int) pe_int (nomark _))))) (pss_cons (ps_set (i := 7) sc__law_rings.nd rfl (Or.inl rfl) (pe_ix ix_tup (pe_tup (pa_cons (pe_op op_pow pe_int pe_int) (pa_cons (pe_op op_pow pe_int pe_int) (pa_cons (pe_op op_pow pe_int pe_int) pa_nil)))) (pe_op op_mod (pe_op op_fdivW (pv 2) pe_int) pe_int) (fun _ _ => rfl)))
      pss_nil) pss_nil)
      (pss_cons (ps_set (i := 8) sc__law_rings.nd rfl (Or.inl rfl) (pe_op op_add pe_int (pe_op op_mod (pe_ix ix_list (pv 6) pe_int (fun _ _ => rfl)) (pv 7))))
      (pss_cons (ps_set (i := 9) sc__law_rings.nd rfl (Or.inl rfl) (pe_op op_mod (pe_op op_fdivW (pe_ix ix_list (pv 6) pe_int (fun _ _ => rfl)) pe_int) (pv 8)))
      (pss_cons (ps_set (i := 10) sc__law_rings.nd rfl (Or.inl rfl) (pe_op op_mod (pe_op op_add (pe_op op_fdivW (pv 2) pe_int) (pv 4)) pe_int))
      (pss_cut (ps_if (pt_cmpR op_eq (pv 10) pe_int (nomark _)) (pss_cons (ps_set (i := 11) sc__law_rings.nd rfl (Or.inl rfl) (pe_op op_add pe_int (pe_op op_mod (pe_ix ix_list (pv 6) pe_int (fun _ _ => rfl)) pe_int)))
      (pss_cons (ps_par (i := 8) (j := 9) (by rfl) sc__law_rings.nd rfl rfl (by decide) rfl rfl (pa_cons (pe_op op_mulB (pv 8) (pv 11)) (pa_cons (pe_op op_mulB (pv 9) (pv 11)) pa_nil)) (by rfl))
      pss_nil)) pss_nil)
      (pss_cut (ps_if (pt_cmpR op_eq (pv 10) pe_int (nomark _)) (pss_cons (ps_set (i := 9) sc__law_rings.nd rfl (Or.inl rfl) (pe_callB (call_min2 rfl) rfl hA.z_min (by decide +kernel) (pa_cons (pe_op op_sub (pv 8) pe_int) (pa_cons (pe_op op_add (pe_op op_fdivW (pv 8) pe_int) (pe_op op_mod (pe_ix ix_list (pv 6) pe_int (fun _ _ => rfl)) pe_int)) pa_nil))))
      pss_nil) pss_nil)
      (pss_cons (ps_set (i := 12) sc__law_rings.nd rfl (Or.inl rfl) (pe_call G__law_common (hr.mono (by omega)) rfl A__law_common.g A__law_common.fn.kp A__law_common.b .nil pass0 (pa_cons (pv 8) (pa_cons (pv 9) pa_nil))))
      (pss_cons (ps_set (i := 13) sc__law_rings.nd rfl (Or.inl rfl) (pe_op op_fdivW (pv 8) (pv 12)))
      (pss_cons (ps_set (i := 14) sc__law_rings.nd rfl (Or.inl rfl) (pe_op op_add pe_int (pe_op op_mod (pe_op op_fdivW (pe_ix ix_list (pv 6) pe_int (fun _ _ => rfl)) pe_int) (pv 13))))
      (pss_cons (ps_set (i := 14) sc__law_rings.nd rfl (Or.inl rfl) (pe_ix ix_tup (pe_tup (pa_cons (pv 14) (pa_cons (pe_op op_add pe_int (pe_op op_mod (pv 14) pe_int)) (pa_cons (pv 13) (pa_cons pe_int (pa_cons (pe_callB (call_min2 rfl) rfl hA.z_min (by decide +kernel) (pa_cons pe_int (pa_cons (pv 13) pa_nil))) (pa_cons (pe_op op_add pe_int (pe_op op_mod (pv 14) (pe_op op_pow pe_int pe_int))) pa_nil))))))) (pe_op op_mod (pe_ix ix_list (pv 6) pe_int (fun _ _ => rfl)) pe_int) (fun _ _ => rfl)))
      (pss_cons (ps_set (i := 14) sc__law_rings.nd rfl (Or.inl rfl) (pe_callB (call_min2 rfl) rfl hA.z_min (by decide +kernel) (pa_cons (pv 14) (pa_cons (pv 13) pa_nil))))
      (pss_cons (ps_expr (pe_bm PySem.F.plainAttrs_list PySem.F.slot_list_append PySem.F.type_list_append mt_append (pv 15) (pa_cons (pe_tup (pa_cons (pv 8) (pa_cons (pv 9) (pa_cons (pv 14) pa_nil)))) pa_nil)))
      pss_nil))))))))))))))))
      (pss_cons (ps_ret (pv 15))
      pss_nil)))), Go.at ?_⟩
    -- the cells, the list to be filled
    refine g_parLL (el_sl (ev_var rfl) eo_none (eo_some ev_c) hS) (el_lst ea_nil (by show 0 ≤ 100000; decide)) ?_
    intro c l H1 H2 nc e1 hc nl e2 hl
    rw [show (63 : Int) = ((63 : Nat) : Int) from rfl, cut_take, ← List.map_take] at hc
    rw [List.take_of_length_le hlen] at hc
    -- their sum, how many rings
    have hlenV : (ns.map V.int).length = ns.length := List.length_map _
    refine g_asg2 (eu_tup (ea_cons (ev_sum (ev_var rfl) (sq_of (e2 c _ hc))) (ea_cons (ev_op (ev_op (ev_len (ev_var rfl) (sq_of (e2 c _ hc))) ev_c rv_I0) ev_c (rv_I (div_ok (by decide) (lv_small (by decide))))) ea_nil)) (by show 2 ≤ 100000; decide)) ?_
    rw [hlenV]
    have hwh : Lv 133 ns.sum := lv_sum hlv (by omega)
    generalize hmany : ((ns.length : Int) + 2) / 3 = many
    have many0 : 0 ≤ many := by omega
    have manyn : 3 * many ≤ ns.length + 2 := by omega
    have hn63 : (ns.length : Int) ≤ 63 := by omega
    generalize hwho : ns.sum = wh at *
    have ncl : c ≠ l := ne_of_none hc nl
    refine g_forR (ea_cons (ev_cb (ea_cons ev_c (ea_cons (ev_var rfl) ea_nil)) (z := .int (min 6 many)) ?mn) ea_nil) ⟨by omega, by omega⟩ (fun i σ' H' => Ex H1 H' ∧ (∃ xs, H' l = some (.lst xs) ∧ RingsAt H' xs ∧ xs.length = i) ∧
      ∃ o4 o5 o6 o7 o8 o9 o10 o11 o12 o13 o14 : Option V, σ' = [some (.ref a), some (.ref c), some (.int wh), some (.int many), o4, o5, o6, o7, o8, o9, o10, o11, o12, o13, o14, some (.ref l), none, none]) ?h0 ?hs ?hd
    case mn =>
      intro H3 e3 Q q
      exact ⟨6, many, rfl, by rw [rMin_eq]; exact q H3 (Ex.refl _)⟩
    case h0 =>
      intro H3 e3
      exact ⟨e2.trans e3, ⟨[], e3 l _ hl, fun i hi => absurd hi (by simp), rfl⟩, none, none, none, none, none, none, none, none, none, none, none, rfl⟩
    case hd =>
      rintro σ' H' ⟨e3, ⟨xs, hxs, hR, hxl⟩, o4, o5, o6, o7, o8, o9, o10, o11, o12, o13, o14, rfl⟩
      refine g_ret (ev_var rfl) fun H4 e4 => ?_
      refine k l H4 xs (fresh_back e1 nl) ((e1.trans e3).trans e4) (e4 l _ hxs) (fun i hi => ?_) (by omega) (by omega)
      obtain ⟨b, P', S', M', h1, h2, h3⟩ := hR i hi
      exact ⟨b, P', S', M', h1, e4 b _ h2, h3⟩
    case hs =>
      rintro i σ' H3 hi ⟨e3, ⟨xs, hxs, hR, hxl⟩, o4, o5, o6, o7, o8, o9, o10, o11, o12, o13, o14, rfl⟩
      have hi' : (i : Int) < many := by omega
      have hc3 : H3 c = some (.lst (ns.map V.int)) := e3 c _ hc
      -- begin
      have b0 := Int.emod_nonneg ((i : Int) + wh) (show many ≠ 0 by omega)
      have b1 := Int.emod_lt_of_pos ((i : Int) + wh) (show 0 < many by omega)
      refine g_asg (ev_op ev_c (ev_op (ev_op (ev_var rfl) (ev_var rfl) rv_I0) (ev_var rfl) (rv_I (show (0 : Int) < many by omega))) (rv_I (mul_ok (lv_small (by decide) : Lv 1 (3 : Int)) (lv_small (show (((i : Int) + wh) % many).natAbs ≤ 1000000000000000000 by omega)) (by decide) (by decide)))) ?_
      obtain ⟨b, hb⟩ : ∃ b : Nat, 3 * (((i : Int) + wh) % many) = b := ⟨(3 * (((i : Int) + wh) % many)).toNat, by omega⟩
      rw [hb]
      have hb3 : b + 3 ≤ (List.replicate 3 (ns.map V.int)).flatten.length := by rw [rep_len, hlenV]; omega
      obtain ⟨x0, x1, x2, hcut, m0, m1, m2⟩ := three_of hb3
      have cell : ∀ {x : V}, x ∈ (List.replicate 3 (ns.map V.int)).flatten → ∃ z, x = .int z ∧ Lv 132 z := fun {x} hx => by
        obtain ⟨z, hz, rfl⟩ := List.mem_map.mp (in_rep hx)
        exact ⟨z, rfl, hlv z hz⟩
      obtain ⟨z0, rfl, l0⟩ := cell m0
      obtain ⟨z1, rfl, l1⟩ := cell m1
      obtain ⟨z2, rfl, l2⟩ := cell m2
      -- three numbers
      have lb : ∀ j : Nat, j < 3 → Lv 1 ((b : Int) + (j : Int)) := fun j hj => lv_small (by omega)
      have hwh4 : Lv 400 wh := lv_mono hwh (by decide)
      have sl : EvL (tSl (rSlL K) (tOp rRep (tVar 1) (tC (.int 3))) (tPart (tVar 5)) (tPart (tOp (rI0 fun i j => .int (i + j)) (tVar 5) (tC (.int 3)))))
          [some (.ref a), some (.ref c), some (.int wh), some (.int many), some (.int (i : Int)), some (.int (b : Int)), o6, o7, o8, o9, o10, o11, o12, o13, o14, some (.ref l), none, none] H3 [.int z0, .int z1, .int z2] := by
        rw [← hcut]
        exact el_slN (el_rep1 (ev_var rfl) hc3 ev_c ⟨by decide, by decide⟩ (by rw [hlenV]; show ns.length * 3 ≤ 100000; omega)) (eo_some (ev_var rfl)) (eo_some (ev_op (ev_var rfl) ev_c rv_I0))
      refine g_asgL (el_lcF (fun _ => true) (fun j => match j with | 0 => .int (lawNum z0 ((b : Int) + (0 : Nat)) wh) | 1 => .int (lawNum z1 ((b : Int) + (1 : Nat)) wh) | _ => .int (lawNum z2 ((b : Int) + (2 : Nat)) wh)) (ef_enumN sl) (by show 3 ≤ 50000; decide) (fun j hj => rfl) (fun H4 e4 j hj => et_yes) ?lc) ?_
      case lc =>
        intro H4 e4 j hj _
        match j, hj with
        | 0, _ => exact ev_call1 (ea_cons (ev_var rfl) (ea_cons (ev_op (ev_var rfl) (ev_var rfl) rv_I0) (ea_cons (ev_var rfl) ea_nil))) (spv_num l0 (lb 0 (by decide)) hwh4)
        | 1, _ => exact ev_call1 (ea_cons (ev_var rfl) (ea_cons (ev_op (ev_var rfl) (ev_var rfl) rv_I0) (ea_cons (ev_var rfl) ea_nil))) (spv_num l1 (lb 1 (by decide)) hwh4)
        | 2, _ => exact ev_call1 (ea_cons (ev_var rfl) (ea_cons (ev_op (ev_var rfl) (ev_var rfl) rv_I0) (ea_cons (ev_var rfl) ea_nil))) (spv_num l2 (lb 2 (by decide)) hwh4)
      intro th H4 nth e4 hth
      have lt0 : Lv 600 (lawNum z0 ((b : Int) + (0 : Nat)) wh) := lv_num l0 (lb 0 (by decide))
      have lt1 : Lv 600 (lawNum z1 ((b : Int) + (1 : Nat)) wh) := lv_num l1 (lb 1 (by decide))
      have lt2 : Lv 600 (lawNum z2 ((b : Int) + (2 : Nat)) wh) := lv_num l2 (lb 2 (by decide))
      generalize lawNum z0 ((b : Int) + (0 : Nat)) wh = t0 at *
      generalize lawNum z1 ((b : Int) + (1 : Nat)) wh = t1 at *
      generalize lawNum z2 ((b : Int) + (2 : Nat)) wh = t2 at *
      have hth : H4 th = some (.lst [.int t0, .int t1, .int t2]) := hth
      have sth := sq_of (K := K) hth
      have hl4 : H4 l = some (.lst xs) := e4 l _ hxs
      -- how wide
      obtain ⟨w0, hw0, mw0⟩ := atI_mod (ns := [9, 60, 60, 300, 1000, 40]) (x := wh / 4 + (i : Int)) (m := 6) rfl (by decide)
      refine g_asg (ev_ixU (eu_tup (ea_cons ev_c (ea_cons ev_c (ea_cons ev_c (ea_cons ev_c (ea_cons ev_c (ea_cons ev_c ea_nil)))))) (by show 6 ≤ 100000; decide)) (ev_op (ev_op (ev_op (ev_var rfl) ev_c (rv_I (div_ok (by decide) (lv_small (by decide))))) (ev_var rfl) rv_I0) ev_c (rv_I (show (0 : Int) < 6 by decide))) hw0) ?_
      have bw0 : 1 ≤ w0 ∧ w0 ≤ 10 ^ 40 := by
        simp only [List.mem_cons, List.not_mem_nil, or_false] at mw0
        omega
      refine g_cut (fun σ' H' => Ex H4 H' ∧ ∃ wd : Int, 1 ≤ wd ∧ wd ≤ 10 ^ 40 ∧ σ' = [some (.ref a), some (.ref c), some (.int wh), some (.int many), some (.int (i : Int)), some (.int (b : Int)), some (.ref th), some (.int wd), o8, o9, o10, o11, o12, o13, o14, some (.ref l), none, none]) (g_one (g_when (b := decide (V.int (i : Int) = V.int 0) && decide (V.int (wh % 16) = V.int 1)) (et_and (et_test (ev_op (ev_var rfl) ev_c (rv_eq rfl))) fun _ => et_test (ev_op (ev_op (ev_var rfl) ev_c (rv_I (show (0 : Int) < 16 by decide))) ev_c (rv_eq rfl))) (fun _ => ?_) (fun _ => g_next fun H' e => ⟨e, w0, bw0.1, bw0.2, rfl⟩))) ?_
      · obtain ⟨w1, hw1, mw1⟩ := atI_mod (ns := [10 ^ 9, 10 ^ 20, 10 ^ 40]) (x := wh / 4) (m := 3) rfl (by decide)
        refine g_asg (ev_ixU (eu_tup (ea_cons (ev_op ev_c ev_c (rv_I ⟨by decide, by decide, by decide⟩)) (ea_cons (ev_op ev_c ev_c (rv_I ⟨by decide, by decide, by decide⟩)) (ea_cons (ev_op ev_c ev_c (rv_I ⟨by decide, by decide, by decide⟩)) ea_nil))) (by show 3 ≤ 100000; decide)) (ev_op (ev_op (ev_var rfl) ev_c (rv_I (div_ok (by decide) (lv_small (by decide))))) ev_c (rv_I (show (0 : Int) < 3 by decide))) hw1) (g_next fun H' e => ⟨e, w1, ?_, ?_, rfl⟩)
        all_goals
          simp only [List.mem_cons, List.not_mem_nil, or_false] at mw1
          omega
      rintro σ' H' ⟨e5, wd, wd1, wd2, rfl⟩
      refine (?_ : Go _ _ _ H4) H' e5
      have pw : (10 : Int) ^ 40 = 10000000000000000000000000000000000000000 := by decide
      have p140 : (2 : Int) ^ 140 = 1393796574908163946345982392040522594123776 := by decide
      rw [pw] at wd2
      -- places, step
      have q0 := Int.emod_nonneg t0 (show wd ≠ 0 by omega)
      have q1 := Int.emod_lt_of_pos t0 (show 0 < wd by omega)
      refine g_asg (ev_op ev_c (ev_op (ev_ixL (ev_var rfl) sth ev_c rfl) (ev_var rfl) (rv_I (show (0 : Int) < wd by omega))) rv_I0) ?_
      generalize hP : 1 + t0 % wd = P0 at *
      have P1 : 1 ≤ P0 := by omega
      have P2 : P0 ≤ 10000000000000000000000000000000000000000 := by omega
      have lP : Lv 1 P0 := lv_lit (Nat.lt_of_le_of_lt (show P0.natAbs ≤ 10000000000000000000000000000000000000000 by omega) (Nat.lt_of_lt_of_le (show 10000000000000000000000000000000000000000 < 2 ^ 140 by decide) (Nat.pow_le_pow_right (by omega) (by omega))))
      refine g_asg (ev_op (ev_op (ev_ixL (ev_var rfl) sth ev_c rfl) ev_c (rv_I (div_ok (by decide) (lv_small (by decide))))) (ev_var rfl) (rv_I (show (0 : Int) < P0 by omega))) ?_
      have s0 := Int.emod_nonneg (t1 / 7) (show P0 ≠ 0 by omega)
      have s1 := Int.emod_lt_of_pos (t1 / 7) (show 0 < P0 by omega)
      generalize hS0 : t1 / 7 % P0 = S0 at *
      have lS : Lv 1 S0 := lv_le lP s0 (by omega)
      -- the kind
      refine g_asg (ev_op (ev_op (ev_op (ev_var rfl) ev_c (rv_I (div_ok (by decide) (lv_small (by decide))))) (ev_var rfl) rv_I0) ev_c (rv_I (show (0 : Int) < 7 by decide))) ?_
      generalize hk : (wh / 24 + (i : Int)) % 7 = kd at *
      refine g_cut (fun σ' H' => Ex H4 H' ∧ ∃ (P1 S1 : Int) (o : Option V), Ring P1 S1 ∧ P1 ≤ PB ∧ σ' = [some (.ref a), some (.ref c), some (.int wh), some (.int many), some (.int (i : Int)), some (.int (b : Int)), some (.ref th), some (.int wd), some (.int P1), some (.int S1), some (.int kd), o, o12, o13, o14, some (.ref l), none, none]) (g_one (g_when (et_test (ev_op (ev_var rfl) ev_c (rv_eq rfl))) (fun _ => ?_) (fun _ => g_next fun H' e => ⟨e, P0, S0, _, ⟨P1, s0, s1⟩, by unfold PB; omega, rfl⟩))) ?_
      · have u0 := Int.emod_nonneg t2 (show (5 : Int) ≠ 0 by decide)
        have u1 := Int.emod_lt_of_pos t2 (show (0 : Int) < 5 by decide)
        refine g_asg (ev_op ev_c (ev_op (ev_ixL (ev_var rfl) sth ev_c rfl) ev_c (rv_I (show (0 : Int) < 5 by decide))) rv_I0) ?_
        have lu : Lv 1 (2 + t2 % 5) := lv_small (by omega)
        refine g_par (ea_cons (ev_op (ev_var rfl) (ev_var rfl) (rv_I (mul_ok lP lu (by decide) (by decide)))) (ea_cons (ev_op (ev_var rfl) (ev_var rfl) (rv_I (mul_ok lS lu (by decide) (by decide)))) ea_nil)) ?_
        generalize hu : 2 + t2 % 5 = u at *
        have m1 : P0 * u ≤ P0 * 6 := Int.mul_le_mul_of_nonneg_left (by omega) (by omega)
        have m2 : P0 * 1 ≤ P0 * u := Int.mul_le_mul_of_nonneg_left (by omega) (by omega)
        have m3 : 0 ≤ S0 * u := Int.mul_nonneg s0 (by omega)
        have m4 : S0 * u < P0 * u := Int.mul_lt_mul_of_pos_right s1 (by omega)
        exact g_next fun H' e => ⟨e, P0 * u, S0 * u, _, ⟨by omega, m3, m4⟩, by unfold PB; omega, rfl⟩
      rintro σ' H' ⟨e6, P2', S2, o11', R2, b2, rfl⟩
      refine (?_ : Go _ _ _ H4) H' e6
      have b3 : P2' ≤ 60000000000000000000000000000000000000000 := b2
      have lP2 : Lv 1 P2' := lv_lit (Nat.lt_of_lt_of_le (show P2'.natAbs < 2 ^ 140 by rw [show (2 : Nat) ^ 140 = 1393796574908163946345982392040522594123776 by decide]; have := R2.p; omega) (Nat.pow_le_pow_right (by omega) (by omega)))
      have r1 := R2.p
      have r2 := R2.s0
      have r3 := R2.s
      refine g_cut (fun σ' H' => Ex H4 H' ∧ ∃ (S1 : Int), Ring P2' S1 ∧ σ' = [some (.ref a), some (.ref c), some (.int wh), some (.int many), some (.int (i : Int)), some (.int (b : Int)), some (.ref th), some (.int wd), some (.int P2'), some (.int S1), some (.int kd), o11', o12, o13, o14, some (.ref l), none, none]) (g_one (g_when (et_test (ev_op (ev_var rfl) ev_c (rv_eq rfl))) (fun _ => ?_) (fun _ => g_next fun H' e => ⟨e, S2, R2, rfl⟩))) ?_
      · have u0 := Int.emod_nonneg t2 (show (2 : Int) ≠ 0 by decide)
        refine g_asg (ev_min (ev_op (ev_var rfl) ev_c rv_I0) (ev_op (ev_op (ev_var rfl) ev_c (rv_I (div_ok (by decide) (lv_small (by decide))))) (ev_op (ev_ixL (ev_var rfl) sth ev_c rfl) ev_c (rv_I (show (0 : Int) < 2 by decide))) rv_I0)) ?_
        exact g_next fun H' e => ⟨e, _, ⟨r1, by omega, by omega⟩, rfl⟩
      rintro σ' H' ⟨e7, S3, R3, rfl⟩
      refine (?_ : Go _ _ _ H4) H' e7
      -- how many marks
      have tp := top_pos (p := P2') (s := S3) (by omega)
      have tl := top_le (p := P2') (s := S3) (by omega)
      refine g_asg (ev_call1 (ea_cons (ev_var rfl) (ea_cons (ev_var rfl) ea_nil)) (spv_common (by omega) R3.s0)) ?_
      refine g_asg (v := .int (top P2' S3)) (ev_op (ev_var rfl) (ev_var rfl) (rv_I (div_ok (G_pos (by omega)) (lv_G R3 lP2)))) ?_
      generalize htop : top P2' S3 = tt at *
      refine g_asg (ev_op ev_c (ev_op (ev_op (ev_ixL (ev_var rfl) sth ev_c rfl) ev_c (rv_I (div_ok (by decide) (lv_small (by decide))))) (ev_var rfl) (rv_I (show (0 : Int) < tt by omega))) rv_I0) ?_
      have v0 := Int.emod_nonneg (t2 / 3) (show tt ≠ 0 by omega)
      generalize hm0 : 1 + t2 / 3 % tt = mk0 at *
      have v1 := Int.emod_nonneg mk0 (show (60 : Int) ≠ 0 by decide)
      have v2 := Int.emod_nonneg mk0 (show (10 : Int) ^ 6 ≠ 0 by decide)
      obtain ⟨w3, hw3, mw3⟩ := atI_mod (ns := [mk0, 1 + mk0 % 60, tt, 1, min 2 tt, 1 + mk0 % 10 ^ 6]) (x := t2) (m := 6) rfl (by decide)
      refine g_asg (ev_ixU (eu_tup (ea_cons (ev_var rfl) (ea_cons (ev_op ev_c (ev_op (ev_var rfl) ev_c (rv_I (show (0 : Int) < 60 by decide))) rv_I0) (ea_cons (ev_var rfl) (ea_cons ev_c (ea_cons (ev_min ev_c (ev_var rfl)) (ea_cons (ev_op ev_c (ev_op (ev_var rfl) (ev_op ev_c ev_c (rv_I ⟨by decide, by decide, by decide⟩)) (rv_I (show (0 : Int) < 10 ^ 6 by decide))) rv_I0) ea_nil)))))) (by show 6 ≤ 100000; decide)) (ev_op (ev_ixL (ev_var rfl) sth ev_c rfl) ev_c (rv_I (show (0 : Int) < 6 by decide))) hw3) ?_
      have bw3 : 1 ≤ w3 := by
        simp only [List.mem_cons, List.not_mem_nil, or_false] at mw3
        omega
      refine g_asg (ev_min (ev_var rfl) (ev_var rfl)) ?_
      -- a row more
      refine g_appU hl4 (ev_var rfl) (eu_tup (ea_cons (ev_var rfl) (ea_cons (ev_var rfl) (ea_cons (ev_var rfl) ea_nil))) (by show 3 ≤ 100000; decide)) (by omega) ?_
      intro p H5 np e8 hp
      refine g_next fun H6 e9 => ⟨?_, ⟨xs ++ [.ref p], e9 l _ upd_same, ?_, by rw [List.length_append]; simp; omega⟩, _, _, _, _, _, _, _, _, _, _, _, rfl⟩
      · exact (Ex.mut ((e3.trans e4).trans e8) nl).trans e9
      · have npl : p ≠ l := fun z => by rw [z, hl4] at np; cases np
        intro j hj
        rw [List.length_append] at hj
        by_cases hjx : j < xs.length
        · obtain ⟨b', P', S', M', h1, h2, h3⟩ := hR j hjx
          refine ⟨b', P', S', M', by rw [List.getElem?_append_left hjx]; exact h1, ?_, h3⟩
          have nb : b' ≠ l := ne_of h2 hxs (by intro z; cases z)
          refine e9 _ _ ?_
          rw [upd_ne nb]
          exact e8 _ _ (e4 _ _ h2)
        · have hj' : j = xs.length := by simp at hj; omega
          subst hj'
          refine ⟨p, P2', S3, min w3 tt, by simp, ?_, ⟨R3, b2, by omega, by rw [htop]; omega⟩⟩
          refine e9 _ _ ?_
          rw [upd_ne npl]
          exact hp
open LamX
abbrev s_law : Stmt := topS 32
theorem sc_law : FnScope ["_law_script", "_law_whole_here", "_law_at", "_law_ring", "_law_places", "_law_step", "_law_marks", "_law_number_here", "_law_turn", "_law_mark", "_law_place", "_law_order"] ["_law_script"] (defScope s_law) := ⟨rfl, rfl, rfl, by decide +kernel, rfl, by decide +kernel, by decide +kernel⟩
def spLaw (K : PySem.W.Frag) (PT : Addr) : Sp := fun vs H Q _ => ∃ (a : Addr) (ns : List Int), vs = [.ref a] ∧ Tabs [(PT, lamQ "law")] H ∧ SqL K H a (ns.map V.int) ∧ ns.length ≤ 63 ∧ (∀ z ∈ ns, Lv 132 z) ∧ ∀ H', Q (.bl true) H'
theorem mk734 (t k : Int) (h0 : 0 ≤ k) (h1 : k < 4) (h : RS.cnt 7 3 4 (k * 3 % 7) = t + 1) : theMark 7 3 4 t = k := theMark_eq (by decide) (by decide +kernel) h0 h1 h
theorem ok_law {c : Cs} {cC PT : Addr} (hcode : fd.code = .ref cC) (TB : TabB base mg cC PT) (hA : Blt mg) (F : Fun K "law" "law" s_law f fd) (G__law_number : FnOk P w K mg base CX0 1 f1 fd1 ["_law_cell", "_law_at", "_law_whole_here"] spNum) (A__law_number : At K mg "_law_number" s__law_number ["_law_cell", "_law_at", "_law_whole_here"] f1 fd1)
    (G__law_rings : FnOk P w K mg base CX0 2 f2 fd2 ["_law_script"] (spRings K)) (A__law_rings : At K mg "_law_rings" s__law_rings ["_law_script"] f2 fd2)
    (G__law_turn_right : FnOk P w K mg base CX0 198 f3 fd3 ["_law_places", "_law_step", "_law_marks", "_law_turn"] spTR) (A__law_turn_right : At K mg "_law_turn_right" s__law_turn_right ["_law_places", "_law_step", "_law_marks", "_law_turn"] f3 fd3)
    (G_mark_by : FnOk P w K mg base CX0 4 f4 fd4 ["places", "step", "marks", "turn"] (spMarkByQ K c)) (A_mark_by : At K mg "mark_by" s_mark_by ["places", "step", "marks", "turn"] f4 fd4)
    (G_turn_of : FnOk P w K mg base CX0 4 f5 fd5 ["places", "step", "marks", "mark"] (spTurnQ K c)) (A_turn_of : At K mg "turn_of" s_turn_of ["places", "step", "marks", "mark"] f5 fd5)
    (G__law_beside_right : FnOk P w K mg base CX0 198 f6 fd6 ["_law_places", "_law_step", "_law_marks", "_law_place"] spBR) (A__law_beside_right : At K mg "_law_beside_right" s__law_beside_right ["_law_places", "_law_step", "_law_marks", "_law_place"] f6 fd6)
    {f7 : Addr} {fd7 : FuncData} (G_beside : FnOk P w K mg base CX0 5 f7 fd7 ["places", "step", "marks", "place"] (spBesideQ K c)) (A_beside : At K mg "beside" s_beside ["places", "step", "marks", "place"] f7 fd7) : FnOk P w K mg base CX0 199 f fd ["_law_script"] (spLaw K PT) := by
  refine okC hcode F sc_law (fun vs H Q E h => ?_) (fun A outer s H vs Q E hr h => ?_)
  · obtain ⟨a, ns, rfl, _⟩ := h
    rfl
  · obtain ⟨a, ns, rfl, hT, hS, hlen, hlv, k⟩ := h
    refine ⟨_, (pss_cons (ps_set (i := 1) sc_law.nd rfl (Or.inl rfl) (pe_callB (cr_sum rfl) rfl hA.z_sum (by decide +kernel) (pa_cons (pe_slice sl_list (pv 0) po_none (po_some pe_int)) pa_nil)))
      (pss_cons (ps_for PassesOwn.never rfl (pi_enum rfl hA.z_enumerate (pa_cons (pe_call G__law_rings (hr.mono (by omega)) rfl A__law_rings.g A__law_rings.fn.kp A__law_rings.b .nil pass0 (pa_cons (pv 0) pa_nil)) pa_nil)) (pg_tup rfl (pgs_cons (pg_name (i := 2) sc_law.nd rfl (Or.inl rfl)) (pgs_cons (pg_name (i := 3) sc_law.nd rfl (Or.inl rfl)) pgs_nil))) (pss_cons (ps_asg (pv 3) (pg_tup rfl (pgs_cons (pg_name (i := 4) sc_law.nd rfl (Or.inr rfl)) (pgs_cons (pg_name (i := 5) sc_law.nd rfl (Or.inr rfl)) (pgs_cons (pg_name (i := 6) sc_law.nd rfl (Or.inr rfl)) pgs_nil)))))
      (pss_cons (ps_set (i := 7) sc_law.nd rfl (Or.inl rfl) (pe_call G__law_number (hr.mono (by omega)) rfl A__law_number.g A__law_number.fn.kp A__law_number.b .nil pass0 (pa_cons (pe_ix ix_list (pv 0) (pv 2) (fun _ _ => rfl)) (pa_cons (pv 2) (pa_cons (pv 1) pa_nil)))))
      (pss_cons (ps_for PassesOwn.never rfl (pi_list (pe_lst (pa_cons pe_int (pa_cons (pe_op op_sub (pv 6) pe_int) (pa_cons (pe_op op_mod (pv 7) (pv 6)) pa_nil))))) (pg_name (i := 8) sc_law.nd rfl (Or.inl rfl)) (pss_cons (ps_if (pt_not (pt_val (pe_call G__law_turn_right (hr.mono (by omega)) rfl A__law_turn_right.g A__law_turn_right.fn.kp A__law_turn_right.b .nil pass0 (pa_cons (pv 4) (pa_cons (pv 5) (pa_cons (pv 6) (pa_cons (pv 8) pa_nil))))))) (pss_cons (ps_ret pe_bl)
      pss_nil) pss_nil)
      pss_nil))
      (pss_cons (ps_set (i := 9) sc_law.nd rfl (Or.inl rfl) (pe_op op_mod (pe_op op_fdivW (pv 7) pe_int) (pv 6)))
      (pss_cons (ps_if (pt_cmpR op_ne (pe_call G_mark_by (hr.mono (by omega)) rfl A_mark_by.g A_mark_by.fn.kp A_mark_by.b .nil pass0 (pa_cons (pv 4) (pa_cons (pv 5) (pa_cons (pv 6) (pa_cons (pe_call G_turn_of (hr.mono (by omega)) rfl A_turn_of.g A_turn_of.fn.kp A_turn_of.b .nil pass0 (pa_cons (pv 4) (pa_cons (pv 5) (pa_cons (pv 6) (pa_cons (pv 9) pa_nil))))) pa_nil))))) (pv 9) (nomark _)) (pss_cons (ps_ret pe_bl)
      pss_nil) pss_nil)
      (pss_cons (ps_for PassesOwn.never rfl (pi_list (pe_lst (pa_cons pe_int (pa_cons (pe_op op_mod (pe_op op_fdivW (pv 7) pe_int) (pv 4)) (pa_cons (pe_op op_mod (pe_op op_mulB (pv 9) (pv 5)) (pv 4)) pa_nil))))) (pg_name (i := 10) sc_law.nd rfl (Or.inl rfl)) (pss_cons (ps_if (pt_not (pt_val (pe_call G__law_beside_right (hr.mono (by omega)) rfl A__law_beside_right.g A__law_beside_right.fn.kp A__law_beside_right.b .nil pass0 (pa_cons (pv 4) (pa_cons (pv 5) (pa_cons (pv 6) (pa_cons (pv 10) pa_nil))))))) (pss_cons (ps_ret pe_bl)
      pss_nil) pss_nil)
      pss_nil))
      (pss_cons (ps_if (PW.pt (pw_and (pt_cmpR op_lt (pv 4) pe_int (nomark _)) (pw_and1 (pt_cmpR op_lt (pv 6) pe_int (nomark _))))) (pss_cons (ps_set (i := 11) sc_law.nd rfl (Or.inl rfl) (pe_sortKey (T := [(PT, lamQ "law")]) (c := cC) (P := PT) (i1 := 5) (i2 := 4) rfl rfl hA.z_sorted (pa_cons (pe_rangeV rfl hA.z_range (pv 6)) pa_nil) TB rfl (List.Mem.head _) (fun p hp _ => congrArg Prod.snd (List.mem_singleton.mp hp)) (hr.mono (by omega)) (lamK_by (sc := defScope s_law) (by decide +kernel)) rfl (fun _ _ _ _ _ _ => rfl) rfl rfl))
      (pss_cons (ps_if (pt_cmpR (op_neD hr.units) (pe_lc (own := [("_law_turn", 8)]) (g := (gName 8)) rfl sc_law.nd (pi_range1 rfl hA.z_range (pa_cons (pv 6) pa_nil)) (blkOk_by (own := [("_law_turn", 8)]) (N := ["_law_script", "_law_whole_here", "_law_at", "_law_ring", "_law_places", "_law_step", "_law_marks", "_law_number_here", "_law_turn", "_law_mark", "_law_place", "_law_order"]) (sc := defScope s_law) (by decide +kernel)) (fun _ _ _ _ _ => (pg_name (i := 8) sc_law.nd rfl (Or.inl rfl))) (fun _ _ _ _ _ => pts_nil) (fun _ _ _ _ _ => (pe_call G_mark_by (hr.mono (by omega)) rfl A_mark_by.g A_mark_by.fn.kp A_mark_by.b .nil pass0 (pa_cons (pv 4) (pa_cons (pv 5) (pa_cons (pv 6) (pa_cons (pv 8) pa_nil))))))) (pv 11) (nomark _)) (pss_cons (ps_ret pe_bl)
      pss_nil) pss_nil)
      pss_nil)) pss_nil)
      pss_nil))))))))
      (pss_cons (ps_if (PW.pt (pw_or (pt_cmpR (op_neD hr.units) (pe_lc (own := [("_law_turn", 8)]) (g := (gName 8)) rfl sc_law.nd (pi_range1 rfl hA.z_range (pa_cons pe_int pa_nil)) (blkOk_by (own := [("_law_turn", 8)]) (N := ["_law_script", "_law_whole_here", "_law_at", "_law_ring", "_law_places", "_law_step", "_law_marks", "_law_number_here", "_law_turn", "_law_mark", "_law_place", "_law_order"]) (sc := defScope s_law) (by decide +kernel)) (fun _ _ _ _ _ => (pg_name (i := 8) sc_law.nd rfl (Or.inl rfl))) (fun _ _ _ _ _ => pts_nil) (fun _ _ _ _ _ => (pe_call G_mark_by (hr.mono (by omega)) rfl A_mark_by.g A_mark_by.fn.kp A_mark_by.b .nil pass0 (pa_cons pe_int (pa_cons pe_int (pa_cons pe_int (pa_cons (pv 8) pa_nil))))))) (pe_lst (pa_cons pe_int (pa_cons pe_int (pa_cons pe_int (pa_cons pe_int pa_nil))))) (nomark _)) (pw_or1 (pt_cmpR (op_neD hr.units) (pe_call G_beside (hr.mono (by omega)) rfl A_beside.g A_beside.fn.kp A_beside.b .nil pass0 (pa_cons pe_int (pa_cons pe_int (pa_cons pe_int (pa_cons pe_int pa_nil))))) (pe_tup (pa_cons pe_int (pa_cons pe_int pa_nil))) (nomark _))))) (pss_cons (ps_ret pe_bl)
      pss_nil) pss_nil)
      (pss_cons (ps_ret (pe_and (pe_cmpR (op_eqD hr.units) (pe_call G_beside (hr.mono (by omega)) rfl A_beside.g A_beside.fn.kp A_beside.b .nil pass0 (pa_cons pe_int (pa_cons pe_int (pa_cons pe_int (pa_cons pe_int pa_nil))))) (pe_tup (pa_cons pe_int (pa_cons pe_int pa_nil))) (nomark _)) (pe_and (pe_cmpR (op_eqD hr.units) (pe_call G_beside (hr.mono (by omega)) rfl A_beside.g A_beside.fn.kp A_beside.b .nil pass0 (pa_cons pe_int (pa_cons pe_int (pa_cons pe_int (pa_cons pe_int pa_nil))))) (pe_tup (pa_cons pe_int (pa_cons pe_int pa_nil))) (nomark _)) (pe_one (pe_cmpR op_eq (pe_call G_turn_of (hr.mono (by omega)) rfl A_turn_of.g A_turn_of.fn.kp A_turn_of.b .nil pass0 (pa_cons pe_int (pa_cons pe_int (pa_cons pe_int (pa_cons pe_int pa_nil))))) pe_int (nomark _))))))
      pss_nil)))), Go.at ?_⟩
    refine g_asg (ev_sumN (ns := ns.take 63) (by rw [List.map_take, ← cut_take]; exact el_sl (ev_var rfl) eo_none (eo_some ev_c) hS)) ?_
    rw [List.take_of_length_le hlen]
    have hwh : Lv 133 ns.sum := lv_sum hlv (by omega)
    generalize ns.sum = wh at *
    have hwh4 : Lv 400 wh := lv_mono hwh (by decide)
    refine g_forP (R := fun v H2 => ∃ p xs, v = .ref p ∧ H2 p = some (.lst xs) ∧ RingsAt H2 xs ∧ xs.length ≤ 6 ∧ xs.length ≤ ns.length) (fun H1 e1 Q' q => ⟨_, rfl, a, ns, rfl, ex_l e1 hS, hlen, hlv, fun p H' xs np e2 hp hR hn h6 => q _ _ e2 ⟨p, xs, rfl, hp, hR, h6, hn⟩⟩) ?_
    rintro v H2 e1 ⟨p, xs, rfl, hp, hR, h6, hxn⟩
    have hS2 := ex_l e1 hS
    refine g_forEnN ev_c hp (hT.ext e1) (fun i σ' => ∃ o2 o3 o4 o5 o6 o7 o8 o9 o10 o11 : Option V, σ' = [some (.ref a), some (.int wh), o2, o3, o4, o5, o6, o7, o8, o9, o10, o11]) ⟨_, _, _, _, _, _, _, _, _, _, rfl⟩ ?_ ?_
    · rintro B eB i σ' H3 hi xN T3 ⟨o2, o3, o4, o5, o6, o7, o8, o9, o10, o11, rfl⟩
      have hS3 := sqN xN (ex_l eB hS2)
      obtain ⟨b, P', S', M', h1, h2, G'⟩ := hR i hi
      have h3 := extN_tup xN (eB b _ h2)
      have lP := G'.lp
      have lS := G'.ls
      have lM := G'.lm
      obtain ⟨R, pb, m1, m2⟩ := id G'
      have p1 := R.p
      rw [h1]
      refine g_unt3c (ev_var rfl) h3 ?_
      have hin : i < ns.length := by omega
      have lz : Lv 132 ns[i] := hlv _ (List.getElem_mem hin)
      have hat : atI (ns.map V.int) (i : Int) = some (V.int ns[i]) := atI_nat (by rw [List.getElem?_map, List.getElem?_eq_getElem hin]; rfl)
      have lat : Lv 1 (i : Int) := lv_small (by omega)
      refine g_asg (ev_call1 (ea_cons (ev_ixL (ev_var rfl) hS3 (ev_var rfl) hat) (ea_cons (ev_var rfl) (ea_cons (ev_var rfl) ea_nil))) (spv_num lz lat hwh4)) ?_
      have ln : Lv 600 (lawNum ns[i] (i : Int) wh) := lv_num lz lat
      generalize lawNum ns[i] (i : Int) wh = nb at *
      -- turns
      have c0 := Int.emod_nonneg nb (show M' ≠ 0 by omega)
      have c1 := Int.emod_lt_of_pos nb (show 0 < M' by omega)
      refine g_for (ef_listN (xs := [.int 0, .int (M' - 1), .int (nb % M')]) (el_lst (ea_cons ev_c (ea_cons (ev_op (ev_var rfl) ev_c rv_I0) (ea_cons (ev_op (ev_var rfl) (ev_var rfl) (rv_I (show (0 : Int) < M' by omega))) ea_nil))) (by show 3 ≤ 100000; decide))) (fun j σ' => ∃ o8 : Option V, σ' = [some (.ref a), some (.int wh), some (.int (i : Int)), some (.ref b), some (.int P'), some (.int S'), some (.int M'), some (.int nb), o8, o9, o10, o11]) ⟨o8, rfl⟩ ?_ ?_
      · rintro H4 e4 j σ' hj ⟨o8, rfl⟩
        have hn : ∃ n : Int, [V.int 0, .int (M' - 1), .int (nb % M')][j]? = some (.int n) ∧ 0 ≤ n ∧ n < M' := by
          have hj : j < 3 := hj
          match j, hj with
          | 0, _ => exact ⟨0, rfl, by omega, by omega⟩
          | 1, _ => exact ⟨_, rfl, by omega, by omega⟩
          | 2, _ => exact ⟨_, rfl, by omega, by omega⟩
        obtain ⟨n, hjn, n0, n1⟩ := hn
        rw [hjn]
        refine g_when (b := false) (et_not (a := true) (et_B (ev_call1 (ea_cons (ev_var rfl) (ea_cons (ev_var rfl) (ea_cons (ev_var rfl) (ea_cons (ev_var rfl) ea_nil)))) (spv_TR R pb m1 m2 n0 n1)))) (fun h => nomatch h) (fun _ => ?_)
        exact g_next fun H5 e5 => And.intro e5 ⟨_, rfl⟩
      rintro H4 e4 σ' ⟨o8, rfl⟩
      -- a mark, its turn, its mark
      have k0 := Int.emod_nonneg (nb / 5) (show M' ≠ 0 by omega)
      have k1 := Int.emod_lt_of_pos (nb / 5) (show 0 < M' by omega)
      refine g_asg (ev_op (ev_op (ev_var rfl) ev_c (rv_I (div_ok (by decide) (lv_small (by decide))))) (ev_var rfl) (rv_I (show (0 : Int) < M' by omega))) ?_
      generalize nb / 5 % M' = mk at *
      have e1' : ((mk.toNat : Nat) : Int) = mk := by omega
      have q1 := cnt_at (p := P') (s := S') (x := mk * S' % P') (n := M'.toNat) (k := mk.toNat) (by omega) (by rw [e1'])
      have q2 := RS.cnt_nn P' S' M'.toNat (mk * S' % P' - 1)
      have q3 := RS.cnt_le P' S' M'.toNat (mk * S' % P')
      have hmk : theMark P' S' M' (RS.cnt P' S' M'.toNat (mk * S' % P') - 1) = mk := theMark_eq (by omega) m2 k0 k1 (by omega)
      refine g_when (b := false) (et_is (et_test (ev_op (ev_is (w := .int mk) (ev_call1 (ea_cons (ev_var rfl) (ea_cons (ev_var rfl) (ea_cons (ev_var rfl) (ea_cons (ev_call1 (ea_cons (ev_var rfl) (ea_cons (ev_var rfl) (ea_cons (ev_var rfl) (ea_cons (ev_var rfl) ea_nil)))) (spv_turnOf R lP m1 m2 k0 k1)) ea_nil)))) (spv_markBy R lP m1 m2 (show 0 ≤ RS.cnt P' S' M'.toNat (mk * S' % P') - 1 by omega) (show RS.cnt P' S' M'.toNat (mk * S' % P') - 1 < M' by omega))) (congrArg V.int hmk)) (ev_var rfl) (rv_ne rfl))) (ne_same rfl)) (fun h => nomatch h) (fun _ => ?_)
      -- places
      have lmk : Lv 1 mk := lv_le lM k0 (by omega)
      have x0 := Int.emod_nonneg (nb / 3) (show P' ≠ 0 by omega)
      have x1 := Int.emod_lt_of_pos (nb / 3) (show 0 < P' by omega)
      have y0 := Int.emod_nonneg (mk * S') (show P' ≠ 0 by omega)
      have y1 := Int.emod_lt_of_pos (mk * S') (show 0 < P' by omega)
      refine g_for (ef_listN (xs := [.int 0, .int (nb / 3 % P'), .int (mk * S' % P')]) (el_lst (ea_cons ev_c (ea_cons (ev_op (ev_op (ev_var rfl) ev_c (rv_I (div_ok (by decide) (lv_small (by decide))))) (ev_var rfl) (rv_I (show (0 : Int) < P' by omega))) (ea_cons (ev_op (ev_op (ev_var rfl) (ev_var rfl) (rv_I (mul_ok lmk lS (by decide) (by decide)))) (ev_var rfl) (rv_I (show (0 : Int) < P' by omega))) ea_nil))) (by show 3 ≤ 100000; decide))) (fun j σ' => ∃ o10 : Option V, σ' = [some (.ref a), some (.int wh), some (.int (i : Int)), some (.ref b), some (.int P'), some (.int S'), some (.int M'), some (.int nb), o8, some (.int mk), o10, o11]) ⟨o10, rfl⟩ ?_ ?_
      · rintro H5 e5 j σ' hj ⟨o10, rfl⟩
        have hn : ∃ n : Int, [V.int 0, .int (nb / 3 % P'), .int (mk * S' % P')][j]? = some (.int n) ∧ 0 ≤ n ∧ n < P' := by
          have hj : j < 3 := hj
          match j, hj with
          | 0, _ => exact ⟨0, rfl, by omega, by omega⟩
          | 1, _ => exact ⟨_, rfl, x0, x1⟩
          | 2, _ => exact ⟨_, rfl, y0, y1⟩
        obtain ⟨n, hjn, n0, n1⟩ := hn
        rw [hjn]
        refine g_when (b := false) (et_not (a := true) (et_B (ev_call1 (ea_cons (ev_var rfl) (ea_cons (ev_var rfl) (ea_cons (ev_var rfl) (ea_cons (ev_var rfl) ea_nil)))) (spv_BR R pb m1 m2 n0 n1)))) (fun h => nomatch h) (fun _ => ?_)
        exact g_next fun H6 e6 => And.intro e6 ⟨_, rfl⟩
      rintro H5 e5 σ' ⟨o10, rfl⟩
      have x5 : Ex H3 H5 := e4.trans e5
      -- of few places the order
      refine g_when (b := decide (P' < 70) && decide (M' < 24)) (et_and (et_test (ev_op (ev_var rfl) ev_c rv_I0)) fun _ => et_test (ev_op (ev_var rfl) ev_c rv_I0)) (fun h => ?_) (fun _ => g_next fun H6 e6 => ⟨xN.trans (ExtN.of fun b o hb => e6 b o (x5 b o hb)), T3.ext fun b o hb => e6 b o (x5 b o hb), _, _, _, _, _, _, _, _, _, _, rfl⟩)
      have h24 : M' < 24 := by
        have := (Bool.and_eq_true_iff.mp h).2
        exact of_decide_eq_true this
      obtain ⟨n, hMn⟩ : ∃ n : Nat, M' = n := ⟨M'.toNat, by omega⟩
      subst hMn
      refine g_asgSortKey (T := [(PT, lamQ "law")]) (n := n) (st := S') (m := P') (ev_var rfl) (by omega) rfl rfl (by omega) (fun j hj => (mul_ok (lv_small (show ((j : Nat) : Int).natAbs ≤ 1000000000000000000 by omega)) lS (by decide) (by decide) : CMulB _ _).ok) (T3.ext x5) ?_
      intro os l H6 xN6 T6 hl pm pw
      have hord := marks_order (show 0 < P' by omega) m2 pm pw
      have en : ((n : Int)).toNat = n := by omega
      have lc := el_lcF (n := ((n : Int)).toNat) (σ := [some (.ref a), some (.int wh), some (.int (i : Int)), some (.ref b), some (.int P'), some (.int S'), some (.int (n : Int)), some (.int nb), o8, some (.int mk), o10, some (.ref l)]) (H := H6) (vs := [8]) (t := tYes) (te := tCall (spMarkByQ K c) [] E0 (tCons (tVar 4) (tCons (tVar 5) (tCons (tVar 6) (tCons (tVar 8) tNil))))) (fun _ => true) (fun j => V.int (theMark P' S' (n : Int) (j : Nat))) (ef_range (n := (n : Int)) (j := 8) (ta := tCons (tVar 6) tNil) (ea_cons (ev_var rfl) ea_nil) (by omega) (by omega)) (by omega) (fun j hj => rfl) (fun H7 e7 j hj => et_yes) (fun H7 e7 j hj _ => ev_call1 (ea_cons (ev_var rfl) (ea_cons (ev_var rfl) (ea_cons (ev_var rfl) (ea_cons (ev_var rfl) ea_nil)))) (spv_markBy R lP m1 m2 (show (0 : Int) ≤ ((j : Nat) : Int) by omega) (show ((j : Nat) : Int) < (n : Int) by omega)))
      rw [en] at lc
      have hgv : given n (fun _ => true) (fun j => V.int (theMark P' S' (n : Int) (j : Nat))) = os.map V.int := by
        rw [hord]
        unfold given
        rw [List.filter_eq_self.mpr fun _ _ => rfl, List.map_map]
        rfl
      rw [hgv] at lc
      refine g_when (b := false) (et_is (et_test (ev_neD (ed_ints lc) (ed_of (ev_var rfl) (.lst (sq_of hl) (dp_ints os))) (shaped_ints os) (shaped_ints os))) (by rw [eqv_ints]; rfl)) (fun h => nomatch h) (fun _ => ?_)
      exact g_next fun H7 e7 => ⟨((xN.trans (ExtN.of x5)).trans xN6).trans (ExtN.of e7), T6.ext e7, _, _, _, _, _, _, _, _, _, _, rfl⟩
    · rintro B eB T3 σ' ⟨o2, o3, o4, o5, o6, o7, o8, o9, o10, o11, rfl⟩
      have R7 : Ring 7 3 := ⟨by decide, by decide, by decide⟩
      have l7 : Lv 1 7 := lv_small (by decide)
      have t7 : (4 : Int) ≤ top 7 3 := by decide +kernel
      have R5 : Ring 5 2 := ⟨by decide, by decide, by decide⟩
      have l5 : Lv 1 5 := lv_small (by decide)
      have t5 : (1 : Int) ≤ top 5 2 := by decide +kernel
      have lc := el_lcF (n := (4 : Int).toNat) (σ := [some (.ref a), some (.int wh), o2, o3, o4, o5, o6, o7, o8, o9, o10, o11]) (H := B) (vs := [8]) (t := tYes) (te := tCall (spMarkByQ K c) [] E0 (tCons (tC (.int 7)) (tCons (tC (.int 3)) (tCons (tC (.int 4)) (tCons (tVar 8) tNil))))) (fun _ => true) (fun j => V.int (theMark 7 3 4 (j : Nat))) (ef_range (n := (4 : Int)) (j := 8) (ta := tCons (tC (.int 4)) tNil) (ea_cons ev_c ea_nil) (by omega) (by omega)) (by decide) (fun j hj => rfl) (fun H7 e7 j hj => et_yes) (fun H7 e7 j hj _ => ev_call1 (ea_cons ev_c (ea_cons ev_c (ea_cons ev_c (ea_cons (ev_var rfl) ea_nil)))) (spv_markBy R7 l7 (by decide) t7 (show (0 : Int) ≤ ((j : Nat) : Int) by omega) (show ((j : Nat) : Int) < 4 by have : j < 4 := hj; omega)))
      have hgv : given (4 : Int).toNat (fun _ => true) (fun j => V.int (theMark 7 3 4 (j : Nat))) = ([0, 3, 1, 2] : List Int).map V.int := by
        show [V.int (theMark 7 3 4 0), V.int (theMark 7 3 4 1), V.int (theMark 7 3 4 2), V.int (theMark 7 3 4 3)] = _
        rw [mk734 0 0 (by decide) (by decide) (by decide +kernel), mk734 1 3 (by decide) (by decide) (by decide +kernel), mk734 2 1 (by decide) (by decide) (by decide +kernel), mk734 3 2 (by decide) (by decide) (by decide +kernel)]
        rfl
      rw [hgv] at lc
      have bA5 : besA 7 3 4 5 = 1 ∧ besB 7 3 4 5 = 2 := by
        unfold besA besB
        rw [show RS.cnt 7 3 (4 : Int).toNat 5 = 3 by decide +kernel]
        exact ⟨mk734 2 1 (by decide) (by decide) (by decide +kernel), mk734 3 2 (by decide) (by decide) (by decide +kernel)⟩
      have bA6 : besA 7 3 4 6 = 2 ∧ besB 7 3 4 6 = 0 := by
        unfold besA besB
        rw [show RS.cnt 7 3 (4 : Int).toNat 6 = 4 by decide +kernel]
        exact ⟨mk734 3 2 (by decide) (by decide) (by decide +kernel), mk734 0 0 (by decide) (by decide) (by decide +kernel)⟩
      have bA1 : besA 5 2 1 3 = 0 ∧ besB 5 2 1 3 = 0 := by
        unfold besA besB
        rw [show RS.cnt 5 2 (1 : Int).toNat 3 = 1 by decide +kernel]
        exact ⟨theMark_eq (by decide) t5 (by decide) (by decide) (by decide +kernel), theMark_eq (by decide) t5 (by decide) (by decide) (by decide +kernel)⟩
      have b5 := eu_beside (K := K) (c := c) (σ := [some (.ref a), some (.int wh), o2, o3, o4, o5, o6, o7, o8, o9, o10, o11]) (H := B) (E := E0) R7 l7 (show (1 : Int) ≤ 4 by decide) t7 (show (0 : Int) ≤ 5 by decide) (by decide) (ta := tCons (tC (.int 7)) (tCons (tC (.int 3)) (tCons (tC (.int 4)) (tCons (tC (.int 5)) tNil)))) (ea_cons ev_c (ea_cons ev_c (ea_cons ev_c (ea_cons ev_c ea_nil))))
      have b6 := eu_beside (K := K) (c := c) (σ := [some (.ref a), some (.int wh), o2, o3, o4, o5, o6, o7, o8, o9, o10, o11]) (H := B) (E := E0) R7 l7 (show (1 : Int) ≤ 4 by decide) t7 (show (0 : Int) ≤ 6 by decide) (by decide) (ta := tCons (tC (.int 7)) (tCons (tC (.int 3)) (tCons (tC (.int 4)) (tCons (tC (.int 6)) tNil)))) (ea_cons ev_c (ea_cons ev_c (ea_cons ev_c (ea_cons ev_c ea_nil))))
      have b1 := eu_beside (K := K) (c := c) (σ := [some (.ref a), some (.int wh), o2, o3, o4, o5, o6, o7, o8, o9, o10, o11]) (H := B) (E := E0) R5 l5 (show (1 : Int) ≤ 1 by decide) t5 (show (0 : Int) ≤ 3 by decide) (by decide) (ta := tCons (tC (.int 5)) (tCons (tC (.int 2)) (tCons (tC (.int 1)) (tCons (tC (.int 3)) tNil)))) (ea_cons ev_c (ea_cons ev_c (ea_cons ev_c (ea_cons ev_c ea_nil))))
      rw [bA5.1, bA5.2] at b5
      rw [bA6.1, bA6.2] at b6
      rw [bA1.1, bA1.2] at b1
      refine g_when (b := false) (et_or (a := false) (b := false) (et_is (et_test (ev_neD (ed_ints lc) (ed_lst (eds_cons (ed_int ev_c) (eds_cons (ed_int ev_c) (eds_cons (ed_int ev_c) (eds_cons (ed_int ev_c) eds_nil)))) (by show 4 ≤ 100000; decide)) rfl rfl)) rfl) fun _ => et_is (et_test (ev_neD (ed_U2 b5) (ed_tup (eds_cons (ed_int ev_c) (eds_cons (ed_int ev_c) eds_nil)) (by show 2 ≤ 100000; decide)) rfl rfl)) rfl) (fun h => nomatch h) (fun _ => ?_)
      exact g_ret (v := .bl true) (ev_is (ev_andV (a := true) (b := true) (ev_is (ev_eqD (ed_U2 b1) (ed_tup (eds_cons (ed_int ev_c) (eds_cons (ed_int ev_c) eds_nil)) (by show 2 ≤ 100000; decide)) rfl rfl) rfl) fun _ => ev_andV (a := true) (b := true) (ev_is (ev_eqD (ed_U2 b6) (ed_tup (eds_cons (ed_int ev_c) (eds_cons (ed_int ev_c) eds_nil)) (by show 2 ≤ 100000; decide)) rfl rfl) rfl) fun _ => ev_is (ev_op (ev_call1 (ea_cons ev_c (ea_cons ev_c (ea_cons ev_c (ea_cons ev_c ea_nil)))) (spv_turnOf R7 l7 (show (1 : Int) ≤ 4 by decide) t7 (show (0 : Int) ≤ 3 by decide) (by decide))) ev_c (rv_eq rfl)) (congrArg V.bl (decide_eq_true (congrArg V.int (by decide +kernel))))) rfl) fun H' _ => k H'
end
theorem all_mk {l : PySem.W.OpenLaw} {w : World} {K : PySem.W.Frag} {h : Heap} {mg : Str → Option Value} {fa : Addr} (X : K.In h) (G : h.Ns mainGlobals mg) (hfa : mg "law" = some (.ref fa))
    {a_is_number : Addr} {oc_is_number kV_is_number dc_is_number pm_is_number cd_is_number ct_is_number : Value} {od_is_number an_is_number : Option Addr} {sl_is_number : Array (Option Value)}
    {a_common : Addr} {oc_common kV_common dc_common pm_common cd_common ct_common : Value} {od_common an_common : Option Addr} {sl_common : Array (Option Value)}
    {a_most_of : Addr} {oc_most_of kV_most_of dc_most_of pm_most_of cd_most_of ct_most_of : Value} {od_most_of an_most_of : Option Addr} {sl_most_of : Array (Option Value)}
    {a_check_ring : Addr} {oc_check_ring kV_check_ring dc_check_ring pm_check_ring cd_check_ring ct_check_ring : Value} {od_check_ring an_check_ring : Option Addr} {sl_check_ring : Array (Option Value)}
    {a_check_marks : Addr} {oc_check_marks kV_check_marks dc_check_marks pm_check_marks cd_check_marks ct_check_marks : Value} {od_check_marks an_check_marks : Option Addr} {sl_check_marks : Array (Option Value)}
    {a_quotients : Addr} {oc_quotients kV_quotients dc_quotients pm_quotients cd_quotients ct_quotients : Value} {od_quotients an_quotients : Option Addr} {sl_quotients : Array (Option Value)}
    {a_marks_to : Addr} {oc_marks_to kV_marks_to dc_marks_to pm_marks_to cd_marks_to ct_marks_to : Value} {od_marks_to an_marks_to : Option Addr} {sl_marks_to : Array (Option Value)}
    {a_turned_about : Addr} {oc_turned_about kV_turned_about dc_turned_about pm_turned_about cd_turned_about ct_turned_about : Value} {od_turned_about an_turned_about : Option Addr} {sl_turned_about : Array (Option Value)}
    {a_mark_at : Addr} {oc_mark_at kV_mark_at dc_mark_at pm_mark_at cd_mark_at ct_mark_at : Value} {od_mark_at an_mark_at : Option Addr} {sl_mark_at : Array (Option Value)}
    {a_place_by : Addr} {oc_place_by kV_place_by dc_place_by pm_place_by cd_place_by ct_place_by : Value} {od_place_by an_place_by : Option Addr} {sl_place_by : Array (Option Value)}
    {a_check_mark : Addr} {oc_check_mark kV_check_mark dc_check_mark pm_check_mark cd_check_mark ct_check_mark : Value} {od_check_mark an_check_mark : Option Addr} {sl_check_mark : Array (Option Value)}
    {a_turn_of : Addr} {oc_turn_of kV_turn_of dc_turn_of pm_turn_of cd_turn_of ct_turn_of : Value} {od_turn_of an_turn_of : Option Addr} {sl_turn_of : Array (Option Value)}
    {a_mark_by : Addr} {oc_mark_by kV_mark_by dc_mark_by pm_mark_by cd_mark_by ct_mark_by : Value} {od_mark_by an_mark_by : Option Addr} {sl_mark_by : Array (Option Value)}
    {a_beside : Addr} {oc_beside kV_beside dc_beside pm_beside cd_beside ct_beside : Value} {od_beside an_beside : Option Addr} {sl_beside : Array (Option Value)}
    {a__law_number : Addr} {oc__law_number kV__law_number dc__law_number pm__law_number cd__law_number ct__law_number : Value} {od__law_number an__law_number : Option Addr} {sl__law_number : Array (Option Value)}
    {a__law_rings : Addr} {oc__law_rings kV__law_rings dc__law_rings pm__law_rings cd__law_rings ct__law_rings : Value} {od__law_rings an__law_rings : Option Addr} {sl__law_rings : Array (Option Value)}
    {a__law_common : Addr} {oc__law_common kV__law_common dc__law_common pm__law_common cd__law_common ct__law_common : Value} {od__law_common an__law_common : Option Addr} {sl__law_common : Array (Option Value)}
    {a__law_rounds : Addr} {oc__law_rounds kV__law_rounds dc__law_rounds pm__law_rounds cd__law_rounds ct__law_rounds : Value} {od__law_rounds an__law_rounds : Option Addr} {sl__law_rounds : Array (Option Value)}
    {a__law_to : Addr} {oc__law_to kV__law_to dc__law_to pm__law_to cd__law_to ct__law_to : Value} {od__law_to an__law_to : Option Addr} {sl__law_to : Array (Option Value)}
    {a__law_whole : Addr} {oc__law_whole kV__law_whole dc__law_whole pm__law_whole cd__law_whole ct__law_whole : Value} {od__law_whole an__law_whole : Option Addr} {sl__law_whole : Array (Option Value)}
    {a__law_beside_right : Addr} {oc__law_beside_right kV__law_beside_right dc__law_beside_right pm__law_beside_right cd__law_beside_right ct__law_beside_right : Value} {od__law_beside_right an__law_beside_right : Option Addr} {sl__law_beside_right : Array (Option Value)}
    {a__law_turn_right : Addr} {oc__law_turn_right kV__law_turn_right dc__law_turn_right pm__law_turn_right cd__law_turn_right ct__law_turn_right : Value} {od__law_turn_right an__law_turn_right : Option Addr} {sl__law_turn_right : Array (Option Value)}
    {a_law : Addr} {oc_law kV_law dc_law pm_law cd_law ct_law : Value} {od_law an_law : Option Addr} {sl_law : Array (Option Value)}
    {C_BadPlaces : Addr}
    {C_BadStep : Addr}
    {C_BadMarks : Addr}
    {C_BadPlace : Addr}
    {C_BadMark : Addr}
    (own : (∀ x ∈ (["law"] : List Str), ∀ c P, PySem.W.tabIn K x = some (c, P) → PySem.W.CodeHd h c P ∧ h.get? P = some { cls := .none, data := .fields #[] }))
    (n_is_number : PySem.W.nsIn K mainGlobals "is_number" = some (some (.ref a_is_number)))
    (l_is_number : K.lookup a_is_number = some ⟨oc_is_number, od_is_number, .func (PySem.W.fnOf "is_number" "is_number" (defArgs s_is_number) (defBody s_is_number) (defScope s_is_number) .none kV_is_number dc_is_number pm_is_number an_is_number cd_is_number ct_is_number), sl_is_number⟩)
    (c_is_number : PySem.W.codeIn K cd_is_number "is_number" = true)
    (k_is_number : PySem.W.keepIn K (.ref a_is_number) = true)
    (n_common : PySem.W.nsIn K mainGlobals "common" = some (some (.ref a_common)))
    (l_common : K.lookup a_common = some ⟨oc_common, od_common, .func (PySem.W.fnOf "common" "common" (defArgs s_common) (defBody s_common) (defScope s_common) .none kV_common dc_common pm_common an_common cd_common ct_common), sl_common⟩)
    (c_common : PySem.W.codeIn K cd_common "common" = true)
    (k_common : PySem.W.keepIn K (.ref a_common) = true)
    (n_most_of : PySem.W.nsIn K mainGlobals "most_of" = some (some (.ref a_most_of)))
    (l_most_of : K.lookup a_most_of = some ⟨oc_most_of, od_most_of, .func (PySem.W.fnOf "most_of" "most_of" (defArgs s_most_of) (defBody s_most_of) (defScope s_most_of) .none kV_most_of dc_most_of pm_most_of an_most_of cd_most_of ct_most_of), sl_most_of⟩)
    (c_most_of : PySem.W.codeIn K cd_most_of "most_of" = true)
    (k_most_of : PySem.W.keepIn K (.ref a_most_of) = true)
    (n_check_ring : PySem.W.nsIn K mainGlobals "check_ring" = some (some (.ref a_check_ring)))
    (l_check_ring : K.lookup a_check_ring = some ⟨oc_check_ring, od_check_ring, .func (PySem.W.fnOf "check_ring" "check_ring" (defArgs s_check_ring) (defBody s_check_ring) (defScope s_check_ring) .none kV_check_ring dc_check_ring pm_check_ring an_check_ring cd_check_ring ct_check_ring), sl_check_ring⟩)
    (c_check_ring : PySem.W.codeIn K cd_check_ring "check_ring" = true)
    (k_check_ring : PySem.W.keepIn K (.ref a_check_ring) = true)
    (n_check_marks : PySem.W.nsIn K mainGlobals "check_marks" = some (some (.ref a_check_marks)))
    (l_check_marks : K.lookup a_check_marks = some ⟨oc_check_marks, od_check_marks, .func (PySem.W.fnOf "check_marks" "check_marks" (defArgs s_check_marks) (defBody s_check_marks) (defScope s_check_marks) .none kV_check_marks dc_check_marks pm_check_marks an_check_marks cd_check_marks ct_check_marks), sl_check_marks⟩)
    (c_check_marks : PySem.W.codeIn K cd_check_marks "check_marks" = true)
    (k_check_marks : PySem.W.keepIn K (.ref a_check_marks) = true)
    (n_quotients : PySem.W.nsIn K mainGlobals "quotients" = some (some (.ref a_quotients)))
    (l_quotients : K.lookup a_quotients = some ⟨oc_quotients, od_quotients, .func (PySem.W.fnOf "quotients" "quotients" (defArgs s_quotients) (defBody s_quotients) (defScope s_quotients) .none kV_quotients dc_quotients pm_quotients an_quotients cd_quotients ct_quotients), sl_quotients⟩)
    (c_quotients : PySem.W.codeIn K cd_quotients "quotients" = true)
    (k_quotients : PySem.W.keepIn K (.ref a_quotients) = true)
    (n_marks_to : PySem.W.nsIn K mainGlobals "marks_to" = some (some (.ref a_marks_to)))
    (l_marks_to : K.lookup a_marks_to = some ⟨oc_marks_to, od_marks_to, .func (PySem.W.fnOf "marks_to" "marks_to" (defArgs s_marks_to) (defBody s_marks_to) (defScope s_marks_to) .none kV_marks_to dc_marks_to pm_marks_to an_marks_to cd_marks_to ct_marks_to), sl_marks_to⟩)
    (c_marks_to : PySem.W.codeIn K cd_marks_to "marks_to" = true)
    (k_marks_to : PySem.W.keepIn K (.ref a_marks_to) = true)
    (n_turned_about : PySem.W.nsIn K mainGlobals "turned_about" = some (some (.ref a_turned_about)))
    (l_turned_about : K.lookup a_turned_about = some ⟨oc_turned_about, od_turned_about, .func (PySem.W.fnOf "turned_about" "turned_about" (defArgs s_turned_about) (defBody s_turned_about) (defScope s_turned_about) .none kV_turned_about dc_turned_about pm_turned_about an_turned_about cd_turned_about ct_turned_about), sl_turned_about⟩)
    (c_turned_about : PySem.W.codeIn K cd_turned_about "turned_about" = true)
    (k_turned_about : PySem.W.keepIn K (.ref a_turned_about) = true)
    (n_mark_at : PySem.W.nsIn K mainGlobals "mark_at" = some (some (.ref a_mark_at)))
    (l_mark_at : K.lookup a_mark_at = some ⟨oc_mark_at, od_mark_at, .func (PySem.W.fnOf "mark_at" "mark_at" (defArgs s_mark_at) (defBody s_mark_at) (defScope s_mark_at) .none kV_mark_at dc_mark_at pm_mark_at an_mark_at cd_mark_at ct_mark_at), sl_mark_at⟩)
    (c_mark_at : PySem.W.codeIn K cd_mark_at "mark_at" = true)
    (k_mark_at : PySem.W.keepIn K (.ref a_mark_at) = true)
    (n_place_by : PySem.W.nsIn K mainGlobals "place_by" = some (some (.ref a_place_by)))
    (l_place_by : K.lookup a_place_by = some ⟨oc_place_by, od_place_by, .func (PySem.W.fnOf "place_by" "place_by" (defArgs s_place_by) (defBody s_place_by) (defScope s_place_by) .none kV_place_by dc_place_by pm_place_by an_place_by cd_place_by ct_place_by), sl_place_by⟩)
    (c_place_by : PySem.W.codeIn K cd_place_by "place_by" = true)
    (k_place_by : PySem.W.keepIn K (.ref a_place_by) = true)
    (n_check_mark : PySem.W.nsIn K mainGlobals "check_mark" = some (some (.ref a_check_mark)))
    (l_check_mark : K.lookup a_check_mark = some ⟨oc_check_mark, od_check_mark, .func (PySem.W.fnOf "check_mark" "check_mark" (defArgs s_check_mark) (defBody s_check_mark) (defScope s_check_mark) .none kV_check_mark dc_check_mark pm_check_mark an_check_mark cd_check_mark ct_check_mark), sl_check_mark⟩)
    (c_check_mark : PySem.W.codeIn K cd_check_mark "check_mark" = true)
    (k_check_mark : PySem.W.keepIn K (.ref a_check_mark) = true)
    (n_turn_of : PySem.W.nsIn K mainGlobals "turn_of" = some (some (.ref a_turn_of)))
    (l_turn_of : K.lookup a_turn_of = some ⟨oc_turn_of, od_turn_of, .func (PySem.W.fnOf "turn_of" "turn_of" (defArgs s_turn_of) (defBody s_turn_of) (defScope s_turn_of) .none kV_turn_of dc_turn_of pm_turn_of an_turn_of cd_turn_of ct_turn_of), sl_turn_of⟩)
    (c_turn_of : PySem.W.codeIn K cd_turn_of "turn_of" = true)
    (k_turn_of : PySem.W.keepIn K (.ref a_turn_of) = true)
    (n_mark_by : PySem.W.nsIn K mainGlobals "mark_by" = some (some (.ref a_mark_by)))
    (l_mark_by : K.lookup a_mark_by = some ⟨oc_mark_by, od_mark_by, .func (PySem.W.fnOf "mark_by" "mark_by" (defArgs s_mark_by) (defBody s_mark_by) (defScope s_mark_by) .none kV_mark_by dc_mark_by pm_mark_by an_mark_by cd_mark_by ct_mark_by), sl_mark_by⟩)
    (c_mark_by : PySem.W.codeIn K cd_mark_by "mark_by" = true)
    (k_mark_by : PySem.W.keepIn K (.ref a_mark_by) = true)
    (n_beside : PySem.W.nsIn K mainGlobals "beside" = some (some (.ref a_beside)))
    (l_beside : K.lookup a_beside = some ⟨oc_beside, od_beside, .func (PySem.W.fnOf "beside" "beside" (defArgs s_beside) (defBody s_beside) (defScope s_beside) .none kV_beside dc_beside pm_beside an_beside cd_beside ct_beside), sl_beside⟩)
    (c_beside : PySem.W.codeIn K cd_beside "beside" = true)
    (k_beside : PySem.W.keepIn K (.ref a_beside) = true)
    (n__law_number : PySem.W.nsIn K mainGlobals "_law_number" = some (some (.ref a__law_number)))
    (l__law_number : K.lookup a__law_number = some ⟨oc__law_number, od__law_number, .func (PySem.W.fnOf "_law_number" "_law_number" (defArgs s__law_number) (defBody s__law_number) (defScope s__law_number) .none kV__law_number dc__law_number pm__law_number an__law_number cd__law_number ct__law_number), sl__law_number⟩)
    (c__law_number : PySem.W.codeIn K cd__law_number "_law_number" = true)
    (k__law_number : PySem.W.keepIn K (.ref a__law_number) = true)
    (n__law_rings : PySem.W.nsIn K mainGlobals "_law_rings" = some (some (.ref a__law_rings)))
    (l__law_rings : K.lookup a__law_rings = some ⟨oc__law_rings, od__law_rings, .func (PySem.W.fnOf "_law_rings" "_law_rings" (defArgs s__law_rings) (defBody s__law_rings) (defScope s__law_rings) .none kV__law_rings dc__law_rings pm__law_rings an__law_rings cd__law_rings ct__law_rings), sl__law_rings⟩)
    (c__law_rings : PySem.W.codeIn K cd__law_rings "_law_rings" = true)
    (k__law_rings : PySem.W.keepIn K (.ref a__law_rings) = true)
    (n__law_common : PySem.W.nsIn K mainGlobals "_law_common" = some (some (.ref a__law_common)))
    (l__law_common : K.lookup a__law_common = some ⟨oc__law_common, od__law_common, .func (PySem.W.fnOf "_law_common" "_law_common" (defArgs s__law_common) (defBody s__law_common) (defScope s__law_common) .none kV__law_common dc__law_common pm__law_common an__law_common cd__law_common ct__law_common), sl__law_common⟩)
    (c__law_common : PySem.W.codeIn K cd__law_common "_law_common" = true)
    (k__law_common : PySem.W.keepIn K (.ref a__law_common) = true)
    (n__law_rounds : PySem.W.nsIn K mainGlobals "_law_rounds" = some (some (.ref a__law_rounds)))
    (l__law_rounds : K.lookup a__law_rounds = some ⟨oc__law_rounds, od__law_rounds, .func (PySem.W.fnOf "_law_rounds" "_law_rounds" (defArgs s__law_rounds) (defBody s__law_rounds) (defScope s__law_rounds) .none kV__law_rounds dc__law_rounds pm__law_rounds an__law_rounds cd__law_rounds ct__law_rounds), sl__law_rounds⟩)
    (c__law_rounds : PySem.W.codeIn K cd__law_rounds "_law_rounds" = true)
    (k__law_rounds : PySem.W.keepIn K (.ref a__law_rounds) = true)
    (n__law_to : PySem.W.nsIn K mainGlobals "_law_to" = some (some (.ref a__law_to)))
    (l__law_to : K.lookup a__law_to = some ⟨oc__law_to, od__law_to, .func (PySem.W.fnOf "_law_to" "_law_to" (defArgs s__law_to) (defBody s__law_to) (defScope s__law_to) .none kV__law_to dc__law_to pm__law_to an__law_to cd__law_to ct__law_to), sl__law_to⟩)
    (c__law_to : PySem.W.codeIn K cd__law_to "_law_to" = true)
    (k__law_to : PySem.W.keepIn K (.ref a__law_to) = true)
    (n__law_whole : PySem.W.nsIn K mainGlobals "_law_whole" = some (some (.ref a__law_whole)))
    (l__law_whole : K.lookup a__law_whole = some ⟨oc__law_whole, od__law_whole, .func (PySem.W.fnOf "_law_whole" "_law_whole" (defArgs s__law_whole) (defBody s__law_whole) (defScope s__law_whole) .none kV__law_whole dc__law_whole pm__law_whole an__law_whole cd__law_whole ct__law_whole), sl__law_whole⟩)
    (c__law_whole : PySem.W.codeIn K cd__law_whole "_law_whole" = true)
    (k__law_whole : PySem.W.keepIn K (.ref a__law_whole) = true)
    (n__law_beside_right : PySem.W.nsIn K mainGlobals "_law_beside_right" = some (some (.ref a__law_beside_right)))
    (l__law_beside_right : K.lookup a__law_beside_right = some ⟨oc__law_beside_right, od__law_beside_right, .func (PySem.W.fnOf "_law_beside_right" "_law_beside_right" (defArgs s__law_beside_right) (defBody s__law_beside_right) (defScope s__law_beside_right) .none kV__law_beside_right dc__law_beside_right pm__law_beside_right an__law_beside_right cd__law_beside_right ct__law_beside_right), sl__law_beside_right⟩)
    (c__law_beside_right : PySem.W.codeIn K cd__law_beside_right "_law_beside_right" = true)
    (k__law_beside_right : PySem.W.keepIn K (.ref a__law_beside_right) = true)
    (n__law_turn_right : PySem.W.nsIn K mainGlobals "_law_turn_right" = some (some (.ref a__law_turn_right)))
    (l__law_turn_right : K.lookup a__law_turn_right = some ⟨oc__law_turn_right, od__law_turn_right, .func (PySem.W.fnOf "_law_turn_right" "_law_turn_right" (defArgs s__law_turn_right) (defBody s__law_turn_right) (defScope s__law_turn_right) .none kV__law_turn_right dc__law_turn_right pm__law_turn_right an__law_turn_right cd__law_turn_right ct__law_turn_right), sl__law_turn_right⟩)
    (c__law_turn_right : PySem.W.codeIn K cd__law_turn_right "_law_turn_right" = true)
    (k__law_turn_right : PySem.W.keepIn K (.ref a__law_turn_right) = true)
    (n_law : PySem.W.nsIn K mainGlobals "law" = some (some (.ref a_law)))
    (l_law : K.lookup a_law = some ⟨oc_law, od_law, .func (PySem.W.fnOf "law" "law" (defArgs s_law) (defBody s_law) (defScope s_law) .none kV_law dc_law pm_law an_law cd_law ct_law), sl_law⟩)
    (c_law : PySem.W.codeIn K cd_law "law" = true)
    (k_law : PySem.W.keepIn K (.ref a_law) = true)
    (n_BadPlaces : PySem.W.nsIn K mainGlobals "BadPlaces" = some (some (.ref C_BadPlaces)))
    (x_BadPlaces : PySem.W.excIn K C_BadPlaces [.type "ValueError", .type "Exception", .type "BaseException", .type "object"] "ValueError.__new__" = true)
    (k_BadPlaces : PySem.W.keepIn K (.ref C_BadPlaces) = true)
    (b_BadPlaces : PySem.W.subIn K (.ref C_BadPlaces) (.type "BaseException") = some true)
    (t_BadPlaces : PySem.W.typeIn K (.ref C_BadPlaces) = some (.type "type"))
    (n_BadStep : PySem.W.nsIn K mainGlobals "BadStep" = some (some (.ref C_BadStep)))
    (x_BadStep : PySem.W.excIn K C_BadStep [.type "ValueError", .type "Exception", .type "BaseException", .type "object"] "ValueError.__new__" = true)
    (k_BadStep : PySem.W.keepIn K (.ref C_BadStep) = true)
    (b_BadStep : PySem.W.subIn K (.ref C_BadStep) (.type "BaseException") = some true)
    (t_BadStep : PySem.W.typeIn K (.ref C_BadStep) = some (.type "type"))
    (n_BadMarks : PySem.W.nsIn K mainGlobals "BadMarks" = some (some (.ref C_BadMarks)))
    (x_BadMarks : PySem.W.excIn K C_BadMarks [.type "ValueError", .type "Exception", .type "BaseException", .type "object"] "ValueError.__new__" = true)
    (k_BadMarks : PySem.W.keepIn K (.ref C_BadMarks) = true)
    (b_BadMarks : PySem.W.subIn K (.ref C_BadMarks) (.type "BaseException") = some true)
    (t_BadMarks : PySem.W.typeIn K (.ref C_BadMarks) = some (.type "type"))
    (n_BadPlace : PySem.W.nsIn K mainGlobals "BadPlace" = some (some (.ref C_BadPlace)))
    (x_BadPlace : PySem.W.excIn K C_BadPlace [.type "ValueError", .type "Exception", .type "BaseException", .type "object"] "ValueError.__new__" = true)
    (k_BadPlace : PySem.W.keepIn K (.ref C_BadPlace) = true)
    (b_BadPlace : PySem.W.subIn K (.ref C_BadPlace) (.type "BaseException") = some true)
    (t_BadPlace : PySem.W.typeIn K (.ref C_BadPlace) = some (.type "type"))
    (n_BadMark : PySem.W.nsIn K mainGlobals "BadMark" = some (some (.ref C_BadMark)))
    (x_BadMark : PySem.W.excIn K C_BadMark [.type "ValueError", .type "Exception", .type "BaseException", .type "object"] "ValueError.__new__" = true)
    (k_BadMark : PySem.W.keepIn K (.ref C_BadMark) = true)
    (b_BadMark : PySem.W.subIn K (.ref C_BadMark) (.type "BaseException") = some true)
    (t_BadMark : PySem.W.typeIn K (.ref C_BadMark) = some (.type "type"))
    (z_isinstance : PySem.W.nsIn K mainGlobals "isinstance" = some none)
    (z_int : PySem.W.nsIn K mainGlobals "int" = some none)
    (z_bool : PySem.W.nsIn K mainGlobals "bool" = some none)
    (z_len : PySem.W.nsIn K mainGlobals "len" = some none)
    (z_sum : PySem.W.nsIn K mainGlobals "sum" = some none)
    (z_min : PySem.W.nsIn K mainGlobals "min" = some none)
    (z_max : PySem.W.nsIn K mainGlobals "max" = some none)
    (z_sorted : PySem.W.nsIn K mainGlobals "sorted" = some none)
    (z_range : PySem.W.nsIn K mainGlobals "range" = some none)
    (z_enumerate : PySem.W.nsIn K mainGlobals "enumerate" = some none)
    (z_reversed : PySem.W.nsIn K mainGlobals "reversed" = some none)
    (z_zip : PySem.W.nsIn K mainGlobals "zip" = some none)
    (z_abs : PySem.W.nsIn K mainGlobals "abs" = some none)
    (z_all : PySem.W.nsIn K mainGlobals "all" = some none)
    (z_any : PySem.W.nsIn K mainGlobals "any" = some none)
    (z_list : PySem.W.nsIn K mainGlobals "list" = some none)
    (z_tuple : PySem.W.nsIn K mainGlobals "tuple" = some none)
    (z_set : PySem.W.nsIn K mainGlobals "set" = some none)
    (z_str : PySem.W.nsIn K mainGlobals "str" = some none)
    (z_ValueError : PySem.W.nsIn K mainGlobals "ValueError" = some none)
    (ht_law : ((PySem.W.tabIn K "law").map fun p => (K.lookup p.2).isNone) = some true) :
    LamX.LawAtS l w K CX0 199 63 "_law_script" mg fa h := by
  have e := hfa.symm.trans (PySem.W.mg_of X G n_law)
  cases e
  have F_is_number := fun_mk (st := s_is_number) l_is_number c_is_number k_is_number
  have A_is_number : At K mg "is_number" s_is_number ["thing", "least", "most"] _ _ := ⟨F_is_number, F_is_number.binds fun _ _ _ _ _ _ us hl => match us, hl with | [_, _, _], _ => rfl, PySem.W.mg_of X G n_is_number⟩
  have F_common := fun_mk (st := s_common) l_common c_common k_common
  have A_common : At K mg "common" s_common ["one", "other"] _ _ := ⟨F_common, F_common.binds fun _ _ _ _ _ _ us hl => match us, hl with | [_, _], _ => rfl, PySem.W.mg_of X G n_common⟩
  have F_most_of := fun_mk (st := s_most_of) l_most_of c_most_of k_most_of
  have A_most_of : At K mg "most_of" s_most_of ["places", "step"] _ _ := ⟨F_most_of, F_most_of.binds fun _ _ _ _ _ _ us hl => match us, hl with | [_, _], _ => rfl, PySem.W.mg_of X G n_most_of⟩
  have F_check_ring := fun_mk (st := s_check_ring) l_check_ring c_check_ring k_check_ring
  have A_check_ring : At K mg "check_ring" s_check_ring ["places", "step"] _ _ := ⟨F_check_ring, F_check_ring.binds fun _ _ _ _ _ _ us hl => match us, hl with | [_, _], _ => rfl, PySem.W.mg_of X G n_check_ring⟩
  have F_check_marks := fun_mk (st := s_check_marks) l_check_marks c_check_marks k_check_marks
  have A_check_marks : At K mg "check_marks" s_check_marks ["places", "step", "marks"] _ _ := ⟨F_check_marks, F_check_marks.binds fun _ _ _ _ _ _ us hl => match us, hl with | [_, _, _], _ => rfl, PySem.W.mg_of X G n_check_marks⟩
  have F_quotients := fun_mk (st := s_quotients) l_quotients c_quotients k_quotients
  have A_quotients : At K mg "quotients" s_quotients ["many", "by", "times", "more"] _ _ := ⟨F_quotients, F_quotients.binds fun _ _ _ _ _ _ us hl => match us, hl with | [_, _, _, _], _ => rfl, PySem.W.mg_of X G n_quotients⟩
  have F_marks_to := fun_mk (st := s_marks_to) l_marks_to c_marks_to k_marks_to
  have A_marks_to : At K mg "marks_to" s_marks_to ["places", "step", "marks", "place"] _ _ := ⟨F_marks_to, F_marks_to.binds fun _ _ _ _ _ _ us hl => match us, hl with | [_, _, _, _], _ => rfl, PySem.W.mg_of X G n_marks_to⟩
  have F_turned_about := fun_mk (st := s_turned_about) l_turned_about c_turned_about k_turned_about
  have A_turned_about : At K mg "turned_about" s_turned_about ["number", "by"] _ _ := ⟨F_turned_about, F_turned_about.binds fun _ _ _ _ _ _ us hl => match us, hl with | [_, _], _ => rfl, PySem.W.mg_of X G n_turned_about⟩
  have F_mark_at := fun_mk (st := s_mark_at) l_mark_at c_mark_at k_mark_at
  have A_mark_at : At K mg "mark_at" s_mark_at ["places", "step", "place"] _ _ := ⟨F_mark_at, F_mark_at.binds fun _ _ _ _ _ _ us hl => match us, hl with | [_, _, _], _ => rfl, PySem.W.mg_of X G n_mark_at⟩
  have F_place_by := fun_mk (st := s_place_by) l_place_by c_place_by k_place_by
  have A_place_by : At K mg "place_by" s_place_by ["places", "step", "marks", "turn"] _ _ := ⟨F_place_by, F_place_by.binds fun _ _ _ _ _ _ us hl => match us, hl with | [_, _, _, _], _ => rfl, PySem.W.mg_of X G n_place_by⟩
  have F_check_mark := fun_mk (st := s_check_mark) l_check_mark c_check_mark k_check_mark
  have A_check_mark : At K mg "check_mark" s_check_mark ["mark", "marks"] _ _ := ⟨F_check_mark, F_check_mark.binds fun _ _ _ _ _ _ us hl => match us, hl with | [_, _], _ => rfl, PySem.W.mg_of X G n_check_mark⟩
  have F_turn_of := fun_mk (st := s_turn_of) l_turn_of c_turn_of k_turn_of
  have A_turn_of : At K mg "turn_of" s_turn_of ["places", "step", "marks", "mark"] _ _ := ⟨F_turn_of, F_turn_of.binds fun _ _ _ _ _ _ us hl => match us, hl with | [_, _, _, _], _ => rfl, PySem.W.mg_of X G n_turn_of⟩
  have F_mark_by := fun_mk (st := s_mark_by) l_mark_by c_mark_by k_mark_by
  have A_mark_by : At K mg "mark_by" s_mark_by ["places", "step", "marks", "turn"] _ _ := ⟨F_mark_by, F_mark_by.binds fun _ _ _ _ _ _ us hl => match us, hl with | [_, _, _, _], _ => rfl, PySem.W.mg_of X G n_mark_by⟩
  have F_beside := fun_mk (st := s_beside) l_beside c_beside k_beside
  have A_beside : At K mg "beside" s_beside ["places", "step", "marks", "place"] _ _ := ⟨F_beside, F_beside.binds fun _ _ _ _ _ _ us hl => match us, hl with | [_, _, _, _], _ => rfl, PySem.W.mg_of X G n_beside⟩
  have F__law_number := fun_mk (st := s__law_number) l__law_number c__law_number k__law_number
  have A__law_number : At K mg "_law_number" s__law_number ["_law_cell", "_law_at", "_law_whole_here"] _ _ := ⟨F__law_number, F__law_number.binds fun _ _ _ _ _ _ us hl => match us, hl with | [_, _, _], _ => rfl, PySem.W.mg_of X G n__law_number⟩
  have F__law_rings := fun_mk (st := s__law_rings) l__law_rings c__law_rings k__law_rings
  have A__law_rings : At K mg "_law_rings" s__law_rings ["_law_script"] _ _ := ⟨F__law_rings, F__law_rings.binds fun _ _ _ _ _ _ us hl => match us, hl with | [_], _ => rfl, PySem.W.mg_of X G n__law_rings⟩
  have F__law_common := fun_mk (st := s__law_common) l__law_common c__law_common k__law_common
  have A__law_common : At K mg "_law_common" s__law_common ["_law_one", "_law_other"] _ _ := ⟨F__law_common, F__law_common.binds fun _ _ _ _ _ _ us hl => match us, hl with | [_, _], _ => rfl, PySem.W.mg_of X G n__law_common⟩
  have F__law_rounds := fun_mk (st := s__law_rounds) l__law_rounds c__law_rounds k__law_rounds
  have A__law_rounds : At K mg "_law_rounds" s__law_rounds ["_law_many", "_law_by", "_law_times", "_law_more"] _ _ := ⟨F__law_rounds, F__law_rounds.binds fun _ _ _ _ _ _ us hl => match us, hl with | [_, _, _, _], _ => rfl, PySem.W.mg_of X G n__law_rounds⟩
  have F__law_to := fun_mk (st := s__law_to) l__law_to c__law_to k__law_to
  have A__law_to : At K mg "_law_to" s__law_to ["_law_places", "_law_step", "_law_marks", "_law_place"] _ _ := ⟨F__law_to, F__law_to.binds fun _ _ _ _ _ _ us hl => match us, hl with | [_, _, _, _], _ => rfl, PySem.W.mg_of X G n__law_to⟩
  have F__law_whole := fun_mk (st := s__law_whole) l__law_whole c__law_whole k__law_whole
  have A__law_whole : At K mg "_law_whole" s__law_whole ["_law_found"] _ _ := ⟨F__law_whole, F__law_whole.binds fun _ _ _ _ _ _ us hl => match us, hl with | [_], _ => rfl, PySem.W.mg_of X G n__law_whole⟩
  have F__law_beside_right := fun_mk (st := s__law_beside_right) l__law_beside_right c__law_beside_right k__law_beside_right
  have A__law_beside_right : At K mg "_law_beside_right" s__law_beside_right ["_law_places", "_law_step", "_law_marks", "_law_place"] _ _ := ⟨F__law_beside_right, F__law_beside_right.binds fun _ _ _ _ _ _ us hl => match us, hl with | [_, _, _, _], _ => rfl, PySem.W.mg_of X G n__law_beside_right⟩
  have F__law_turn_right := fun_mk (st := s__law_turn_right) l__law_turn_right c__law_turn_right k__law_turn_right
  have A__law_turn_right : At K mg "_law_turn_right" s__law_turn_right ["_law_places", "_law_step", "_law_marks", "_law_turn"] _ _ := ⟨F__law_turn_right, F__law_turn_right.binds fun _ _ _ _ _ _ us hl => match us, hl with | [_, _, _, _], _ => rfl, PySem.W.mg_of X G n__law_turn_right⟩
  have F_law := fun_mk (st := s_law) l_law c_law k_law
  have A_law : At K mg "law" s_law ["_law_script"] _ _ := ⟨F_law, F_law.binds fun _ _ _ _ _ _ us hl => match us, hl with | [_], _ => rfl, PySem.W.mg_of X G n_law⟩
  have E_BadPlaces : ErrAt K mg "BadPlaces" C_BadPlaces := ⟨x_BadPlaces, PySem.W.mg_of X G n_BadPlaces, k_BadPlaces, b_BadPlaces, t_BadPlaces⟩
  have E_BadStep : ErrAt K mg "BadStep" C_BadStep := ⟨x_BadStep, PySem.W.mg_of X G n_BadStep, k_BadStep, b_BadStep, t_BadStep⟩
  have E_BadMarks : ErrAt K mg "BadMarks" C_BadMarks := ⟨x_BadMarks, PySem.W.mg_of X G n_BadMarks, k_BadMarks, b_BadMarks, t_BadMarks⟩
  have E_BadPlace : ErrAt K mg "BadPlace" C_BadPlace := ⟨x_BadPlace, PySem.W.mg_of X G n_BadPlace, k_BadPlace, b_BadPlace, t_BadPlace⟩
  have E_BadMark : ErrAt K mg "BadMark" C_BadMark := ⟨x_BadMark, PySem.W.mg_of X G n_BadMark, k_BadMark, b_BadMark, t_BadMark⟩
  have hA : Blt mg := ⟨PySem.W.mg_none_of X G z_isinstance, PySem.W.mg_none_of X G z_int, PySem.W.mg_none_of X G z_bool, PySem.W.mg_none_of X G z_len, PySem.W.mg_none_of X G z_sum, PySem.W.mg_none_of X G z_min, PySem.W.mg_none_of X G z_max, PySem.W.mg_none_of X G z_sorted, PySem.W.mg_none_of X G z_range, PySem.W.mg_none_of X G z_enumerate, PySem.W.mg_none_of X G z_reversed, PySem.W.mg_none_of X G z_zip, PySem.W.mg_none_of X G z_abs, PySem.W.mg_none_of X G z_all, PySem.W.mg_none_of X G z_any, PySem.W.mg_none_of X G z_list, PySem.W.mg_none_of X G z_tuple, PySem.W.mg_none_of X G z_set, PySem.W.mg_none_of X G z_str, PySem.W.mg_none_of X G z_ValueError⟩
  obtain ⟨cc_law, PP_law, tt_law, np_law⟩ := tabs_of ht_law
  obtain ⟨hd_law, te_law⟩ := own "law" (by simp) _ _ tt_law
  have hcd_law := PySem.W.law_code X G tt_law (PySem.W.mg_of X G n_law) (X _ _ l_law) rfl
  refine ⟨_, [(cc_law, PP_law)], spLaw K PP_law, fun p hp => by simp only [List.mem_cons, List.not_mem_nil, or_false] at hp; rcases hp with rfl <;> assumption, fun p hp => by simp only [List.mem_cons, List.not_mem_nil, or_false] at hp; rcases hp with rfl <;> assumption, fun p hp => by simp only [List.mem_cons, List.not_mem_nil, or_false] at hp; rcases hp with rfl <;> assumption, fun s v => .of_eq (show bindArgs (PySem.W.fnOf "law" "law" (defArgs s_law) (defBody s_law) (defScope s_law) .none kV_law dc_law pm_law an_law cd_law ct_law) ⟨[v], []⟩ = _ from rfl), fun H a ns hl hb hH hS => ⟨a, ns, rfl, ?_, hS, hl, fun z hz => lv_bits (hb z hz), fun _ => rfl⟩, fun base KB GB hTB => ?_⟩
  · intro p hp
    simp only [List.mem_cons, List.not_mem_nil, or_false] at hp; rcases hp with rfl
    · exact LamX.TabS.nil (hH (cc_law, PP_law) (by simp))
  let c : Cs := ⟨C_BadPlaces, C_BadStep, C_BadMarks, C_BadPlace, C_BadMark⟩
  have TB_law := hTB (cc_law, PP_law) (by simp)
  have G_is_number := ok_is_number (P := l.prog) (w := w) (base := base) hA F_is_number
  have G_common := ok_common (P := l.prog) (w := w) (mg := mg) (base := base) F_common
  have G_most_of := ok_most_of F_most_of G_common A_common
  have G_check_ring := ok_check_ring (c := c) F_check_ring G_is_number A_is_number E_BadPlaces E_BadStep
  have G_check_marks := ok_check_marks (c := c) F_check_marks G_is_number A_is_number G_most_of A_most_of G_check_ring A_check_ring E_BadMarks
  have G_check_mark := ok_check_mark (c := c) F_check_mark G_is_number A_is_number E_BadMark
  have G_quotients := ok_quotients (P := l.prog) (w := w) (mg := mg) (base := base) F_quotients
  have G_marks_to := ok_marks_to F_marks_to G_quotients A_quotients
  have G_turn_of := quiet (ok_turn_of (c := c) F_turn_of G_check_marks A_check_marks G_check_mark A_check_mark G_marks_to A_marks_to)
  have G_turned_about := ok_turned_about (P := l.prog) (w := w) (mg := mg) (base := base) F_turned_about
  have G_mark_at := ok_mark_at F_mark_at G_common A_common G_turned_about A_turned_about
  have G_place_by := ok_place_by F_place_by G_marks_to A_marks_to
  have X_mark_by := ok_mark_by (c := c) F_mark_by G_check_marks A_check_marks G_check_mark A_check_mark G_mark_at A_mark_at G_place_by A_place_by
  have G_mark_by := quiet X_mark_by
  have G_beside := quiet (ok_beside (c := c) F_beside G_check_marks A_check_marks G_is_number A_is_number G_marks_to A_marks_to X_mark_by A_mark_by E_BadPlace)
  have G__law_number := ok__law_number (P := l.prog) (w := w) (mg := mg) (base := base) F__law_number
  have G__law_common := ok__law_common (P := l.prog) (w := w) (mg := mg) (base := base) F__law_common
  have G__law_rounds := ok__law_rounds (P := l.prog) (w := w) (base := base) F__law_rounds A__law_rounds 195
  have G__law_to := ok__law_to F__law_to G__law_rounds A__law_rounds
  have G__law_whole := ok__law_whole (P := l.prog) (w := w) (base := base) hA F__law_whole
  have G__law_rings := ok__law_rings hA F__law_rings G__law_number A__law_number G__law_common A__law_common
  have G__law_turn_right := ok__law_turn_right (c := c) F__law_turn_right G_mark_by A_mark_by G_turn_of A_turn_of G__law_whole A__law_whole G__law_to A__law_to
  have G__law_beside_right := ok__law_beside_right (c := c) hA F__law_beside_right G_beside A_beside G__law_whole A__law_whole G__law_to A__law_to
  exact ok_law (c := c) hcd_law TB_law hA F_law G__law_number A__law_number G__law_rings A__law_rings G__law_turn_right A__law_turn_right G_mark_by A_mark_by G_turn_of A_turn_of G__law_beside_right A__law_beside_right G_beside A_beside
theorem walk {l : PySem.W.OpenLaw} {q : Program} {loose : List Str} {XP : (Str → Option Value) → Heap → Prop} {YP : World → Heap → Prop} {d : DefRec} {K : Params → PySem.W.Frag} (hn : l.most = some 63) (hdf : d.params.defaults = []) (hrec : ((["law"] : List Str).all fun x => ((recsOf q).find? fun e => e.name == x).isSome) = true)
    (hY : ∀ (w : World) (h : Heap), YP w h → (K w.params).In h)
    (F : ∀ (w : World) (mg : Str → Option Value) (fa : Addr) (h : Heap), (K w.params).In h → h.Ns mainGlobals mg → mg d.name = some (.ref fa) → (∀ x ∈ (["law"] : List Str), ∀ c P, PySem.W.tabIn (K w.params) x = some (c, P) → PySem.W.CodeHd h c P ∧ h.get? P = some { cls := .none, data := .fields #[] }) → LamX.LawAtS l w (K w.params) CX0 199 63 "_law_script" mg fa h) :
    PySem.W.WalkO q loose XP YP l.row.toRowW d [] (fun f vs => PySem.call f vs) :=
  walk_ofTabs (n := 63) (k := 199) (x := "_law_script") (CX := fun _ => CX0) ["law"] hn (by decide) hdf ⟨rfl, by decide, by decide⟩ hrec hY (fun w mg fa h _ X G hm own => F w mg fa h X G hm own) fun _ _ _ _ _ z => z
end RP
open PySem PySem.W PyProof.Rows
set_option maxRecDepth 100000 in
set_option maxHeartbeats 0 in
theorem PySem.Challenge.cw_ringsteps_k03_whole_turns_holds : PySem.Challenge.rw_ringsteps_k03_whole_turns.Holds := by
  w_on; o_law; k_head; (case hw => w_witness2)
  k_fill
  refine RP.walk (l := PySem.Challenge.rw_ringsteps_k03_whole_turns) rfl rfl ?hrec (fun w h Y => PySem.W.km_in_of Y) ?F
  case hrec => kernel_rfl
  case F =>
    intro w mg fa h KX G hmg own
    refine' RP.all_mk KX G hmg own ?n_is_number ?l_is_number ?c_is_number ?k_is_number ?n_common ?l_common ?c_common ?k_common ?n_most_of ?l_most_of ?c_most_of ?k_most_of ?n_check_ring ?l_check_ring ?c_check_ring ?k_check_ring ?n_check_marks ?l_check_marks ?c_check_marks ?k_check_marks ?n_quotients ?l_quotients ?c_quotients ?k_quotients ?n_marks_to ?l_marks_to ?c_marks_to ?k_marks_to ?n_turned_about ?l_turned_about ?c_turned_about ?k_turned_about ?n_mark_at ?l_mark_at ?c_mark_at ?k_mark_at ?n_place_by ?l_place_by ?c_place_by ?k_place_by ?n_check_mark ?l_check_mark ?c_check_mark ?k_check_mark ?n_turn_of ?l_turn_of ?c_turn_of ?k_turn_of ?n_mark_by ?l_mark_by ?c_mark_by ?k_mark_by ?n_beside ?l_beside ?c_beside ?k_beside ?n__law_number ?l__law_number ?c__law_number ?k__law_number ?n__law_rings ?l__law_rings ?c__law_rings ?k__law_rings ?n__law_common ?l__law_common ?c__law_common ?k__law_common ?n__law_rounds ?l__law_rounds ?c__law_rounds ?k__law_rounds ?n__law_to ?l__law_to ?c__law_to ?k__law_to ?n__law_whole ?l__law_whole ?c__law_whole ?k__law_whole ?n__law_beside_right ?l__law_beside_right ?c__law_beside_right ?k__law_beside_right ?n__law_turn_right ?l__law_turn_right ?c__law_turn_right ?k__law_turn_right ?n_law ?l_law ?c_law ?k_law ?n_BadPlaces ?x_BadPlaces ?k_BadPlaces ?b_BadPlaces ?t_BadPlaces ?n_BadStep ?x_BadStep ?k_BadStep ?b_BadStep ?t_BadStep ?n_BadMarks ?x_BadMarks ?k_BadMarks ?b_BadMarks ?t_BadMarks ?n_BadPlace ?x_BadPlace ?k_BadPlace ?b_BadPlace ?t_BadPlace ?n_BadMark ?x_BadMark ?k_BadMark ?b_BadMark ?t_BadMark ?z_isinstance ?z_int ?z_bool ?z_len ?z_sum ?z_min ?z_max ?z_sorted ?z_range ?z_enumerate ?z_reversed ?z_zip ?z_abs ?z_all ?z_any ?z_list ?z_tuple ?z_set ?z_str ?z_ValueError ?ht_law
    (case n_is_number => k_is)
    (case l_is_number => k_is)
    (case c_is_number => k_is)
    (case k_is_number => k_is)
    (case n_common => k_is)
    (case l_common => k_is)
    (case c_common => k_is)
    (case k_common => k_is)
    (case n_most_of => k_is)
    (case l_most_of => k_is)
    (case c_most_of => k_is)
    (case k_most_of => k_is)
    (case n_check_ring => k_is)
    (case l_check_ring => k_is)
    (case c_check_ring => k_is)
    (case k_check_ring => k_is)
    (case n_check_marks => k_is)
    (case l_check_marks => k_is)
    (case c_check_marks => k_is)
    (case k_check_marks => k_is)
    (case n_quotients => k_is)
    (case l_quotients => k_is)
    (case c_quotients => k_is)
    (case k_quotients => k_is)
    (case n_marks_to => k_is)
    (case l_marks_to => k_is)
    (case c_marks_to => k_is)
    (case k_marks_to => k_is)
    (case n_turned_about => k_is)
    (case l_turned_about => k_is)
    (case c_turned_about => k_is)
    (case k_turned_about => k_is)
    (case n_mark_at => k_is)
    (case l_mark_at => k_is)
    (case c_mark_at => k_is)
    (case k_mark_at => k_is)
    (case n_place_by => k_is)
    (case l_place_by => k_is)
    (case c_place_by => k_is)
    (case k_place_by => k_is)
    (case n_check_mark => k_is)
    (case l_check_mark => k_is)
    (case c_check_mark => k_is)
    (case k_check_mark => k_is)
    (case n_turn_of => k_is)
    (case l_turn_of => k_is)
    (case c_turn_of => k_is)
    (case k_turn_of => k_is)
    (case n_mark_by => k_is)
    (case l_mark_by => k_is)
    (case c_mark_by => k_is)
    (case k_mark_by => k_is)
    (case n_beside => k_is)
    (case l_beside => k_is)
    (case c_beside => k_is)
    (case k_beside => k_is)
    (case n__law_number => k_is)
    (case l__law_number => k_is)
    (case c__law_number => k_is)
    (case k__law_number => k_is)
    (case n__law_rings => k_is)
    (case l__law_rings => k_is)
    (case c__law_rings => k_is)
    (case k__law_rings => k_is)
    (case n__law_common => k_is)
    (case l__law_common => k_is)
    (case c__law_common => k_is)
    (case k__law_common => k_is)
    (case n__law_rounds => k_is)
    (case l__law_rounds => k_is)
    (case c__law_rounds => k_is)
    (case k__law_rounds => k_is)
    (case n__law_to => k_is)
    (case l__law_to => k_is)
    (case c__law_to => k_is)
    (case k__law_to => k_is)
    (case n__law_whole => k_is)
    (case l__law_whole => k_is)
    (case c__law_whole => k_is)
    (case k__law_whole => k_is)
    (case n__law_beside_right => k_is)
    (case l__law_beside_right => k_is)
    (case c__law_beside_right => k_is)
    (case k__law_beside_right => k_is)
    (case n__law_turn_right => k_is)
    (case l__law_turn_right => k_is)
    (case c__law_turn_right => k_is)
    (case k__law_turn_right => k_is)
    (case n_law => k_is)
    (case l_law => k_is)
    (case c_law => k_is)
    (case k_law => k_is)
    (case n_BadPlaces => k_is)
    (case x_BadPlaces => k_exc)
    (case k_BadPlaces => k_is)
    (case b_BadPlaces => k_is)
    (case t_BadPlaces => k_is)
    (case n_BadStep => k_is)
    (case x_BadStep => k_exc)
    (case k_BadStep => k_is)
    (case b_BadStep => k_is)
    (case t_BadStep => k_is)
    (case n_BadMarks => k_is)
    (case x_BadMarks => k_exc)
    (case k_BadMarks => k_is)
    (case b_BadMarks => k_is)
    (case t_BadMarks => k_is)
    (case n_BadPlace => k_is)
    (case x_BadPlace => k_exc)
    (case k_BadPlace => k_is)
    (case b_BadPlace => k_is)
    (case t_BadPlace => k_is)
    (case n_BadMark => k_is)
    (case x_BadMark => k_exc)
    (case k_BadMark => k_is)
    (case b_BadMark => k_is)
    (case t_BadMark => k_is)
    (case z_isinstance => k_is)
    (case z_int => k_is)
    (case z_bool => k_is)
    (case z_len => k_is)
    (case z_sum => k_is)
    (case z_min => k_is)
    (case z_max => k_is)
    (case z_sorted => k_is)
    (case z_range => k_is)
    (case z_enumerate => k_is)
    (case z_reversed => k_is)
    (case z_zip => k_is)
    (case z_abs => k_is)
    (case z_all => k_is)
    (case z_any => k_is)
    (case z_list => k_is)
    (case z_tuple => k_is)
    (case z_set => k_is)
    (case z_str => k_is)
    (case z_ValueError => k_is)
    (case ht_law => kernel_rfl)
