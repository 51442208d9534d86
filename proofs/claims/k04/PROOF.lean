import PyProof.Rows.All
import Wide.All
import OpenK.AllK
import Wide.FinOn
import HandS.ForMost
import HandS.ForExc
import HandS.Evl
import HandS.Wide
import HandS.IsInst
import HandS.Walk
import HandS.NoneIn
import HandS.SortInts
import HandS.SortRule
import HandS.Style
import HandS.EndBits
import PySem.Challenge.RW_ringsteps_k04_whole_first
set_option Elab.async false
set_option linter.all false
set_option maxRecDepth 100000
set_option maxHeartbeats 2000000
namespace RS
/-! ### sums -/
def sumN (f : Nat → Int) : Nat → Int
  | 0 => 0
  | n + 1 => sumN f n + f n
theorem sumN_congr {f g : Nat → Int} : ∀ {n : Nat}, (∀ i, i < n → f i = g i) → sumN f n = sumN g n
  | 0, _ => rfl
  | n + 1, h => by
    show sumN f n + f n = sumN g n + g n
    rw [sumN_congr (n := n) (fun i hi => h i (by omega)), h n (by omega)]
theorem sumN_add (f g : Nat → Int) : ∀ n : Nat, sumN (fun i => f i + g i) n = sumN f n + sumN g n
  | 0 => rfl
  | n + 1 => by
    have := sumN_add f g n
    show sumN (fun i => f i + g i) n + (f n + g n) = sumN f n + f n + (sumN g n + g n)
    omega
theorem sumN_sub (f g : Nat → Int) : ∀ n : Nat, sumN (fun i => f i - g i) n = sumN f n - sumN g n
  | 0 => rfl
  | n + 1 => by
    have := sumN_sub f g n
    show sumN (fun i => f i - g i) n + (f n - g n) = sumN f n + f n - (sumN g n + g n)
    omega
theorem sumN_const (c : Int) : ∀ n : Nat, sumN (fun _ => c) n = (n : Int) * c
  | 0 => by simp [sumN]
  | n + 1 => by
    have := sumN_const c n
    show sumN (fun _ => c) n + c = _
    grind
theorem sumN_le {f g : Nat → Int} : ∀ {n : Nat}, (∀ i, i < n → f i ≤ g i) → sumN f n ≤ sumN g n
  | 0, _ => Int.le_refl _
  | n + 1, h => by
    have h1 := sumN_le (n := n) (fun i hi => h i (by omega))
    have h2 := h n (by omega)
    show sumN f n + f n ≤ sumN g n + g n
    omega
/-- from the other end -/
theorem sumN_front (f : Nat → Int) : ∀ n : Nat, sumN f (n + 1) = f 0 + sumN (fun i => f (i + 1)) n
  | 0 => by simp [sumN]
  | n + 1 => by
    have h := sumN_front f n
    show sumN f (n + 1) + f (n + 1) = f 0 + (sumN (fun i => f (i + 1)) n + f (n + 1))
    omega
theorem sumN_rev (f : Nat → Int) : ∀ n : Nat, sumN (fun i => f (n - 1 - i)) n = sumN f n
  | 0 => rfl
  | n + 1 => by
    rw [sumN_front]
    show f (n + 1 - 1 - 0) + sumN (fun i => f (n + 1 - 1 - (i + 1))) n = sumN f n + f n
    have h : sumN (fun i => f (n + 1 - 1 - (i + 1))) n = sumN (fun i => f (n - 1 - i)) n := sumN_congr fun i hi => by
      have : n + 1 - 1 - (i + 1) = n - 1 - i := by omega
      rw [this]
    rw [h, sumN_rev f n]
    have : n + 1 - 1 - 0 = n := by omega
    rw [this]
    omega
theorem sumN_split (f : Nat → Int) (a : Nat) : ∀ b : Nat, sumN f (a + b) = sumN f a + sumN (fun i => f (a + i)) b
  | 0 => by simp [sumN]
  | b + 1 => by
    have h := sumN_split f a b
    show sumN f (a + b) + f (a + b) = sumN f a + (sumN (fun i => f (a + i)) b + f (a + b))
    omega
/-! ### sums of quotients -/
/-- the sum of (a i + b) / m for i below n -/
def S (n : Nat) (m a b : Int) : Int := sumN (fun i => (a * i + b) / m) n
theorem tri : ∀ n : Nat, sumN (fun i => (i : Int)) n = (n : Int) * (n - 1) / 2
  | 0 => by simp [sumN]
  | n + 1 => by
    have h := tri n
    show sumN (fun i => (i : Int)) n + (n : Int) = _
    rw [h]
    have e : ((n + 1 : Nat) : Int) * (((n + 1 : Nat) : Int) - 1) = (n : Int) * (n - 1) + 2 * n := by grind
    rw [e, Int.add_mul_ediv_left _ _ (by omega)]
theorem sumN_mul (c : Int) (f : Nat → Int) : ∀ n : Nat, sumN (fun i => c * f i) n = c * sumN f n
  | 0 => by simp [sumN]
  | n + 1 => by
    have h := sumN_mul c f n
    show sumN (fun i => c * f i) n + c * f n = c * (sumN f n + f n)
    grind
theorem term_red (m a b i : Int) (hm : 0 < m) : (a * i + b) / m = (a / m) * i + b / m + ((a % m) * i + b % m) / m := by
  have h1 := Int.emod_add_mul_ediv a m
  have h2 := Int.emod_add_mul_ediv b m
  have h : a * i + b = ((a % m) * i + b % m) + m * ((a / m) * i + b / m) := by grind
  rw [h, Int.add_mul_ediv_left _ _ (by omega)]
  omega
/-- the step that takes whole multiples out -/
theorem S_red (n : Nat) (m a b : Int) (hm : 0 < m) : S n m a b = (n : Int) * (n - 1) / 2 * (a / m) + (n : Int) * (b / m) + S n m (a % m) (b % m) := by
  unfold S
  rw [sumN_congr (fun i _ => term_red m a b i hm), sumN_add, sumN_add, sumN_mul, tri, sumN_const]
  grind
theorem S_redb (n : Nat) (m a b : Int) (hm : 0 < m) : S n m a b = (n : Int) * (b / m) + S n m a (b % m) := by
  unfold S
  have : ∀ i : Nat, i < n → (a * i + b) / m = b / m + (a * i + b % m) / m := fun i _ => by
    have h2 := Int.emod_add_mul_ediv b m
    have h : a * (i : Int) + b = (a * i + b % m) + m * (b / m) := by omega
    rw [h, Int.add_mul_ediv_left _ _ (by omega)]
    have e : (a * (i : Int) + b % m + m * (b / m)) = a * i + b := by omega
    omega
  rw [sumN_congr this, sumN_add, sumN_const]
theorem S_zero (n : Nat) (m a b : Int) (hm : 0 < m) (ha : 0 ≤ a) (hb : 0 ≤ b) (h : a * n + b < m) : S n m a b = 0 := by
  unfold S
  rw [sumN_congr (g := fun _ => 0), sumN_const]
  · simp
  · intro i hi
    have h1 : a * (i : Int) ≤ a * n := Int.mul_le_mul_of_nonneg_left (by omega) ha
    have h2 : 0 ≤ a * (i : Int) := Int.mul_nonneg ha (by omega)
    exact Int.ediv_eq_zero_of_lt (by omega) (by omega)
/-- the sum, from the other side: by how many of the second number -/
def T (n : Nat) (m a b : Int) : Int := sumN (fun j => (a * n + b - (j + 1) * m) / a) ((a * n + b) / m).toNat
theorem T_step (n : Nat) (m a b : Int) (ha : 0 < a) (ham : a < m) (hb : 0 ≤ b) : T (n + 1) m a b = T n m a b + (a * n + b) / m := by
  have hm : 0 < m := by omega
  have x0 : 0 ≤ a * (n : Int) + b := by have := Int.mul_nonneg (Int.le_of_lt ha) (Int.natCast_nonneg n); omega
  have hq0 : 0 ≤ (a * (n : Int) + b) / m := Int.ediv_nonneg x0 (by omega)
  generalize hN : ((a * (n : Int) + b) / m).toNat = N
  have hNq : (N : Int) = (a * (n : Int) + b) / m := by omega
  have d1 := Int.emod_add_mul_ediv (a * (n : Int) + b) m
  have d2 := Int.emod_nonneg (a * (n : Int) + b) (show m ≠ 0 by omega)
  have d3 := Int.emod_lt_of_pos (a * (n : Int) + b) hm
  rw [← hNq] at d1
  have big : a * ((n + 1 : Nat) : Int) + b = a * n + b + a := by grind
  have termEq : ∀ j : Nat, (a * ((n + 1 : Nat) : Int) + b - ((j : Int) + 1) * m) / a = (a * n + b - ((j : Int) + 1) * m) / a + 1 := fun j => by
    have e : a * ((n + 1 : Nat) : Int) + b - ((j : Int) + 1) * m = (a * n + b - ((j : Int) + 1) * m) + a * 1 := by rw [big]; omega
    rw [e, Int.add_mul_ediv_left _ _ (by omega)]
  have sumEq : sumN (fun j => (a * ((n + 1 : Nat) : Int) + b - ((j : Int) + 1) * m) / a) N = T n m a b + N := by
    rw [sumN_congr (fun j _ => termEq j), sumN_add, sumN_const]
    unfold T
    rw [hN]
    omega
  have mul1 : m * ((N : Int) + 1) = m * N + m := by grind
  have mul2 : m * ((N : Int) + 2) = m * N + 2 * m := by grind
  have mul3 : ((N : Int) + 1) * m = m * N + m := by grind
  have mul4 : ((N : Int) + 2) * m = m * N + 2 * m := by grind
  have mul5 : (N : Int) * m = m * N := Int.mul_comm _ _
  by_cases hc : a * (n : Int) + b + a < m * ((N : Int) + 1)
  · -- N stays
    have q : (a * ((n + 1 : Nat) : Int) + b) / m = N := by
      rw [big]
      apply Int.le_antisymm
      · have : (a * (n : Int) + b + a) / m < (N : Int) + 1 := Int.ediv_lt_of_lt_mul hm (by omega)
        omega
      · exact Int.le_ediv_of_mul_le hm (by omega)
    unfold T
    rw [q]
    have : ((N : Int)).toNat = N := by omega
    have s := sumEq
    unfold T at s
    rw [this, s, hN, hNq]
  · have q : (a * ((n + 1 : Nat) : Int) + b) / m = (N : Int) + 1 := by
      rw [big]
      apply Int.le_antisymm
      · have : (a * (n : Int) + b + a) / m < (N : Int) + 2 := Int.ediv_lt_of_lt_mul hm (by omega)
        omega
      · exact Int.le_ediv_of_mul_le hm (by omega)
    have e1 : T (n + 1) m a b = sumN (fun j => (a * ((n + 1 : Nat) : Int) + b - ((j : Int) + 1) * m) / a) (N + 1) := by
      unfold T
      rw [q]
      have : ((N : Int) + 1).toNat = N + 1 := by omega
      rw [this]
    rw [e1]
    show sumN (fun j => (a * ((n + 1 : Nat) : Int) + b - ((j : Int) + 1) * m) / a) N + (a * ((n + 1 : Nat) : Int) + b - ((N : Int) + 1) * m) / a = _
    rw [sumEq, termEq]
    have z : (a * (n : Int) + b - ((N : Int) + 1) * m) / a = -1 := by
      apply Int.le_antisymm
      · have : (a * (n : Int) + b - ((N : Int) + 1) * m) / a < 0 := Int.ediv_lt_of_lt_mul ha (by omega)
        omega
      · exact Int.le_ediv_of_mul_le ha (by omega)
    rw [z, ← hNq]
    omega
theorem S_T (m a b : Int) (ha : 0 < a) (ham : a < m) (hb : 0 ≤ b) (hbm : b < m) : ∀ n : Nat, S n m a b = T n m a b
  | 0 => by
    have : (a * ((0 : Nat) : Int) + b) / m = 0 := by
      have e : a * ((0 : Nat) : Int) + b = b := by simp
      rw [e]
      exact Int.ediv_eq_zero_of_lt hb hbm
    unfold S T
    rw [this]
    rfl
  | n + 1 => by
    rw [T_step n m a b ha ham hb, ← S_T m a b ha ham hb hbm n]
    rfl
/-- the step that changes sides -/
theorem S_flip (n : Nat) (m a b : Int) (ha : 0 < a) (ham : a < m) (hb : 0 ≤ b) (hbm : b < m) : S n m a b = S ((a * n + b) / m).toNat a m ((a * n + b) % m) := by
  rw [S_T m a b ha ham hb hbm n]
  have hm : 0 < m := by omega
  have x0 : 0 ≤ a * (n : Int) + b := by have := Int.mul_nonneg (Int.le_of_lt ha) (Int.natCast_nonneg n); omega
  have hq0 : 0 ≤ (a * (n : Int) + b) / m := Int.ediv_nonneg x0 (by omega)
  unfold T S
  generalize hN : ((a * (n : Int) + b) / m).toNat = N
  have hNq : (N : Int) = (a * (n : Int) + b) / m := by omega
  have d1 := Int.emod_add_mul_ediv (a * (n : Int) + b) m
  rw [← hNq] at d1
  rw [← sumN_rev]
  refine sumN_congr fun i hi => ?_
  have e : ((N - 1 - i : Nat) : Int) = (N : Int) - 1 - i := by omega
  rw [e]
  congr 1
  grind
/-! ### how many marks stand up to a place -/
def hit (p s x : Int) (k : Nat) : Int := if (k : Int) * s % p ≤ x then 1 else 0
def cnt (p s : Int) (n : Nat) (x : Int) : Int := sumN (hit p s x) n
theorem hit_q (p s x : Int) (k : Nat) (hx : 0 ≤ x) (hxp : x < p) : (s * k + 0) / p - (s * k + (-x - 1)) / p = hit p s x k := by
  have hp : 0 < p := by omega
  unfold hit
  have c : (k : Int) * s = s * k := Int.mul_comm _ _
  rw [c]
  generalize s * (k : Int) = y
  have d1 := Int.emod_add_mul_ediv y p
  have d2 := Int.emod_nonneg y (show p ≠ 0 by omega)
  have d3 := Int.emod_lt_of_pos y hp
  generalize hr : y % p = r at *
  generalize hq : y / p = q at *
  have e : y + (-x - 1) = (r - x - 1) + p * q := by omega
  rw [e, Int.add_mul_ediv_left _ _ (by omega), Int.add_zero, hq]
  by_cases h : r ≤ x
  · rw [if_pos h]
    have : (r - x - 1) / p = -1 := by
      apply Int.le_antisymm
      · have : (r - x - 1) / p < 0 := Int.ediv_lt_of_lt_mul hp (by omega)
        omega
      · exact Int.le_ediv_of_mul_le hp (by omega)
    omega
  · rw [if_neg h]
    have : (r - x - 1) / p = 0 := Int.ediv_eq_zero_of_lt (by omega) (by omega)
    omega
theorem cnt_S (p s : Int) (n : Nat) (x : Int) (hx : 0 ≤ x) (hxp : x < p) : S n p s 0 - S n p s (-x - 1) = cnt p s n x := by
  unfold S cnt
  rw [← sumN_sub]
  exact sumN_congr fun k _ => hit_q p s x k hx hxp
/-- the law's own sum: of numbers that are not below 0 -/
theorem cnt_S' (p s : Int) (n : Nat) (x : Int) (hx : 0 ≤ x) (hxp : x < p) : n + S n p s 0 - S n p s (p - x - 1) = cnt p s n x := by
  rw [← cnt_S p s n x hx hxp]
  have : S n p s (p - x - 1) = n + S n p s (-x - 1) := by
    unfold S
    have : ∀ i : Nat, i < n → (s * i + (p - x - 1)) / p = 1 + (s * i + (-x - 1)) / p := fun i _ => by
      have e : s * (i : Int) + (p - x - 1) = (s * i + (-x - 1)) + p * 1 := by omega
      rw [e, Int.add_mul_ediv_left _ _ (by omega)]
      omega
    rw [sumN_congr this, sumN_add, sumN_const]
    omega
  omega
theorem hit_nn (p s x : Int) (k : Nat) : 0 ≤ hit p s x k ∧ hit p s x k ≤ 1 := by
  unfold hit
  split <;> omega
theorem cnt_nn (p s : Int) (n : Nat) (x : Int) : 0 ≤ cnt p s n x := by
  have h := sumN_le (f := fun _ => 0) (g := hit p s x) (n := n) fun i _ => (hit_nn p s x i).1
  rw [sumN_const] at h
  simpa [cnt] using h
theorem cnt_le (p s : Int) (n : Nat) (x : Int) : cnt p s n x ≤ n := by
  have h := sumN_le (f := hit p s x) (g := fun _ => 1) (n := n) fun i _ => (hit_nn p s x i).2
  rw [sumN_const] at h
  simpa [cnt] using h
theorem cnt_mono (p s : Int) (n : Nat) {x y : Int} (h : x ≤ y) : cnt p s n x ≤ cnt p s n y := by
  refine sumN_le fun i _ => ?_
  unfold hit
  split <;> split <;> omega
theorem cnt_neg (p s : Int) (n : Nat) (x : Int) (hp : 0 < p) (h : x < 0) : cnt p s n x = 0 := by
  unfold cnt
  rw [sumN_congr (g := fun _ => 0), sumN_const]
  · simp
  · intro i _
    unfold hit
    have := Int.emod_nonneg ((i : Int) * s) (show p ≠ 0 by omega)
    rw [if_neg (by omega)]
theorem cnt_all (p s : Int) (n : Nat) (x : Int) (hp : 0 < p) (h : p - 1 ≤ x) : cnt p s n x = n := by
  unfold cnt
  rw [sumN_congr (g := fun _ => 1), sumN_const]
  · simp
  · intro i _
    unfold hit
    have := Int.emod_lt_of_pos ((i : Int) * s) hp
    rw [if_pos (by omega)]
end RS
namespace RS
/-! ### the greatest common number -/
def G (p s : Int) : Int := (Int.gcd p s : Nat)
def top (p s : Int) : Int := p / G p s
theorem G_pos {p s : Int} (hp : 0 < p) : 0 < G p s := by
  unfold G
  have : 0 < Int.gcd p s := Int.gcd_pos_of_ne_zero_left _ (by omega)
  omega
theorem G_dl (p s : Int) : G p s ∣ p := Int.gcd_dvd_left ..
theorem G_dr (p s : Int) : G p s ∣ s := Int.gcd_dvd_right ..
theorem G_step (a b : Int) (hb : 0 < b) : G b (a % b) = G a b := by
  unfold G
  have : Int.gcd b (a % b) = Int.gcd a b := by
    rw [Int.gcd_comm]
    have h := Int.emod_add_mul_ediv a b
    have e : a % b = a + b * (-(a / b)) := by grind
    rw [e, Int.gcd_add_mul_left_left]
  rw [this]
theorem G_zero {a : Int} (h : 0 ≤ a) : G a 0 = a := by
  unfold G
  rw [Int.gcd_zero_right]
  omega
theorem G_le {p s : Int} (hp : 0 < p) : G p s ≤ p := Int.le_of_dvd hp (G_dl p s)
theorem top_mul {p s : Int} (hp : 0 < p) : G p s * top p s = p := by
  unfold top
  exact Int.mul_ediv_cancel' (G_dl p s)
theorem top_pos {p s : Int} (hp : 0 < p) : 0 < top p s := by
  have h1 := top_mul (s := s) hp
  have h2 := G_pos (s := s) hp
  rcases Int.lt_trichotomy 0 (top p s) with h | h | h
  · exact h
  · rw [← h] at h1; omega
  · have := Int.mul_neg_of_pos_of_neg h2 h; omega
theorem top_le {p s : Int} (hp : 0 < p) : top p s ≤ p := by
  have h1 := top_mul (s := s) hp
  have h2 := G_pos (s := s) hp
  have h3 := top_pos (s := s) hp
  have : 1 * top p s ≤ G p s * top p s := Int.mul_le_mul_of_nonneg_right (by omega) (by omega)
  omega
theorem step_mul (p s : Int) : G p s * (s / G p s) = s := Int.mul_ediv_cancel' (G_dr p s)
/-- what both are divided by has nothing in common -/
theorem coprime_of {p s : Int} (hp : 0 < p) : Int.gcd (top p s) (s / G p s) = 1 := by
  unfold top G
  have : 0 < Int.gcd p s := Int.gcd_pos_of_ne_zero_left _ (by omega)
  exact Int.gcd_ediv_gcd_ediv_gcd (Int.gcd_pos_of_ne_zero_left _ (by omega))
theorem dvd_of_coprime {m a d : Int} (h : Int.gcd m a = 1) (hd : m ∣ d * a) : m ∣ d := by
  have h1 : m ∣ (Int.gcd m a : Int) * d := Int.dvd_gcd_mul_iff_dvd_mul.mpr (by rw [Int.mul_comm]; exact hd)
  rw [h] at h1
  simpa using h1
/-- two marks at one place are whole turns apart -/
theorem same_place {p s i j : Int} (hp : 0 < p) (h : i * s % p = j * s % p) : top p s ∣ (i - j) := by
  have h0 : p ∣ (i - j) * s := by
    rw [Int.sub_mul]
    exact Int.dvd_of_emod_eq_zero (Int.emod_eq_emod_iff_emod_sub_eq_zero.mp h)
  have h1 : G p s * top p s ∣ G p s * ((i - j) * (s / G p s)) := by
    rw [top_mul hp]
    have := step_mul p s
    have e : G p s * ((i - j) * (s / G p s)) = (i - j) * s := by grind
    rw [e]
    exact h0
  have h2 : top p s ∣ (i - j) * (s / G p s) := Int.dvd_of_mul_dvd_mul_left (by have := G_pos (s := s) hp; omega) h1
  exact dvd_of_coprime (coprime_of hp) h2
theorem whole_turn {p s d : Int} (hp : 0 < p) (h : top p s ∣ d) : p ∣ d * s := by
  obtain ⟨c, rfl⟩ := h
  refine ⟨c * (s / G p s), ?_⟩
  have h1 := top_mul (s := s) hp
  have h2 := step_mul p s
  have : top p s * c * s = top p s * c * (G p s * (s / G p s)) := by rw [h2]
  rw [this]
  have : p * (c * (s / G p s)) = (G p s * top p s) * (c * (s / G p s)) := by rw [h1]
  rw [this]
  grind
theorem marks_apart {p s i j : Int} (hp : 0 < p) (hi : 0 ≤ i) (hit : i < top p s) (hj : 0 ≤ j) (hjt : j < top p s) (h : i * s % p = j * s % p) : i = j := by
  obtain ⟨c, hc⟩ := same_place hp h
  have ht := top_pos (s := s) hp
  rcases Int.lt_trichotomy c 0 with h | h | h
  · have : top p s * c ≤ top p s * (-1) := Int.mul_le_mul_of_nonneg_left (by omega) (by omega)
    omega
  · subst h; omega
  · have : top p s * 1 ≤ top p s * c := Int.mul_le_mul_of_nonneg_left (by omega) (by omega)
    omega
/-! ### the inverse -/
/-- what the division with remainder keeps -/
structure Eu (a m one other first second : Int) : Prop where
  f : (first * a - one) % m = 0
  g : (second * a - other) % m = 0
  o : 0 ≤ one
  r : 0 ≤ other
  q : Int.gcd one other = Int.gcd m a
  /-- how great they may be -/
  b : (second.natAbs : Int) * one + (first.natAbs : Int) * other ≤ m
theorem Eu.start {a m : Int} (hm : 0 < m) : Eu a m m (a % m) 0 1 where
  f := by simp
  g := by
    have h := Int.emod_add_mul_ediv a m
    have e : 1 * a - a % m = m * (a / m) := by omega
    rw [e]; exact Int.mul_emod_right ..
  o := by omega
  r := Int.emod_nonneg _ (by omega)
  q := by
    have := G_step a m hm
    unfold G at this
    rw [Int.gcd_comm m a]
    omega
  b := by simp
theorem Eu.next {a m one other first second : Int} (h : Eu a m one other first second) (ho : 0 < other) :
    Eu a m other (one - one / other * other) second (first - one / other * second) := by
  obtain ⟨f, g, o, r, q, b⟩ := h
  have hd := Int.emod_add_mul_ediv one other
  have h1 := Int.emod_nonneg one (show other ≠ 0 by omega)
  have e : one - one / other * other = one % other := by grind
  have t0 : 0 ≤ one / other := Int.ediv_nonneg o r
  refine ⟨g, ?_, r, by omega, ?_, ?_⟩
  · have e2 : (first - one / other * second) * a - (one - one / other * other) = (first * a - one) - (one / other) * (second * a - other) := by grind
    rw [e2]
    obtain ⟨x, hx⟩ := Int.dvd_of_emod_eq_zero f
    obtain ⟨y, hy⟩ := Int.dvd_of_emod_eq_zero g
    rw [hx, hy]
    have e3 : m * x - one / other * (m * y) = m * (x - one / other * y) := by grind
    rw [e3]; exact Int.mul_emod_right ..
  · rw [e, ← q]
    have := G_step one other ho
    unfold G at this
    omega
  · have k : ((first - one / other * second).natAbs : Int) ≤ first.natAbs + one / other * second.natAbs := by
      have h2 : (one / other * second).natAbs = (one / other).natAbs * second.natAbs := Int.natAbs_mul ..
      have h3 : ((one / other).natAbs : Int) = one / other := Int.natAbs_of_nonneg t0
      have h4 : (((one / other * second).natAbs : Nat) : Int) = one / other * second.natAbs := by rw [h2, Int.natCast_mul, h3]
      omega
    have k2 : ((first - one / other * second).natAbs : Int) * other ≤ (first.natAbs + one / other * second.natAbs) * other := Int.mul_le_mul_of_nonneg_right k r
    have k3 : (first.natAbs + one / other * (second.natAbs : Int)) * other + second.natAbs * (one - one / other * other) = second.natAbs * one + first.natAbs * other := by grind
    omega
theorem Eu.done {a m one first second : Int} (h : Eu a m one 0 first second) (hm : 0 < m) (hg : Int.gcd m a = 1) : (first % m * a) % m = 1 % m := by
  have q := h.q
  rw [Int.gcd_zero_right, hg] at q
  have : one = 1 := by have := h.o; omega
  subst this
  have f := h.f
  have := (Int.emod_eq_emod_iff_emod_sub_eq_zero (m := first * a) (n := m) (k := 1)).mpr f
  rw [← this, Int.mul_emod, Int.emod_emod, ← Int.mul_emod]
/-- r is the inverse: the mark of a place that is a multiple -/
theorem mark_at_place {p s r x : Int} (hp : 0 < p) (hr : (r * (s / G p s)) % top p s = 1 % top p s) (hx : 0 ≤ x) (hxp : x < p) (hg : x % G p s = 0) :
    (x / G p s * r % top p s) * s % p = x := by
  have ht := top_pos (s := s) hp
  have hG := G_pos (s := s) hp
  have h1 := top_mul (s := s) hp
  have h2 := step_mul p s
  have h3 : G p s * (x / G p s) = x := Int.mul_ediv_cancel' (Int.dvd_of_emod_eq_zero hg)
  generalize hm : x / G p s * r % top p s = m
  have d1 := Int.emod_add_mul_ediv (x / G p s * r) (top p s)
  rw [hm] at d1
  -- r a = 1 + top c
  obtain ⟨c, hc⟩ : top p s ∣ (r * (s / G p s) - 1) := Int.dvd_of_emod_eq_zero (Int.emod_eq_emod_iff_emod_sub_eq_zero.mp hr)
  have key : m * s = x + p * (x / G p s * c - (x / G p s * r / top p s) * (s / G p s)) := by
    have e1 : m = x / G p s * r - top p s * (x / G p s * r / top p s) := by omega
    have e2 : r * (s / G p s) = 1 + top p s * c := by omega
    generalize x / G p s * r / top p s = w at *
    generalize hb : s / G p s = b at *
    generalize hy : x / G p s = y at *
    generalize top p s = t at *
    generalize G p s = g at *
    rw [e1, ← h2, ← h1]
    have : (y * r - t * w) * (g * b) = g * y * (r * b) - g * t * w * b := by grind
    rw [this, e2]
    grind
  rw [key, Int.add_mul_emod_self_left]
  exact Int.emod_eq_of_lt hx hxp
theorem place_mult {p s k : Int} (hp : 0 < p) : (k * s % p) % G p s = 0 := by
  have h1 : G p s ∣ k * s := Int.dvd_mul_of_dvd_right (G_dr p s)
  have h2 : G p s ∣ p := G_dl p s
  have h := Int.emod_add_mul_ediv (k * s) p
  have : k * s % p = k * s - p * (k * s / p) := by omega
  rw [this]
  exact Int.emod_eq_zero_of_dvd (Int.dvd_sub h1 (Int.dvd_mul_of_dvd_left h2))
theorem mark_back {p s r k : Int} (hp : 0 < p) (hr : (r * (s / G p s)) % top p s = 1 % top p s) (hk : 0 ≤ k) (hkt : k < top p s) :
    (k * s % p) / G p s * r % top p s = k := by
  have ht := top_pos (s := s) hp
  refine marks_apart (s := s) hp (Int.emod_nonneg _ (by omega)) (Int.emod_lt_of_pos _ ht) hk hkt ?_
  exact mark_at_place hp hr (Int.emod_nonneg _ (by omega)) (Int.emod_lt_of_pos _ hp) (place_mult hp)
/-! ### ranks -/
def one_ (p s x : Int) (k : Nat) : Int := if (k : Int) * s % p = x then 1 else 0
theorem cnt_diff (p s : Int) (n : Nat) (x : Int) : cnt p s n x - cnt p s n (x - 1) = sumN (one_ p s x) n := by
  unfold cnt
  rw [← sumN_sub]
  refine sumN_congr fun k _ => ?_
  unfold hit one_
  split <;> split <;> split <;> omega
theorem sumN_nn {f : Nat → Int} {n : Nat} (h : ∀ i, i < n → 0 ≤ f i) : 0 ≤ sumN f n := by
  have := sumN_le (f := fun _ => 0) (g := f) (n := n) h
  rw [sumN_const] at this
  simpa using this
theorem sumN_ge {f : Nat → Int} : ∀ {n k : Nat}, (∀ i, i < n → 0 ≤ f i) → k < n → f k ≤ sumN f n
  | n + 1, k, h, hk => by
    show f k ≤ sumN f n + f n
    by_cases e : k = n
    · subst e
      have := sumN_nn (f := f) (n := k) fun i hi => h i (by omega)
      omega
    · have := sumN_ge (f := f) (n := n) (k := k) (fun i hi => h i (by omega)) (by omega)
      have := h n (by omega)
      omega
theorem one_nn (p s x : Int) (k : Nat) : 0 ≤ one_ p s x k := by unfold one_; split <;> omega
theorem one_apart {p s x : Int} (hp : 0 < p) : ∀ {n : Nat}, (n : Int) ≤ top p s → sumN (one_ p s x) n ≤ 1
  | 0, _ => by simp [sumN]
  | n + 1, h => by
    show sumN (one_ p s x) n + one_ p s x n ≤ 1
    by_cases e : (n : Int) * s % p = x
    · have z : sumN (one_ p s x) n = 0 := by
        rw [sumN_congr (g := fun _ => 0), sumN_const]
        · simp
        · intro i hi
          unfold one_
          rw [if_neg]
          intro e2
          have := marks_apart (p := p) (s := s) (i := i) (j := n) hp (by omega) (by omega) (by omega) (by omega) (e2.trans e.symm)
          omega
      rw [z]
      unfold one_
      rw [if_pos e]
      omega
    · have := one_apart (s := s) (x := x) hp (n := n) (by omega)
      unfold one_
      rw [if_neg e]
      unfold one_ at this
      omega
theorem one_some {p s x : Int} : ∀ {n : Nat}, 0 < sumN (one_ p s x) n → ∃ k : Nat, k < n ∧ (k : Int) * s % p = x
  | 0, h => by simp [sumN] at h
  | n + 1, h => by
    by_cases e : (n : Int) * s % p = x
    · exact ⟨n, by omega, e⟩
    · have h' : 0 < sumN (one_ p s x) n + one_ p s x n := h
      have z : one_ p s x n = 0 := by unfold one_; rw [if_neg e]
      obtain ⟨k, h1, h2⟩ := one_some (p := p) (s := s) (x := x) (n := n) (by omega)
      exact ⟨k, by omega, h2⟩
/-- behind a search: the least place up to which more than t stand holds a mark -/
theorem found_place {p s x t : Int} {n : Nat} (hp : 0 < p) (hn : (n : Int) ≤ top p s) (h1 : t < cnt p s n x) (h2 : cnt p s n (x - 1) ≤ t) :
    ∃ k : Nat, k < n ∧ (k : Int) * s % p = x ∧ cnt p s n x = t + 1 := by
  have d := cnt_diff p s n x
  have u := one_apart (x := x) hp hn
  obtain ⟨k, hk, e⟩ := one_some (p := p) (s := s) (x := x) (n := n) (by omega)
  exact ⟨k, hk, e, by omega⟩
theorem cnt_at {p s x : Int} {n k : Nat} (hk : k < n) (e : (k : Int) * s % p = x) : cnt p s n (x - 1) < cnt p s n x := by
  have d := cnt_diff p s n x
  have := sumN_ge (f := one_ p s x) (n := n) (k := k) (fun i _ => one_nn p s x i) hk
  have z : one_ p s x k = 1 := by unfold one_; rw [if_pos e]
  omega
theorem cnt_at1 {p s x : Int} {n k : Nat} (hp : 0 < p) (hn : (n : Int) ≤ top p s) (hk : k < n) (e : (k : Int) * s % p = x) : cnt p s n x = cnt p s n (x - 1) + 1 := by
  have d := cnt_diff p s n x
  have u := one_apart (x := x) hp hn
  have := cnt_at hk e
  omega
/-- no two marks have one rank -/
theorem rank_apart {p s : Int} {n i j : Nat} (hp : 0 < p) (hn : (n : Int) ≤ top p s) (hi : i < n) (hj : j < n) (h : cnt p s n ((i : Int) * s % p) = cnt p s n ((j : Int) * s % p)) : i = j := by
  have a : ∀ {x y : Int}, x < y → (∃ k, k < n ∧ (k : Int) * s % p = y) → cnt p s n x < cnt p s n y := fun {x y} hxy ⟨k, hk, e⟩ => by
    have h1 := cnt_at hk e
    have h2 := cnt_mono p s n (show x ≤ y - 1 by omega)
    omega
  rcases Int.lt_trichotomy ((i : Int) * s % p) ((j : Int) * s % p) with q | q | q
  · have := a q ⟨j, hj, rfl⟩; omega
  · have := marks_apart (s := s) hp (by omega) (show (i : Int) < top p s by omega) (by omega) (show (j : Int) < top p s by omega) q
    omega
  · have := a q ⟨i, hi, rfl⟩; omega
theorem rank_nn {p s : Int} {n i : Nat} (hi : i < n) : 1 ≤ cnt p s n ((i : Int) * s % p) := by
  have h1 := cnt_at (x := (i : Int) * s % p) hi rfl
  have h2 := cnt_nn p s n ((i : Int) * s % p - 1)
  omega
end RS
namespace RS
/-! ### the first mark in a stretch -/
def In (p s b e k : Int) : Prop := b ≤ k * s % p ∧ k * s % p ≤ e
instance (p s b e k : Int) : Decidable (In p s b e k) := by unfold In; exact inferInstance
structure FirstIn (p s b e k : Int) : Prop where
  nn : 0 ≤ k
  is : In p s b e k
  no : ∀ j, 0 ≤ j → j < k → ¬ In p s b e j
theorem FirstIn.lt {p s b e k : Int} (h : FirstIn p s b e k) (hp : 0 < p) : k < top p s := by
  rcases Int.lt_or_le k (top p s) with h1 | h1
  · exact h1
  · have ht := top_pos (s := s) hp
    have d := whole_turn (s := s) hp (Int.dvd_refl (top p s))
    have e1 : (k - top p s) * s % p = k * s % p := by
      rw [Int.sub_mul]
      obtain ⟨c, hc⟩ := d
      rw [hc]
      have : k * s - p * c = k * s + p * (-c) := by grind
      rw [this, Int.add_mul_emod_self_left]
    exact absurd (show In p s b e (k - top p s) from by unfold In; rw [e1]; exact h.is) (h.no _ (by omega) (by omega))
theorem FirstIn.uniq {p s b e k m : Int} (h : FirstIn p s b e k) (h' : FirstIn p s b e m) : k = m := by
  rcases Int.lt_trichotomy k m with q | q | q
  · exact absurd h.is (h'.no _ h.nn q)
  · exact q
  · exact absurd h'.is (h.no _ h'.nn q)
theorem first_zero {p s b e : Int} (hb : b ≤ 0) (he : 0 ≤ e) : FirstIn p s b e 0 :=
  ⟨by omega, ⟨by simpa using hb, by simpa using he⟩, fun j h1 h2 => by omega⟩
theorem refl_place {p s j : Int} (hp : 0 < p) : j * (p - s) % p = if j * s % p = 0 then 0 else p - j * s % p := by
  have h := Int.emod_add_mul_ediv (j * s) p
  have h1 := Int.emod_nonneg (j * s) (show p ≠ 0 by omega)
  have h2 := Int.emod_lt_of_pos (j * s) hp
  have e : j * (p - s) = -(j * s % p) + p * (j - j * s / p) := by grind
  rw [e, Int.add_mul_emod_self_left]
  split
  · rename_i z; rw [z]; simp
  · rename_i z
    have e2 : -(j * s % p) = (p - j * s % p) + p * (-1) := by omega
    rw [e2, Int.add_mul_emod_self_left]
    exact Int.emod_eq_of_lt (by omega) (by omega)
theorem in_reflect {p s b e j : Int} (hp : 0 < p) (hb : 0 < b) (he : e < p) : In p (p - s) (p - e) (p - b) j ↔ In p s b e j := by
  unfold In
  rw [refl_place hp]
  have h1 := Int.emod_nonneg (j * s) (show p ≠ 0 by omega)
  split <;> omega
theorem first_reflect {p s b e k : Int} (hp : 0 < p) (hb : 0 < b) (he : e < p) (h : FirstIn p (p - s) (p - e) (p - b) k) : FirstIn p s b e k :=
  ⟨h.nn, (in_reflect hp hb he).mp h.is, fun j h1 h2 q => h.no j h1 h2 ((in_reflect hp hb he).mpr q)⟩
/-- rounded up -/
theorem ceil_spec {x s : Int} (hs : 0 < s) : x ≤ (x + s - 1) / s * s ∧ (x + s - 1) / s * s < x + s := by
  have h := Int.emod_add_mul_ediv (x + s - 1) s
  have h1 := Int.emod_nonneg (x + s - 1) (show s ≠ 0 by omega)
  have h2 := Int.emod_lt_of_pos (x + s - 1) hs
  rw [Int.mul_comm s] at h
  omega
theorem ceil_le {x s k : Int} (hs : 0 < s) (h : x ≤ k * s) : (x + s - 1) / s ≤ k := by
  obtain ⟨h1, h2⟩ := ceil_spec (x := x) hs
  rcases Int.lt_or_le k ((x + s - 1) / s) with q | q
  · have : (k + 1) * s ≤ (x + s - 1) / s * s := Int.mul_le_mul_of_nonneg_right (by omega) (by omega)
    rw [Int.add_mul, Int.one_mul] at this
    omega
  · exact q
theorem ceil_nn {x s : Int} (hs : 0 < s) (hx : 0 ≤ x) : 0 ≤ (x + s - 1) / s := Int.ediv_nonneg (by omega) (by omega)
theorem first_direct {p s b e : Int} (hs : 0 < s) (hb : 0 < b) (he : e < p) (h : (b + s - 1) / s * s ≤ e) : FirstIn p s b e ((b + s - 1) / s) := by
  obtain ⟨h1, h2⟩ := ceil_spec (x := b) hs
  have h0 := ceil_nn hs (show 0 ≤ b by omega)
  generalize (b + s - 1) / s = t at *
  have small : ∀ j, 0 ≤ j → j ≤ t → j * s % p = j * s := fun j j0 jt => by
    have a : 0 ≤ j * s := Int.mul_nonneg j0 (by omega)
    have c : j * s ≤ t * s := Int.mul_le_mul_of_nonneg_right jt (by omega)
    exact Int.emod_eq_of_lt a (by omega)
  refine ⟨h0, ⟨by rw [small t h0 (by omega)]; omega, by rw [small t h0 (by omega)]; omega⟩, fun j j0 jt q => ?_⟩
  obtain ⟨q1, q2⟩ := q
  rw [small j j0 (by omega)] at q1
  have : (j + 1) * s ≤ t * s := Int.mul_le_mul_of_nonneg_right (by omega) (by omega)
  rw [Int.add_mul, Int.one_mul] at this
  omega
/-- no multiple within: both ends lie between the same two -/
theorem same_block {s b e : Int} (hs : 0 < s) (hbe : b ≤ e) (h : e < (b + s - 1) / s * s) : e / s = b / s ∧ 0 < b % s ∧ b % s ≤ e % s := by
  obtain ⟨h1, h2⟩ := ceil_spec (x := b) hs
  have d1 := Int.emod_add_mul_ediv b s
  have d2 := Int.emod_nonneg b (show s ≠ 0 by omega)
  have d3 := Int.emod_lt_of_pos b hs
  have c1 := Int.emod_add_mul_ediv e s
  have c2 := Int.emod_nonneg e (show s ≠ 0 by omega)
  have c3 := Int.emod_lt_of_pos e hs
  generalize (b + s - 1) / s = t at *
  have hb0 : 0 < b % s := by
    rcases Int.lt_or_le 0 (b % s) with q | q
    · exact q
    · have z : b % s = 0 := by omega
      -- t s < b + s and t s > e >= b = s (b/s): between two neighbours
      have l1 : s * (b / s) < t * s := by omega
      have l2 : t * s < s * (b / s) + s := by omega
      rw [Int.mul_comm t s] at l1 l2
      have a1 : b / s < t := Int.lt_of_mul_lt_mul_left l1 (by omega)
      have a2 : s * t < s * (b / s + 1) := by rw [Int.mul_add]; omega
      have a3 : t < b / s + 1 := Int.lt_of_mul_lt_mul_left a2 (by omega)
      omega
  have eq : e / s = b / s := by
    have m1 : b / s ≤ e / s := Int.ediv_le_ediv hs hbe
    rcases Int.lt_or_le (b / s) (e / s) with q | q
    · -- t <= e / s
      have l : s * (b / s + 1) ≤ s * (e / s) := Int.mul_le_mul_of_nonneg_left (by omega) (by omega)
      rw [Int.mul_add] at l
      have l2 : s * t < s * (e / s + 1) := by
        rw [Int.mul_add, Int.mul_comm s t]; omega
      have l3 : t < e / s + 1 := Int.lt_of_mul_lt_mul_left l2 (by omega)
      have l4 : t * s ≤ e / s * s := Int.mul_le_mul_of_nonneg_right (by omega) (by omega)
      rw [Int.mul_comm (e / s) s] at l4
      omega
    · omega
  refine ⟨eq, hb0, ?_⟩
  rw [eq] at c1
  omega
/-- by how far the ring is behind a multiple: what stands in the lesser ring -/
theorem neg_place {p s j : Int} (hs : 0 < s) : j * (-p % s) % s = (-(j * p)) % s := by
  have h := Int.emod_add_mul_ediv (-p) s
  have e : -(j * p) = j * (-p % s) + s * (j * (-p / s)) := by grind
  rw [e, Int.add_mul_emod_self_left]
/-- a mark comes into the stretch in its j-th turn just when j comes into the lesser stretch -/
theorem lead_iff {p s b e j k : Int} (hs : 0 < s) (hb : 0 < b % s) (hbe : b % s ≤ e % s) (hq : e / s = b / s) (h1 : b ≤ k * s - j * p) (h2 : k * s - j * p ≤ e) :
    In s (-p % s) (b % s) (e % s) j := by
  unfold In
  rw [neg_place hs]
  have d1 := Int.emod_add_mul_ediv b s
  have c1 := Int.emod_add_mul_ediv e s
  have c3 := Int.emod_lt_of_pos e hs
  rw [hq] at c1
  have e1 : -(j * p) = (k * s - j * p - s * (b / s)) + s * (b / s - k) := by grind
  rw [e1, Int.add_mul_emod_self_left, Int.emod_eq_of_lt (a := k * s - j * p - s * (b / s)) (by omega) (by omega)]
  omega
theorem first_lead {p s b e m : Int} (hp : 0 < p) (hs : 0 < s) (hb : 0 < b) (he : e < p) (hbe : b ≤ e) (h : e < (b + s - 1) / s * s) (hm : FirstIn s (-p % s) (b % s) (e % s) m) :
    FirstIn p s b e ((b + p * m + s - 1) / s) := by
  obtain ⟨hq, hb0, hbe'⟩ := same_block hs hbe h
  have d1 := Int.emod_add_mul_ediv b s
  have c1 := Int.emod_add_mul_ediv e s
  have c3 := Int.emod_lt_of_pos e hs
  obtain ⟨m0, mi, mn⟩ := hm
  obtain ⟨mi1, mi2⟩ := mi
  rw [neg_place hs] at mi1 mi2
  have pm : 0 ≤ p * m := Int.mul_nonneg (by omega) m0
  -- the mark itself
  have f1 := Int.emod_add_mul_ediv (-(m * p)) s
  generalize hr : (-(m * p)) % s = r at *
  generalize hw : (-(m * p)) / s = w at *
  have cm : m * p = p * m := Int.mul_comm _ _
  have kk : (b / s - w) * s = p * m + r + s * (b / s) := by
    have : (b / s - w) * s = s * (b / s) - s * w := by grind
    omega
  have kv : (b + p * m + s - 1) / s = b / s - w := by
    apply Int.le_antisymm
    · exact ceil_le hs (by omega)
    · obtain ⟨x1, x2⟩ := ceil_spec (x := b + p * m) hs
      rcases Int.lt_or_le ((b + p * m + s - 1) / s) (b / s - w) with q | q
      · have l : ((b + p * m + s - 1) / s + 1) * s ≤ (b / s - w) * s := Int.mul_le_mul_of_nonneg_right (by omega) (by omega)
        rw [Int.add_mul, Int.one_mul] at l
        rw [hq] at c1
        omega
      · exact q
  have k0 : 0 ≤ (b + p * m + s - 1) / s := ceil_nn hs (by omega)
  rw [kv] at k0 ⊢
  have place : (b / s - w) * s % p = r + s * (b / s) := by
    rw [kk]
    have : p * m + r + s * (b / s) = (r + s * (b / s)) + p * m := by omega
    rw [this, Int.add_mul_emod_self_left]
    rw [hq] at c1
    refine Int.emod_eq_of_lt ?_ (by omega)
    have := Int.mul_nonneg (Int.le_of_lt hs) (Int.ediv_nonneg (show 0 ≤ b by omega) (Int.le_of_lt hs))
    omega
  refine ⟨k0, ⟨by rw [place]; omega, by rw [place]; rw [hq] at c1; omega⟩, fun k k1 k2 hin => ?_⟩
  obtain ⟨i1, i2⟩ := hin
  have g := Int.emod_add_mul_ediv (k * s) p
  have jn : 0 ≤ k * s / p := Int.ediv_nonneg (Int.mul_nonneg k1 (by omega)) (by omega)
  generalize hj : k * s / p = j at *
  have cj : j * p = p * j := Int.mul_comm _ _
  have inj := lead_iff (k := k) (j := j) (p := p) hs hb0 hbe' hq (by omega) (by omega)
  rcases Int.lt_trichotomy j m with q | q | q
  · exact mn j jn q inj
  · subst q
    have : (b + p * j + s - 1) / s ≤ k := ceil_le hs (by omega)
    omega
  · -- j <= m as k <= the mark found
    have l : k * s ≤ (b / s - w) * s := Int.mul_le_mul_of_nonneg_right (by omega) (by omega)
    have l2 : p * (m + 1) ≤ p * j := Int.mul_le_mul_of_nonneg_left (by omega) (by omega)
    rw [Int.mul_add] at l2
    rw [hq] at c1
    omega
/-! ### a multiple in the stretch -/
def HasM (g b e : Int) : Prop := ∃ c, b ≤ g * c ∧ g * c ≤ e
theorem hasM_iff {g b e : Int} (hg : 0 < g) : HasM g b e ↔ b ≤ e / g * g := by
  have h := Int.emod_add_mul_ediv e g
  have h1 := Int.emod_nonneg e (show g ≠ 0 by omega)
  have h2 := Int.emod_lt_of_pos e hg
  rw [Int.mul_comm g] at h
  constructor
  · rintro ⟨c, h3, h4⟩
    have : c ≤ e / g := Int.le_ediv_of_mul_le hg (by rw [Int.mul_comm]; exact h4)
    have : c * g ≤ e / g * g := Int.mul_le_mul_of_nonneg_right this (by omega)
    rw [Int.mul_comm c] at this
    omega
  · intro h3
    exact ⟨e / g, by rw [Int.mul_comm]; exact h3, by rw [Int.mul_comm]; omega⟩
theorem G_reflect (p s : Int) : G p (p - s) = G p s := by
  unfold G
  have : Int.gcd p (p - s) = Int.gcd p s := by
    have e : p - s = -s + p * 1 := by omega
    rw [e, Int.gcd_add_mul_left_right, Int.gcd_neg]
  rw [this]
theorem G_lead {p s : Int} (hs : 0 < s) : G s (-p % s) = G p s := by
  have h := G_step (-p) s hs
  rw [h]
  unfold G
  rw [Int.neg_gcd]
theorem hasM_reflect {p s b e : Int} (h : HasM (G p s) b e) : HasM (G p (p - s)) (p - e) (p - b) := by
  rw [G_reflect]
  obtain ⟨c, h1, h2⟩ := h
  obtain ⟨t, ht⟩ := G_dl p s
  refine ⟨t - c, ?_, ?_⟩ <;> (rw [Int.mul_sub, ← ht]; omega)
theorem hasM_lead {p s b e : Int} (hs : 0 < s) (hq : e / s = b / s) (h : HasM (G p s) b e) : HasM (G s (-p % s)) (b % s) (e % s) := by
  rw [G_lead hs]
  obtain ⟨c, h1, h2⟩ := h
  obtain ⟨t, ht⟩ := G_dr p s
  have d1 := Int.emod_add_mul_ediv b s
  have c1 := Int.emod_add_mul_ediv e s
  rw [hq] at c1
  have e1 : G p s * (c - t * (b / s)) = G p s * c - s * (b / s) := by
    rw [Int.mul_sub, ← Int.mul_assoc, ← ht]
  exact ⟨c - t * (b / s), by rw [e1]; omega, by rw [e1]; omega⟩
theorem step_there {p s b e : Int} (hp : 0 < p) (hs : 0 ≤ s) (hb : 0 < b) (he : e < p) (h : HasM (G p s) b e) : 0 < s := by
  rcases Int.lt_or_le 0 s with q | q
  · exact q
  · have z : s = 0 := by omega
    subst z
    rw [G_zero (by omega)] at h
    obtain ⟨c, h1, h2⟩ := h
    rcases Int.lt_or_le c 1 with q | q
    · have : p * c ≤ p * 0 := Int.mul_le_mul_of_nonneg_left (by omega) (by omega)
      omega
    · have : p * 1 ≤ p * c := Int.mul_le_mul_of_nonneg_left q (by omega)
      omega
/-- no mark where no multiple is -/
theorem none_in {p s b e k : Int} (hp : 0 < p) (h : ¬ HasM (G p s) b e) : ¬ In p s b e k := by
  rintro ⟨h1, h2⟩
  obtain ⟨c, hc⟩ := Int.dvd_of_emod_eq_zero (place_mult (p := p) (s := s) (k := k) hp)
  exact h ⟨c, by omega, by omega⟩
/-! ### the rings to which it was led -/
/-- the ring p, s, b, e lies behind the written rows of the first one -/
inductive Led (P A B E : Int) : List (Int × Int × Int) → Int → Int → Int → Int → Prop
  | nil : Led P A B E [] P A B E
  | turn {l p s b e} : Led P A B E l p s b e → 0 < b → e < p → Led P A B E l p (p - s) (p - e) (p - b)
  | snoc {l p s b e} : Led P A B E l p s b e → 0 < p → 0 < s → s < p → 0 < b → e < p → b ≤ e → e < (b + s - 1) / s * s → Led P A B E (l ++ [(p, s, b)]) s (-p % s) (b % s) (e % s)
/-- one row back: from the last ring's first mark to that of the ring ahead of it -/
theorem Led.back {P A B E : Int} {l : List (Int × Int × Int)} {p s b e m : Int} (h : Led P A B E l p s b e) (hp : 0 < p) (hf : FirstIn p s b e m) :
    (l = [] ∧ FirstIn P A B E m) ∨ ∃ l' p' s' b' e', l = l' ++ [(p', s', b')] ∧ Led P A B E l' p' s' b' e' ∧ 0 < p' ∧ 0 < s' ∧ 0 < b' ∧ b' < p' ∧ FirstIn s' (-p' % s') (b' % s') (e' % s') m ∧ FirstIn p' s' b' e' ((b' + p' * m + s' - 1) / s') := by
  induction h with
  | nil => exact .inl ⟨rfl, hf⟩
  | @turn l p s b e h hb he ih => exact ih hp (first_reflect hp hb he hf)
  | @snoc l p s b e h h0 hs hsp hb he hbe hn ih => exact .inr ⟨l, p, s, b, e, rfl, h, h0, hs, hb, by omega, hf, first_lead h0 hs hb he hbe hn hf⟩
/-- no ring is greater than the first one -/
theorem Led.bound {P A B E : Int} {l : List (Int × Int × Int)} {p s b e : Int} (h : Led P A B E l p s b e) : p ≤ P ∧ ∀ x ∈ l, x.1 ≤ P ∧ x.2.1 < x.1 ∧ x.2.2 < x.1 ∧ 0 < x.2.1 ∧ 0 < x.2.2 := by
  induction h with
  | nil => exact ⟨Int.le_refl _, fun x hx => by simp at hx⟩
  | turn h hb he ih => exact ih
  | @snoc l p s b e h h0 hs hsp hb he hbe hn ih =>
    refine ⟨by omega, fun x hx => ?_⟩
    rcases List.mem_append.mp hx with hx | hx
    · exact ih.2 x hx
    · have : x = (p, s, b) := by simpa using hx
      subst this
      exact ⟨ih.1, hsp, by show b < p; omega, hs, hb⟩
end RS
namespace RS
/-! ### the marks next to mark 0 -/
structure Near (p s a d b e : Int) : Prop where
  a1 : 1 ≤ a
  b1 : 1 ≤ b
  d0 : 0 < d
  e0 : 0 < e
  sum : d * b + e * a = p
  pa : a * s % p = d
  pb : b * s % p = p - e
  no : ∀ k, 0 < k → k < a + b → d ≤ k * s % p ∧ k * s % p ≤ p - e
theorem Near.lt {p s a d b e : Int} (h : Near p s a d b e) : d + e ≤ p := by
  have h1 : d * 1 ≤ d * b := Int.mul_le_mul_of_nonneg_left h.b1 (Int.le_of_lt h.d0)
  have h2 : e * 1 ≤ e * a := Int.mul_le_mul_of_nonneg_left h.a1 (Int.le_of_lt h.e0)
  have := h.sum
  omega
theorem near_start {p s : Int} (hs : 0 < s) (hsp : s < p) : Near p s 1 s 1 (p - s) := by
  have e : (1 : Int) * s % p = s := by rw [Int.one_mul]; exact Int.emod_eq_of_lt (by omega) hsp
  refine ⟨by omega, by omega, hs, by omega, by grind, e, by rw [e]; omega, fun k h1 h2 => ?_⟩
  have : k = 1 := by omega
  subst this
  rw [e]
  omega
/-- what stands at a sum of marks -/
theorem place_sum {p s x y u v : Int} (hx : x * s % p = u) (hy : y * s % p = v) : (x + y) * s % p = (u + v) % p := by
  rw [Int.add_mul, Int.add_emod, hx, hy]
theorem place_back {p s k b e : Int} (hp : 0 < p) (hb : b * s % p = p - e) : (k - b) * s % p = (k * s % p + e) % p := by
  have h1 := Int.emod_add_mul_ediv (k * s) p
  have h2 := Int.emod_add_mul_ediv (b * s) p
  rw [hb] at h2
  have e1 : (k - b) * s = (k * s % p + e) + p * (k * s / p - b * s / p - 1) := by
    rw [Int.sub_mul, Int.mul_sub, Int.mul_sub]; omega
  rw [e1, Int.add_mul_emod_self_left]
theorem place_back' {p s k a d : Int} (ha : a * s % p = d) : (k - a) * s % p = (k * s % p - d) % p := by
  rw [Int.sub_mul, Int.sub_emod, ha]
theorem near_on {p s a d b e : Int} (h : Near p s a d b e) (hde : e < d) : Near p s (a + b) (d - e) b e := by
  have hl := h.lt
  obtain ⟨a1, b1, d0, e0, sum, pa, pb, no⟩ := h
  have hp : 0 < p := by omega
  have pab : (a + b) * s % p = d - e := by
    rw [place_sum pa pb]
    have : d + (p - e) = (d - e) + p * 1 := by omega
    rw [this, Int.add_mul_emod_self_left]
    exact Int.emod_eq_of_lt (by omega) (by omega)
  refine ⟨by omega, b1, by omega, e0, by grind, pab, pb, fun k k0 k1 => ?_⟩
  have r1 := Int.emod_nonneg (k * s) (show p ≠ 0 by omega)
  have r2 := Int.emod_lt_of_pos (k * s) hp
  rcases Int.lt_trichotomy k (a + b) with q | q | q
  · have := no k k0 q; omega
  · rw [q, pab]; omega
  · have n := no (k - b) (by omega) (by omega)
    rw [place_back hp pb] at n
    generalize k * s % p = x at *
    rcases Int.lt_or_le (x + e) p with z | z
    · rw [Int.emod_eq_of_lt (by omega) z] at n; omega
    · have : x + e = (x + e - p) + p * 1 := by omega
      rw [this, Int.add_mul_emod_self_left, Int.emod_eq_of_lt (by omega) (by omega)] at n
      omega
theorem near_back {p s a d b e : Int} (h : Near p s a d b e) (hde : d < e) : Near p s a d (b + a) (e - d) := by
  have hl := h.lt
  obtain ⟨a1, b1, d0, e0, sum, pa, pb, no⟩ := h
  have hp : 0 < p := by omega
  have pab : (b + a) * s % p = p - (e - d) := by
    rw [place_sum pb pa]
    have : p - e + d = p - (e - d) := by omega
    rw [this]
    exact Int.emod_eq_of_lt (by omega) (by omega)
  refine ⟨a1, by omega, d0, by omega, by grind, pa, pab, fun k k0 k1 => ?_⟩
  have r1 := Int.emod_nonneg (k * s) (show p ≠ 0 by omega)
  have r2 := Int.emod_lt_of_pos (k * s) hp
  rcases Int.lt_trichotomy k (a + b) with q | q | q
  · have := no k k0 q; omega
  · have : k = b + a := by omega
    rw [this, pab]; omega
  · have n := no (k - a) (by omega) (by omega)
    rw [place_back' pa] at n
    generalize k * s % p = x at *
    rcases Int.lt_or_le x d with z | z
    · have : x - d = (x - d + p) + p * (-1) := by omega
      rw [this, Int.add_mul_emod_self_left, Int.emod_eq_of_lt (by omega) (by omega)] at n
      omega
    · rw [Int.emod_eq_of_lt (by omega) (by omega)] at n; omega
theorem near_ons {p s a d b e : Int} (h : Near p s a d b e) : ∀ t : Nat, (t : Int) * e < d → Near p s (a + t * b) (d - t * e) b e
  | 0, _ => by simpa using h
  | t + 1, q => by
    have q' : (t : Int) * e + e < d := by have : ((t + 1 : Nat) : Int) * e = t * e + e := by grind
                                          omega
    have := near_on (near_ons h t (by have := h.e0; omega)) (by omega)
    have e1 : a + (t : Int) * b + b = a + ((t + 1 : Nat) : Int) * b := by grind
    have e2 : d - (t : Int) * e - e = d - ((t + 1 : Nat) : Int) * e := by grind
    rw [e1, e2] at this
    exact this
theorem near_backs {p s a d b e : Int} (h : Near p s a d b e) : ∀ t : Nat, (t : Int) * d < e → Near p s a d (b + t * a) (e - t * d)
  | 0, _ => by simpa using h
  | t + 1, q => by
    have q' : (t : Int) * d + d < e := by have : ((t + 1 : Nat) : Int) * d = t * d + d := by grind
                                          omega
    have := near_back (near_backs h t (by have := h.d0; omega)) (by omega)
    have e1 : b + (t : Int) * a + a = b + ((t + 1 : Nat) : Int) * a := by grind
    have e2 : e - (t : Int) * d - d = e - ((t + 1 : Nat) : Int) * d := by grind
    rw [e1, e2] at this
    exact this
/-- the two are alike only when all marks are there -/
theorem near_ne {p s a d b e : Int} (h : Near p s a d b e) (ht : a + b < top p s) : d ≠ e := by
  intro q
  have hl := h.lt
  obtain ⟨a1, b1, d0, e0, sum, pa, pb, no⟩ := h
  have hp : 0 < p := by omega
  have z : (a + b) * s % p = 0 := by
    rw [place_sum pa pb, q]
    have : e + (p - e) = 0 + p * 1 := by omega
    rw [this, Int.add_mul_emod_self_left]
    rfl
  have z2 : (a + b) * s % p = 0 * s % p := by rw [z]; simp
  have := marks_apart hp (by omega) ht (by omega) (top_pos (s := s) hp) z2
  omega
/-- two turns of the search: how often, bounded -/
theorem times_spec {x y : Int} (hy : 0 < y) : (x - 1) / y * y < x ∧ (y < x → 1 ≤ (x - 1) / y) := by
  have h := Int.emod_add_mul_ediv (x - 1) y
  have h1 := Int.emod_nonneg (x - 1) (show y ≠ 0 by omega)
  have h2 := Int.emod_lt_of_pos (x - 1) hy
  rw [Int.mul_comm y] at h
  exact ⟨by omega, fun q => Int.le_ediv_of_mul_le hy (by omega)⟩
theorem div_spec {x y : Int} (hy : 0 < y) (hx : y ≤ x) : x / y * y ≤ x ∧ 1 ≤ x / y := by
  have h := Int.emod_add_mul_ediv x y
  have h1 := Int.emod_nonneg x (show y ≠ 0 by omega)
  rw [Int.mul_comm y] at h
  exact ⟨by omega, Int.le_ediv_of_mul_le hy (by omega)⟩
/-- the search's end -/
structure Nearest (p s n a d b e : Int) : Prop where
  near : Near p s a d b e
  an : a < n
  bn : b < n
  all : n ≤ a + b
theorem Nearest.no {p s n a d b e : Int} (h : Nearest p s n a d b e) (k : Int) (k0 : 0 < k) (kn : k < n) : d ≤ k * s % p ∧ k * s % p ≤ p - e := h.near.no k k0 (by have := h.all; omega)
theorem Nearest.uniq {p s n a d b e a' d' b' e' : Int} (hn : n ≤ top p s) (h : Nearest p s n a d b e) (h' : Nearest p s n a' d' b' e') : a = a' ∧ d = d' ∧ b = b' ∧ e = e' := by
  have hl := h.near.lt
  have hp : 0 < p := by have := h.near.d0; have := h.near.e0; omega
  have x1 := h.no a' (by have := h'.near.a1; omega) h'.an
  have x2 := h'.no a (by have := h.near.a1; omega) h.an
  have x3 := h.no b' (by have := h'.near.b1; omega) h'.bn
  have x4 := h'.no b (by have := h.near.b1; omega) h.bn
  rw [h.near.pa] at x2
  rw [h'.near.pa] at x1
  rw [h.near.pb] at x4
  rw [h'.near.pb] at x3
  have hd : d = d' := by omega
  have he : e = e' := by omega
  have ha := marks_apart (s := s) hp (show 0 ≤ a by have := h.near.a1; omega) (by have := h.an; omega) (show 0 ≤ a' by have := h'.near.a1; omega) (by have := h'.an; omega) (by rw [h.near.pa, h'.near.pa, hd])
  have hb := marks_apart (s := s) hp (show 0 ≤ b by have := h.near.b1; omega) (by have := h.bn; omega) (show 0 ≤ b' by have := h'.near.b1; omega) (by have := h'.bn; omega) (by rw [h.near.pb, h'.near.pb, he])
  exact ⟨ha, hd, hb, he⟩
/-- two marks or more: the step is no 0 -/
theorem step_pos {p s n : Int} (hp : 0 < p) (hs : 0 ≤ s) (hn : n ≤ top p s) (h2 : 2 ≤ n) : 0 < s := by
  rcases Int.lt_or_le 0 s with q | q
  · exact q
  · have : s = 0 := by omega
    subst this
    unfold top at hn
    rw [G_zero (by omega), Int.ediv_self (by omega)] at hn
    omega
/-! ### the gaps as they are told -/
def keep (l : List (Int × Int)) : List (Int × Int) := l.filter fun x => decide (0 < x.2)
/-- sizes rising, how many there are of each -/
def gapsL (n a d b e : Int) : List (Int × Int) :=
  if d = e then keep [(d, n - a + (n - b)), (d + e, a + b - n)]
  else if d < e then keep [(d, n - a), (e, n - b), (d + e, a + b - n)]
  else keep [(e, n - b), (d, n - a), (d + e, a + b - n)]
end RS
namespace RG
open PySem PySem.Spec PyProof.Rows L2 Evl
/-! ### great numbers -/
/-- below this many bits all products are made -/
def Big (i : Int) : Prop := i.natAbs < 2 ^ 60000000
def CMulB (i j : Int) : Prop := Big i ∧ Big j
theorem log2_big {i : Int} (h : Big i) : i.natAbs.log2 < 60000000 := PySem.Flt.log2_lt_of (by decide) h
theorem CMulB.ok {i j : Int} (h : CMulB i j) : IntMulOk i j := by
  have b : ∀ x : Int, Builtin.Int.intBits x ≤ x.natAbs.log2 + 1 := fun x => by
    unfold Builtin.Int.intBits
    split <;> omega
  have h1 := b i
  have h2 := b j
  have h3 := log2_big h.1
  have h4 := log2_big h.2
  have e : bitsLine = 134217728 := by decide
  unfold IntMulOk
  intro z
  rw [Bool.and_eq_true] at z
  have z2 := z.2
  unfold Builtin.Int.intTooBig at z2
  have z3 := of_decide_eq_true z2
  rw [e] at z3
  omega
theorem op_mulB {X : Cx} : OpR X (binaryOp .Mult) (rI CMulB fun i j => .int (i * j)) := opI fun _ _ _ _ _ _ _ hc q => mul_int q hc.ok
/-! ### statements over a base heap -/
def Go (t : TS) (D : Ends) (σ : L2.St) (H : Hp) : Prop := ∀ H', Ex H H' → t D σ H'
section
variable {K : PySem.W.Frag} {σ : L2.St} {H : Hp} {ta tb te tx : TE} {t u : TT} {x y z v : V} {D : Ends} {tu tw tz : TS}
theorem EvU.mono {H' : Hp} {xs : List V} (e : Ex H H') (h : EvU te σ H xs) : EvU te σ H' xs := fun H1 a Q q => h H1 (e.trans a) Q q
theorem Go.at (h : Go tu D σ H) : tu D σ H := h H (Ex.refl H)
theorem Go.mono {H' : Hp} (e : Ex H H') (h : Go tu D σ H) : Go tu D σ H' := fun H1 e1 => h H1 (e.trans e1)
theorem g_next (h : ∀ H', Ex H H' → D.nx σ H') : Go tNext D σ H := h
theorem g_cont (h : ∀ H', Ex H H' → D.ct σ H') : Go tCont D σ H := h
theorem g_brk (h : ∀ H', Ex H H' → D.bk σ H') : Go tBreak D σ H := h
theorem g_one (h : Go (tSeq tu tNext) D σ H) : Go tu D σ H := h
theorem g_seq (h : Go tu { D with nx := tw D } σ H) : Go (tSeq tu tw) D σ H := h
theorem g_asg {i : Nat} (h : Ev te σ H v) (k : Go tz D (σ.set i (some v)) H) : Go (tSeq (tAsg te (gName i)) tz) D σ H := fun H' e =>
  q_asg (h.mono e) fun H1 e1 => k H1 (e.trans e1)
theorem g_asgL {i : Nat} {xs : List V} (h : EvL te σ H xs) (k : ∀ p H1, H p = none → Ex H H1 → H1 p = some (.lst xs) → Go tz D (σ.set i (some (.ref p))) H1) : Go (tSeq (tAsg te (gName i)) tz) D σ H := fun H' e =>
  q_asgL (h.mono e) fun p H1 np e1 hp => (k p H1 (fresh_back e np) (e.trans e1) hp).at
theorem g_asgU {i : Nat} {xs : List V} (h : EvU te σ H xs) (k : ∀ p H1, H p = none → Ex H H1 → H1 p = some (.tup xs) → Go tz D (σ.set i (some (.ref p))) H1) : Go (tSeq (tAsg te (gName i)) tz) D σ H := fun H' e =>
  q_asgU (EvU.mono e h) fun p H1 np e1 hp => (k p H1 (fresh_back e np) (e.trans e1) hp).at
/-- a, b = x, y -/
theorem g_par {i j : Nat} {ta : TA} (h : EvA ta σ H [v, x]) (k : Go tz D ((σ.set i (some v)).set j (some x)) H) : Go (tSeq (tPar i j ta) tz) D σ H := fun H' e =>
  h H' e _ fun H1 e1 => ⟨v, x, rfl, k H1 (e.trans e1)⟩
theorem g_aug {i : Nat} {f : Int → Int → Int} {a b : Int} (hx : σ[i]? = some (some (.int a))) (h : Ev te σ H (.int b)) (k : Go tz D (σ.set i (some (.int (f a b)))) H) : Go (tSeq (tAug i te (ipI f)) tz) D σ H := fun H' e =>
  q_aug hx (h.mono e) fun H1 e1 => k H1 (e.trans e1)
theorem g_drop (h : Ev te σ H v) (k : Go tz D σ H) : Go (tSeq (tDrop te) tz) D σ H := fun H' e => q_drop (h.mono e) fun H1 e1 => k H1 (e.trans e1)
theorem g_ret (h : Ev te σ H v) (k : ∀ H1, Ex H H1 → D.rt v H1) : Go (tSeq (tRet te) tz) D σ H := fun H' e => s_ret (D := { D with nx := tz D }) (h.mono e) fun H1 e1 => k H1 (e.trans e1)
theorem g_retL {xs : List V} (h : EvL te σ H xs) (k : ∀ p H1, H p = none → Ex H H1 → H1 p = some (.lst xs) → D.rt (.ref p) H1) : Go (tSeq (tRet te) tz) D σ H := fun H' e =>
  s_retL (D := { D with nx := tz D }) (h.mono e) fun p H1 np e1 hp => k p H1 (fresh_back e np) (e.trans e1) hp
theorem g_retU {xs : List V} (h : EvU te σ H xs) (k : ∀ p H1, H p = none → Ex H H1 → H1 p = some (.tup xs) → D.rt (.ref p) H1) : Go (tSeq (tRet te) tz) D σ H := fun H' e =>
  s_retU (D := { D with nx := tz D }) (EvU.mono e h) fun p H1 np e1 hp => k p H1 (fresh_back e np) (e.trans e1) hp
theorem g_if {b : Bool} (h : EvT t σ H b) (h1 : b = true → Go tu { D with nx := tz D } σ H) (h2 : b = false → Go tw { D with nx := tz D } σ H) : Go (tSeq (tIfS t tu tw) tz) D σ H := fun H' e =>
  q_if (h.mono e) (fun hb H1 e1 => h1 hb H1 (e.trans e1)) (fun hb H1 e1 => h2 hb H1 (e.trans e1))
/-- an if without else -/
theorem g_when {b : Bool} (h : EvT t σ H b) (h1 : b = true → Go tu { D with nx := tz D } σ H) (h2 : b = false → Go tz D σ H) : Go (tSeq (tIfS t tu tNext) tz) D σ H := g_if h h1 h2
/-- what follows is shown once -/
theorem g_cut (M : L2.St → Hp → Prop) (h : Go tu { D with nx := M } σ H) (k : ∀ σ' H', M σ' H' → tz D σ' H') : Go (tCut tu tz) D σ H := fun H' e => ⟨M, h H' e, k⟩
theorem g_while (W : L2.St → Prop) (m : L2.St → Nat) (h0 : W σ)
    (hs : ∀ σ', W σ' → ∃ b, EvT t σ' H b ∧ (b = true → Go tu { D with nx := fun σ2 H2 => Ex H H2 ∧ W σ2 ∧ m σ2 < m σ', ct := fun σ2 H2 => Ex H H2 ∧ W σ2 ∧ m σ2 < m σ', bk := tz D } σ' H) ∧ (b = false → Go tz D σ' H)) : Go (tSeq (tWhile t tu) tz) D σ H := fun H' e =>
  q_while (fun n σ' H2 => Ex H H2 ∧ W σ' ∧ n = m σ') (m σ) ⟨e, h0, rfl⟩ fun n σ' H2 ⟨e2, w, hn⟩ => by
    subst hn
    obtain ⟨b, hb, h1, h2⟩ := hs σ' w
    refine ⟨b, hb.mono e2, fun eb H3 e3 => ⟨_, fun σ2 H2 ⟨x1, x2, x3⟩ => ⟨_, x3, x1, x2, rfl⟩, h1 eb H3 (e2.trans e3)⟩, fun eb H3 e3 => h2 eb H3 (e2.trans e3)⟩
/-- .. where the heap changes too -/
theorem g_whileH (W : L2.St → Hp → Prop) (m : L2.St → Nat) (h0 : ∀ H1, Ex H H1 → W σ H1)
    (hs : ∀ σ' H', W σ' H' → ∃ b, EvT t σ' H' b ∧ (b = true → Go tu { D with nx := fun σ2 H2 => W σ2 H2 ∧ m σ2 < m σ', ct := fun σ2 H2 => W σ2 H2 ∧ m σ2 < m σ', bk := tz D } σ' H') ∧ (b = false → Go tz D σ' H')) : Go (tSeq (tWhile t tu) tz) D σ H := fun H' e =>
  q_while (fun n σ' H2 => W σ' H2 ∧ n = m σ') (m σ) ⟨h0 H' e, rfl⟩ fun n σ' H2 ⟨w, hn⟩ => by
    subst hn
    obtain ⟨b, hb, h1, h2⟩ := hs σ' H2 w
    exact ⟨b, hb, fun eb H3 e3 => ⟨_, fun σ2 H2 ⟨x2, x3⟩ => ⟨_, x3, x2, rfl⟩, h1 eb H3 e3⟩, fun eb H3 e3 => h2 eb H3 e3⟩
/-! ### expressions -/
theorem ev_chain {r r' : R2} {b c : Bool} {tc : TE} {w : V} (ha : Ev ta σ H x) (hb : Ev tb σ H y) (hr : RV r x y H (.bl b)) (hc : b = true → Ev tc σ H w) (hr' : b = true → RV r' y w H (.bl c)) : Ev (tChain r r' ta tb tc) σ H (.bl (b && c)) := fun H1 e Q q =>
  ha H1 e _ fun H2 e2 => hb H2 (e.trans e2) _ fun H3 e3 => hr H3 ((e.trans e2).trans e3) _ fun H4 e4 => ⟨b, rfl, by
    cases b with
    | true => exact hc rfl H4 (((e.trans e2).trans e3).trans e4) _ fun H5 e5 => hr' rfl H5 ((((e.trans e2).trans e3).trans e4).trans e5) Q fun H6 e6 => q H6 ((((e2.trans e3).trans e4).trans e5).trans e6)
    | false => exact q H4 ((e2.trans e3).trans e4)⟩
theorem ev_chainI {p q : Int → Int → Bool} {i j k : Int} {tc : TE} (ha : Ev ta σ H (.int i)) (hb : Ev tb σ H (.int j)) (hc : Ev tc σ H (.int k)) : Ev (tChain (rI0 fun i j => .bl (p i j)) (rI0 fun i j => .bl (q i j)) ta tb tc) σ H (.bl (p i j && q j k)) :=
  ev_chain ha hb rv_I0 (fun _ => hc) (fun _ => rv_I0)
/-- isinstance of a class -/
theorem ev_isi {c : V} {ty cl : Value} {b : Bool} (ha : Ev ta σ H x) (hb : Ev tb σ H c) (kc : ClsV c cl) (ht : ∀ H1, Ex H H1 → TyX K H1 x ty) (hk : PySem.W.kitOne K ty cl = some b) : Ev (tCB (rIsi K) (tCons ta (tCons tb tNil))) σ H (.bl b) := fun H1 e Q q =>
  ha H1 e _ fun H2 e2 => hb H2 (e.trans e2) _ fun H3 e3 => ⟨x, c, ty, cl, b, rfl, kc, ht H3 ((e.trans e2).trans e3), hk, q H3 (e2.trans e3)⟩
theorem ev_call1 {sp : Sp} {E : XK} {ta : TA} {vs : List V} (h : EvA ta σ H vs) (hs : SpV sp vs H z) : Ev (tCall sp [] E ta) σ H z := ev_call (dvs := []) h (by rw [List.append_nil]; exact hs)
end
end RG
namespace RG
open PySem PySem.Spec PyProof.Rows L2 Evl
/-! ### sizes by level: n times eight thousand bits -/
def Lv (n : Nat) (i : Int) : Prop := i.natAbs < 2 ^ (8000 * n)
theorem lv_mono {a b : Nat} {i : Int} (h : Lv a i) (hb : a ≤ b) : Lv b i := Nat.lt_of_lt_of_le h (Nat.pow_le_pow_right (by omega) (by omega))
theorem lv_mul {a b : Nat} {i j : Int} (h : Lv a i) (h' : Lv b j) : Lv (a + b) (i * j) := by
  unfold Lv at *
  rw [Int.natAbs_mul, Nat.mul_add, Nat.pow_add]
  exact Nat.mul_lt_mul'' h h'
theorem lv_add {a b : Nat} {i j : Int} (h : Lv a i) (h' : Lv b j) : Lv (a + b + 1) (i + j) := by
  unfold Lv at *
  have h1 : i.natAbs < 2 ^ (8000 * (a + b)) := Nat.lt_of_lt_of_le h (Nat.pow_le_pow_right (by omega) (by omega))
  have h2 : j.natAbs < 2 ^ (8000 * (a + b)) := Nat.lt_of_lt_of_le h' (Nat.pow_le_pow_right (by omega) (by omega))
  have h3 : (i + j).natAbs ≤ i.natAbs + j.natAbs := Int.natAbs_add_le i j
  have h4 : 2 ^ (8000 * (a + b + 1)) = 2 ^ (8000 * (a + b)) * 2 ^ 8000 := by rw [← Nat.pow_add]; rfl
  have h5 : 2 ^ (8000 * (a + b)) * 2 ≤ 2 ^ (8000 * (a + b)) * 2 ^ 8000 := Nat.mul_le_mul_left _ (Nat.pow_le_pow_right (n := 2) (by omega) (show 1 ≤ 8000 by omega))
  rw [h4]
  generalize 2 ^ (8000 * (a + b)) = x at *
  generalize x * 2 ^ 8000 = y at *
  omega
theorem lv_neg {a : Nat} {i : Int} (h : Lv a i) : Lv a (-i) := by unfold Lv at *; rw [Int.natAbs_neg]; exact h
theorem lv_sub {a b : Nat} {i j : Int} (h : Lv a i) (h' : Lv b j) : Lv (a + b + 1) (i - j) := by rw [Int.sub_eq_add_neg]; exact lv_add h (lv_neg h')
theorem lv_abs {a : Nat} {i j : Int} (h : Lv a j) (hi : i.natAbs ≤ j.natAbs) : Lv a i := Nat.lt_of_le_of_lt hi h
theorem lv_le {a : Nat} {i j : Int} (h : Lv a j) (h0 : 0 ≤ i) (hi : i ≤ j) : Lv a i := lv_abs h (by omega)
theorem lv_div {a : Nat} {i j : Int} (h : Lv a i) (hj : 0 < j) : Lv a (i / j) := by
  refine lv_abs h ?_
  have := Int.natAbs_ediv_le_natAbs i j
  exact this
theorem lv_mod {b : Nat} {i j : Int} (h : Lv b j) (hj : 0 < j) : Lv b (i % j) := by
  have h1 := Int.emod_nonneg i (show j ≠ 0 by omega)
  have h2 := Int.emod_lt_of_pos i hj
  exact lv_le h h1 (by omega)
theorem lv_lit {i : Int} (h : i.natAbs < 2 ^ 8000) : Lv 1 i := by unfold Lv; simpa using h
theorem lv_small {i : Int} (h : i.natAbs ≤ 1000000000000000000) : Lv 1 i := by
  unfold Lv
  refine Nat.lt_of_le_of_lt h (Nat.lt_of_lt_of_le (show 1000000000000000000 < 2 ^ 64 by decide) ?_)
  exact Nat.pow_le_pow_right (by omega) (by omega)
theorem big_of {n : Nat} {i : Int} (h : Lv n i) (hn : n ≤ 7000) : Big i := by
  unfold Lv at h
  unfold Big
  exact Nat.lt_of_lt_of_le h (Nat.pow_le_pow_right (by omega) (by omega))
theorem mul_ok {a b : Nat} {i j : Int} (h : Lv a i) (h' : Lv b j) (ha : a ≤ 7000) (hb : b ≤ 7000) : CMulB i j := ⟨big_of h ha, big_of h' hb⟩
theorem div_ok {j : Int} {i : Int} (h : 0 < j) (h' : Lv 1 j) : CDivW i j := ⟨h, by
  have : j.natAbs < 2 ^ 9000 := Nat.lt_of_lt_of_le h' (Nat.pow_le_pow_right (by omega) (by omega))
  exact PySem.Flt.log2_lt_of (by decide) this⟩
/-! ### any thing that may be handed in -/
/-- a value of a kind that isinstance knows; an int is not too great -/
def Kn (K : PySem.W.Frag) (H : Hp) : V → Prop
  | .non => True
  | .bl _ => True
  | .int i => Lv 1 i
  | .str _ => True
  | .ref a => (∃ xs, H a = some (.lst xs)) ∨ (∃ xs, H a = some (.tup xs)) ∨ ∃ kvs, H a = some (.dK kvs)
  | _ => False
theorem Kn.ex {K : PySem.W.Frag} {H H' : Hp} {x : V} (h : Kn K H x) (e : Ex H H') : Kn K H' x := by
  cases x with
  | ref a =>
    rcases h with ⟨xs, h⟩ | ⟨xs, h⟩ | ⟨kvs, h⟩
    · exact .inl ⟨xs, e _ _ h⟩
    · exact .inr (.inl ⟨xs, e _ _ h⟩)
    · exact .inr (.inr ⟨kvs, e _ _ h⟩)
  | _ => exact h
/-- whether isinstance(x, int), isinstance(x, bool) -/
def isI : V → Bool
  | .int _ => true
  | .bl _ => true
  | _ => false
def isB : V → Bool
  | .bl _ => true
  | _ => false
def numV (x : V) (l m : Int) : Bool := match x with
  | .int i => decide (l ≤ i) && decide (i ≤ m)
  | _ => false
theorem Kn.ty {K : PySem.W.Frag} {H : Hp} {x : V} (h : Kn K H x) : ∃ t : String, TyX K H x (.type t) ∧ PySem.W.kitOne K (.type t) (.type "int") = some (isI x) ∧ PySem.W.kitOne K (.type t) (.type "bool") = some (isB x) := by
  cases x with
  | non => exact ⟨_, .base .non, kit_ty (r := false) (by decide +kernel), kit_ty (r := false) (by decide +kernel)⟩
  | bl b => exact ⟨_, .base (.bl b), kit_ty (r := true) (by decide +kernel), kit_ty (r := true) (by decide +kernel)⟩
  | int i => exact ⟨_, .base (.int i), kit_ty (r := true) (by decide +kernel), kit_ty (r := false) (by decide +kernel)⟩
  | str i => exact ⟨_, .base (.str i), kit_ty (r := false) (by decide +kernel), kit_ty (r := false) (by decide +kernel)⟩
  | ref a =>
    rcases h with ⟨xs, h⟩ | ⟨xs, h⟩ | ⟨kvs, h⟩
    · exact ⟨_, .base (.lst h), kit_ty (r := false) (by decide +kernel), kit_ty (r := false) (by decide +kernel)⟩
    · exact ⟨_, .base (.tup h), kit_ty (r := false) (by decide +kernel), kit_ty (r := false) (by decide +kernel)⟩
    · exact ⟨_, .base (.dK h), kit_ty (r := false) (by decide +kernel), kit_ty (r := false) (by decide +kernel)⟩
  | _ => exact h.elim
section
variable {K : PySem.W.Frag} {σ : L2.St} {H : Hp} {ta tb te tx : TE} {t u : TT} {x y z v : V} {D : Ends} {tu tw tz : TS}
theorem ev_isInt (ha : Ev ta σ H x) (hx : Kn K H x) : Ev (tCB (rIsi K) (tCons ta (tCons (tC (.ty "int")) tNil))) σ H (.bl (isI x)) := fun H1 e Q q =>
  ha H1 e _ fun H2 e2 => by
    obtain ⟨t, h1, h2, h3⟩ := (hx.ex (e.trans e2)).ty
    exact ⟨x, .ty "int", _, _, _, rfl, .ty _, h1, h2, q H2 e2⟩
theorem ev_isBool (ha : Ev ta σ H x) (hx : Kn K H x) : Ev (tCB (rIsi K) (tCons ta (tCons (tC (.ty "bool")) tNil))) σ H (.bl (isB x)) := fun H1 e Q q =>
  ha H1 e _ fun H2 e2 => by
    obtain ⟨t, h1, h2, h3⟩ := (hx.ex (e.trans e2)).ty
    exact ⟨x, .ty "bool", _, _, _, rfl, .ty _, h1, h3, q H2 e2⟩
/-! ### calls that may be refused -/
/-- how a call ends: a value, or an error of the class at C -/
inductive Out where
  | val (v : V)
  | err (C : Addr)
def SpX (sp : Sp) (vs : List V) (H : Hp) (o : Out) : Prop := ∀ H1, Ex H H1 → ∀ (Q : VK) (E : XK), (∀ v, o = .val v → ∀ H2, Ex H1 H2 → Q v H2) → (∀ C, o = .err C → ∀ H2, Ex H1 H2 → E (.ref C) none H2) → sp vs H1 Q E
def EvX (te : TE) (E : XK) (σ : L2.St) (H : Hp) (o : Out) : Prop := ∀ H1, Ex H H1 → ∀ (Q : VK), (∀ v, o = .val v → ∀ H2, Ex H1 H2 → Q v H2) → (∀ C, o = .err C → ∀ H2, Ex H1 H2 → E (.ref C) none H2) → te σ H1 Q
theorem EvX.mono {H' : Hp} {E : XK} {o : Out} (e : Ex H H') (h : EvX te E σ H o) : EvX te E σ H' o := fun H1 a Q q r => h H1 (e.trans a) Q q r
theorem evx_call {sp : Sp} {E : XK} {ta : TA} {vs : List V} {o : Out} (h : EvA ta σ H vs) (hs : SpX sp vs H o) : EvX (tCall sp [] E ta) E σ H o := fun H1 e Q q r =>
  h H1 e _ fun H2 e2 => by
    show sp (vs ++ []) H2 Q E
    rw [List.append_nil]
    exact hs H2 (e.trans e2) Q E (fun v hv H3 e3 => q v hv H3 (e2.trans e3)) fun C hC H3 e3 => r C hC H3 (e2.trans e3)
theorem spv_of {sp : Sp} {vs : List V} (h : SpX sp vs H (.val v)) : SpV sp vs H v := fun H1 e Q q E =>
  h H1 e Q E (fun v' hv H2 e2 => by cases hv; exact q H2 e2) fun C hC => nomatch hC
theorem spx_of {sp : Sp} {vs : List V} (h : SpV sp vs H v) : SpX sp vs H (.val v) := fun H1 e Q E q _ => h H1 e Q (fun H2 e2 => q v rfl H2 e2) E
theorem g_dropX {E : XK} {o : Out} (h : EvX te E σ H o) (k : ∀ v, o = .val v → Go tz D σ H) (r : ∀ C, o = .err C → ∀ H1, Ex H H1 → E (.ref C) none H1) : Go (tSeq (tDrop te) tz) D σ H := fun H' e =>
  h H' e _ (fun v hv H2 e2 => k v hv H2 (e.trans e2)) fun C hC H2 e2 => r C hC H2 (e.trans e2)
theorem g_retX {E : XK} {o : Out} (h : EvX te E σ H o) (k : ∀ v, o = .val v → ∀ H1, Ex H H1 → D.rt v H1) (r : ∀ C, o = .err C → ∀ H1, Ex H H1 → E (.ref C) none H1) : Go (tSeq (tRet te) tz) D σ H := fun H' e =>
  h H' e _ (fun v hv H2 e2 => k v hv H2 (e.trans e2)) fun C hC H2 e2 => r C hC H2 (e.trans e2)
theorem g_raise {W : L2.St → Hp → Prop} (h : ∀ H1, Ex H H1 → W σ H1) : Go (tSeq (fun _ σ H => W σ H) tz) D σ H := fun H' e => h H' e
/-- a tuple's places taken apart -/
theorem g_asgT {n : Nat} {g : TGs} {xs : List V} (h : EvU te σ H xs) (hn : xs.length = n) (k : ∀ H1, Ex H H1 → g xs σ H1 fun σ2 H2 => tz D σ2 H2) : Go (tSeq (tAsg te (gTup K n g)) tz) D σ H := fun H' e =>
  h H' e _ fun p H2 np e2 hp => ⟨p, xs, rfl, st_of hp, hn, k H2 (e.trans e2)⟩
theorem g_asg4 {i j k l : Nat} {a b c d : V} (h : EvU te σ H [a, b, c, d]) (q : Go tz D ((((σ.set i (some a)).set j (some b)).set k (some c)).set l (some d)) H) :
    Go (tSeq (tAsg te (gTup K 4 (gCons (gName i) (gCons (gName j) (gCons (gName k) (gCons (gName l) gNil)))))) tz) D σ H :=
  g_asgT h rfl fun H1 e => ⟨a, _, rfl, b, _, rfl, c, _, rfl, d, _, rfl, rfl, q H1 e⟩
theorem g_asg3 {i j k : Nat} {a b c : V} (h : EvU te σ H [a, b, c]) (q : Go tz D (((σ.set i (some a)).set j (some b)).set k (some c)) H) :
    Go (tSeq (tAsg te (gTup K 3 (gCons (gName i) (gCons (gName j) (gCons (gName k) gNil))))) tz) D σ H :=
  g_asgT h rfl fun H1 e => ⟨a, _, rfl, b, _, rfl, c, _, rfl, rfl, q H1 e⟩
theorem g_asg2 {i j : Nat} {a b : V} (h : EvU te σ H [a, b]) (q : Go tz D ((σ.set i (some a)).set j (some b)) H) :
    Go (tSeq (tAsg te (gTup K 2 (gCons (gName i) (gCons (gName j) gNil)))) tz) D σ H :=
  g_asgT h rfl fun H1 e => ⟨a, _, rfl, b, _, rfl, rfl, q H1 e⟩
end
/-- no exception leaves where none is wished -/
theorem quiet {P : Program} {w : World} {K : PySem.W.Frag} {mg : Str → Option Value} {base : Heap} {k : Nat} {f : Addr} {fd : FuncData} {ps : List Str} {sp : Sp} (F : FnOk P w K mg base (L2.CX P w) k f fd ps sp) :
    FnOk P w K mg base CX0 k f fd ps (fun vs H Q _ => sp vs H Q E0) := by
  refine ⟨fun vs H Q E h => F.len vs H Q E0 h, fun A outer s H args us vs Q E hr e0 hb r hsp => ?_⟩
  have h := F.run A outer s H args us vs Q E0 hr e0 hb r hsp
  refine codeAny_mono h fun r s' hr => ?_
  cases r with
  | ok c => cases c with
    | ret u => exact hr
    | _ => exact hr
  | error u =>
    obtain ⟨_, _, _, _, _, _, _, _, _, _, _, _, z⟩ := hr
    exact z.elim
end RG
namespace RG
open PySem PySem.Spec PyProof.Rows L2 Evl RS
theorem nt {b : Bool} (h : (!b) = false) : b = true := by cases b; cases h; rfl
theorem nf {b : Bool} (h : (!b) = true) : ¬ b = true := by cases b; simp; cases h
/-! ### how a call ends -/
def Fin (o : Out) (H : Hp) (Q : VK) (E : XK) : Prop := (∀ v, o = .val v → ∀ H', Ex H H' → Q v H') ∧ ∀ C, o = .err C → ∀ H', Ex H H' → E (.ref C) none H'
theorem Fin.val {v : V} {H : Hp} {Q : VK} {E : XK} (h : Fin (.val v) H Q E) : ∀ H', Ex H H' → Q v H' := h.1 v rfl
theorem Fin.err {C : Addr} {H : Hp} {Q : VK} {E : XK} (h : Fin (.err C) H Q E) : ∀ H', Ex H H' → E (.ref C) none H' := h.2 C rfl
theorem fin_of {o : Out} {H : Hp} {Q : VK} {E : XK} (q : ∀ v, o = .val v → ∀ H2, Ex H H2 → Q v H2) (r : ∀ C, o = .err C → ∀ H2, Ex H H2 → E (.ref C) none H2) : Fin o H Q E := ⟨q, r⟩
/-! ### the module's facts -/
/-- a def of the module: where it stands -/
structure At (K : PySem.W.Frag) (mg : Str → Option Value) (x : Str) (st : Stmt) (ps : List Str) (f : Addr) (fd : FuncData) : Prop where
  fn : Fun K x x st f fd
  b : Binds K fd ps []
  g : mg x = some (.ref f)
/-- an error's class -/
structure ErrAt (K : PySem.W.Frag) (mg : Str → Option Value) (n : Str) (C : Addr) : Prop where
  x : PySem.W.excIn K C [.type "ValueError", .type "Exception", .type "BaseException", .type "object"] "ValueError.__new__" = true
  g : mg n = some (.ref C)
  k : PySem.W.keepIn K (.ref C) = true
  b : PySem.W.subIn K (.ref C) (.type "BaseException") = some true
  t : PySem.W.typeIn K (.ref C) = some (.type "type")
/-- the built-ins stand as they are -/
structure Blt (mg : Str → Option Value) : Prop where
  z_isinstance : mg "isinstance" = none
  z_int : mg "int" = none
  z_bool : mg "bool" = none
  z_len : mg "len" = none
  z_sum : mg "sum" = none
  z_min : mg "min" = none
  z_max : mg "max" = none
  z_sorted : mg "sorted" = none
  z_range : mg "range" = none
  z_enumerate : mg "enumerate" = none
  z_reversed : mg "reversed" = none
  z_zip : mg "zip" = none
  z_abs : mg "abs" = none
  z_all : mg "all" = none
  z_any : mg "any" = none
  z_list : mg "list" = none
  z_tuple : mg "tuple" = none
  z_set : mg "set" = none
  z_str : mg "str" = none
  z_ValueError : mg "ValueError" = none
/-! ### what is told of any things -/
/-- the number that a value is -/
def iv : V → Int
  | .int i => i
  | _ => 0
def numW (x : V) (l : Int) (m : V) : Bool := match x, m with
  | .int i, .int j => decide (l ≤ i) && decide (i ≤ j)
  | _, _ => false
def okP : V → Bool
  | .int i => decide (1 ≤ i)
  | _ => false
/-- a step, a mark, a place: from l on to m -/
def okIn (x : V) (l m : Int) : Bool := match x with
  | .int i => decide (l ≤ i) && decide (i ≤ m)
  | _ => false
theorem okIn_iff {x : V} {l m : Int} : okIn x l m = true ↔ ∃ i, x = .int i ∧ l ≤ i ∧ i ≤ m := by
  cases x <;> simp [okIn]
theorem okP_iff {x : V} : okP x = true ↔ ∃ i, x = .int i ∧ 1 ≤ i := by
  cases x <;> simp [okP]
theorem numW_okIn {x : V} {l m : Int} : numW x l (.int m) = okIn x l m := by cases x <;> rfl
theorem numW_okP {x : V} : numW x 1 x = okP x := by
  cases x <;> simp [numW, okP]
/-- the classes: places, step, marks, place, mark -/
structure Cs where
  (cp cs cm cl ck : Addr)
def ringO (c : Cs) (p s : V) : Out := if okP p then (if okIn s 0 (iv p - 1) then .val .non else .err c.cs) else .err c.cp
def marksO (c : Cs) (p s m : V) : Out := match ringO c p s with
  | .err C => .err C
  | .val _ => if okIn m 1 (top (iv p) (iv s)) then .val .non else .err c.cm
def stretchO (c : Cs) (p b e : V) : Out := if okIn b 0 (iv p - 1) && okIn e 0 (iv p - 1) && decide (iv b ≤ iv e) then .val .non else .err c.cl
def markO (c : Cs) (k m : V) : Out := if okIn k 0 (iv m - 1) then .val .non else .err c.ck
/-- a ring -/
structure Ring (P S : Int) : Prop where
  p : 1 ≤ P
  s0 : 0 ≤ S
  s : S < P
theorem lv_G {p s : Int} (R : Ring p s) (l : Lv 1 p) : Lv 1 (G p s) := lv_le l (Int.le_of_lt (G_pos (s := s) (by have := R.p; omega))) (G_le (by have := R.p; omega))
theorem lv_top {p s : Int} (R : Ring p s) (l : Lv 1 p) : Lv 1 (top p s) := lv_le l (Int.le_of_lt (top_pos (s := s) (by have := R.p; omega))) (top_le (by have := R.p; omega))
theorem Ring.ls {p s : Int} (R : Ring p s) (l : Lv 1 p) : Lv 1 s := lv_le l R.s0 (by have := R.s; omega)
theorem ringO_val {c : Cs} {p s v : V} (h : ringO c p s = .val v) : v = .non ∧ ∃ P S, p = .int P ∧ s = .int S ∧ Ring P S := by
  unfold ringO at h
  split at h
  · rename_i h1
    split at h
    · rename_i h2
      obtain ⟨P, rfl, hP⟩ := okP_iff.mp h1
      obtain ⟨S, rfl, hS0, hS⟩ := okIn_iff.mp h2
      cases h
      exact ⟨rfl, P, S, rfl, rfl, hP, hS0, by have : S ≤ P - 1 := hS; omega⟩
    · cases h
  · cases h
theorem ringO_ok {c : Cs} {P S : Int} (h : Ring P S) : ringO c (.int P) (.int S) = .val .non := by
  unfold ringO
  rw [if_pos (okP_iff.mpr ⟨P, rfl, h.p⟩), if_pos (okIn_iff.mpr ⟨S, rfl, h.s0, by show S ≤ P - 1; have := h.s; omega⟩)]
theorem marksO_val {c : Cs} {p s m v : V} (h : marksO c p s m = .val v) : v = .non ∧ ∃ P S M, p = .int P ∧ s = .int S ∧ m = .int M ∧ Ring P S ∧ 1 ≤ M ∧ M ≤ top P S := by
  unfold marksO at h
  split at h
  · cases h
  · rename_i v' hr
    split at h
    · rename_i h2
      obtain ⟨_, P, S, rfl, rfl, R⟩ := ringO_val hr
      obtain ⟨M, rfl, h1, h3⟩ := okIn_iff.mp h2
      cases h
      exact ⟨rfl, P, S, M, rfl, rfl, rfl, R, h1, h3⟩
    · cases h
theorem marksO_ok {c : Cs} {P S M : Int} (h : Ring P S) (h1 : 1 ≤ M) (h2 : M ≤ top P S) : marksO c (.int P) (.int S) (.int M) = .val .non := by
  unfold marksO
  rw [ringO_ok h]
  exact if_pos (okIn_iff.mpr ⟨M, rfl, h1, h2⟩)
theorem stretchO_val {c : Cs} {p b e v : V} (h : stretchO c p b e = .val v) : v = .non ∧ ∃ B E, b = .int B ∧ e = .int E ∧ 0 ≤ B ∧ B ≤ E ∧ E < iv p := by
  unfold stretchO at h
  split at h
  · rename_i h1
    rw [Bool.and_eq_true, Bool.and_eq_true] at h1
    obtain ⟨⟨h1, h2⟩, h3⟩ := h1
    obtain ⟨B, rfl, hB0, hB⟩ := okIn_iff.mp h1
    obtain ⟨E, rfl, hE0, hE⟩ := okIn_iff.mp h2
    have h4 : B ≤ E := of_decide_eq_true h3
    cases h
    exact ⟨rfl, B, E, rfl, rfl, hB0, h4, by omega⟩
  · cases h
theorem stretchO_ok {c : Cs} {p : V} {B E : Int} (h1 : 0 ≤ B) (h2 : B ≤ E) (h3 : E < iv p) : stretchO c p (.int B) (.int E) = .val .non := by
  unfold stretchO
  rw [okIn_iff.mpr ⟨B, rfl, h1, by omega⟩, okIn_iff.mpr ⟨E, rfl, by omega, by omega⟩, decide_eq_true (show iv (.int B) ≤ iv (.int E) from h2)]
  rfl
theorem markO_val {c : Cs} {k m v : V} (h : markO c k m = .val v) : v = .non ∧ ∃ i, k = .int i ∧ 0 ≤ i ∧ i < iv m := by
  unfold markO at h
  split at h
  · rename_i h1
    obtain ⟨i, rfl, h2, h3⟩ := okIn_iff.mp h1
    cases h
    exact ⟨rfl, i, rfl, h2, by omega⟩
  · cases h
theorem markO_ok {c : Cs} {m : V} {i : Int} (h1 : 0 ≤ i) (h2 : i < iv m) : markO c (.int i) m = .val .non := by
  unfold markO
  rw [okIn_iff.mpr ⟨i, rfl, h1, by omega⟩]
  rfl
end RG
namespace RG
open PySem PySem.Spec PyProof.Rows L2 Evl RS
/-! ### data at any depth -/
mutual
theorem dp_ex {K : PySem.W.Frag} {H H' : Hp} (e : Ex H H') : ∀ {v : V} {d : PyData}, Dp K H v d → Dp K H' v d
  | _, _, .non => .non
  | _, _, .bl b => .bl b
  | _, _, .int i => .int i
  | _, _, .str x => .str x
  | _, _, .lst h hs => .lst (ex_l e h) (dps_ex e hs)
  | _, _, .tup h hs => .tup (ex_t e h) (dps_ex e hs)
theorem dps_ex {K : PySem.W.Frag} {H H' : Hp} (e : Ex H H') : ∀ {vs : List V} {ds : List PyData}, DpAll K H vs ds → DpAll K H' vs ds
  | _, _, .nil => .nil
  | _, _, .cons h hs => .cons (dp_ex e h) (dps_ex e hs)
end
/-- evaluates to some value that holds the data d -/
def EvD (K : PySem.W.Frag) (te : TE) (σ : L2.St) (H : Hp) (d : PyData) : Prop := ∀ H1, Ex H H1 → ∀ Q : VK, (∀ v H2, Ex H1 H2 → Dp K H2 v d → Q v H2) → te σ H1 Q
def EvDs (K : PySem.W.Frag) (ta : TA) (σ : L2.St) (H : Hp) (ds : List PyData) : Prop := ∀ H1, Ex H H1 → ∀ Q : List V → Hp → Prop, (∀ vs H2, Ex H1 H2 → DpAll K H2 vs ds → Q vs H2) → ta σ H1 Q
section
variable {K : PySem.W.Frag} {σ : L2.St} {H : Hp} {ta tb te tx : TE} {t u : TT} {x y z v : V} {D : Ends} {tu tw tz : TS} {g : TG} {d d' : PyData} {ds : List PyData}
theorem EvD.mono {H' : Hp} (e : Ex H H') (h : EvD K te σ H d) : EvD K te σ H' d := fun H1 a Q q => h H1 (e.trans a) Q q
theorem ed_int {i : Int} (h : Ev te σ H (.int i)) : EvD K te σ H (.int i) := fun H1 e Q q => h H1 e _ fun H2 e2 => q _ H2 e2 (.int i)
theorem ed_of (h : Ev te σ H v) (hd : Dp K H v d) : EvD K te σ H d := fun H1 e Q q => h H1 e _ fun H2 e2 => q _ H2 e2 (dp_ex (e.trans e2) hd)
theorem eds_nil : EvDs K tNil σ H [] := fun H1 e Q q => q [] H1 (Ex.refl H1) .nil
theorem eds_cons {tr : TA} (h : EvD K te σ H d) (hr : EvDs K tr σ H ds) : EvDs K (tCons te tr) σ H (d :: ds) := fun H1 e Q q =>
  h H1 e _ fun v H2 e2 h2 => hr H2 (e.trans e2) _ fun vs H3 e3 h3 => q _ H3 (e2.trans e3) (.cons (dp_ex e3 h2) h3)
theorem dps_len : ∀ {vs : List V} {ds : List PyData} {H : Hp}, DpAll K H vs ds → vs.length = ds.length
  | _, _, _, .nil => rfl
  | _, _, _, .cons _ h => congrArg (· + 1) (dps_len h)
theorem ed_tup {ta : TA} (h : EvDs K ta σ H ds) (hl : ds.length ≤ 100000) : EvD K (tTup ta) σ H (.tuple ds) := fun H1 e Q q =>
  h H1 e _ fun vs H2 e2 h2 => ⟨sz_of (by rw [dps_len h2]; exact hl), fun p hp => q (.ref p) _ (e2.trans (Ex.new hp)) (.tup (st_of upd_same) (dps_ex (Ex.new hp) h2))⟩
theorem ed_lst {ta : TA} (h : EvDs K ta σ H ds) (hl : ds.length ≤ 100000) : EvD K (tLst ta) σ H (.list ds) := fun H1 e Q q =>
  h H1 e _ fun vs H2 e2 h2 => ⟨sz_of (by rw [dps_len h2]; exact hl), fun p hp => q (.ref p) _ (e2.trans (Ex.new hp)) (.lst (sq_of upd_same) (dps_ex (Ex.new hp) h2))⟩
theorem g_asgD {i : Nat} (h : EvD K te σ H d) (k : ∀ v H1, Ex H H1 → Dp K H1 v d → Go tz D (σ.set i (some v)) H1) : Go (tSeq (tAsg te (gName i)) tz) D σ H := fun H' e =>
  h H' e _ fun v H1 e1 hv => (k v H1 (e.trans e1) hv).at
theorem g_retD (h : EvD K te σ H d) (k : ∀ v H1, Ex H H1 → Dp K H1 v d → D.rt v H1) : Go (tSeq (tRet te) tz) D σ H := fun H' e =>
  h H' e _ fun v H1 e1 hv => k v H1 (e.trans e1) hv
/-! ### lists of ints -/
theorem ev_sum {p : Addr} {ns : List Int} (ha : Ev ta σ H (.ref p)) (h : SqL K H p (ns.map V.int)) : Ev (tCB (rSum K) (tCons ta tNil)) σ H (.int ns.sum) := fun H1 e Q q =>
  ha H1 e _ fun H2 e2 => ⟨p, ns, rfl, ex_l (e.trans e2) h, q H2 e2⟩
theorem ev_sumN {ns : List Int} (ha : EvL ta σ H (ns.map V.int)) : Ev (tCB (rSum K) (tCons ta tNil)) σ H (.int ns.sum) := fun H1 e Q q =>
  ha H1 e _ fun p H2 _ e2 h2 => ⟨p, ns, rfl, sq_of h2, q H2 e2⟩
theorem ev_len' {p : Addr} {xs : List V} (ha : Ev ta σ H (.ref p)) (h : SqL K H p xs) : Ev (tCB (rLenS K) (tCons ta tNil)) σ H (.int (xs.length : Int)) := ev_len ha h
theorem el_slN {tl th : TO} {xs : List V} {lo hi : Option Int} (h : EvL te σ H xs) (h1 : EvO tl σ H lo) (h2 : EvO th σ H hi) : EvL (tSl (rSlL K) te tl th) σ H (cutV xs lo hi) := fun H1 e Q q =>
  h H1 e _ fun a H2 na e2 ha => h1 H2 (e.trans e2) _ fun H3 e3 => h2 H3 ((e.trans e2).trans e3) _ fun H4 e4 =>
    ⟨a, xs, rfl, sq_of (e4 a _ (e3 a _ ha)), fun p hp => q p _ (fresh_back ((e2.trans e3).trans e4) hp) (((e2.trans e3).trans e4).trans (Ex.new hp)) upd_same⟩
theorem el_catNN {xs ys : List V} (h1 : EvL ta σ H xs) (h2 : EvL tb σ H ys) (hl : xs.length + ys.length ≤ 100000) : EvL (tOp rCat ta tb) σ H (xs ++ ys) := fun H1 e Q q =>
  h1 H1 e _ fun a H2 na e2 ha => h2 H2 (e.trans e2) _ fun b H3 nb e3 hb => ⟨a, b, xs, ys, rfl, rfl, e3 a _ ha, hb, sz_of hl, fun p hp => q p _ (fresh_back (e2.trans e3) hp) ((e2.trans e3).trans (Ex.new hp)) upd_same⟩
theorem el_cat1N {xs ys : List V} {l : Addr} (h1 : Ev ta σ H (.ref l)) (hx : H l = some (.lst xs)) (h2 : EvL tb σ H ys) (hl : xs.length + ys.length ≤ 100000) : EvL (tOp rCat ta tb) σ H (xs ++ ys) := fun H1 e Q q =>
  h1 H1 e _ fun H2 e2 => h2 H2 (e.trans e2) _ fun b H3 nb e3 hb => ⟨l, b, xs, ys, rfl, rfl, ((e.trans e2).trans e3) l _ hx, hb, sz_of hl, fun p hp => q p _ (fresh_back (e2.trans e3) hp) ((e2.trans e3).trans (Ex.new hp)) upd_same⟩
theorem el_rep1 {xs : List V} {l : Addr} {n : Int} (h1 : Ev ta σ H (.ref l)) (hx : H l = some (.lst xs)) (h2 : Ev tb σ H (.int n)) (hn : 0 ≤ n ∧ n ≤ 1000) (hl : xs.length * n.toNat ≤ 100000) : EvL (tOp rRep ta tb) σ H (List.replicate n.toNat xs).flatten := fun H1 e Q q =>
  h1 H1 e _ fun H2 e2 => h2 H2 (e.trans e2) _ fun H3 e3 => ⟨l, n, xs, rfl, rfl, ((e.trans e2).trans e3) l _ hx, by omega, by omega, sz_of hl, fun p hp => q p _ (fresh_back (e2.trans e3) hp) ((e2.trans e3).trans (Ex.new hp)) upd_same⟩
theorem el_sortN {ns : List Int} (P : List Int → Prop) (hP : ∀ ns' : List Int, ns'.Perm ns → ns'.Pairwise (· ≤ ·) → P ns') (h : EvL te σ H (ns.map V.int)) :
    ∀ H1, Ex H H1 → ∀ Q : VK, (∀ (ns' : List Int) p H2, P ns' → H1 p = none → Ex H1 H2 → H2 p = some (.lst (ns'.map V.int)) → Q (.ref p) H2) → tCB (rSortedI K) (tCons te tNil) σ H1 Q := fun H1 e Q q =>
  h H1 e _ fun a H2 na e2 ha => ⟨a, ns, rfl, sq_of ha, fun ns' p h1 h2 hp => q ns' p _ (hP ns' h1 h2) (fresh_back e2 hp) (e2.trans (Ex.new hp)) upd_same⟩
theorem sorted2 {a b : Int} {ns : List Int} (h : ns.Perm [a, b]) (h2 : ns.Pairwise (· ≤ ·)) : ns = [min a b, max a b] := by
  have hl := h.length_eq
  match ns, hl with
  | [x, y], _ =>
    have hxy : x ≤ y := by simpa using h2
    have hx : x ∈ [a, b] := h.subset (by simp)
    have hy : y ∈ [a, b] := h.subset (by simp)
    have ha : a ∈ [x, y] := h.symm.subset (by simp)
    have hb : b ∈ [x, y] := h.symm.subset (by simp)
    simp only [List.mem_cons, List.not_mem_nil, or_false] at hx hy ha hb
    simp only [List.cons.injEq, and_true]
    omega
/-- sorted([a, b]) -/
theorem el_sort2 {a b : Int} (h : EvL te σ H [.int a, .int b]) : EvL (tCB (rSortedI K) (tCons te tNil)) σ H [.int (min a b), .int (max a b)] := fun H1 e Q q =>
  el_sortN (ns := [a, b]) (fun ns => ns = [min a b, max a b]) (fun ns h1 h2 => sorted2 h1 h2) h H1 e Q fun ns p H2 hP np e2 hp => by
    subst hP
    exact q p H2 np e2 hp
theorem rMin_eq {i j : Int} : (if j < i then j else i) = min i j := by split <;> omega
theorem rMax_eq {i j : Int} : (if j > i then j else i) = max i j := by split <;> omega
def rMin2 : List V → Hp → VK → Prop := fun xs H Q => ∃ i j, xs = [.int i, .int j] ∧ Q (.int (if j < i then j else i)) H
theorem ev_min {i j : Int} (h1 : Ev ta σ H (.int i)) (h2 : Ev tb σ H (.int j)) : Ev (tCB rMin2 (tCons ta (tCons tb tNil))) σ H (.int (min i j)) := fun H1 e Q q =>
  h1 H1 e _ fun H2 e2 => h2 H2 (e.trans e2) _ fun H3 e3 => ⟨i, j, rfl, by rw [rMin_eq]; exact q H3 (e2.trans e3)⟩
theorem ev_max {i j : Int} (h1 : Ev ta σ H (.int i)) (h2 : Ev tb σ H (.int j)) : Ev (tCB Evl.rMax2 (tCons ta (tCons tb tNil))) σ H (.int (max i j)) := fun H1 e Q q =>
  h1 H1 e _ fun H2 e2 => h2 H2 (e.trans e2) _ fun H3 e3 => ⟨i, j, rfl, by rw [rMax_eq]; exact q H3 (e2.trans e3)⟩
def rAbs : List V → Hp → VK → Prop := fun xs H Q => ∃ i, xs = [.int i] ∧ Q (.int (if i < 0 then -i else i)) H
theorem ev_abs {i : Int} (h1 : Ev ta σ H (.int i)) : Ev (tCB rAbs (tCons ta tNil)) σ H (.int i.natAbs) := fun H1 e Q q =>
  h1 H1 e _ fun H2 e2 => ⟨i, rfl, by
    have : (if i < 0 then -i else i) = (i.natAbs : Int) := by split <;> omega
    rw [this]; exact q H2 e2⟩
/-- an item of a tuple made on the way -/
theorem ev_ixU {xs : List V} {i : Int} (h : EvU ta σ H xs) (hi : Ev tb σ H (.int i)) (ha : atI xs i = some v) : Ev (tOp (rIxT K) ta tb) σ H v := fun H1 e Q q =>
  h H1 e _ fun p H2 _ e2 hp => hi H2 (e.trans e2) _ fun H3 e3 => ⟨p, xs, i, v, rfl, rfl, st_of (e3 p _ hp), ha, q H3 (e2.trans e3)⟩
theorem ev_ixL {xs : List V} {p : Addr} {i : Int} (h : Ev ta σ H (.ref p)) (hs : SqL K H p xs) (hi : Ev tb σ H (.int i)) (ha : atI xs i = some v) : Ev (tOp (rIxL K) ta tb) σ H v := ev_op h hi (rv_ixL hs ha)
theorem ev_ixT {xs : List V} {p : Addr} {i : Int} (h : Ev ta σ H (.ref p)) (hs : SqT K H p xs) (hi : Ev tb σ H (.int i)) (ha : atI xs i = some v) : Ev (tOp (rIxT K) ta tb) σ H v := ev_op h hi (rv_ixT hs ha)
/-- a, b = a list of two -/
theorem g_unl2 {i j : Nat} {a b : V} (h : EvL te σ H [a, b]) (q : Go tz D ((σ.set i (some a)).set j (some b)) H) : Go (tSeq (tAsg te (gUnl K 2 (gCons (gName i) (gCons (gName j) gNil)))) tz) D σ H := fun H' e =>
  h H' e _ fun p H2 np e2 hp => ⟨p, _, rfl, sq_of hp, rfl, a, _, rfl, b, _, rfl, rfl, q H2 (e.trans e2)⟩
/-- a, b, c = a tuple that stands -/
theorem g_unt3 {i j k : Nat} {a b c : V} {p : Addr} (h : Ev te σ H (.ref p)) (hp : SqT K H p [a, b, c]) (q : Go tz D (((σ.set i (some a)).set j (some b)).set k (some c)) H) : Go (tSeq (tAsg te (gTup K 3 (gCons (gName i) (gCons (gName j) (gCons (gName k) gNil))))) tz) D σ H := fun H' e =>
  h H' e _ fun H2 e2 => ⟨p, _, rfl, ex_t (e.trans e2) hp, rfl, a, _, rfl, b, _, rfl, c, _, rfl, rfl, q H2 (e.trans e2)⟩
theorem g_unt2 {i j : Nat} {a b : V} {p : Addr} (h : Ev te σ H (.ref p)) (hp : SqT K H p [a, b]) (q : Go tz D ((σ.set i (some a)).set j (some b)) H) : Go (tSeq (tAsg te (gTup K 2 (gCons (gName i) (gCons (gName j) gNil)))) tz) D σ H := fun H' e =>
  h H' e _ fun H2 e2 => ⟨p, _, rfl, ex_t (e.trans e2) hp, rfl, a, _, rfl, b, _, rfl, rfl, q H2 (e.trans e2)⟩
/-! ### what is walked: n turns, the target's slots behind each -/
def EvF (wi : TI) (g : TG) (σ : L2.St) (H : Hp) (n : Nat) (f : Nat → L2.St → L2.St) : Prop := ∀ H1, Ex H H1 → ∀ R : It → Hp → Prop,
  (∀ J H2, Ex H1 H2 → (∃ Y, Walk J n (Ex H2) Y ∧ ∀ i σ' H' x H'', i < n → Ex H2 H' → Y i H' x H'' → ∀ Q : L2.St → Hp → Prop, (∀ H3, Ex H' H3 → Q (f i σ') H3) → g x σ' H'' Q) → R J H2) → wi σ H1 R
theorem ef_list {p : Addr} {xs : List V} {j : Nat} (h : Ev te σ H (.ref p)) (hs : SqL K H p xs) : EvF (iList K te) (gName j) σ H xs.length fun i σ' => σ'.set j xs[i]? := fun H1 e R r =>
  h H1 e _ fun H2 e2 => ⟨p, rfl, ⟨xs, ex_l (e.trans e2) hs⟩, r _ H2 e2 ⟨_, walk_list.mono (fun H' e' => ex_l ((e.trans e2).trans e') hs) (fun _ _ _ _ _ _ y => y), fun i σ' H' x H'' hi e' y Q q => by
    obtain ⟨rfl, y2⟩ := y
    show Q (σ'.set j (some x)) H''
    rw [← y2]
    exact q H'' (Ex.refl _)⟩⟩
theorem ef_listN {xs : List V} {j : Nat} (h : EvL te σ H xs) : EvF (iList K te) (gName j) σ H xs.length fun i σ' => σ'.set j xs[i]? := fun H1 e R r =>
  h H1 e _ fun p H2 _ e2 hp => ⟨p, rfl, ⟨xs, sq_of hp⟩, r _ H2 e2 ⟨_, walk_list.mono (fun H' e' => sq_of (e' p _ hp)) (fun _ _ _ _ _ _ y => y), fun i σ' H' x H'' hi e' y Q q => by
    obtain ⟨rfl, y2⟩ := y
    show Q (σ'.set j (some x)) H''
    rw [← y2]
    exact q H'' (Ex.refl _)⟩⟩
theorem ef_range {ta : TA} {j : Nat} {n : Int} (h : EvA ta σ H [.int n]) (hn : n ≤ 1000000000) (hn0 : 0 ≤ n) : EvF (iRng1 ta) (gName j) σ H n.toNat fun i σ' => σ'.set j (some (.int (i : Nat))) := fun H1 e R r =>
  h H1 e _ fun H2 e2 => ⟨n, rfl, by omega, by omega, r _ H2 e2 ⟨_, walk_range.mono (fun _ _ => trivial) (fun _ _ _ _ _ _ y => y), fun i σ' H' x H'' hi e' y Q q => by
    obtain ⟨rfl, rfl⟩ := y
    show Q (σ'.set j (some (.int (0 + (i : Int))))) H''
    rw [Int.zero_add]
    exact q H'' (Ex.refl _)⟩⟩
theorem ef_enum {ta : TA} {p : Addr} {xs : List V} {j k : Nat} (h : EvA ta σ H [.ref p]) (hs : SqL K H p xs) : EvF (iEnum K ta) (gTup K 2 (gCons (gName j) (gCons (gName k) gNil))) σ H xs.length fun i σ' => (σ'.set j (some (.int (i : Nat)))).set k xs[i]? := fun H1 e R r =>
  h H1 e _ fun H2 e2 => ⟨p, xs, rfl, ex_l (e.trans e2) hs, r _ H2 e2 ⟨_, walk_enum.mono (fun H' e' => ex_l ((e.trans e2).trans e') hs) (fun _ _ _ _ _ _ y => y), fun i σ' H' x H'' hi e' y Q q => by
    obtain ⟨T, a, b, rfl, nT, rfl, ha, hb⟩ := y
    cases ha
    refine ⟨T, _, rfl, st_of upd_same, rfl, _, _, rfl, _, _, rfl, rfl, ?_⟩
    have z := q (upd H' T (.tup [.int (i : Nat), b])) (Ex.new nT)
    have hb' : xs[i]? = some b := hb
    show Q ((σ'.set j (some (.int (i : Nat)))).set k (some b)) (upd H' T (.tup [.int (i : Nat), b]))
    rw [← hb']
    exact z⟩⟩
theorem ef_enumN {xs : List V} {j k : Nat} (h : EvL te σ H xs) : EvF (iEnum K (tCons te tNil)) (gTup K 2 (gCons (gName j) (gCons (gName k) gNil))) σ H xs.length fun i σ' => (σ'.set j (some (.int (i : Nat)))).set k xs[i]? := fun H1 e R r =>
  h H1 e _ fun p H2 _ e2 hp => ⟨p, xs, rfl, sq_of hp, r _ H2 e2 ⟨_, walk_enum.mono (fun H' e' => sq_of (e' p _ hp)) (fun _ _ _ _ _ _ y => y), fun i σ' H' x H'' hi e' y Q q => by
    obtain ⟨T, a, b, rfl, nT, rfl, ha, hb⟩ := y
    cases ha
    refine ⟨T, _, rfl, st_of upd_same, rfl, _, _, rfl, _, _, rfl, rfl, ?_⟩
    have z := q (upd H' T (.tup [.int (i : Nat), b])) (Ex.new nT)
    have hb' : xs[i]? = some b := hb
    show Q ((σ'.set j (some (.int (i : Nat)))).set k (some b)) (upd H' T (.tup [.int (i : Nat), b]))
    rw [← hb']
    exact z⟩⟩
/-- over a list of pairs: at xs[i] stands the pair f i -/
theorem ef_pairs {p : Addr} {xs : List V} {j k : Nat} {f : Nat → V × V} (h : Ev te σ H (.ref p)) (hs : SqL K H p xs) (hf : ∀ i, i < xs.length → ∃ a, xs[i]? = some (.ref a) ∧ SqT K H a [(f i).1, (f i).2]) :
    EvF (iList K te) (gTup K 2 (gCons (gName j) (gCons (gName k) gNil))) σ H xs.length fun i σ' => (σ'.set j (some (f i).1)).set k (some (f i).2) := fun H1 e R r =>
  h H1 e _ fun H2 e2 => ⟨p, rfl, ⟨xs, ex_l (e.trans e2) hs⟩, r _ H2 e2 ⟨_, walk_list.mono (fun H' e' => ex_l ((e.trans e2).trans e') hs) (fun _ _ _ _ _ _ y => y), fun i σ' H' x H'' hi e' y Q q => by
    obtain ⟨rfl, y2⟩ := y
    obtain ⟨a, h1, h2⟩ := hf i hi
    rw [h1] at y2
    cases y2
    exact ⟨a, _, rfl, ex_t ((e.trans e2).trans e') h2, rfl, _, _, rfl, _, _, rfl, rfl, q H'' (Ex.refl _)⟩⟩⟩
/-- a for that changes nothing that stood -/
theorem g_for {wi : TI} {n : Nat} {f : Nat → L2.St → L2.St} (h : EvF wi g σ H n f) (W : Nat → L2.St → Prop) (h0 : W 0 σ)
    (hs : ∀ H2, Ex H H2 → ∀ i σ', i < n → W i σ' → Go tu { D with nx := fun σ3 H3 => Ex H2 H3 ∧ W (i + 1) σ3, ct := fun σ3 H3 => Ex H2 H3 ∧ W (i + 1) σ3, bk := tz D } (f i σ') H2)
    (hd : ∀ H2, Ex H H2 → ∀ σ', W n σ' → Go tz D σ' H2) : Go (tSeq (tFor wi g tu) tz) D σ H := fun H' e =>
  h H' e _ fun J H2 e2 ⟨Y, wk, hy⟩ => for_it (D := { D with nx := tz D }) wk (fun i σ' H3 => Ex H2 H3 ∧ W i σ') ⟨Ex.refl H2, h0⟩ (fun _ _ _ _ p => p.1)
    (fun i x σ' H3 H4 hi p y => hy i σ' H3 x H4 hi p.1 y _ fun H5 e5 => by
      have z := hs H3 ((e.trans e2).trans p.1) i σ' hi p.2 H5 e5
      have : ∀ σ3 H6, (Ex H3 H6 ∧ W (i + 1) σ3) → (Ex H2 H6 ∧ W (i + 1) σ3) := fun σ3 H6 w => ⟨p.1.trans w.1, w.2⟩
      exact hs H2 (e.trans e2) i σ' hi p.2 H5 (p.1.trans e5))
    (fun σ' H3 p => hd H2 (e.trans e2) σ' p.2 H3 p.1)
/-- a comprehension: which turns give, and what -/
theorem el_lcF {wi : TI} {n : Nat} {f : Nat → L2.St → L2.St} {vs : List Nat} (c : Nat → Bool) (w : Nat → V) (h : EvF wi g σ H n f) (hn : n ≤ 50000) (hw : ∀ i, i < n → wipe (f i (wipe σ vs)) vs = wipe σ vs)
    (ht : ∀ H2, Ex H H2 → ∀ i, i < n → EvT t (f i (wipe σ vs)) H2 (c i)) (he : ∀ H2, Ex H H2 → ∀ i, i < n → c i = true → Ev te (f i (wipe σ vs)) H2 (w i)) : EvL (tLc wi g t te vs) σ H (given n c w) := fun H1 e Q q =>
  h H1 e _ fun J H2 e2 ⟨Y, wk, hy⟩ => fun Dl hD => lc_it wk (Cw H2 c w Dl) ⟨hD, Ex.new hD, upd_same⟩ (fun _ _ _ p => p.2.1)
    (fun i x H3 H4 hi p y => hy i (wipe σ vs) H3 x H4 hi p.2.1 y _ fun H5 e5 => ⟨hw i hi, cw_turn (te := te) (t := t) (f := c) (v := w) (H := H2) (H' := H5) (Dl := Dl) (i := i) ⟨p.1, p.2.1.trans e5, e5 _ _ p.2.2⟩ (by omega) (ht H2 (e.trans e2) i hi) (he H2 (e.trans e2) i hi)⟩)
    (fun H' p => q Dl H' (fresh_back e2 p.1) (e2.trans p.2.1) p.2.2)
theorem et_yes : EvT tYes σ H true := fun H1 e Q q => q H1 (Ex.refl H1)
end
end RG
namespace RG
open PySem PySem.Spec PyProof.Rows L2 Evl RS
section
variable {K : PySem.W.Frag} {σ : L2.St} {H : Hp} {ta tb te tx : TE} {t u : TT} {x y z v : V} {D : Ends} {tu tw tz : TS} {g : TG}
/-- a, b = a new list, another one -/
theorem g_parLL {i j : Nat} {xs ys : List V} (h1 : EvL ta σ H xs) (h2 : EvL tb σ H ys)
    (k : ∀ p q H1 H2, H p = none → Ex H H1 → H1 p = some (.lst xs) → H1 q = none → Ex H1 H2 → H2 q = some (.lst ys) → Go tz D ((σ.set i (some (.ref p))).set j (some (.ref q))) H2) : Go (tSeq (tPar i j (tCons ta (tCons tb tNil))) tz) D σ H := fun H' e =>
  h1 H' e _ fun p H1 np e1 hp => h2 H1 (e.trans e1) _ fun q H2 nq e2 hq => ⟨_, _, rfl, (k p q H1 H2 (fresh_back e np) (e.trans e1) hp nq e2 hq).at⟩
/-- a for over range(n), by a word that may speak of the heap -/
theorem g_forR {ta : TA} {j : Nat} {n : Int} (h : EvA ta σ H [.int n]) (hn : 0 ≤ n ∧ n ≤ 100000) (W : Nat → L2.St → Hp → Prop) (h0 : ∀ H1, Ex H H1 → W 0 σ H1)
    (hs : ∀ (i : Nat) σ' H', (i : Int) < n → W i σ' H' → Go tu { D with nx := W (i + 1), ct := W (i + 1), bk := tz D } (σ'.set j (some (.int (i : Int)))) H') (hd : ∀ σ' H', W n.toNat σ' H' → Go tz D σ' H') : Go (tSeq (tFor (iRng1 ta) (gName j) tu) tz) D σ H := fun H' e =>
  q_forR1 (fun H1 e1 Q q => h H1 (e.trans e1) Q q) hn W (fun H1 e1 => h0 H1 (e.trans e1)) (fun i σ' H1 hi w => (hs i σ' H1 hi w).at) (fun σ' H1 w => (hd σ' H1 w).at)
/-- xs.append((a, b, ..)) -/
theorem g_appU {l : Addr} {xs ys : List V} (hl : H l = some (.lst xs)) (ha : Ev ta σ H (.ref l)) (h : EvU te σ H ys) (hz : xs.length < 100000) (k : ∀ p H1, H p = none → Ex H H1 → H1 p = some (.tup ys) → Go tz D σ (upd H1 l (.lst (xs ++ [.ref p])))) :
    Go (tSeq (tDrop (tBM K "list" rAppend ta (tCons te tNil))) tz) D σ H := fun H' e =>
  q_appU (e l _ hl) (ha.mono e) (EvU.mono e h) hz fun p H1 np e1 hp => (k p H1 (fresh_back e np) (e.trans e1) hp).at
theorem g_app {l : Addr} {xs : List V} (hl : H l = some (.lst xs)) (ha : Ev ta σ H (.ref l)) (h : Ev te σ H v) (hz : xs.length < 100000) (k : ∀ H1, Ex H H1 → Go tz D σ (upd H1 l (.lst (xs ++ [v])))) :
    Go (tSeq (tDrop (tBM K "list" rAppend ta (tCons te tNil))) tz) D σ H := fun H' e =>
  q_app (e l _ hl) (ha.mono e) (h.mono e) hz fun H1 e1 => (k H1 (e.trans e1)).at
end
/-! ### lists -/
theorem atI_mod {ns : List Int} {x m : Int} (hm : m = (ns.length : Int)) (h0 : 0 < m) : ∃ v, atI (ns.map V.int) (x % m) = some (.int v) ∧ v ∈ ns := by
  have h1 := Int.emod_nonneg x (show m ≠ 0 by omega)
  have h2 := Int.emod_lt_of_pos x h0
  have hj : (x % m).toNat < ns.length := by omega
  refine ⟨ns[(x % m).toNat], ?_, List.getElem_mem _⟩
  have z : atI (ns.map V.int) (((x % m).toNat : Nat) : Int) = some (V.int ns[(x % m).toNat]) := atI_nat (by simp [hj])
  have e : (((x % m).toNat : Nat) : Int) = x % m := by omega
  generalize ns[(x % m).toNat] = y at *
  rw [e] at z
  exact z
theorem cut_take {xs : List V} {n : Nat} : cutV xs none (some (n : Int)) = xs.take n := by
  unfold cutV
  rw [HT.sIx_none, HT.sIx_nat]
  simp [List.take_eq_take_iff]
theorem cut_mid {xs : List V} {a b : Nat} : cutV xs (some (a : Int)) (some (b : Int)) = (xs.drop (min a xs.length)).take (min b xs.length - min a xs.length) := by
  unfold cutV
  rw [HT.sIx_nat, HT.sIx_nat]
theorem cut_drop {xs : List V} {a : Nat} : cutV xs (some (a : Int)) none = xs.drop a := by
  unfold cutV
  rw [HT.sIx_nat, HT.sIx_none]
  by_cases h : a ≤ xs.length
  · rw [Nat.min_eq_left h, List.take_of_length_le (by rw [List.length_drop]; omega)]
  · rw [Nat.min_eq_right (by omega), List.drop_of_length_le (Nat.le_refl xs.length), List.drop_of_length_le (show xs.length ≤ a by omega)]
    simp
theorem cut_sub {xs : List V} {lo hi : Option Int} {x : V} (h : x ∈ cutV xs lo hi) : x ∈ xs := by
  unfold cutV at h
  exact List.mem_of_mem_drop (List.mem_of_mem_take h)
theorem sum_abs : ∀ (ns : List Int) (B : Nat), (∀ z ∈ ns, z.natAbs ≤ B) → ns.sum.natAbs ≤ ns.length * B
  | [], B, _ => by simp
  | a :: r, B, h => by
    have h1 := sum_abs r B fun z hz => h z (List.mem_cons_of_mem _ hz)
    have h2 := h a List.mem_cons_self
    rw [List.sum_cons, List.length_cons, Nat.add_mul, Nat.one_mul]
    have := Int.natAbs_add_le a r.sum
    omega
theorem lv_sum {ns : List Int} {a : Nat} (h : ∀ z ∈ ns, Lv a z) (hl : ns.length ≤ 1000) : Lv (a + 1) ns.sum := by
  unfold Lv
  have h1 := sum_abs ns (2 ^ (8000 * a)) fun z hz => Nat.le_of_lt (h z hz)
  have h2 : ns.length * 2 ^ (8000 * a) ≤ 1000 * 2 ^ (8000 * a) := Nat.mul_le_mul_right _ hl
  have h3 : 2 ^ (8000 * (a + 1)) = 2 ^ 8000 * 2 ^ (8000 * a) := by rw [Nat.mul_add, Nat.pow_add, Nat.mul_comm]
  have h4 : 1024 * 2 ^ (8000 * a) ≤ 2 ^ 8000 * 2 ^ (8000 * a) := Nat.mul_le_mul_right _ (show 2 ^ 10 ≤ 2 ^ 8000 from Nat.pow_le_pow_right (by omega) (by omega))
  have h5 : 0 < 2 ^ (8000 * a) := Nat.pow_pos (by omega)
  rw [h3]
  generalize 2 ^ (8000 * a) = x at *
  generalize 2 ^ 8000 * x = y at *
  omega
theorem lv_bits {i : Int} (h : Builtin.Int.intBits i ≤ 1048576) : Lv 132 i := by
  unfold Lv
  have h1 : i.natAbs < 2 ^ 1048576 := by
    by_cases z : i = 0
    · subst z; exact Nat.pow_pos (by omega)
    · have h2 : i.natAbs.log2 + 1 ≤ 1048576 := by
        unfold Builtin.Int.intBits at h
        split at h
        · rename_i q
          exact absurd (by simpa using q) z
        · exact h
      exact (Nat.log2_lt (by omega)).mp (by omega)
  exact Nat.lt_of_lt_of_le h1 (Nat.pow_le_pow_right (by omega) (by omega))
/-- three in a row out of a list written three times -/
theorem three_of {xs : List V} {b : Nat} (h : b + 3 ≤ xs.length) : ∃ x y z, cutV xs (some (b : Int)) (some ((b : Int) + 3)) = [x, y, z] ∧ x ∈ xs ∧ y ∈ xs ∧ z ∈ xs := by
  have e : ((b : Int) + 3) = ((b + 3 : Nat) : Int) := by omega
  rw [e, cut_mid, Nat.min_eq_left (show b ≤ xs.length by omega), Nat.min_eq_left h]
  have e2 : b + 3 - b = 3 := by omega
  rw [e2]
  obtain ⟨l, hl⟩ : ∃ l, l = (xs.drop b).take 3 := ⟨_, rfl⟩
  have hlen : l.length = 3 := by rw [hl, List.length_take, List.length_drop]; omega
  have hm : ∀ x ∈ l, x ∈ xs := fun x hx => by rw [hl] at hx; exact List.mem_of_mem_drop (List.mem_of_mem_take hx)
  rw [← hl]
  match l, hlen, hm with
  | [x, y, z], _, hm => exact ⟨x, y, z, rfl, hm x (by simp), hm y (by simp), hm z (by simp)⟩
theorem in_rep {xs : List V} {n : Nat} {x : V} (h : x ∈ (List.replicate n xs).flatten) : x ∈ xs := by
  obtain ⟨l, hl, hx⟩ := List.mem_flatten.mp h
  rw [List.mem_replicate] at hl
  rw [← hl.2]; exact hx
theorem rep_len {xs : List V} {n : Nat} : (List.replicate n xs).flatten.length = n * xs.length := by simp
/-! ### rings -/
theorem lv_140 {p : Int} (h0 : 0 ≤ p) (h : p < 2 ^ 140) : Lv 1 p := by
  unfold Lv
  refine Nat.lt_of_lt_of_le (show p.natAbs < 2 ^ 140 by omega) (Nat.pow_le_pow_right (by omega) (by omega))
/-- the greatest rings that the laws make -/
def PB : Int := 60000000000000000000000000000000000000000
theorem PB_lt : PB < 2 ^ 140 := by decide

structure Good (P S M : Int) : Prop where
  r : Ring P S
  b : P ≤ PB
  m1 : 1 ≤ M
  m2 : M ≤ top P S
def RingsAt (H : Hp) (xs : List V) : Prop := ∀ i, i < xs.length → ∃ a P S M, xs[i]? = some (.ref a) ∧ H a = some (.tup [.int P, .int S, .int M]) ∧ Good P S M
theorem Good.lp {P S M : Int} (h : Good P S M) : Lv 1 P := by
  unfold Lv
  have := h.r.p
  have := h.b
  have := PB_lt
  exact Nat.lt_of_lt_of_le (show P.natAbs < 2 ^ 140 by omega) (Nat.pow_le_pow_right (by omega) (by omega))
theorem Good.ls {P S M : Int} (h : Good P S M) : Lv 1 S := h.r.ls h.lp
theorem lv_140p {P : Int} (h1 : 1 ≤ P) (h : P ≤ PB) : Lv 1 (P + 1) := by
  have := PB_lt
  have e : (2 : Int) ^ 141 = 2 * 2 ^ 140 := by decide
  have h3 : (P + 1).natAbs < 2 ^ 141 := by omega
  exact Nat.lt_of_lt_of_le h3 (Nat.pow_le_pow_right (by omega) (by omega))
theorem Good.lm {P S M : Int} (h : Good P S M) : Lv 1 M := lv_le (lv_top h.r h.lp) (by have := h.m1; omega) h.m2
end RG
namespace RG
open PySem PySem.Spec PyProof.Rows L2 Evl RS
/-! ### some value with a property -/
def EvP (te : TE) (σ : L2.St) (H : Hp) (R : V → Hp → Prop) : Prop := ∀ H1, Ex H H1 → ∀ Q : VK, (∀ v H2, Ex H1 H2 → R v H2 → Q v H2) → te σ H1 Q
/-- tuples stand at vs -/
def TupsAt (H : Hp) (vs : List V) (pss : List (List V)) : Prop := vs.length = pss.length ∧ ∀ (i : Nat) (ps : List V), pss[i]? = some ps → ∃ a : Addr, vs[i]? = some (V.ref a) ∧ H a = some (.tup ps)
theorem TupsAt.ex {H H' : Hp} {vs : List V} {pss : List (List V)} (h : TupsAt H vs pss) (e : Ex H H') : TupsAt H' vs pss := ⟨h.1, fun i ps hi => let ⟨a, h1, h2⟩ := h.2 i ps hi; ⟨a, h1, e a _ h2⟩⟩
def EvAT (ta : TA) (σ : L2.St) (H : Hp) (pss : List (List V)) : Prop := ∀ H1, Ex H H1 → ∀ Q : List V → Hp → Prop, (∀ vs H2, Ex H1 H2 → TupsAt H2 vs pss → Q vs H2) → ta σ H1 Q
section
variable {K : PySem.W.Frag} {σ : L2.St} {H : Hp} {ta tb te tx : TE} {t u : TT} {x y z v : V} {D : Ends} {tu tw tz : TS} {g : TG}
theorem eat_nil : EvAT tNil σ H [] := fun H1 e Q q => q [] H1 (Ex.refl H1) ⟨rfl, fun i ps h => by simp at h⟩
theorem eat_cons {tr : TA} {ps : List V} {pss : List (List V)} (h : EvU te σ H ps) (hr : EvAT tr σ H pss) : EvAT (tCons te tr) σ H (ps :: pss) := fun H1 e Q q =>
  h H1 e _ fun p H2 np e2 hp => hr H2 (e.trans e2) _ fun vs H3 e3 h3 => q (.ref p :: vs) H3 (e2.trans e3) ⟨by rw [List.length_cons, List.length_cons, h3.1], fun i qs hi => by
    cases i with
    | zero =>
      have : ps = qs := by simpa using hi
      subst this
      exact ⟨p, rfl, e3 p _ hp⟩
    | succ i =>
      obtain ⟨a, h4, h5⟩ := h3.2 i qs (by simpa using hi)
      exact ⟨a, by simpa using h4, h5⟩⟩
/-- x = [(a, b), ..] -/
theorem g_asgLT {i : Nat} {ta : TA} {pss : List (List V)} (h : EvAT ta σ H pss) (hl : pss.length ≤ 100000) (k : ∀ p vs H1, H p = none → Ex H H1 → H1 p = some (.lst vs) → TupsAt H1 vs pss → Go tz D (σ.set i (some (.ref p))) H1) :
    Go (tSeq (tAsg (tLst ta) (gName i)) tz) D σ H := fun H' e =>
  h H' e _ fun vs H1 e1 h1 => ⟨sz_of (by rw [h1.1]; exact hl), fun p hp => (k p vs (upd H1 p (.lst vs)) (fresh_back (e.trans e1) hp) ((e.trans e1).trans (Ex.new hp)) upd_same (h1.ex (Ex.new hp))).at⟩
/-- a for over a list of pairs -/
theorem ef_tups2 {p : Addr} {vs : List V} {ps : List (V × V)} {j k : Nat} (h : Ev te σ H (.ref p)) (hs : SqL K H p vs) (hf : TupsAt H vs (ps.map fun x => [x.1, x.2])) :
    EvF (iList K te) (gTup K 2 (gCons (gName j) (gCons (gName k) gNil))) σ H ps.length fun i σ' => (σ'.set j (ps[i]?.map (·.1))).set k (ps[i]?.map (·.2)) := fun H1 e R r =>
  h H1 e _ fun H2 e2 => ⟨p, rfl, ⟨vs, ex_l (e.trans e2) hs⟩, r _ H2 e2 ⟨_, (show vs.length = ps.length by rw [hf.1, List.length_map]) ▸ walk_list.mono (fun H' e' => ex_l ((e.trans e2).trans e') hs) (fun _ _ _ _ _ _ y => y), fun i σ' H' x H'' hi e' y Q q => by
    obtain ⟨rfl, y2⟩ := y
    have hi' : ps[i]? = some ps[i] := List.getElem?_eq_getElem hi
    obtain ⟨a, h1, h2⟩ := hf.2 i [ps[i].1, ps[i].2] (by rw [List.getElem?_map, hi']; rfl)
    rw [h1] at y2
    cases y2
    refine ⟨a, _, rfl, st_of (((e.trans e2).trans e') a _ h2), rfl, _, _, rfl, _, _, rfl, rfl, ?_⟩
    have z : Q ((σ'.set j (ps[i]?.map (·.1))).set k (ps[i]?.map (·.2))) H'' := q H'' (Ex.refl _)
    rw [hi'] at z
    exact z⟩⟩
/-- a for over something that is made on the way -/
theorem g_forP {R : V → Hp → Prop} (h : EvP te σ H R) (k : ∀ v H2, Ex H H2 → R v H2 → Go (tSeq (tFor (iEnum K (tCons (tC v) tNil)) g tu) tz) D σ H2) : Go (tSeq (tFor (iEnum K (tCons te tNil)) g tu) tz) D σ H := fun H' e =>
  h H' e _ fun v H2 e2 hv => (k v H2 (e.trans e2) hv).at
theorem g_asgP {i : Nat} {R : V → Hp → Prop} (h : EvP te σ H R) (k : ∀ v H2, Ex H H2 → R v H2 → Go tz D (σ.set i (some v)) H2) : Go (tSeq (tAsg te (gName i)) tz) D σ H := fun H' e =>
  h H' e _ fun v H2 e2 hv => (k v H2 (e.trans e2) hv).at
theorem g_unt3c {i j k : Nat} {a b c : V} {p : Addr} (h : Ev te σ H (.ref p)) (hp : H p = some (.tup [a, b, c])) (q : Go tz D (((σ.set i (some a)).set j (some b)).set k (some c)) H) : Go (tSeq (tAsg te (gTup K 3 (gCons (gName i) (gCons (gName j) (gCons (gName k) gNil))))) tz) D σ H := g_unt3 h (st_of hp) q
end
theorem ne_same {a b : V} (h : a = b) : (!decide (a = b)) = false := by rw [decide_eq_true h]; rfl
theorem eq_same {a b : V} (h : a = b) : decide (a = b) = true := decide_eq_true h
/-! ### counts as lengths -/
theorem given_len_sum (c : Nat → Bool) (w : Nat → V) : ∀ n, ((given n c w).length : Int) = sumN (fun i => if c i = true then 1 else 0) n
  | 0 => rfl
  | n + 1 => by
    have ih := given_len_sum c w n
    cases h : c n with
    | true => rw [given_yes h, List.length_append]; simp only [sumN, h, if_true, ← ih]; simp
    | false => rw [given_no h]; simp only [sumN, h, ← ih]; simp
theorem inCnt_len {p s b e : Int} {n : Nat} (c : Nat → Bool) (w : Nat → V) (hbe : b ≤ e + 1) (hc : ∀ i, i < n → c i = (decide (b ≤ (i : Int) * s % p) && decide ((i : Int) * s % p ≤ e))) : cnt p s n e - cnt p s n (b - 1) = ((given n c w).length : Int) := by
  rw [given_len_sum]
  unfold RS.cnt
  rw [← sumN_sub]
  refine sumN_congr fun i hi => ?_
  rw [hc i hi]
  unfold hit
  generalize (i : Int) * s % p = x
  by_cases h1 : b ≤ x <;> by_cases h2 : x ≤ e <;> simp [h1, h2] <;> omega
/-- of step 1 the marks stand one behind another -/
theorem cnt_one {p x : Int} (hx : 0 ≤ x) : ∀ {n : Nat}, (n : Int) ≤ p → cnt p 1 n x = min (n : Int) (x + 1)
  | 0, _ => by
    show (0 : Int) = _
    omega
  | n + 1, h => by
    have ih := cnt_one (p := p) hx (n := n) (by omega)
    show cnt p 1 n x + hit p 1 x n = _
    rw [ih]
    unfold hit
    rw [Int.mul_one, Int.emod_eq_of_lt (by omega) (by omega)]
    split <;> omega
theorem G_one (p : Int) : G p 1 = 1 := by unfold G; simp
theorem top_one (p : Int) : top p 1 = p := by unfold top; rw [G_one]; omega
end RG
namespace RG
open PySem PySem.Spec PyProof.Rows L2 Evl RS
/-- one of two readings -/
theorem pe_orR {X : Cx} {e : Expr} {t1 t2 : TE} (h1 : PE X e t1) (h2 : PE X e t2) : PE X e (fun σ H Q => t1 σ H Q ∨ t2 σ H Q) := ⟨fun pins s σ H Q I h => by
  rcases h with h | h
  · exact h1.run pins s σ H Q I h
  · exact h2.run pins s σ H Q I h⟩
section
variable {K : PySem.W.Frag} {σ : L2.St} {H : Hp} {ta tb te tx : TE} {t u : TT} {x y z v : V} {D : Ends} {tu tw tz : TS} {g : TG}
theorem g_par3 {i j l : Nat} {ta : TA} (h : EvA ta σ H [v, x, y]) (k : Go tz D (((σ.set i (some v)).set j (some x)).set l (some y)) H) : Go (tSeq (tPar3 i j l ta) tz) D σ H := fun H' e =>
  h H' e _ fun H1 e1 => ⟨v, x, y, rfl, k H1 (e.trans e1)⟩
/-- an attribute -/
theorem ev_fld {a C dx : Addr} {fs : List (Str × V)} {f : Str} (ha : Ev ta σ H (.ref a)) (h : H a = some (.ins C dx fs)) (c : Cls K C) (n : NoAttr K C f) (l : fs.lookup f = some v) : Ev (tFld K ta f) σ H v := fun H1 e Q q =>
  ha H1 e _ fun H2 e2 => ⟨a, C, dx, fs, v, rfl, (e.trans e2) a _ h, c, n, l, q H2 e2⟩
/-- a new instance with one attribute -/
def spIni (C : Addr) (f : Str) : Sp := fun vs H Q _ => ∃ (p dx : Addr) (x : V), vs = [.ref p, x] ∧ H p = some (.ins C dx []) ∧ Q .non (upd H p (.ins C dx [(f, x)]))
theorem ev_make {C : Addr} {f : Str} {ta : TA} {E : XK} (h : EvA ta σ H [v]) : ∀ H1, Ex H H1 → ∀ Q : VK, (∀ (x : Addr) H2, H1 x = none → Ex H1 H2 → (∃ dx, H2 x = some (.ins C dx [(f, v)])) → Q (.ref x) H2) → tMake C (spIni C f) [] E ta σ H1 Q := fun H1 e Q q =>
  h H1 e _ fun H2 e2 x dx nx ndx ne => ⟨x, dx, v, rfl, upd_same, rfl, q x _ (fresh_back e2 nx) (e2.trans fun b o hb => by
    rw [upd_ne (ne_of_none hb nx), upd_ne (ne_of_none hb nx), upd_ne (ne_of_none hb ndx)]
    exact hb) ⟨dx, upd_same⟩⟩
theorem ini_body {C : Addr} {f : Str} {p dx : Addr} {x : V} {Q : VK} (c : Cls K C) (n : NoAttr K C f) (h : H p = some (.ins C dx [])) (k : Q .non (upd H p (.ins C dx [(f, x)]))) :
    (tSeq (sFld K (tVar 0) (tVar 1) f) tNext) { nx := fun _ H' => Q .non H', rt := Q } [some (.ref p), some x] H :=
  ⟨x, rfl, .ref p, rfl, p, C, dx, [], rfl, h, c, n, by decide, k⟩
/-- a method's call by values -/
theorem ev_meth {C : Addr} {m : Str} {sp : Sp} {E : XK} {a dx : Addr} {fs : List (Str × V)} {ta' : TA} {vs : List V} (ha : Ev ta σ H (.ref a)) (h : H a = some (.ins C dx fs)) (l : fs.lookup m = none) (hv : EvA ta' σ H vs) (hs : SpV sp (.ref a :: vs) H z) : Ev (tMeth C m sp [] E ta ta') σ H z := fun H1 e Q q =>
  ha H1 e _ fun H2 e2 => ⟨a, dx, fs, rfl, (e.trans e2) a _ h, l, hv H2 (e.trans e2) _ fun H3 e3 => by
    show sp (.ref a :: (vs ++ [])) H3 Q E
    rw [List.append_nil]
    exact hs H3 ((e.trans e2).trans e3) Q (fun H4 e4 => q H4 ((e2.trans e3).trans e4)) E⟩
theorem ev_orl {t1 t2 : TE} (h : Ev t1 σ H v) : Ev (fun σ H Q => t1 σ H Q ∨ t2 σ H Q) σ H v := fun H1 e Q q => .inl (h H1 e Q q)
theorem ev_orr {t1 t2 : TE} (h : Ev t2 σ H v) : Ev (fun σ H Q => t1 σ H Q ∨ t2 σ H Q) σ H v := fun H1 e Q q => .inr (h H1 e Q q)
/-- over reversed(a list of triples) -/
theorem ef_rev3 {ta : TA} {p : Addr} {vs : List V} {ps : List (Int × Int × Int)} {i j k : Nat} (h : EvA ta σ H [.ref p]) (hs : SqL K H p vs) (hf : TupsAt H vs (ps.map fun x => [V.int x.1, V.int x.2.1, V.int x.2.2])) :
    EvF (iRev K ta) (gTup K 3 (gCons (gName i) (gCons (gName j) (gCons (gName k) gNil)))) σ H ps.length fun n σ' => ((σ'.set i (ps[ps.length - 1 - n]?.map fun x => V.int x.1)).set j (ps[ps.length - 1 - n]?.map fun x => V.int x.2.1)).set k (ps[ps.length - 1 - n]?.map fun x => V.int x.2.2) := fun H1 e R r =>
  have hl : vs.length = ps.length := by rw [hf.1, List.length_map]
  h H1 e _ fun H2 e2 => ⟨p, vs, rfl, ex_l (e.trans e2) hs, r _ H2 e2 ⟨fun i H x H' => H' = H ∧ vs[vs.length - 1 - i]? = some x, by
    have w := walk_rev (K := K) (a := p) (xs := vs)
    rw [hl] at w ⊢
    exact w.mono (fun H' e' => ex_l ((e.trans e2).trans e') hs) (fun _ _ _ _ _ _ y => y), fun n σ' H' x H'' hi e' y Q q => by
    obtain ⟨rfl, y2⟩ := y
    rw [hl] at y2
    have hi2 : ps.length - 1 - n < ps.length := by omega
    have hi' : ps[ps.length - 1 - n]? = some ps[ps.length - 1 - n] := List.getElem?_eq_getElem hi2
    obtain ⟨a, h1, h2⟩ := hf.2 (ps.length - 1 - n) _ (by rw [List.getElem?_map, hi']; rfl)
    rw [h1] at y2
    cases y2
    refine ⟨a, _, rfl, st_of (((e.trans e2).trans e') a _ h2), rfl, _, _, rfl, _, _, rfl, _, _, rfl, rfl, ?_⟩
    have z : Q (((σ'.set i (ps[ps.length - 1 - n]?.map fun x => V.int x.1)).set j (ps[ps.length - 1 - n]?.map fun x => V.int x.2.1)).set k (ps[ps.length - 1 - n]?.map fun x => V.int x.2.2)) H'' := q H'' (Ex.refl _)
    rw [hi'] at z
    exact z⟩⟩
end
theorem TupsAt.upd {H : Hp} {vs ys : List V} {pss : List (List V)} {d : Addr} {o : HO} (h : TupsAt H vs pss) (hd : H d = some (.lst ys)) : TupsAt (upd H d o) vs pss := ⟨h.1, fun i ps hi => by
  obtain ⟨a, h1, h2⟩ := h.2 i ps hi
  exact ⟨a, h1, by rw [upd_ne (ne_of h2 hd (by intro z; cases z))]; exact h2⟩⟩
theorem TupsAt.snoc {H : Hp} {vs : List V} {pss : List (List V)} {q : Addr} {ps : List V} (h : TupsAt H vs pss) (hq : H q = some (.tup ps)) : TupsAt H (vs ++ [.ref q]) (pss ++ [ps]) := ⟨by rw [List.length_append, List.length_append, h.1]; rfl, fun i qs hi => by
  by_cases hl : i < pss.length
  · rw [List.getElem?_append_left hl] at hi
    obtain ⟨a, h1, h2⟩ := h.2 i qs hi
    exact ⟨a, by rw [List.getElem?_append_left (by rw [h.1]; exact hl)]; exact h1, h2⟩
  · have hi2 : i = pss.length := by
      have := (List.getElem?_eq_some_iff.mp hi).1
      rw [List.length_append] at this
      simp at this
      omega
    subst hi2
    have e : ps = qs := by simpa using hi
    subst e
    exact ⟨q, by rw [← h.1]; simp, hq⟩⟩
/-- two to a power below a number of this size -/
theorem pow_small {n : Nat} {P : Int} (h : (2 : Int) ^ n ≤ P) (l : Lv 1 P) : n < 8000 := by
  unfold Lv at l
  rcases Nat.lt_or_ge n 8000 with q | q
  · exact q
  · have h1 : 2 ^ (8000 * 1) ≤ 2 ^ n := Nat.pow_le_pow_right (by omega) (by omega)
    have h2 : ((2 ^ n : Nat) : Int) = (2 : Int) ^ n := by rw [Int.natCast_pow]; rfl
    omega
/-! ### what answers show -/
def inCnt (p s : Int) (n : Nat) (b e : Int) : Int := RS.cnt p s n e - RS.cnt p s n (b - 1)
def showsF (p s b e m : Int) : Bool := decide (0 ≤ m) && (decide (b ≤ m * s % p) && decide (m * s % p ≤ e)) && decide (inCnt p s m.toNat b e = 0)
def showsN (p s b e c : Int) : Bool := decide (1 ≤ c) && decide (p % c = 0) && decide (s % c = 0) && decide (e / c * c < b)
/-- no mark ahead is there -/
theorem inCnt_none {p s b e : Int} {n : Nat} (hbe : b ≤ e + 1) : inCnt p s n b e = 0 ↔ ∀ k : Nat, k < n → ¬ RS.In p s b e k := by
  have key : inCnt p s n b e = sumN (fun k => if RS.In p s b e k then 1 else 0) n := by
    unfold inCnt RS.cnt
    rw [← sumN_sub]
    refine sumN_congr fun k _ => ?_
    unfold hit
    by_cases q : RS.In p s b e k
    · obtain ⟨h1, h2⟩ := id q
      rw [if_pos q, if_pos h2, if_neg (by omega)]
      rfl
    · rw [if_neg q]
      unfold RS.In at q
      split <;> split <;> omega
  have nn : ∀ k : Nat, k < n → (0 : Int) ≤ if RS.In p s b e k then 1 else 0 := fun k _ => by split <;> omega
  rw [key]
  constructor
  · intro h k hk q
    have := sumN_ge (f := fun k : Nat => if RS.In p s b e k then (1 : Int) else 0) (n := n) (k := k) nn hk
    have this : (if RS.In p s b e k then (1 : Int) else 0) ≤ _ := this
    rw [if_pos q] at this
    omega
  · intro h
    rw [sumN_congr (g := fun _ => 0), sumN_const]
    · simp
    · intro k hk
      rw [if_neg (h k hk)]
theorem showsF_iff {p s b e m : Int} (hbe : b ≤ e) : showsF p s b e m = true ↔ FirstIn p s b e m := by
  unfold showsF
  rw [Bool.and_eq_true, Bool.and_eq_true, Bool.and_eq_true, decide_eq_true_iff, decide_eq_true_iff, decide_eq_true_iff, decide_eq_true_iff]
  constructor
  · rintro ⟨⟨h0, h1, h2⟩, h3⟩
    refine ⟨h0, ⟨h1, h2⟩, fun j j0 jm q => ?_⟩
    have := (inCnt_none (show b ≤ e + 1 by omega)).mp h3 j.toNat (by omega)
    have e1 : ((j.toNat : Nat) : Int) = j := by omega
    rw [e1] at this
    exact this q
  · rintro ⟨h0, ⟨h1, h2⟩, h3⟩
    exact ⟨⟨h0, h1, h2⟩, (inCnt_none (by omega)).mpr fun k hk => h3 k (by omega) (by omega)⟩
end RG
namespace RG
open PySem PySem.Spec PyProof.Rows L2 Evl RS
/-! ### own classes -/
/-- what isinstance asks of an instance of C -/
structure InsI (K : PySem.W.Frag) (C : Addr) : Prop where
  cl : Cls K C
  ha : PySem.W.findIn K (.ref C) "__class__" = some (some (.builtin "object.__class__"))
  hn : PySem.W.specialIn K (.builtin "object.__class__") "__get__" = some (some (.builtin "getset_descriptor.__get__"))
  htk : PySem.W.takesIn K (.builtin "object.__class__") = some true
  hm : PySem.W.mroIn K C (.type "object") = some true
theorem kit_own {K : PySem.W.Frag} {C D : Addr} {b : Bool} (i : PySem.W.isClsIn K D = true) (t : PySem.W.typeIn K (.ref D) = some (.type "type")) (s : PySem.W.subIn K (.ref C) (.ref D) = some b) (r : PySem.W.subIn K (.ref D) (.ref D) = some true) : PySem.W.kitOne K (.ref C) (.ref D) = some b := by
  unfold PySem.W.kitOne
  by_cases e : (Value.ref C == Value.ref D) = true
  · rw [if_pos e]
    have : C = D := by have := eq_of_beq e; injection this
    subst this
    rw [s] at r
    exact r.symm
  · rw [if_neg e]
    have e2 : ((PySem.W.clsIn K D).isSome && PySem.W.typeIn K (.ref D) == some (.type "type")) = true := by
      have h2' : (PySem.W.clsIn K D).isSome = true := i
      rw [h2', t] <;> rfl
    show (if ((PySem.W.clsIn K D).isSome && PySem.W.typeIn K (.ref D) == some (.type "type")) = true then PySem.W.subIn K (.ref C) (.ref D) else none) = some b
    rw [if_pos e2]
    exact s
section
variable {K : PySem.W.Frag} {σ : L2.St} {H : Hp} {ta tb te tx : TE} {t u : TT} {x y z v : V} {D : Ends} {tu tw tz : TS} {g : TG}
theorem ev_isIns {a C B dx : Addr} {fs : List (Str × V)} {b : Bool} (ha : Ev ta σ H (.ref a)) (h : H a = some (.ins C dx fs)) (i : InsI K C) (k : PySem.W.kitOne K (.ref C) (.ref B) = some b) : Ev (tCB (rIsi K) (tCons ta (tCons (tC (.ref B)) tNil))) σ H (.bl b) := fun H1 e Q q =>
  ha H1 e _ fun H2 e2 => ⟨.ref a, .ref B, .ref C, .ref B, b, rfl, .own B, .base (.ins ((e.trans e2) a _ h) i.cl i.ha i.hn i.htk i.hm), k, q H2 e2⟩
theorem lk_ne {m f : Str} {v : V} (h : m ≠ f) : List.lookup m [(f, v)] = none := by
  have q : (m == f) = false := by simpa using h
  simp [List.lookup, q]
theorem lk_eq {f : Str} {v : V} : List.lookup f [(f, v)] = some v := by simp [List.lookup]
/-- C(v).m(..) -/
theorem ev_methMk {C : Addr} {f m : Str} {sp : Sp} {E E' : XK} {ta ta' : TA} {vs : List V} {i : Int} (h : EvA ta σ H [.int i]) (hm : m ≠ f) (hv : EvA ta' σ H vs) (hs : ∀ a H', Ex H H' → (∃ dx, H' a = some (.ins C dx [(f, .int i)])) → SpV sp (.ref a :: vs) H' z) :
    Ev (tMeth C m sp [] E (tMake C (spIni C f) [] E' ta) ta') σ H z := fun H1 e Q q =>
  ev_make h H1 e _ fun a H2 na e2 ⟨dx, ha⟩ => ⟨a, dx, _, rfl, ha, lk_ne hm, hv H2 (e.trans e2) _ fun H3 e3 => by
    show sp (.ref a :: (vs ++ [])) H3 Q E
    rw [List.append_nil]
    exact hs a H3 ((e.trans e2).trans e3) ⟨dx, e3 a _ ha⟩ H3 (Ex.refl H3) Q (fun H4 e4 => q H4 ((e2.trans e3).trans e4)) E⟩
theorem given_rep (n : Nat) : given n (fun _ => true) (fun _ => V.bl true) = (List.replicate n true).map V.bl := by
  induction n with
  | zero => rfl
  | succ n ih => rw [given_yes rfl, ih, List.replicate_succ', List.map_append]; rfl
theorem all_rep (n : Nat) : (List.replicate n true).all id = true := by
  induction n with
  | zero => rfl
  | succ n ih => rw [List.replicate_succ, List.all_cons, ih]; rfl
theorem ev_allT {n : Nat} (h : EvL te σ H (given n (fun _ => true) (fun _ => V.bl true))) : Ev (tCB (rAll K) (tCons te tNil)) σ H (.bl true) := fun H1 e Q q =>
  h H1 e _ fun p H2 _ e2 hp => ⟨p, List.replicate n true, rfl, sq_of (by rw [hp, given_rep]), by rw [all_rep]; exact q H2 e2⟩
theorem ev_allB {bs : List Bool} (h : EvL te σ H (bs.map V.bl)) : Ev (tCB (rAll K) (tCons te tNil)) σ H (.bl (bs.all id)) := fun H1 e Q q =>
  h H1 e _ fun p H2 _ e2 hp => ⟨p, bs, rfl, sq_of hp, q H2 e2⟩
/-- a for over a list of pairs that is written in its head -/
theorem ef_disp2 {ta : TA} {ps : List (V × V)} {j k : Nat} (h : EvAT ta σ H (ps.map fun x => [x.1, x.2])) (hl : ps.length ≤ 100000) :
    EvF (iList K (tLst ta)) (gTup K 2 (gCons (gName j) (gCons (gName k) gNil))) σ H ps.length fun i σ' => (σ'.set j (ps[i]?.map (·.1))).set k (ps[i]?.map (·.2)) := fun H1 e R r =>
  h H1 e _ fun vs H2 e2 hT => ⟨sz_of (by rw [hT.1, List.length_map]; exact hl), fun p np => by
    have hT' := hT.ex (Ex.new (o := .lst vs) np)
    have e3 : Ex H2 (upd H2 p (.lst vs)) := Ex.new np
    refine ⟨p, rfl, ⟨vs, sq_of upd_same⟩, r _ (upd H2 p (.lst vs)) (e2.trans e3) ⟨fun i H x H' => H' = H ∧ vs[i]? = some x, by
      have w := walk_list (K := K) (a := p) (xs := vs)
      have hl2 : vs.length = ps.length := by rw [hT.1, List.length_map]
      rw [hl2] at w
      exact w.mono (fun H' e' => sq_of (e' p _ upd_same)) (fun _ _ _ _ _ _ y => y), fun i σ' H' x H'' hi e' y Q q => ?_⟩⟩
    obtain ⟨rfl, y2⟩ := y
    have hi' : ps[i]? = some ps[i] := List.getElem?_eq_getElem hi
    obtain ⟨a, h1, h2⟩ := hT'.2 i [ps[i].1, ps[i].2] (by rw [List.getElem?_map, hi']; rfl)
    rw [h1] at y2
    cases y2
    refine ⟨a, _, rfl, st_of (e' a _ h2), rfl, _, _, rfl, _, _, rfl, rfl, ?_⟩
    have z : Q ((σ'.set j (ps[i]?.map (·.1))).set k (ps[i]?.map (·.2))) H'' := q H'' (Ex.refl _)
    rw [hi'] at z
    exact z⟩
end
theorem lv_e61 {i : Int} (h : i.natAbs ≤ 10 ^ 61) : Lv 1 i := by
  unfold Lv
  exact Nat.lt_of_le_of_lt h (Nat.lt_of_lt_of_le (show 10 ^ 61 < 2 ^ 300 by decide) (Nat.pow_le_pow_right (by omega) (by omega)))
end RG
namespace RG
open PySem PySem.Spec PyProof.Rows L2 Evl RS
/-! ### all but one object stands as it stood -/
def Xl (l : Addr) (H H' : Hp) : Prop := ∀ b o, b ≠ l → H b = some o → H' b = some o
theorem Xl.of {l : Addr} {H H' : Hp} (e : Ex H H') : Xl l H H' := fun b o _ h => e b o h
theorem Xl.trans {l : Addr} {H H' H'' : Hp} (a : Xl l H H') (b : Xl l H' H'') : Xl l H H'' := fun c o n h => b c o n (a c o n h)
theorem Xl.upd {l : Addr} {H : Hp} {o : HO} : Xl l H (upd H l o) := fun b o' n h => by rw [upd_ne n]; exact h
theorem Xl.ex {l : Addr} {H H1 H' : Hp} (x : Xl l H1 H') (e : Ex H H1) (n : H l = none) : Ex H H' := fun b o h => x b o (ne_of_none h n) (e b o h)
theorem TupsAt.xl {l : Addr} {H H' : Hp} {vs ys : List V} {pss : List (List V)} (h : TupsAt H vs pss) (hl : H l = some (.lst ys)) (x : Xl l H H') : TupsAt H' vs pss := ⟨h.1, fun i ps hi => by
  obtain ⟨a, h1, h2⟩ := h.2 i ps hi
  exact ⟨a, h1, x a _ (ne_of h2 hl (by intro z; cases z)) h2⟩⟩
theorem TupsAt.take {H : Hp} {vs : List V} {pss : List (List V)} (n : Nat) (h : TupsAt H vs pss) : TupsAt H (vs.take n) (pss.take n) := ⟨by rw [List.length_take, List.length_take, h.1], fun i ps hi => by
  rw [List.getElem?_take] at hi ⊢
  by_cases q : i < n
  · rw [if_pos q] at hi ⊢
    exact h.2 i ps hi
  · rw [if_neg q] at hi
    cases hi⟩
/-- arguments that make something on the way -/
def EvAR (ta : TA) (σ : L2.St) (H : Hp) (R : List V → Hp → Prop) : Prop := ∀ H1, Ex H H1 → ∀ Q : List V → Hp → Prop, (∀ vs H2, Ex H1 H2 → R vs H2 → Q vs H2) → ta σ H1 Q
section
variable {K : PySem.W.Frag} {σ : L2.St} {H : Hp} {ta tb te tx : TE} {t u : TT} {x y z v : V} {D : Ends} {tu tw tz : TS} {g : TG} {d d' : PyData}
theorem ear_of {tr : TA} {vs : List V} (h : EvA tr σ H vs) : EvAR tr σ H (fun us _ => us = vs) := fun H1 e Q q => h H1 e _ fun H2 e2 => q _ H2 e2 rfl
theorem ear_cons {tr : TA} {R : List V → Hp → Prop} (h : Ev te σ H v) (hr : EvAR tr σ H R) : EvAR (tCons te tr) σ H (fun vs H2 => ∃ r, vs = v :: r ∧ R r H2) := fun H1 e Q q =>
  h H1 e _ fun H2 e2 => hr H2 (e.trans e2) _ fun vs H3 e3 hR => q _ H3 (e2.trans e3) ⟨vs, rfl, hR⟩
theorem ear_lst {xs : List V} (h : EvL te σ H xs) : EvAR (tCons te tNil) σ H (fun vs H2 => ∃ p, vs = [.ref p] ∧ H2 p = some (.lst xs)) := fun H1 e Q q =>
  h H1 e _ fun p H2 _ e2 hp => q _ H2 e2 ⟨p, rfl, hp⟩
theorem ev_callR {sp : Sp} {E : XK} {tr : TA} {R : List V → Hp → Prop} (h : EvAR tr σ H R) (hs : ∀ vs H2, Ex H H2 → R vs H2 → SpV sp vs H2 v) : Ev (tCall sp [] E tr) σ H v := fun H1 e Q q =>
  h H1 e _ fun vs H2 e2 hR => by
    show sp (vs ++ []) H2 Q E
    rw [List.append_nil]
    exact hs vs H2 (e.trans e2) hR H2 (Ex.refl H2) Q (fun H3 e3 => q H3 (e2.trans e3)) E
/-- an attribute of something that is made on the way -/
theorem ev_fldP {f : Str} {R : V → Hp → Prop} (h : EvP te σ H R) (k : ∀ v H2, R v H2 → ∃ a C dx fs, v = .ref a ∧ H2 a = some (.ins C dx fs) ∧ Cls K C ∧ NoAttr K C f ∧ fs.lookup f = some z) : Ev (tFld K te f) σ H z := fun H1 e Q q =>
  h H1 e _ fun v H2 e2 hR => by
    obtain ⟨a, C, dx, fs, rfl, h1, h2, h3, h4⟩ := k v H2 hR
    exact ⟨a, C, dx, fs, z, rfl, h1, h2, h3, h4, q H2 e2⟩
/-! ### data at any depth, compared -/
theorem dp_ints {H : Hp} : ∀ ns : List Int, DpAll K H (ns.map V.int) (ns.map PyData.int)
  | [] => .nil
  | n :: ns => .cons (.int n) (dp_ints ns)
theorem ed_ints {ns : List Int} (h : EvL te σ H (ns.map V.int)) : EvD K te σ H (.list (ns.map PyData.int)) := fun H1 e Q q =>
  h H1 e _ fun p H2 _ e2 hp => q _ H2 e2 (.lst (sq_of hp) (dp_ints ns))
theorem ev_neD (h1 : EvD K ta σ H d) (h2 : EvD K tb σ H d') (s1 : SeqAt.shaped d = true) (s2 : SeqAt.shaped d' = true) : Ev (tOp (rNeD K) ta tb) σ H (.bl (!PyData.eqv d d')) := fun H1 e Q q =>
  h1 H1 e _ fun v H2 e2 hv => h2 H2 (e.trans e2) _ fun v' H3 e3 hv' => ⟨d, d', dp_ex e3 hv, hv', s1, s2, q H3 (e2.trans e3)⟩
theorem ev_eqD (h1 : EvD K ta σ H d) (h2 : EvD K tb σ H d') (s1 : SeqAt.shaped d = true) (s2 : SeqAt.shaped d' = true) : Ev (tOp (rEqD K) ta tb) σ H (.bl (PyData.eqv d d')) := fun H1 e Q q =>
  h1 H1 e _ fun v H2 e2 hv => h2 H2 (e.trans e2) _ fun v' H3 e3 hv' => ⟨d, d', dp_ex e3 hv, hv', s1, s2, q H3 (e2.trans e3)⟩
theorem ed_if {b : Bool} (h : EvT t σ H b) (h1 : b = true → EvD K ta σ H d) (h2 : b = false → EvD K tb σ H d) : EvD K (tIf t ta tb) σ H d := fun H1 e Q q => h H1 e _ fun H2 e2 => by
  cases b with
  | true =>
    show ta σ H2 Q
    exact h1 rfl H2 (e.trans e2) Q fun v H3 e3 => q v H3 (e2.trans e3)
  | false =>
    show tb σ H2 Q
    exact h2 rfl H2 (e.trans e2) Q fun v H3 e3 => q v H3 (e2.trans e3)
theorem rv_notB {a b : Bool} : RV rNotB (.bl a) (.bl b) H (.bl (!decide (a = b))) := fun H1 _ _ q => ⟨a, b, rfl, rfl, q H1 (Ex.refl H1)⟩
theorem rv_isB {a b : Bool} : RV rIsB (.bl a) (.bl b) H (.bl (decide (a = b))) := fun H1 _ _ q => ⟨a, b, rfl, rfl, q H1 (Ex.refl H1)⟩
/-- a for over a list written in its head, one object alone is changed -/
theorem g_forXl {xs : List V} {tl : TE} {j : Nat} {l : Addr} {o : HO} (h : EvL tl σ H xs) (hl : H l = some o) (W : Nat → L2.St → Hp → Prop) (h0 : ∀ H1, Ex H H1 → W 0 σ H1)
    (hs : ∀ B, Ex H B → ∀ i x σ' H', xs[i]? = some x → Xl l B H' → W i σ' H' → Go tu { D with nx := fun σ2 H2 => Xl l B H2 ∧ W (i + 1) σ2 H2, ct := fun σ2 H2 => Xl l B H2 ∧ W (i + 1) σ2 H2, bk := tz D } (σ'.set j (some x)) H')
    (hd : ∀ σ' H', Xl l H H' → W xs.length σ' H' → Go tz D σ' H') : Go (tSeq (tFor (iList K tl) (gName j) tu) tz) D σ H := fun H' e => by
  have hl' := e l _ hl
  refine h H' e _ fun p B np e1 hp => ?_
  have npl : p ≠ l := fun z => by rw [z, hl'] at np; cases np
  refine ⟨p, rfl, ⟨xs, sq_of hp⟩, ?_⟩
  refine for_it (D := { D with nx := tz D }) (G := fun H2 => SqL K H2 p xs) walk_list (fun i σ' H2 => Xl l B H2 ∧ W i σ' H2) ⟨Xl.of (Ex.refl B), h0 B (e.trans e1)⟩ (fun i σ' H2 _ w => sq_of (w.1 p _ npl hp)) (fun i x σ' H2 H3 hi w y => ?_) (fun σ' H2 w => (hd σ' H2 ((Xl.of (e.trans e1)).trans w.1) w.2).at)
  obtain ⟨rfl, y2⟩ := y
  exact (hs B (e.trans e1) i x σ' _ y2 w.1 w.2).at
end
/-! ### the first of what is given -/
theorem given_none {c : Nat → Bool} {w : Nat → V} : ∀ {n : Nat}, (∀ i, i < n → c i = false) → given n c w = []
  | 0, _ => rfl
  | n + 1, h => by rw [given_no (h n (by omega))]; exact given_none fun i hi => h i (by omega)
theorem given_first {c : Nat → Bool} {w : Nat → V} {k : Nat} (h : ∀ i, i < k → c i = false) (hk : c k = true) : ∀ {n : Nat}, k < n → (given n c w).take 1 = [w k]
  | 0, hn => absurd hn (by omega)
  | n + 1, hn => by
    by_cases q : k < n
    · have ih := given_first h hk (w := w) q
      have hne : 1 ≤ (given n c w).length := by
        cases z : given n c w with
        | nil => rw [z] at ih; cases ih
        | cons a b => simp
      cases z : c n with
      | true => rw [given_yes z, List.take_append_of_le_length hne]; exact ih
      | false => rw [given_no z]; exact ih
    · have : k = n := by omega
      subst this
      rw [given_yes hk, given_none h]
      rfl
end RG
namespace RP
open PySem PySem.Spec PyProof.Rows L2 Evl RG RS
def topS (i : Nat) : Stmt := PySem.Challenge.pw_ringsteps_k04_whole_first.main.body.getD i (.Pass ⟨0, 0, 0, 0⟩)
section
variable {P : Program} {w : World} {K : PySem.W.Frag} {mg : Str → Option Value} {base : Heap} {f f1 f2 f3 f4 f5 f6 f7 f8 f9 : Addr} {fd fd1 fd2 fd3 fd4 fd5 fd6 fd7 fd8 fd9 : FuncData}
/-! ### the numbers -/
abbrev s_is_number : Stmt := topS 6
theorem sc_is_number : FnScope ["thing", "least", "most"] ["thing", "least", "most"] (defScope s_is_number) := ⟨rfl, rfl, rfl, by decide +kernel, rfl, by decide +kernel, by decide +kernel⟩
def spIsNum (K : PySem.W.Frag) : Sp := fun vs H Q _ => ∃ x l m, vs = [x, .int l, m] ∧ Kn K H x ∧ (∀ i, x = .int i → ∃ j, m = .int j) ∧ ∀ H', Ex H H' → Q (.bl (numW x l m)) H'
theorem spv_isNum {K : PySem.W.Frag} {H : Hp} {x m : V} {l : Int} (h : Kn K H x) (h2 : ∀ i, x = .int i → ∃ j, m = .int j) : SpV (spIsNum K) [x, .int l, m] H (.bl (numW x l m)) :=
  fun H1 e Q q E => ⟨x, l, m, rfl, h.ex e, h2, q⟩
theorem ok_is_number (hA : Blt mg) (F : Fun K "is_number" "is_number" s_is_number f fd) : FnOk P w K mg base CX0 1 f fd ["thing", "least", "most"] (spIsNum K) := by
  refine F.ok sc_is_number (fun vs H Q E h => ?_) (fun cdv A outer s H vs Q E hr h => ?_)
  · obtain ⟨x, l, m, rfl, _⟩ := h
    rfl
  · obtain ⟨x, l, m, rfl, hx, hm, k⟩ := h
    refine ⟨_, (pss_cons (ps_ret (pe_and (pe_callB call_isi rfl hA.z_isinstance (by decide +kernel) (pa_cons (pv 0) (pa_cons (pe_bltn (v := .ty "int") (u := .type "int") rfl hA.z_int (by decide +kernel) rfl) pa_nil))) (pe_and (pe_not (pe_callB call_isi rfl hA.z_isinstance (by decide +kernel) (pa_cons (pv 0) (pa_cons (pe_bltn (v := .ty "bool") (u := .type "bool") rfl hA.z_bool (by decide +kernel) rfl) pa_nil)))) (pe_one (pe_chain op_le op_le (pv 1) (pv 0) (pv 2))))))
      pss_nil), Go.at (g_ret (v := .bl (numW x l m)) ?_ k)⟩
    have e1 : Ev (tCB (rIsi K) (tCons (tVar 0) (tCons (tC (.ty "int")) tNil))) (start ["thing", "least", "most"] [x, .int l, m]) H (.bl (isI x)) := ev_isInt (ev_var rfl) hx
    have e2 : Ev (tCB (rIsi K) (tCons (tVar 0) (tCons (tC (.ty "bool")) tNil))) (start ["thing", "least", "most"] [x, .int l, m]) H (.bl (isB x)) := ev_isBool (ev_var rfl) hx
    cases x with
    | int i =>
      obtain ⟨j, rfl⟩ := hm i rfl
      exact ev_is (ev_andV e1 fun _ => ev_andV (ev_notV e2) fun _ => ev_chainI (ev_var rfl) (ev_var rfl) (ev_var rfl)) rfl
    | bl b => exact ev_andV (b := false) e1 fun _ => ev_andV (b := false) (ev_notV e2) fun h => nomatch h
    | _ => exact ev_andV (b := false) e1 fun h => nomatch h
abbrev s_common : Stmt := topS 7
theorem sc_common : FnScope ["one", "other"] ["one", "other"] (defScope s_common) := ⟨rfl, rfl, rfl, by decide +kernel, rfl, by decide +kernel, by decide +kernel⟩
def spCommon : Sp := fun vs H Q _ => ∃ a b : Int, vs = [.int a, .int b] ∧ 0 ≤ a ∧ 0 ≤ b ∧ ∀ H', Ex H H' → Q (.int (G a b)) H'
theorem spv_common {H : Hp} {a b : Int} (h : 0 ≤ a) (h2 : 0 ≤ b) : SpV spCommon [.int a, .int b] H (.int (G a b)) := fun H1 e Q q E => ⟨a, b, rfl, h, h2, q⟩
theorem ok_common (F : Fun K "common" "common" s_common f fd) : FnOk P w K mg base CX0 1 f fd ["one", "other"] spCommon := by
  refine F.ok sc_common (fun vs H Q E h => ?_) (fun cdv A outer s H vs Q E hr h => ?_)
  · obtain ⟨a, b, rfl, _⟩ := h
    rfl
  · obtain ⟨a, b, rfl, ha, hb, k⟩ := h
    refine ⟨_, (pss_cons (ps_while PassesOwn.never (pt_cmpR op_gt (pv 1) pe_int (nomark _)) (pss_cons (ps_par (i := 0) (j := 1) (by rfl) sc_common.nd rfl rfl (by decide) rfl rfl (pa_cons (pv 1) (pa_cons (pe_op op_mod (pv 0) (pv 1)) pa_nil)) (by rfl))
      pss_nil))
      (pss_cons (ps_ret (pv 0))
      pss_nil)), Go.at ?_⟩
    refine g_while (fun σ => ∃ x y : Int, σ = [some (.int x), some (.int y)] ∧ 0 ≤ x ∧ 0 ≤ y ∧ G x y = G a b) (fun σ => match σ with | [_, some (.int y)] => y.toNat | _ => 0) ⟨a, b, rfl, ha, hb, rfl⟩ ?_
    rintro σ ⟨x, y, rfl, hx, hy, hg⟩
    refine ⟨_, et_test (ev_op (ev_var rfl) ev_c rv_I0), fun hb => ?_, fun hb => ?_⟩
    · have hy : 0 < y := of_decide_eq_true hb
      refine g_par (ea_cons (ev_var rfl) (ea_cons (ev_op (ev_var rfl) (ev_var rfl) (rv_I hy)) ea_nil)) (g_next fun H' e => ⟨e, ⟨y, x % y, rfl, by omega, Int.emod_nonneg _ (by omega), by rw [G_step x y hy, hg]⟩, ?_⟩)
      have := Int.emod_lt_of_pos x hy
      have := Int.emod_nonneg x (show y ≠ 0 by omega)
      show (x % y).toNat < y.toNat
      omega
    · have hy0 : y = 0 := by have := of_decide_eq_false hb; omega
      subst hy0
      rw [G_zero hx] at hg
      subst hg
      exact g_ret (ev_var rfl) k
abbrev s_check_ring : Stmt := topS 8
theorem sc_check_ring : FnScope ["places", "step"] ["places", "step"] (defScope s_check_ring) := ⟨rfl, rfl, rfl, by decide +kernel, rfl, by decide +kernel, by decide +kernel⟩
def spRing (K : PySem.W.Frag) (c : Cs) : Sp := fun vs H Q E => ∃ p s, vs = [p, s] ∧ Kn K H p ∧ Kn K H s ∧ Fin (ringO c p s) H Q E
theorem spx_ring {K : PySem.W.Frag} {c : Cs} {H : Hp} {p s : V} (h : Kn K H p) (h2 : Kn K H s) : SpX (spRing K c) [p, s] H (ringO c p s) := fun H1 e Q E q r => ⟨p, s, rfl, h.ex e, h2.ex e, q, r⟩
theorem ok_check_ring {c : Cs} (F : Fun K "check_ring" "check_ring" s_check_ring f fd) (G_is_number : FnOk P w K mg base CX0 1 f1 fd1 ["thing", "least", "most"] (spIsNum K)) (A_is_number : At K mg "is_number" s_is_number ["thing", "least", "most"] f1 fd1)
    (E_BadPlaces : ErrAt K mg "BadPlaces" c.cp) (E_BadStep : ErrAt K mg "BadStep" c.cs) : FnOk P w K mg base (L2.CX P w) 2 f fd ["places", "step"] (spRing K c) := by
  refine F.okX sc_check_ring (fun vs H Q E h => ?_) (fun cdv A outer s H vs Q E hr h => ?_)
  · obtain ⟨p, s, rfl, _⟩ := h
    rfl
  · obtain ⟨p, s, rfl, hp, hs, k⟩ := h
    refine ⟨_, (pss_cons (ps_if (pt_not (pt_val (pe_call G_is_number (hr.mono (by omega)) rfl A_is_number.g A_is_number.fn.kp A_is_number.b .nil pass0 (pa_cons (pv 0) (pa_cons pe_int (pa_cons (pv 0) pa_nil)))))) (pss_cons (ps_raise rfl (takes_of rfl rfl rfl rfl) (pmk_own PySem.F.excBase_ValueError E_BadPlaces.x E_BadPlaces.g E_BadPlaces.k (raises_own E_BadPlaces.b E_BadPlaces.t) rfl))
      pss_nil) pss_nil)
      (pss_cons (ps_if (pt_not (pt_val (pe_call G_is_number (hr.mono (by omega)) rfl A_is_number.g A_is_number.fn.kp A_is_number.b .nil pass0 (pa_cons (pv 1) (pa_cons pe_int (pa_cons (pe_op op_sub (pv 0) pe_int) pa_nil)))))) (pss_cons (ps_raise rfl (takes_of rfl rfl rfl rfl) (pmk_own PySem.F.excBase_ValueError E_BadStep.x E_BadStep.g E_BadStep.k (raises_own E_BadStep.b E_BadStep.t) rfl))
      pss_nil) pss_nil)
      pss_nil)), Go.at ?_⟩
    refine g_when (et_not (et_B (ev_call1 (ea_cons (ev_var rfl) (ea_cons ev_c (ea_cons (ev_var rfl) ea_nil))) (spv_isNum hp fun i e => ⟨i, e⟩)))) (fun h => ?_) (fun h => ?_)
    · refine g_raise fun H1 e => k.2 _ ?_ H1 e
      rw [numW_okP] at h
      unfold ringO
      rw [if_neg (by first | exact nf h | exact nt h)]
    · rw [numW_okP] at h
      have h' : okP p = true := by simpa using h
      obtain ⟨P, rfl, hP⟩ := okP_iff.mp h'
      refine g_when (et_not (et_B (ev_call1 (ea_cons (ev_var rfl) (ea_cons ev_c (ea_cons (ev_op (ev_var rfl) ev_c rv_I0) ea_nil))) (spv_isNum hs fun i e => ⟨_, rfl⟩)))) (fun h2 => ?_) (fun h2 => ?_)
      · refine g_raise fun H1 e => k.2 _ ?_ H1 e
        rw [numW_okIn] at h2
        unfold ringO
        rw [if_pos h']; exact if_neg (nf h2)
      · refine g_next fun H1 e => k.1 .non ?_ H1 e
        rw [numW_okIn] at h2
        unfold ringO
        rw [if_pos h']; exact if_pos (nt h2)
abbrev s_check_stretch : Stmt := topS 9
theorem sc_check_stretch : FnScope ["places", "begin", "end"] ["places", "begin", "end"] (defScope s_check_stretch) := ⟨rfl, rfl, rfl, by decide +kernel, rfl, by decide +kernel, by decide +kernel⟩
def spStretch (K : PySem.W.Frag) (c : Cs) : Sp := fun vs H Q E => ∃ P b e, vs = [.int P, b, e] ∧ Kn K H b ∧ Kn K H e ∧ Fin (stretchO c (.int P) b e) H Q E
theorem spx_stretch {K : PySem.W.Frag} {c : Cs} {H : Hp} {P : Int} {b e : V} (h : Kn K H b) (h2 : Kn K H e) : SpX (spStretch K c) [.int P, b, e] H (stretchO c (.int P) b e) := fun H1 x Q E q r => ⟨P, b, e, rfl, h.ex x, h2.ex x, q, r⟩
theorem ok_check_stretch {c : Cs} (F : Fun K "check_stretch" "check_stretch" s_check_stretch f fd) (G_is_number : FnOk P w K mg base CX0 1 f1 fd1 ["thing", "least", "most"] (spIsNum K)) (A_is_number : At K mg "is_number" s_is_number ["thing", "least", "most"] f1 fd1)
    (E_BadPlace : ErrAt K mg "BadPlace" c.cl) : FnOk P w K mg base (L2.CX P w) 2 f fd ["places", "begin", "end"] (spStretch K c) := by
  refine F.okX sc_check_stretch (fun vs H Q E h => ?_) (fun cdv A outer s H vs Q E hr h => ?_)
  · obtain ⟨p, b, e, rfl, _⟩ := h
    rfl
  · obtain ⟨P, b, e, rfl, hb, he, k⟩ := h
    refine ⟨_, (pss_cons (ps_if (PW.pt (pw_or (pt_not (pt_val (pe_call G_is_number (hr.mono (by omega)) rfl A_is_number.g A_is_number.fn.kp A_is_number.b .nil pass0 (pa_cons (pv 1) (pa_cons pe_int (pa_cons (pe_op op_sub (pv 0) pe_int) pa_nil)))))) (pw_or (pt_not (pt_val (pe_call G_is_number (hr.mono (by omega)) rfl A_is_number.g A_is_number.fn.kp A_is_number.b .nil pass0 (pa_cons (pv 2) (pa_cons pe_int (pa_cons (pe_op op_sub (pv 0) pe_int) pa_nil)))))) (pw_or1 (pt_cmpR op_gt (pv 1) (pv 2) (nomark _)))))) (pss_cons (ps_raise rfl (takes_of rfl rfl rfl rfl) (pmk_own PySem.F.excBase_ValueError E_BadPlace.x E_BadPlace.g E_BadPlace.k (raises_own E_BadPlace.b E_BadPlace.t) rfl))
      pss_nil) pss_nil)
      pss_nil), Go.at ?_⟩
    have n1 : EvT (tNot (tB (tCall (spIsNum K) [] E0 (tCons (tVar 1) (tCons (tC (.int 0)) (tCons (tOp (rI0 fun i j => .int (i - j)) (tVar 0) (tC (.int 1))) tNil)))))) (start ["places", "begin", "end"] [.int P, b, e]) H (!numW b 0 (.int (P - 1))) := et_not (et_B (ev_call1 (ea_cons (ev_var rfl) (ea_cons ev_c (ea_cons (ev_op (ev_var rfl) ev_c rv_I0) ea_nil))) (spv_isNum hb fun i e => ⟨_, rfl⟩)))
    have n2 : EvT (tNot (tB (tCall (spIsNum K) [] E0 (tCons (tVar 2) (tCons (tC (.int 0)) (tCons (tOp (rI0 fun i j => .int (i - j)) (tVar 0) (tC (.int 1))) tNil)))))) (start ["places", "begin", "end"] [.int P, b, e]) H (!numW e 0 (.int (P - 1))) := et_not (et_B (ev_call1 (ea_cons (ev_var rfl) (ea_cons ev_c (ea_cons (ev_op (ev_var rfl) ev_c rv_I0) ea_nil))) (spv_isNum he fun i e => ⟨_, rfl⟩)))
    rw [numW_okIn] at n1 n2
    have eO : stretchO c (.int P) b e = if okIn b 0 (P - 1) && okIn e 0 (P - 1) && decide (iv b ≤ iv e) then .val .non else .err c.cl := rfl
    refine g_when (b := !(okIn b 0 (P - 1) && okIn e 0 (P - 1) && decide (iv b ≤ iv e))) ?_ (fun h => ?_) (fun h => ?_)
    · cases q1 : okIn b 0 (P - 1) with
      | false => rw [q1] at n1; exact et_or (b := false) n1 fun h => nomatch h
      | true =>
        rw [q1] at n1
        refine et_or n1 fun _ => ?_
        cases q2 : okIn e 0 (P - 1) with
        | false => rw [q2] at n2; exact et_or (b := false) n2 fun h => nomatch h
        | true =>
          rw [q2] at n2
          obtain ⟨B, rfl, _⟩ := okIn_iff.mp q1
          obtain ⟨E', rfl, _⟩ := okIn_iff.mp q2
          refine et_or n2 fun _ => et_is (et_test (ev_op (ev_var rfl) (ev_var rfl) rv_I0)) ?_
          show decide (E' < B) = !(true && true && decide (B ≤ E'))
          by_cases z : B ≤ E'
          · rw [decide_eq_true z, decide_eq_false (by omega)]; rfl
          · rw [decide_eq_false z, decide_eq_true (by omega)]; rfl
    · rw [eO, if_neg (nf h)] at k
      exact g_raise fun H1 e => k.err H1 e
    · rw [eO, if_pos (nt h)] at k
      exact g_next fun H1 e => k.val H1 e
abbrev s_quotients : Stmt := topS 10
theorem sc_quotients : FnScope ["many", "by", "times", "more", "rest", "found", "last"] ["many", "by", "times", "more"] (defScope s_quotients) := ⟨rfl, rfl, rfl, by decide +kernel, rfl, by decide +kernel, by decide +kernel⟩
def spQuot : Sp := fun vs H Q _ => ∃ (n : Nat) (m a b : Int), vs = [.int n, .int m, .int a, .int b] ∧ 0 < m ∧ 0 ≤ a ∧ Lv 1 n ∧ Lv 1 m ∧ Lv 1 a ∧ Lv 4 b ∧ ∀ H', Ex H H' → Q (.int (S n m a b)) H'
theorem spv_quot {H : Hp} {n m a b : Int} (h0 : 0 ≤ n) (h : 0 < m) (h2 : 0 ≤ a) (l1 : Lv 1 n) (l2 : Lv 1 m) (l3 : Lv 1 a) (l4 : Lv 4 b) : SpV spQuot [.int n, .int m, .int a, .int b] H (.int (S n.toNat m a b)) := fun H1 e Q q E => by
  have : ((n.toNat : Nat) : Int) = n := by omega
  exact ⟨n.toNat, m, a, b, by rw [this], h, h2, by rw [this]; exact l1, l2, l3, l4, q⟩
theorem ok_quotients (F : Fun K "quotients" "quotients" s_quotients f fd) : FnOk P w K mg base CX0 1 f fd ["many", "by", "times", "more"] spQuot := by
  refine F.ok sc_quotients (fun vs H Q E h => ?_) (fun cdv A outer s H vs Q E hr h => ?_)
  · obtain ⟨n, m, a, b, rfl, _⟩ := h
    rfl
  · obtain ⟨n, m, a, b, rfl, hm, ha, l1, l2, l3, l4, k⟩ := h
    refine ⟨_, (pss_cons (ps_set (i := 4) sc_quotients.nd rfl (Or.inl rfl) (pe_op op_mod (pv 3) (pv 1)))
      (pss_cons (ps_set (i := 5) sc_quotients.nd rfl (Or.inl rfl) (pe_op op_mulB (pv 0) (pe_op op_fdivW (pe_op op_sub (pv 3) (pv 4)) (pv 1))))
      (pss_cons (ps_set (i := 3) sc_quotients.nd rfl (Or.inl rfl) (pv 4))
      (pss_cons (ps_while PassesOwn.never (pt_cmpR op_gt (pv 0) pe_int (nomark _)) (pss_cons (ps_aug (i := 5) sc_quotients.nd rfl (Or.inl rfl) (pe_op op_add (pe_op op_mulB (pe_op op_fdivW (pe_op op_mulB (pv 0) (pe_op op_sub (pv 0) pe_int)) pe_int) (pe_op op_fdivW (pv 2) (pv 1))) (pe_op op_mulB (pv 0) (pe_op op_fdivW (pv 3) (pv 1)))) ip_add)
      (pss_cons (ps_par (i := 2) (j := 3) (by rfl) sc_quotients.nd rfl rfl (by decide) rfl rfl (pa_cons (pe_op op_mod (pv 2) (pv 1)) (pa_cons (pe_op op_mod (pv 3) (pv 1)) pa_nil)) (by rfl))
      (pss_cons (ps_set (i := 6) sc_quotients.nd rfl (Or.inl rfl) (pe_op op_add (pe_op op_mulB (pv 2) (pv 0)) (pv 3)))
      (pss_cons (ps_if (pt_cmpR op_lt (pv 6) (pv 1) (nomark _)) (pss_cons (ps_ret (pv 5))
      pss_nil) pss_nil)
      (pss_cons (ps_asg (pe_tup (pa_cons (pe_op op_fdivW (pv 6) (pv 1)) (pa_cons (pe_op op_mod (pv 6) (pv 1)) (pa_cons (pv 2) (pa_cons (pv 1) pa_nil))))) (pg_tup rfl (pgs_cons (pg_name (i := 0) sc_quotients.nd rfl (Or.inl rfl)) (pgs_cons (pg_name (i := 3) sc_quotients.nd rfl (Or.inl rfl)) (pgs_cons (pg_name (i := 1) sc_quotients.nd rfl (Or.inl rfl)) (pgs_cons (pg_name (i := 2) sc_quotients.nd rfl (Or.inl rfl)) pgs_nil))))))
      pss_nil))))))
      (pss_cons (ps_ret (pv 5))
      pss_nil))))), Go.at ?_⟩
    refine g_asg (ev_op (ev_var rfl) (ev_var rfl) (rv_I hm)) ?_
    refine g_asg (ev_op (ev_var rfl) (ev_op (ev_op (ev_var rfl) (ev_var rfl) rv_I0) (ev_var rfl) (rv_I (div_ok hm l2))) (rv_I (mul_ok l1 (lv_div (lv_sub l4 (lv_mod l2 hm)) hm) (by decide) (by decide)))) ?_
    refine g_asg (ev_var rfl) ?_
    have d : (b - b % m) / m = b / m := by
      have h := Int.emod_add_mul_ediv b m
      have e : b - b % m = m * (b / m) := by omega
      rw [e]; exact Int.mul_ediv_cancel_left _ (by omega)
    refine g_while (fun σ => ∃ (n' : Nat) (m' a' b' r t : Int) (l : Option V), σ = [some (.int n'), some (.int m'), some (.int a'), some (.int b'), some (.int r), some (.int t), l] ∧ 0 < m' ∧ 0 ≤ a' ∧ 0 ≤ b' ∧ Lv 1 n' ∧ Lv 1 m' ∧ Lv 1 a' ∧ Lv 1 b' ∧ t + S n' m' a' b' = S n m a b)
      (fun σ => match σ with | some (.int n') :: some (.int m') :: _ => m'.toNat | _ => 0) ⟨n, m, a, b % m, b % m, n * ((b - b % m) / m), none, rfl, hm, ha, Int.emod_nonneg _ (by omega), l1, l2, l3, lv_mod l2 hm, by rw [d, S_redb n m a b hm]⟩ ?_
    rintro σ ⟨n', m', a', b', r, t, l, rfl, hm', ha', hb', ln, lm, la, lb, hT⟩
    refine ⟨_, et_test (ev_op (ev_var rfl) ev_c rv_I0), fun h => ?_, fun h => ?_⟩
    · have hn : 0 < (n' : Int) := of_decide_eq_true h
      refine g_aug (f := fun i j => i + j) rfl (ev_op (ev_op (ev_op (ev_op (ev_var rfl) (ev_op (ev_var rfl) ev_c rv_I0) (rv_I (mul_ok ln (lv_sub ln (lv_small (by decide))) (by decide) (by decide)))) ev_c (rv_I (div_ok (by decide) (lv_small (by decide)))))
        (ev_op (ev_var rfl) (ev_var rfl) (rv_I (div_ok hm' lm))) (rv_I (mul_ok (lv_div (lv_mul ln (lv_sub ln (lv_small (by decide)))) (by decide)) (lv_div la hm') (by decide) (by decide))))
        (ev_op (ev_var rfl) (ev_op (ev_var rfl) (ev_var rfl) (rv_I (div_ok hm' lm))) (rv_I (mul_ok ln (lv_div lb hm') (by decide) (by decide)))) rv_I0) ?_
      refine g_par (ea_cons (ev_op (ev_var rfl) (ev_var rfl) (rv_I hm')) (ea_cons (ev_op (ev_var rfl) (ev_var rfl) (rv_I hm')) ea_nil)) ?_
      refine g_asg (ev_op (ev_op (ev_var rfl) (ev_var rfl) (rv_I (mul_ok (lv_mod lm hm') ln (by decide) (by decide)))) (ev_var rfl) rv_I0) ?_
      have red := S_red n' m' a' b' hm'
      have a0 := Int.emod_nonneg a' (show m' ≠ 0 by omega)
      have a1 := Int.emod_lt_of_pos a' hm'
      have b0 := Int.emod_nonneg b' (show m' ≠ 0 by omega)
      have b1 := Int.emod_lt_of_pos b' hm'
      have x0 : 0 ≤ a' % m' * (n' : Int) := Int.mul_nonneg a0 (by omega)
      refine g_when (et_test (ev_op (ev_var rfl) (ev_var rfl) rv_I0)) (fun h => ?_) (fun h => ?_)
      · have h1 : a' % m' * (n' : Int) + b' % m' < m' := of_decide_eq_true h
        have z := S_zero n' m' (a' % m') (b' % m') hm' a0 b0 h1
        rw [z] at red
        refine g_ret (v := .int (S n m a b)) (ev_is (ev_var rfl) ?_) k
        rw [← hT, red]
        simp
      · have h1 : m' ≤ a' % m' * (n' : Int) + b' % m' := by have := of_decide_eq_false h; omega
        have ap : 0 < a' % m' := by
          rcases Int.lt_or_le 0 (a' % m') with q | q
          · exact q
          · have : a' % m' = 0 := by omega
            rw [this, Int.zero_mul] at h1
            omega
        have fl := S_flip n' m' (a' % m') (b' % m') ap a1 b0 b1
        have q0 : 0 ≤ (a' % m' * (n' : Int) + b' % m') / m' := Int.ediv_nonneg (by omega) (by omega)
        have qn : (a' % m' * (n' : Int) + b' % m') / m' ≤ n' := by
          have : (a' % m' * (n' : Int) + b' % m') / m' < n' + 1 := by
            refine Int.ediv_lt_of_lt_mul hm' ?_
            have h2 : a' % m' * (n' : Int) ≤ (m' - 1) * n' := Int.mul_le_mul_of_nonneg_right (by omega) (by omega)
            have h3 : (m' - 1) * (n' : Int) = m' * n' - n' := by rw [Int.sub_mul, Int.one_mul]
            have h4 : ((n' : Int) + 1) * m' = m' * n' + m' := by rw [Int.add_mul, Int.one_mul, Int.mul_comm]
            omega
          omega
        obtain ⟨N, hN⟩ : ∃ N : Nat, (a' % m' * (n' : Int) + b' % m') / m' = N := ⟨((a' % m' * (n' : Int) + b' % m') / m').toNat, by omega⟩
        have eN : ((a' % m' * (n' : Int) + b' % m') / m').toNat = N := by omega
        rw [eN] at fl
        refine g_asg4 (eu_tup (ea_cons (ev_is (ev_op (ev_var rfl) (ev_var rfl) (rv_I (div_ok hm' lm))) (congrArg V.int hN)) (ea_cons (ev_op (ev_var rfl) (ev_var rfl) (rv_I hm')) (ea_cons (ev_var rfl) (ea_cons (ev_var rfl) ea_nil)))) (by show 4 ≤ 100000; decide)) (g_next fun H' e => ⟨e, ⟨N, a' % m', m', (a' % m' * (n' : Int) + b' % m') % m', r, t + (n' * (n' - 1) / 2 * (a' / m') + n' * (b' / m')), some (.int (a' % m' * (n' : Int) + b' % m')), rfl, ap, by omega, Int.emod_nonneg _ (by omega), lv_le ln (by omega) (by omega), lv_mod lm hm', lm, lv_mod lm hm', ?_⟩, ?_⟩)
        · rw [← fl, ← hT, red]
          omega
        · show (a' % m').toNat < m'.toNat
          omega
    · have hn : n' = 0 := by have := of_decide_eq_false h; omega
      subst hn
      refine g_ret (v := .int (S n m a b)) (ev_is (ev_var rfl) ?_) k
      rw [← hT]
      simp [S, sumN]
abbrev s_marks_to : Stmt := topS 11
theorem sc_marks_to : FnScope ["places", "step", "marks", "place"] ["places", "step", "marks", "place"] (defScope s_marks_to) := ⟨rfl, rfl, rfl, by decide +kernel, rfl, by decide +kernel, by decide +kernel⟩
def spMarksTo : Sp := fun vs H Q _ => ∃ p s n x : Int, vs = [.int p, .int s, .int n, .int x] ∧ Ring p s ∧ 0 ≤ n ∧ 0 ≤ x ∧ x < p ∧ Lv 1 p ∧ Lv 1 n ∧ ∀ H', Ex H H' → Q (.int (cnt p s n.toNat x)) H'
theorem spv_marksTo {H : Hp} {p s n x : Int} (R : Ring p s) (h0 : 0 ≤ n) (h : 0 ≤ x) (h2 : x < p) (l1 : Lv 1 p) (l2 : Lv 1 n) : SpV spMarksTo [.int p, .int s, .int n, .int x] H (.int (cnt p s n.toNat x)) := fun H1 e Q q E => ⟨p, s, n, x, rfl, R, h0, h, h2, l1, l2, q⟩
theorem ok_marks_to (F : Fun K "marks_to" "marks_to" s_marks_to f fd) (G_quotients : FnOk P w K mg base CX0 1 f1 fd1 ["many", "by", "times", "more"] spQuot) (A_quotients : At K mg "quotients" s_quotients ["many", "by", "times", "more"] f1 fd1) : FnOk P w K mg base CX0 2 f fd ["places", "step", "marks", "place"] spMarksTo := by
  refine F.ok sc_marks_to (fun vs H Q E h => ?_) (fun cdv A outer s H vs Q E hr h => ?_)
  · obtain ⟨p, s, n, x, rfl, _⟩ := h
    rfl
  · obtain ⟨p, s, n, x, rfl, R, hn, hx, hxp, lp, ln, k⟩ := h
    have lx : Lv 1 x := lv_le lp hx (by omega)
    refine ⟨_, (pss_cons (ps_ret (pe_op op_sub (pe_call G_quotients (hr.mono (by omega)) rfl A_quotients.g A_quotients.fn.kp A_quotients.b .nil pass0 (pa_cons (pv 2) (pa_cons (pv 0) (pa_cons (pv 1) (pa_cons pe_int pa_nil))))) (pe_call G_quotients (hr.mono (by omega)) rfl A_quotients.g A_quotients.fn.kp A_quotients.b .nil pass0 (pa_cons (pv 2) (pa_cons (pv 0) (pa_cons (pv 1) (pa_cons (pe_op op_sub (pe_un un_neg (pv 3)) pe_int) pa_nil)))))))
      pss_nil), Go.at (g_ret (v := .int (cnt p s n.toNat x)) (ev_is (ev_op (ev_call1 (ea_cons (ev_var rfl) (ea_cons (ev_var rfl) (ea_cons (ev_var rfl) (ea_cons ev_c ea_nil)))) (spv_quot hn (by omega) R.s0 ln lp (R.ls lp) (lv_small (by decide) |> (lv_mono · (by decide)))))
      (ev_call1 (ea_cons (ev_var rfl) (ea_cons (ev_var rfl) (ea_cons (ev_var rfl) (ea_cons (ev_op (ev_un (ev_var rfl) ru_neg) ev_c rv_I0) ea_nil)))) (spv_quot hn (by omega) R.s0 ln lp (R.ls lp) (lv_mono (lv_sub (lv_neg lx) (lv_small (by decide))) (by decide)))) rv_I0) ?_) k)⟩
    rw [cnt_S p s n.toNat x hx hxp]
/-! ### answers -/
abbrev s_First___init__ : Stmt := inClass (topS 14) 0
theorem sc_First___init__ : FnScope ["self", "mark"] ["self", "mark"] (defScope s_First___init__) := ⟨rfl, rfl, rfl, by decide +kernel, rfl, by decide +kernel, by decide +kernel⟩
theorem ok_First___init__ {C : Addr} (Cl : Cls K C) (na : NoAttr K C "mark") (F : Fun K "__init__" "First.__init__" s_First___init__ f fd) : FnOk P w K mg base CX0 1 f fd ["self", "mark"] (spIni C "mark") := by
  refine F.ok sc_First___init__ (fun vs H Q E h => ?_) (fun cdv A outer s H vs Q E hr h => ?_)
  · obtain ⟨p, dx, x, rfl, _⟩ := h
    rfl
  · obtain ⟨p, dx, x, rfl, h1, k⟩ := h
    exact ⟨_, (pss_cons (ps_fld (pv 0) (pv 1) rfl)
      pss_nil), ini_body Cl na h1 k⟩
abbrev s_Never___init__ : Stmt := inClass (topS 15) 0
theorem sc_Never___init__ : FnScope ["self", "common"] ["self", "common"] (defScope s_Never___init__) := ⟨rfl, rfl, rfl, by decide +kernel, rfl, by decide +kernel, by decide +kernel⟩
theorem ok_Never___init__ {C : Addr} (Cl : Cls K C) (na : NoAttr K C "common") (F : Fun K "__init__" "Never.__init__" s_Never___init__ f fd) : FnOk P w K mg base CX0 1 f fd ["self", "common"] (spIni C "common") := by
  refine F.ok sc_Never___init__ (fun vs H Q E h => ?_) (fun cdv A outer s H vs Q E hr h => ?_)
  · obtain ⟨p, dx, x, rfl, _⟩ := h
    rfl
  · obtain ⟨p, dx, x, rfl, h1, k⟩ := h
    exact ⟨_, (pss_cons (ps_fld (pv 0) (pv 1) rfl)
      pss_nil), ini_body Cl na h1 k⟩
abbrev s_First_shows : Stmt := inClass (topS 14) 1
theorem sc_First_shows : FnScope ["self", "places", "step", "begin", "end", "before"] ["self", "places", "step", "begin", "end"] (defScope s_First_shows) := ⟨rfl, rfl, rfl, by decide +kernel, rfl, by decide +kernel, by decide +kernel⟩
/-- an answer's one attribute -/
def AnsAt (H : Hp) (C p : Addr) (f : Str) (m : Int) : Prop := ∃ dx, H p = some (.ins C dx [(f, .int m)])
theorem AnsAt.ex {H H' : Hp} {C p : Addr} {f : Str} {m : Int} (h : AnsAt H C p f m) (e : Ex H H') : AnsAt H' C p f m := let ⟨dx, h⟩ := h; ⟨dx, e p _ h⟩
def spShF (C : Addr) : Sp := fun vs H Q _ => ∃ (a : Addr) (m p s b e : Int), vs = [.ref a, .int p, .int s, .int b, .int e] ∧ AnsAt H C a "mark" m ∧ Ring p s ∧ 0 ≤ b ∧ b ≤ e ∧ e < p ∧ Lv 1 p ∧ Lv 1 m ∧ ∀ H', Ex H H' → Q (.bl (showsF p s b e m)) H'
theorem spv_shF {C : Addr} {H : Hp} {a : Addr} {m p s b e : Int} (h : AnsAt H C a "mark" m) (R : Ring p s) (b0 : 0 ≤ b) (be : b ≤ e) (ep : e < p) (l1 : Lv 1 p) (l2 : Lv 1 m) : SpV (spShF C) [.ref a, .int p, .int s, .int b, .int e] H (.bl (showsF p s b e m)) :=
  fun H1 x Q q E => ⟨a, m, p, s, b, e, rfl, h.ex x, R, b0, be, ep, l1, l2, q⟩
theorem ok_First_shows {C : Addr} (Cl : Cls K C) (na : NoAttr K C "mark") (F : Fun K "shows" "First.shows" s_First_shows f fd) (G_is_number : FnOk P w K mg base CX0 1 f1 fd1 ["thing", "least", "most"] (spIsNum K)) (A_is_number : At K mg "is_number" s_is_number ["thing", "least", "most"] f1 fd1)
    (G_marks_to : FnOk P w K mg base CX0 2 f2 fd2 ["places", "step", "marks", "place"] spMarksTo) (A_marks_to : At K mg "marks_to" s_marks_to ["places", "step", "marks", "place"] f2 fd2) : FnOk P w K mg base CX0 3 f fd ["self", "places", "step", "begin", "end"] (spShF C) := by
  refine F.ok sc_First_shows (fun vs H Q E h => ?_) (fun cdv A outer s H vs Q E hr h => ?_)
  · obtain ⟨a, m, p, s, b, e, rfl, _⟩ := h
    rfl
  · obtain ⟨a, m, p, s, b, e, rfl, ⟨dx, hA⟩, R, b0, be, ep, lp, lm, k⟩ := h
    have ls := R.ls lp
    have p1 := R.p
    have lk : List.lookup ("mark" : Str) [(("mark" : Str), V.int m)] = some (V.int m) := by simp [List.lookup]
    refine ⟨_, (pss_cons (ps_if (PW.pt (pw_or (pt_not (pt_val (pe_call G_is_number (hr.mono (by omega)) rfl A_is_number.g A_is_number.fn.kp A_is_number.b .nil pass0 (pa_cons (pe_fld (pv 0) rfl) (pa_cons pe_int (pa_cons (pe_fld (pv 0) rfl) pa_nil)))))) (pw_or1 (pt_not (pt_chain op_le op_le (pv 3) (pe_op op_mod (pe_op op_mulB (pe_fld (pv 0) rfl) (pv 2)) (pv 1)) (pv 4)))))) (pss_cons (ps_ret pe_bl)
      pss_nil) pss_nil)
      (pss_cons (ps_set (i := 5) sc_First_shows.nd rfl (Or.inl rfl) (pe_ifExp (pt_cmpR op_gt (pv 3) pe_int (nomark _)) (pe_call G_marks_to (hr.mono (by omega)) rfl A_marks_to.g A_marks_to.fn.kp A_marks_to.b .nil pass0 (pa_cons (pv 1) (pa_cons (pv 2) (pa_cons (pe_fld (pv 0) rfl) (pa_cons (pe_op op_sub (pv 3) pe_int) pa_nil))))) pe_int))
      (pss_cons (ps_ret (pe_cmpR op_eq (pe_call G_marks_to (hr.mono (by omega)) rfl A_marks_to.g A_marks_to.fn.kp A_marks_to.b .nil pass0 (pa_cons (pv 1) (pa_cons (pv 2) (pa_cons (pe_fld (pv 0) rfl) (pa_cons (pv 4) pa_nil))))) (pv 5) (nomark _)))
      pss_nil))), Go.at ?_⟩
    have mk : Ev (tFld K (tVar 0) "mark") (start ["self", "places", "step", "begin", "end", "before"] [.ref a, .int p, .int s, .int b, .int e]) H (.int m) := ev_fld (ev_var rfl) hA Cl na lk
    refine g_when (b := !(decide (0 ≤ m) && decide (m ≤ m)) || !(decide (b ≤ m * s % p) && decide (m * s % p ≤ e))) (et_or (et_not (et_B (ev_call1 (ea_cons mk (ea_cons ev_c (ea_cons mk ea_nil))) (spv_isNum (x := .int m) lm fun i e => ⟨_, rfl⟩)))) fun _ => et_not (et_test (ev_chainI (ev_var rfl) (ev_op (ev_op mk (ev_var rfl) (rv_I (mul_ok lm ls (by decide) (by decide)))) (ev_var rfl) (rv_I (show (0 : Int) < p by omega))) (ev_var rfl)))) (fun h => ?_) (fun h => ?_)
    · refine g_ret (v := .bl (showsF p s b e m)) (ev_is ev_c ?_) k
      unfold showsF
      rw [Bool.or_eq_true] at h
      rcases h with h | h
      · have : decide (0 ≤ m) = false := by
          cases q : decide (0 ≤ m) with
          | false => rfl
          | true => rw [q] at h; simp at h
        rw [this]; rfl
      · have : (decide (b ≤ m * s % p) && decide (m * s % p ≤ e)) = false := by
          cases q : (decide (b ≤ m * s % p) && decide (m * s % p ≤ e)) with
          | false => rfl
          | true => rw [q] at h; cases h
        rw [this, Bool.and_false]; rfl
    · rw [Bool.or_eq_false_iff] at h
      have h1 : decide (0 ≤ m) = true := by
        have := nt h.1
        rw [Bool.and_eq_true] at this
        exact this.1
      have h2 := nt h.2
      have m0 : 0 ≤ m := of_decide_eq_true h1
      refine g_asg (v := .int (RS.cnt p s m.toNat (b - 1))) (ev_if (et_test (ev_op (ev_var rfl) ev_c rv_I0)) (fun h => ?_) (fun h => ?_)) ?_
      · have : 0 < b := of_decide_eq_true h
        exact ev_call1 (ea_cons (ev_var rfl) (ea_cons (ev_var rfl) (ea_cons mk (ea_cons (ev_op (ev_var rfl) ev_c rv_I0) ea_nil)))) (spv_marksTo R m0 (by omega) (by omega) lp lm)
      · have : ¬ 0 < b := of_decide_eq_false h
        rw [cnt_neg p s m.toNat (b - 1) (by omega) (by omega)]
        exact ev_c
      · have mk : Ev (tFld K (tVar 0) "mark") ((start ["self", "places", "step", "begin", "end", "before"] [.ref a, .int p, .int s, .int b, .int e]).set 5 (some (.int (RS.cnt p s m.toNat (b - 1))))) H (.int m) := ev_fld (ev_var rfl) hA Cl na lk
        refine g_ret (v := .bl (showsF p s b e m)) (ev_is (ev_op (ev_call1 (ea_cons (ev_var rfl) (ea_cons (ev_var rfl) (ea_cons mk (ea_cons (ev_var rfl) ea_nil)))) (spv_marksTo R m0 (by omega) ep lp lm)) (ev_var rfl) (rv_eq rfl)) ?_) k
        unfold showsF
        rw [h1, h2]
        unfold inCnt
        refine congrArg V.bl ?_
        rw [Bool.and_self, Bool.true_and]
        by_cases z : RS.cnt p s m.toNat e = RS.cnt p s m.toNat (b - 1)
        · rw [z, decide_eq_true rfl, decide_eq_true (by omega)]
        · rw [decide_eq_false (fun q => z (by injection q)), decide_eq_false (by omega)]
abbrev s_Never_shows : Stmt := inClass (topS 15) 1
theorem sc_Never_shows : FnScope ["self", "places", "step", "begin", "end"] ["self", "places", "step", "begin", "end"] (defScope s_Never_shows) := ⟨rfl, rfl, rfl, by decide +kernel, rfl, by decide +kernel, by decide +kernel⟩
def spShN (C : Addr) : Sp := fun vs H Q _ => ∃ (a : Addr) (c p s b e : Int), vs = [.ref a, .int p, .int s, .int b, .int e] ∧ AnsAt H C a "common" c ∧ Lv 1 e ∧ Lv 1 c ∧ ∀ H', Ex H H' → Q (.bl (showsN p s b e c)) H'
theorem spv_shN {C : Addr} {H : Hp} {a : Addr} {c p s b e : Int} (h : AnsAt H C a "common" c) (l1 : Lv 1 e) (l2 : Lv 1 c) : SpV (spShN C) [.ref a, .int p, .int s, .int b, .int e] H (.bl (showsN p s b e c)) :=
  fun H1 x Q q E => ⟨a, c, p, s, b, e, rfl, h.ex x, l1, l2, q⟩
theorem ne_int {a b : Int} : (!decide (V.int a = V.int b)) = !decide (a = b) := by
  by_cases z : a = b
  · rw [z, decide_eq_true rfl, decide_eq_true rfl]
  · rw [decide_eq_false z, decide_eq_false (fun q => z (by injection q))]
theorem ok_Never_shows {C : Addr} (Cl : Cls K C) (na : NoAttr K C "common") (F : Fun K "shows" "Never.shows" s_Never_shows f fd) (G_is_number : FnOk P w K mg base CX0 1 f1 fd1 ["thing", "least", "most"] (spIsNum K)) (A_is_number : At K mg "is_number" s_is_number ["thing", "least", "most"] f1 fd1) :
    FnOk P w K mg base CX0 3 f fd ["self", "places", "step", "begin", "end"] (spShN C) := by
  refine F.ok sc_Never_shows (fun vs H Q E h => ?_) (fun cdv A outer s H vs Q E hr h => ?_)
  · obtain ⟨a, m, p, s, b, e, rfl, _⟩ := h
    rfl
  · obtain ⟨a, m, p, s, b, e, rfl, ⟨dx, hA⟩, le, lm, k⟩ := h
    have lk : List.lookup ("common" : Str) [(("common" : Str), V.int m)] = some (V.int m) := by simp [List.lookup]
    refine ⟨_, (pss_cons (ps_if (PW.pt (pw_or (pt_not (pt_val (pe_call G_is_number (hr.mono (by omega)) rfl A_is_number.g A_is_number.fn.kp A_is_number.b .nil pass0 (pa_cons (pe_fld (pv 0) rfl) (pa_cons pe_int (pa_cons (pe_fld (pv 0) rfl) pa_nil)))))) (pw_or (pt_cmpR op_ne (pe_op op_mod (pv 1) (pe_fld (pv 0) rfl)) pe_int (nomark _)) (pw_or1 (pt_cmpR op_ne (pe_op op_mod (pv 2) (pe_fld (pv 0) rfl)) pe_int (nomark _)))))) (pss_cons (ps_ret pe_bl)
      pss_nil) pss_nil)
      (pss_cons (ps_ret (pe_cmpR op_lt (pe_op op_mulB (pe_op op_fdivW (pv 4) (pe_fld (pv 0) rfl)) (pe_fld (pv 0) rfl)) (pv 3) (nomark _)))
      pss_nil)), Go.at ?_⟩
    have mk : Ev (tFld K (tVar 0) "common") (start ["self", "places", "step", "begin", "end"] [.ref a, .int p, .int s, .int b, .int e]) H (.int m) := ev_fld (ev_var rfl) hA Cl na lk
    have n1 : EvT (tNot (tB (tCall (spIsNum K) [] E0 (tCons (tFld K (tVar 0) "common") (tCons (tC (.int 1)) (tCons (tFld K (tVar 0) "common") tNil)))))) (start ["self", "places", "step", "begin", "end"] [.ref a, .int p, .int s, .int b, .int e]) H (!(decide (1 ≤ m) && decide (m ≤ m))) := et_not (et_B (ev_call1 (ea_cons mk (ea_cons ev_c (ea_cons mk ea_nil))) (spv_isNum (x := .int m) lm fun i e => ⟨_, rfl⟩)))
    by_cases m1 : 1 ≤ m
    · rw [decide_eq_true m1, decide_eq_true (Int.le_refl m)] at n1
      have sN : showsN p s b e m = (decide (p % m = 0) && decide (s % m = 0) && decide (e / m * m < b)) := by
        unfold showsN
        rw [decide_eq_true m1, Bool.true_and]
      refine g_when (b := !(decide (p % m = 0)) || !(decide (s % m = 0))) (et_or (b := !(decide (p % m = 0)) || !(decide (s % m = 0))) n1 fun _ => et_or (et_is (et_test (ev_op (ev_op (ev_var rfl) mk (rv_I (show (0 : Int) < m by omega))) ev_c (rv_ne rfl))) ne_int) fun _ => et_is (et_test (ev_op (ev_op (ev_var rfl) mk (rv_I (show (0 : Int) < m by omega))) ev_c (rv_ne rfl))) ne_int) (fun h => ?_) (fun h => ?_)
      · refine g_ret (v := .bl (showsN p s b e m)) (ev_is ev_c ?_) k
        rw [sN]
        cases q1 : decide (p % m = 0) <;> cases q2 : decide (s % m = 0) <;> simp [q1, q2] at h ⊢
      · have ld : Lv 1 (e / m) := lv_div le (by omega)
        refine g_ret (v := .bl (showsN p s b e m)) (ev_is (ev_op (ev_op (ev_op (ev_var rfl) mk (rv_I (div_ok (by omega) lm))) mk (rv_I (mul_ok ld lm (by decide) (by decide)))) (ev_var rfl) rv_I0) ?_) k
        rw [sN]
        cases q1 : decide (p % m = 0) <;> cases q2 : decide (s % m = 0) <;> simp [q1, q2] at h ⊢
    · rw [decide_eq_false m1] at n1
      refine g_when (b := true) (et_or (a := true) (b := true) n1 fun h => nomatch h) (fun _ => ?_) (fun h => nomatch h)
      refine g_ret (v := .bl (showsN p s b e m)) (ev_is ev_c ?_) k
      unfold showsN
      rw [decide_eq_false m1]
      rfl
/-! ### the first mark -/
abbrev s_led_back : Stmt := topS 17
theorem sc_led_back : FnScope ["led", "mark", "places", "step", "begin"] ["led", "mark"] (defScope s_led_back) := ⟨rfl, rfl, rfl, by decide +kernel, rfl, by decide +kernel, by decide +kernel⟩
/-- the rows to which it was led stand at a -/
def LedAt (H : Hp) (a : Addr) (l : List (Int × Int × Int)) : Prop := ∃ xs, H a = some (.lst xs) ∧ TupsAt H xs (l.map fun x => [V.int x.1, V.int x.2.1, V.int x.2.2])
def spLedBack (P0 A0 B0 E1 : Int) : Sp := fun vs H Q _ => ∃ (a : Addr) (l : List (Int × Int × Int)) (p s b e m : Int), vs = [.ref a, .int m] ∧ LedAt H a l ∧ Led P0 A0 B0 E1 l p s b e ∧ 0 < p ∧ FirstIn p s b e m ∧ Lv 1 P0 ∧
  ∀ k H', FirstIn P0 A0 B0 E1 k → Ex H H' → Q (.int k) H'
theorem first_lv {P0 p s b e m : Int} (h : FirstIn p s b e m) (hp : 0 < p) (hP : p ≤ P0) (l : Lv 1 P0) : Lv 1 m := lv_le l h.nn (by have := h.lt hp; have := top_le (p := p) (s := s) hp; omega)
theorem ok_led_back (hA : Blt mg) {P0 A0 B0 E1 : Int} (F : Fun K "led_back" "led_back" s_led_back f fd) : FnOk P w K mg base CX0 1 f fd ["led", "mark"] (spLedBack P0 A0 B0 E1) := by
  refine F.ok sc_led_back (fun vs H Q E h => ?_) (fun cdv A outer s H vs Q E hr h => ?_)
  · obtain ⟨a, l, p, s, b, e, m, rfl, _⟩ := h
    rfl
  · obtain ⟨a, l, p, s, b, e, m, rfl, ⟨xs, hxs, hT⟩, L, p0, hF, lP, k⟩ := h
    refine ⟨_, (pss_cons (ps_for PassesOwn.never rfl (pi_reversed rfl hA.z_reversed (pa_cons (pv 0) pa_nil)) (pg_tup rfl (pgs_cons (pg_name (i := 2) sc_led_back.nd rfl (Or.inl rfl)) (pgs_cons (pg_name (i := 3) sc_led_back.nd rfl (Or.inl rfl)) (pgs_cons (pg_name (i := 4) sc_led_back.nd rfl (Or.inl rfl)) pgs_nil)))) (pss_cons (ps_set (i := 1) sc_led_back.nd rfl (Or.inl rfl) (pe_op op_fdivW (pe_op op_sub (pe_op op_add (pe_op op_add (pv 4) (pe_op op_mulB (pv 2) (pv 1))) (pv 3)) pe_int) (pv 3)))
      pss_nil))
      (pss_cons (ps_ret (pv 1))
      pss_nil)), Go.at ?_⟩
    refine g_for (ef_rev3 (ea_cons (ev_var rfl) ea_nil) (sq_of hxs) hT) (fun i σ' => ∃ (mk p s b e : Int) (o2 o3 o4 : Option V), σ' = [some (.ref a), some (.int mk), o2, o3, o4] ∧ Led P0 A0 B0 E1 (l.take (l.length - i)) p s b e ∧ 0 < p ∧ FirstIn p s b e mk) ⟨m, p, s, b, e, none, none, none, rfl, by rw [Nat.sub_zero, List.take_length]; exact L, p0, hF⟩ ?_ ?_
    · rintro H2 e2 i σ' hi ⟨mk, p, s, b, e, o2, o3, o4, rfl, L', p0', hF'⟩
      have hj : l.length - 1 - i < l.length := by omega
      have hcut : l.take (l.length - i) = l.take (l.length - (i + 1)) ++ [l[l.length - 1 - i]] := by
        have e1 : l.length - i = (l.length - 1 - i) + 1 := by omega
        have e2 : l.length - (i + 1) = l.length - 1 - i := by omega
        rw [e1, e2, List.take_add_one, List.getElem?_eq_getElem hj]
        rfl
      rcases L'.back p0' hF' with ⟨z, _⟩ | ⟨l', p', s', b', e', hl', L2', p2, s2, b2, bp, hF2, hF3⟩
      · rw [hcut] at z; simp at z
      · rw [hcut] at hl'
        obtain ⟨z1, z2⟩ := List.append_inj' hl' rfl
        have z3 : l[l.length - 1 - i] = (p', s', b') := by simpa using z2
        have gx : l[l.length - 1 - i]? = some (p', s', b') := by rw [List.getElem?_eq_getElem hj, z3]
        rw [gx]
        rw [← z1] at L2'
        have bd := L2'.bound
        have lp : Lv 1 p' := lv_le lP (by omega) bd.1
        have bd2 := (L'.bound).2 (p', s', b') (by rw [hcut, z3]; simp)
        have sp : s' < p' := bd2.2.1
        have ls : Lv 1 s' := lv_le lp (by omega) (by omega)
        have lm : Lv 1 mk := first_lv hF2 s2 (show s' ≤ P0 by omega) lP
        refine g_asg (ev_op (ev_op (ev_op (ev_op (ev_var rfl) (ev_op (ev_var rfl) (ev_var rfl) (rv_I (mul_ok lp lm (by decide) (by decide)))) rv_I0) (ev_var rfl) rv_I0) ev_c rv_I0) (ev_var rfl) (rv_I (div_ok s2 ls))) ?_
        exact g_next fun H3 e3 => ⟨e3, _, p', s', b', e', _, _, _, rfl, L2', p2, hF3⟩
    · rintro H2 e2 σ' ⟨mk, p, s, b, e, o2, o3, o4, rfl, L', p0', hF'⟩
      rw [Nat.sub_self, List.take_zero] at L'
      refine g_ret (ev_var rfl) fun H3 e3 => ?_
      rcases L'.back p0' hF' with ⟨_, z⟩ | ⟨l', p', s', b', e', hl', _⟩
      · exact k mk H3 z (e2.trans e3)
      · simp at hl'
abbrev s_least_mark : Stmt := topS 18
theorem sc_least_mark : FnScope ["places", "step", "begin", "end", "led", "times"] ["places", "step", "begin", "end"] (defScope s_least_mark) := ⟨rfl, rfl, rfl, by decide +kernel, rfl, by decide +kernel, by decide +kernel⟩
def spLeast : Sp := fun vs H Q _ => ∃ p s b e : Int, vs = [.int p, .int s, .int b, .int e] ∧ Ring p s ∧ 0 ≤ b ∧ b ≤ e ∧ e < p ∧ HasM (G p s) b e ∧ Lv 1 p ∧ ∀ k H', FirstIn p s b e k → Ex H H' → Q (.int k) H'
theorem ok_least_mark (F : Fun K "least_mark" "least_mark" s_least_mark f fd) (G_led_back : ∀ P0 A0 B0 E1 : Int, FnOk P w K mg base CX0 1 f1 fd1 ["led", "mark"] (spLedBack P0 A0 B0 E1)) (A_led_back : At K mg "led_back" s_led_back ["led", "mark"] f1 fd1) : FnOk P w K mg base CX0 2 f fd ["places", "step", "begin", "end"] spLeast := by
  refine F.ok sc_least_mark (fun vs H Q E h => ?_) (fun cdv A outer s H vs Q E hr h => ?_)
  · obtain ⟨p, s, b, e, rfl, _⟩ := h
    rfl
  · obtain ⟨P0, A0, B0, E1, rfl, R, b0, be, ep, hM, lP, k⟩ := h
    have R1 := R.p
    have R2 := R.s0
    have R3 := R.s
    replace G_led_back := G_led_back P0 A0 B0 E1
    refine ⟨_, (pss_cons (ps_set (i := 4) sc_least_mark.nd rfl (Or.inl rfl) (pe_lst pa_nil))
      (pss_cons (ps_while PassesOwn.never (pt_cmpR op_gt (pv 2) pe_int (nomark _)) (pss_cut (ps_if (pt_cmpR op_gt (pe_op op_mulB pe_int (pv 1)) (pv 0) (nomark _)) (pss_cons (ps_par3 (i := 1) (j := 2) (l := 3) (by rfl) sc_least_mark.nd rfl rfl rfl (by decide) (by decide) (by decide) rfl rfl rfl (pa_cons (pe_op op_sub (pv 0) (pv 1)) (pa_cons (pe_op op_sub (pv 0) (pv 3)) (pa_cons (pe_op op_sub (pv 0) (pv 2)) pa_nil))) (by rfl))
      pss_nil) pss_nil)
      (pss_cons (ps_set (i := 5) sc_least_mark.nd rfl (Or.inl rfl) (pe_op op_fdivW (pe_op op_sub (pe_op op_add (pv 2) (pv 1)) pe_int) (pv 1)))
      (pss_cons (ps_if (pt_cmpR op_le (pe_op op_mulB (pv 5) (pv 1)) (pv 3) (nomark _)) (pss_cons (ps_ret (pe_call G_led_back (hr.mono (by omega)) rfl A_led_back.g A_led_back.fn.kp A_led_back.b .nil pass0 (pa_cons (pv 4) (pa_cons (pv 5) pa_nil))))
      pss_nil) pss_nil)
      (pss_cons (ps_expr (pe_bm PySem.F.plainAttrs_list PySem.F.slot_list_append PySem.F.type_list_append mt_append (pv 4) (pa_cons (pe_tup (pa_cons (pv 0) (pa_cons (pv 1) (pa_cons (pv 2) pa_nil)))) pa_nil)))
      (pss_cons (ps_asg (pe_tup (pa_cons (pv 1) (pa_cons (pe_op op_mod (pe_un un_neg (pv 0)) (pv 1)) (pa_cons (pe_op op_mod (pv 2) (pv 1)) (pa_cons (pe_op op_mod (pv 3) (pv 1)) pa_nil))))) (pg_tup rfl (pgs_cons (pg_name (i := 0) sc_least_mark.nd rfl (Or.inl rfl)) (pgs_cons (pg_name (i := 1) sc_least_mark.nd rfl (Or.inl rfl)) (pgs_cons (pg_name (i := 2) sc_least_mark.nd rfl (Or.inl rfl)) (pgs_cons (pg_name (i := 3) sc_least_mark.nd rfl (Or.inl rfl)) pgs_nil))))))
      pss_nil))))))
      (pss_cons (ps_ret (pe_call G_led_back (hr.mono (by omega)) rfl A_led_back.g A_led_back.fn.kp A_led_back.b .nil pass0 (pa_cons (pv 4) (pa_cons pe_int pa_nil))))
      pss_nil))), Go.at ?_⟩
    refine g_asgL (el_lst ea_nil (by show 0 ≤ 100000; decide)) ?_
    intro d H1 nd e1 hd
    refine g_whileH (fun σ' H' => ∃ (l : List (Int × Int × Int)) (p s b e : Int) (o5 : Option V), σ' = [some (.int p), some (.int s), some (.int b), some (.int e), some (.ref d), o5] ∧ Ex H H' ∧ LedAt H' d l ∧ Led P0 A0 B0 E1 l p s b e ∧ 0 < p ∧ p ≤ P0 ∧ 0 ≤ s ∧ s < p ∧ 0 ≤ b ∧ b ≤ e ∧ e < p ∧ HasM (G p s) b e ∧ (2 : Int) ^ l.length * p ≤ P0)
      (fun σ' => match σ' with | _ :: some (.int s) :: _ => s.toNat | _ => 0) (fun H2 e2 => ⟨[], P0, A0, B0, E1, none, rfl, e1.trans e2, ⟨[], e2 d _ hd, rfl, fun i ps h => by simp at h⟩, .nil, by omega, by omega, R2, R3, b0, be, ep, hM, by simp⟩) ?_
    rintro σ' H' ⟨l, p, s, b, e, o5, rfl, e2, ⟨xs, hxs, hT⟩, L, p0, pP, s0, sp, b0, be, ep, hM, hlen⟩
    have lp : Lv 1 p := lv_le lP (by omega) pP
    refine ⟨_, et_test (ev_op (ev_var rfl) ev_c rv_I0), fun hb => ?_, fun hb => ?_⟩
    · have hb0 : 0 < b := of_decide_eq_true hb
      have hs0 : 0 < s := step_there p0 s0 hb0 ep hM
      have ls : Lv 1 s := lv_le lp (by omega) (by omega)
      refine g_cut (fun σ' H2 => Ex H' H2 ∧ ∃ s2 b2 e2' : Int, σ' = [some (.int p), some (.int s2), some (.int b2), some (.int e2'), some (.ref d), o5] ∧ Led P0 A0 B0 E1 l p s2 b2 e2' ∧ 0 < s2 ∧ 2 * s2 ≤ p ∧ s2 ≤ s ∧ 0 < b2 ∧ b2 ≤ e2' ∧ e2' < p ∧ HasM (G p s2) b2 e2') (g_one (g_when (et_test (ev_op (ev_op ev_c (ev_var rfl) (rv_I (mul_ok (lv_small (by decide) : Lv 1 (2 : Int)) ls (by decide) (by decide)))) (ev_var rfl) rv_I0)) (fun h => ?_) (fun h => g_next fun H2 e3 => ⟨e3, s, b, e, rfl, L, hs0, by have := of_decide_eq_false h; omega, Int.le_refl _, hb0, be, ep, hM⟩))) ?_
      · have h2 : p < 2 * s := of_decide_eq_true h
        exact g_par3 (ea_cons (ev_op (ev_var rfl) (ev_var rfl) rv_I0) (ea_cons (ev_op (ev_var rfl) (ev_var rfl) rv_I0) (ea_cons (ev_op (ev_var rfl) (ev_var rfl) rv_I0) ea_nil))) (g_next fun H2 e3 => ⟨e3, p - s, p - e, p - b, rfl, .turn L hb0 ep, by omega, by omega, by omega, by omega, by omega, by omega, hasM_reflect hM⟩)
      rintro σ' H2 ⟨e3, s2, b2, e2', rfl, L2', s20, s2h, s2s, b20, b2e, e2p, hM2⟩
      refine (?_ : Go _ _ _ H') H2 e3
      have ls2 : Lv 1 s2 := lv_le lp (by omega) (by omega)
      have lb2 : Lv 1 b2 := lv_le lp (by omega) (by omega)
      have s2p : s2 < p := by omega
      refine g_asg (ev_op (ev_op (ev_op (ev_var rfl) (ev_var rfl) rv_I0) ev_c rv_I0) (ev_var rfl) (rv_I (div_ok s20 ls2))) ?_
      have lt := lv_div (lv_sub (lv_add lb2 ls2) (lv_small (by decide) : Lv 1 (1 : Int))) s20
      refine g_when (et_test (ev_op (ev_op (ev_var rfl) (ev_var rfl) (rv_I (mul_ok lt ls2 (by decide) (by decide)))) (ev_var rfl) rv_I0)) (fun h => ?_) (fun h => ?_)
      · have ht : (b2 + s2 - 1) / s2 * s2 ≤ e2' := of_decide_eq_true h
        have hF := first_direct (p := p) s20 b20 e2p ht
        exact fun H4 e4 => ⟨_, rfl, _, rfl, d, l, p, s2, b2, e2', _, rfl, ⟨xs, e4 d _ hxs, hT.ex e4⟩, L2', p0, hF, lP, fun k' H5 hk e5 => k k' H5 hk ((e2.trans e4).trans e5)⟩
      · have ht : e2' < (b2 + s2 - 1) / s2 * s2 := by have := of_decide_eq_false h; omega
        obtain ⟨hq, hb1, hbe1⟩ := same_block s20 b2e ht
        have he1 := Int.emod_lt_of_pos e2' s20
        have hn0 := Int.emod_nonneg (-p) (show s2 ≠ 0 by omega)
        have hn1 := Int.emod_lt_of_pos (-p) s20
        have hxl : xs.length = l.length := by rw [hT.1, List.length_map]
        have h2n : (2 : Int) ^ l.length ≤ P0 := by
          have : (2 : Int) ^ l.length * 1 ≤ 2 ^ l.length * p := Int.mul_le_mul_of_nonneg_left (by omega) (Int.le_of_lt (Int.pow_pos (by omega)))
          omega
        have hl8 := pow_small h2n lP
        refine g_appU hxs (ev_var rfl) (eu_tup (ea_cons (ev_var rfl) (ea_cons (ev_var rfl) (ea_cons (ev_var rfl) ea_nil))) (by show 3 ≤ 100000; decide)) (by omega) ?_
        intro q H3 nq e4 hq'
        refine g_asg4 (eu_tup (ea_cons (ev_var rfl) (ea_cons (ev_op (ev_un (ev_var rfl) ru_neg) (ev_var rfl) (rv_I s20)) (ea_cons (ev_op (ev_var rfl) (ev_var rfl) (rv_I s20)) (ea_cons (ev_op (ev_var rfl) (ev_var rfl) (rv_I s20)) ea_nil)))) (by show 4 ≤ 100000; decide)) (g_next fun H4 e5 => ⟨⟨l ++ [(p, s2, b2)], s2, -p % s2, b2 % s2, e2' % s2, _, rfl, ?_, ?_, .snoc L2' p0 s20 (by omega) b20 e2p b2e ht, s20, by omega, hn0, hn1, by omega, hbe1, he1, hasM_lead s20 hq hM2, ?_⟩, ?_⟩)
        · exact (Ex.mut (e2.trans e4) nd).trans e5
        · refine ⟨xs ++ [.ref q], e5 d _ upd_same, ?_⟩
          rw [List.map_append]
          refine TupsAt.ex ?_ e5
          have nqd : q ≠ d := fun z => by rw [z, hxs] at nq; cases nq
          exact ((hT.ex e4).upd (e4 d _ hxs)).snoc (by rw [upd_ne nqd]; exact hq')
        · rw [List.length_append]
          show (2 : Int) ^ (l.length + 1) * s2 ≤ P0
          rw [Int.pow_succ, Int.mul_assoc]
          have : (2 : Int) ^ l.length * (2 * s2) ≤ 2 ^ l.length * p := Int.mul_le_mul_of_nonneg_left (by omega) (Int.le_of_lt (Int.pow_pos (by omega)))
          omega
        · show (-p % s2).toNat < s.toNat
          omega
    · have hb0 : b = 0 := by have := of_decide_eq_false hb; omega
      subst hb0
      exact fun H4 e4 => ⟨_, rfl, d, l, p, s, 0, e, 0, rfl, ⟨xs, e4 d _ hxs, hT.ex e4⟩, L, p0, first_zero (Int.le_refl _) be, lP, fun k' H5 hk e5 => k k' H5 hk ((e2.trans e4).trans e5)⟩
abbrev s_first : Stmt := topS 19
theorem sc_first : FnScope ["places", "step", "begin", "end", "by"] ["places", "step", "begin", "end"] (defScope s_first) := ⟨rfl, rfl, rfl, by decide +kernel, rfl, by decide +kernel, by decide +kernel⟩
/-- how the first comes: an error, nobody, a mark -/
def spFirst (K : PySem.W.Frag) (c : Cs) (CF CN : Addr) : Sp := fun vs H Q E => ∃ p s b e, vs = [p, s, b, e] ∧ Kn K H p ∧ Kn K H s ∧ Kn K H b ∧ Kn K H e ∧ (∀ C, ringO c p s = .err C → ∀ H', Ex H H' → E (.ref C) none H') ∧
  (∀ v, ringO c p s = .val v → (∀ C, stretchO c p b e = .err C → ∀ H', Ex H H' → E (.ref C) none H') ∧
    (∀ v, stretchO c p b e = .val v → (¬ HasM (G (iv p) (iv s)) (iv b) (iv e) → ∀ x H', H x = none → Ex H H' → AnsAt H' CN x "common" (G (iv p) (iv s)) → Q (.ref x) H') ∧
      (HasM (G (iv p) (iv s)) (iv b) (iv e) → ∀ x k H', FirstIn (iv p) (iv s) (iv b) (iv e) k → H x = none → Ex H H' → AnsAt H' CF x "mark" k → Q (.ref x) H')))
theorem ok_first {c : Cs} {CF CN : Addr} (F : Fun K "first" "first" s_first f fd) (G_check_ring : FnOk P w K mg base (L2.CX P w) 2 f1 fd1 ["places", "step"] (spRing K c)) (A_check_ring : At K mg "check_ring" s_check_ring ["places", "step"] f1 fd1)
    (G_check_stretch : FnOk P w K mg base (L2.CX P w) 2 f2 fd2 ["places", "begin", "end"] (spStretch K c)) (A_check_stretch : At K mg "check_stretch" s_check_stretch ["places", "begin", "end"] f2 fd2)
    (G_common : FnOk P w K mg base CX0 1 f3 fd3 ["one", "other"] spCommon) (A_common : At K mg "common" s_common ["one", "other"] f3 fd3) (G_least_mark : FnOk P w K mg base CX0 2 f4 fd4 ["places", "step", "begin", "end"] spLeast) (A_least_mark : At K mg "least_mark" s_least_mark ["places", "step", "begin", "end"] f4 fd4)
    (M_First : Mk K CF f5) (G_First___init__ : FnOk P w K mg base CX0 1 f5 fd5 ["self", "mark"] (spIni CF "mark")) (M_First_g : mg "First" = some (.ref CF)) (B_First___init__ : Binds K fd5 ["self", "mark"] [])
    (M_Never : Mk K CN f6) (G_Never___init__ : FnOk P w K mg base CX0 1 f6 fd6 ["self", "common"] (spIni CN "common")) (M_Never_g : mg "Never" = some (.ref CN)) (B_Never___init__ : Binds K fd6 ["self", "common"] []) :
    FnOk P w K mg base (L2.CX P w) 3 f fd ["places", "step", "begin", "end"] (spFirst K c CF CN) := by
  refine F.okX sc_first (fun vs H Q E h => ?_) (fun cdv A outer s H vs Q E hr h => ?_)
  · obtain ⟨p, s, b, e, rfl, _⟩ := h
    rfl
  · obtain ⟨p, s, b, e, rfl, h1, h2, h3, h4, k1, k2⟩ := h
    refine ⟨_, (pss_cons (ps_expr (pe_call G_check_ring (hr.mono (by omega)) rfl A_check_ring.g A_check_ring.fn.kp A_check_ring.b .nil (passes_call (takes_of rfl rfl rfl rfl) (fun _ _ _ _ h => h)) (pa_cons (pv 0) (pa_cons (pv 1) pa_nil))))
      (pss_cons (ps_expr (pe_call G_check_stretch (hr.mono (by omega)) rfl A_check_stretch.g A_check_stretch.fn.kp A_check_stretch.b .nil (passes_call (takes_of rfl rfl rfl rfl) (fun _ _ _ _ h => h)) (pa_cons (pv 0) (pa_cons (pv 2) (pa_cons (pv 3) pa_nil)))))
      (pss_cons (ps_set (i := 4) sc_first.nd rfl (Or.inl rfl) (pe_call G_common (hr.mono (by omega)) rfl A_common.g A_common.fn.kp A_common.b .nil pass0 (pa_cons (pv 0) (pa_cons (pv 1) pa_nil))))
      (pss_cons (ps_if (pt_cmpR op_lt (pe_op op_mulB (pe_op op_fdivW (pv 3) (pv 4)) (pv 4)) (pv 2) (nomark _)) (pss_cons (ps_ret (pe_make M_Never G_Never___init__ (hr.mono (by omega)) rfl M_Never_g B_Never___init__ .nil pass0 (pa_cons (pv 4) pa_nil)))
      pss_nil) pss_nil)
      (pss_cons (ps_ret (pe_make M_First G_First___init__ (hr.mono (by omega)) rfl M_First_g B_First___init__ .nil pass0 (pa_cons (pe_call G_least_mark (hr.mono (by omega)) rfl A_least_mark.g A_least_mark.fn.kp A_least_mark.b .nil pass0 (pa_cons (pv 0) (pa_cons (pv 1) (pa_cons (pv 2) (pa_cons (pv 3) pa_nil))))) pa_nil)))
      pss_nil))))), Go.at ?_⟩
    refine g_dropX (evx_call (ea_cons (ev_var rfl) (ea_cons (ev_var rfl) ea_nil)) (spx_ring h1 h2)) (fun v hv => ?_) (fun C hC H1 x => k1 C hC H1 x)
    obtain ⟨k3, k4⟩ := k2 v hv
    obtain ⟨rfl, P', S', rfl, rfl, R⟩ := ringO_val hv
    refine g_dropX (evx_call (ea_cons (ev_var rfl) (ea_cons (ev_var rfl) (ea_cons (ev_var rfl) ea_nil))) (spx_stretch h3 h4)) (fun v hv2 => ?_) (fun C hC H1 x => k3 C hC H1 x)
    obtain ⟨k5, k6⟩ := k4 v hv2
    obtain ⟨rfl, B, E', rfl, rfl, b0, be, ep⟩ := stretchO_val hv2
    have ep : E' < P' := ep
    have p1 := R.p
    have lp : Lv 1 P' := h1
    have lE : Lv 1 E' := h4
    have g0 : 0 < G P' S' := G_pos (by omega)
    have lG := lv_G R lp
    have lEG : Lv 1 (E' / G P' S') := lv_div lE g0
    refine g_asg (ev_call1 (ea_cons (ev_var rfl) (ea_cons (ev_var rfl) ea_nil)) (spv_common (by omega) R.s0)) ?_
    refine g_when (et_test (ev_op (ev_op (ev_op (ev_var rfl) (ev_var rfl) (rv_I (div_ok g0 lG))) (ev_var rfl) (rv_I (mul_ok lEG lG (by decide) (by decide)))) (ev_var rfl) rv_I0)) (fun h => ?_) (fun h => ?_)
    · have hn : ¬ HasM (G P' S') B E' := fun z => by
        have := (hasM_iff g0).mp z
        have h2 : E' / G P' S' * G P' S' < B := of_decide_eq_true h
        omega
      refine fun H1 e1 => ev_make (H := H1) (ea_cons (ev_var rfl) ea_nil) H1 (Ex.refl H1) _ fun x H2 nx e2 hx => ?_
      exact k5 hn x H2 (fresh_back e1 nx) (e1.trans e2) hx
    · have hn : HasM (G P' S') B E' := by
        refine (hasM_iff g0).mpr ?_
        have h2 : ¬ E' / G P' S' * G P' S' < B := of_decide_eq_false h
        omega
      refine fun H1 e1 => ⟨_, rfl, _, rfl, _, rfl, _, rfl, P', S', B, E', rfl, R, b0, be, ep, hn, lp, fun k H2 hk e2 => ?_⟩
      refine ev_make (v := .int k) (H := H2) (ta := tCons (tC (.int k)) tNil) (σ := []) (E := E) (ea_cons ev_c ea_nil) H2 (Ex.refl H2) _ fun x H3 nx e3 hx => ?_
      exact k6 hn x k H3 hk (fresh_back (e1.trans e2) nx) ((e1.trans e2).trans e3) hx
/-! ### the law's own numbers -/
abbrev s__law_number : Stmt := topS 21
theorem sc__law_number : FnScope ["_law_cell", "_law_at", "_law_whole_here", "_law_mixed", "_law_more"] ["_law_cell", "_law_at", "_law_whole_here"] (defScope s__law_number) := ⟨rfl, rfl, rfl, by decide +kernel, rfl, by decide +kernel, by decide +kernel⟩
def lawNum (c a h : Int) : Int := if 1000000000000000000 ≤ c then c else
  let m := ((c + 977 * a) * 48271 + h) % 2147483647
  let o := m * (m + 31 * a + 7) * (m + c + 5)
  o * (o + 48271) / 1009
def spNum : Sp := fun vs H Q _ => ∃ c a h : Int, vs = [.int c, .int a, .int h] ∧ Lv 132 c ∧ Lv 1 a ∧ Lv 400 h ∧ ∀ H', Ex H H' → Q (.int (lawNum c a h)) H'
theorem spv_num {H : Hp} {c a h : Int} (h1 : Lv 132 c) (h2 : Lv 1 a) (h3 : Lv 400 h) : SpV spNum [.int c, .int a, .int h] H (.int (lawNum c a h)) := fun H1 e Q q E => ⟨c, a, h, rfl, h1, h2, h3, q⟩
theorem lv_num {c a h : Int} (h1 : Lv 132 c) (h2 : Lv 1 a) : Lv 600 (lawNum c a h) := by
  unfold lawNum
  split
  · exact lv_mono h1 (by decide)
  · have lm : Lv 1 (((c + 977 * a) * 48271 + h) % 2147483647) := lv_mod (lv_small (by decide)) (by decide)
    have k9 : Lv 1 (31 : Int) := lv_small (by decide)
    have k7 : Lv 1 (7 : Int) := lv_small (by decide)
    have k5 : Lv 1 (5 : Int) := lv_small (by decide)
    have k4 : Lv 1 (48271 : Int) := lv_small (by decide)
    have lo := lv_mul (lv_mul lm (lv_add (lv_add lm (lv_mul k9 h2)) k7)) (lv_add (lv_add lm h1) k5)
    exact lv_mono (lv_div (lv_mul lo (lv_add lo k4)) (by decide)) (by decide)
theorem ok__law_number (F : Fun K "_law_number" "_law_number" s__law_number f fd) : FnOk P w K mg base CX0 1 f fd ["_law_cell", "_law_at", "_law_whole_here"] spNum := by
  refine F.ok sc__law_number (fun vs H Q E h => ?_) (fun cdv A outer s H vs Q E hr h => ?_)
  · obtain ⟨c, a, h, rfl, _⟩ := h
    rfl
  · obtain ⟨c, a, h, rfl, h1, h2, h3, k⟩ := h
    have k9 : Lv 1 (31 : Int) := lv_small (by decide)
    have k7 : Lv 1 (7 : Int) := lv_small (by decide)
    have k5 : Lv 1 (5 : Int) := lv_small (by decide)
    have k4 : Lv 1 (48271 : Int) := lv_small (by decide)
    have k977 : Lv 1 (977 : Int) := lv_small (by decide)
    have k1009 : Lv 1 (1009 : Int) := lv_small (by decide)
    refine ⟨_, (pss_cons (ps_if (pt_cmpR op_ge (pv 0) (pe_op op_pow pe_int pe_int) (nomark _)) (pss_cons (ps_ret (pv 0))
      pss_nil) pss_nil)
      (pss_cons (ps_set (i := 3) sc__law_number.nd rfl (Or.inl rfl) (pe_op op_mod (pe_op op_add (pe_op op_mulB (pe_op op_add (pv 0) (pe_op op_mulB pe_int (pv 1))) pe_int) (pv 2)) pe_int))
      (pss_cons (ps_set (i := 4) sc__law_number.nd rfl (Or.inl rfl) (pe_op op_mulB (pe_op op_mulB (pv 3) (pe_op op_add (pe_op op_add (pv 3) (pe_op op_mulB pe_int (pv 1))) pe_int)) (pe_op op_add (pe_op op_add (pv 3) (pv 0)) pe_int)))
      (pss_cons (ps_ret (pe_op op_fdivW (pe_op op_mulB (pv 4) (pe_op op_add (pv 4) pe_int)) pe_int))
      pss_nil)))), Go.at ?_⟩
    refine g_when (et_test (ev_op (ev_var rfl) (ev_op ev_c ev_c (rv_I ⟨by decide, by decide, by decide⟩)) rv_I0)) (fun hc => ?_) (fun hc => ?_)
    · have e : (1000000000000000000 : Int) ≤ c := of_decide_eq_true hc
      refine g_ret (v := .int (lawNum c a h)) (ev_is (ev_var rfl) ?_) k
      unfold lawNum
      rw [if_pos e]
    · have e : ¬ (1000000000000000000 : Int) ≤ c := of_decide_eq_false hc
      have lm : Lv 1 (((c + 977 * a) * 48271 + h) % 2147483647) := lv_mod (lv_small (by decide)) (by decide)
      have lo := lv_mul (lv_mul lm (lv_add (lv_add lm (lv_mul k9 h2)) k7)) (lv_add (lv_add lm h1) k5)
      refine g_asg (ev_op (ev_op (ev_op (ev_op (ev_var rfl) (ev_op ev_c (ev_var rfl) (rv_I (mul_ok k977 h2 (by decide) (by decide)))) rv_I0) ev_c (rv_I (mul_ok (lv_add h1 (lv_mul k977 h2)) k4 (by decide) (by decide)))) (ev_var rfl) rv_I0) ev_c (rv_I (show (0 : Int) < 2147483647 by decide))) ?_
      refine g_asg (ev_op (ev_op (ev_var rfl) (ev_op (ev_op (ev_var rfl) (ev_op ev_c (ev_var rfl) (rv_I (mul_ok k9 h2 (by decide) (by decide)))) rv_I0) ev_c rv_I0) (rv_I (mul_ok lm (lv_add (lv_add lm (lv_mul k9 h2)) k7) (by decide) (by decide))))
        (ev_op (ev_op (ev_var rfl) (ev_var rfl) rv_I0) ev_c rv_I0) (rv_I (mul_ok (lv_mul lm (lv_add (lv_add lm (lv_mul k9 h2)) k7)) (lv_add (lv_add lm h1) k5) (by decide) (by decide)))) ?_
      refine g_ret (v := .int (lawNum c a h)) (ev_is (ev_op (ev_op (ev_var rfl) (ev_op (ev_var rfl) ev_c rv_I0) (rv_I (mul_ok lo (lv_add lo k4) (by decide) (by decide)))) ev_c (rv_I (div_ok (by decide) k1009))) ?_) k
      unfold lawNum
      rw [if_neg e]
abbrev s__law_common : Stmt := topS 23
theorem sc__law_common : FnScope ["_law_one", "_law_other"] ["_law_one", "_law_other"] (defScope s__law_common) := ⟨rfl, rfl, rfl, by decide +kernel, rfl, by decide +kernel, by decide +kernel⟩
theorem ok__law_common (F : Fun K "_law_common" "_law_common" s__law_common f fd) : FnOk P w K mg base CX0 1 f fd ["_law_one", "_law_other"] spCommon := by
  refine F.ok sc__law_common (fun vs H Q E h => ?_) (fun cdv A outer s H vs Q E hr h => ?_)
  · obtain ⟨a, b, rfl, _⟩ := h
    rfl
  · obtain ⟨a, b, rfl, ha, hb, k⟩ := h
    refine ⟨_, (pss_cons (ps_while PassesOwn.never (pt_cmpR op_gt (pv 1) pe_int (nomark _)) (pss_cons (ps_par (i := 0) (j := 1) (by rfl) sc__law_common.nd rfl rfl (by decide) rfl rfl (pa_cons (pv 1) (pa_cons (pe_op op_mod (pv 0) (pv 1)) pa_nil)) (by rfl))
      pss_nil))
      (pss_cons (ps_ret (pv 0))
      pss_nil)), Go.at ?_⟩
    refine g_while (fun σ => ∃ x y : Int, σ = [some (.int x), some (.int y)] ∧ 0 ≤ x ∧ 0 ≤ y ∧ G x y = G a b) (fun σ => match σ with | [_, some (.int y)] => y.toNat | _ => 0) ⟨a, b, rfl, ha, hb, rfl⟩ ?_
    rintro σ ⟨x, y, rfl, hx, hy, hg⟩
    refine ⟨_, et_test (ev_op (ev_var rfl) ev_c rv_I0), fun hb => ?_, fun hb => ?_⟩
    · have hy : 0 < y := of_decide_eq_true hb
      refine g_par (ea_cons (ev_var rfl) (ea_cons (ev_op (ev_var rfl) (ev_var rfl) (rv_I hy)) ea_nil)) (g_next fun H' e => ⟨e, ⟨y, x % y, rfl, by omega, Int.emod_nonneg _ (by omega), by rw [G_step x y hy, hg]⟩, ?_⟩)
      have := Int.emod_lt_of_pos x hy
      have := Int.emod_nonneg x (show y ≠ 0 by omega)
      show (x % y).toNat < y.toNat
      omega
    · have hy0 : y = 0 := by have := of_decide_eq_false hb; omega
      subst hy0
      rw [G_zero hx] at hg
      subst hg
      exact g_ret (ev_var rfl) k
abbrev s__law_rounds : Stmt := topS 24
theorem sc__law_rounds : FnScope ["_law_many", "_law_by", "_law_times", "_law_more", "_law_whole_here", "_law_last"] ["_law_many", "_law_by", "_law_times", "_law_more"] (defScope s__law_rounds) := ⟨rfl, rfl, rfl, by decide +kernel, rfl, by decide +kernel, by decide +kernel⟩
/-- how deep the sum goes: the row 0, 1, 1, 2, 3, 5 .. -/
def fbp : Nat → Int × Int
  | 0 => (0, 1)
  | n + 1 => ((fbp n).2, (fbp n).1 + (fbp n).2)
def fb (n : Nat) : Int := (fbp n).1
theorem fb_next (n : Nat) : fb (n + 2) = fb (n + 1) + fb n := by
  show (fbp n).1 + (fbp n).2 = (fbp n).2 + (fbp n).1
  omega
def dep (n : Nat) (b t : Int) : Prop := b < fb (n + 2) ∨ (b < t ∧ t < fb (n + 3))
theorem dep_zero {b t : Int} (h : dep 0 b t) : b < 1 := by
  have e2 : fb (0 + 2) = 1 := by decide
  have e3 : fb (0 + 3) = 2 := by decide
  unfold dep at h
  rw [e2, e3] at h
  omega
theorem dep_next {n : Nat} {b t : Int} (h : dep (n + 1) b t) (hb : 0 < b) (ht : 0 ≤ t) : dep n (t % b) b := by
  unfold dep at *
  have h1 := Int.emod_nonneg t (show b ≠ 0 by omega)
  have h2 := Int.emod_lt_of_pos t hb
  have h3 := Int.emod_add_mul_ediv t b
  have e1 : n + 1 + 2 = n + 3 := by omega
  have e2 : n + 1 + 3 = (n + 2) + 2 := by omega
  have e3 := fb_next (n + 2)
  have e4 : n + 2 + 1 = n + 3 := by omega
  rw [e1, e2, e3, e4] at h
  rcases h with h | ⟨h4, h5⟩
  · exact .inr ⟨h2, h⟩
  · rcases Int.lt_or_le b (fb (n + 3)) with q | q
    · exact .inr ⟨h2, q⟩
    · have q1 : 1 ≤ t / b := Int.le_ediv_of_mul_le hb (by omega)
      have : b * 1 ≤ b * (t / b) := Int.mul_le_mul_of_nonneg_left q1 (by omega)
      exact .inl (by omega)
def spRounds (n : Nat) : Sp := fun vs H Q _ => ∃ (k : Nat) (b t m : Int), vs = [.int k, .int b, .int t, .int m] ∧ 0 < b ∧ 0 ≤ t ∧ 0 ≤ m ∧ dep n b t ∧ Lv 1 k ∧ Lv 1 b ∧ Lv 1 t ∧ Lv 1 m ∧ ∀ H', Ex H H' → Q (.int (S k b t m)) H'
theorem spv_rounds {H : Hp} {n : Nat} {k b t m : Int} (h0 : 0 ≤ k) (h1 : 0 < b) (h2 : 0 ≤ t) (h3 : 0 ≤ m) (h4 : dep n b t) (l1 : Lv 1 k) (l2 : Lv 1 b) (l3 : Lv 1 t) (l4 : Lv 1 m) : SpV (spRounds n) [.int k, .int b, .int t, .int m] H (.int (S k.toNat b t m)) := fun H1 e Q q E => by
  have : ((k.toNat : Nat) : Int) = k := by omega
  exact ⟨k.toNat, b, t, m, by rw [this], h1, h2, h3, h4, by rw [this]; exact l1, l2, l3, l4, q⟩
theorem ok__law_rounds (F : Fun K "_law_rounds" "_law_rounds" s__law_rounds f fd) (A__law_rounds : At K mg "_law_rounds" s__law_rounds ["_law_many", "_law_by", "_law_times", "_law_more"] f fd) : ∀ n, FnOk P w K mg base CX0 (n + 1) f fd ["_law_many", "_law_by", "_law_times", "_law_more"] (spRounds n) := by
  intro n
  induction n with
  | zero =>
    refine F.ok sc__law_rounds (fun vs H Q E h => ?_) (fun cdv A outer s H vs Q E hr h => ?_)
    · obtain ⟨k, b, t, m, rfl, _⟩ := h
      rfl
    · obtain ⟨k, b, t, m, rfl, h1, h2, h3, h4, _⟩ := h
      have := dep_zero h4
      exact absurd h1 (by omega)
  | succ n ih =>
    have G__law_rounds := ih
    refine F.ok sc__law_rounds (fun vs H Q E h => ?_) (fun cdv A outer s H vs Q E hr h => ?_)
    · obtain ⟨k, b, t, m, rfl, _⟩ := h
      rfl
    · obtain ⟨k, b, t, m, rfl, hb, ht, hm, hd, lk, lb, lt, lm, q⟩ := h
      refine ⟨_, (pss_cons (ps_if (pt_cmpR op_eq (pv 0) pe_int (nomark _)) (pss_cons (ps_ret pe_int)
      pss_nil) pss_nil)
      (pss_cons (ps_set (i := 4) sc__law_rounds.nd rfl (Or.inl rfl) (pe_op op_add (pe_op op_mulB (pe_op op_fdivW (pe_op op_mulB (pv 0) (pe_op op_sub (pv 0) pe_int)) pe_int) (pe_op op_fdivW (pv 2) (pv 1))) (pe_op op_mulB (pv 0) (pe_op op_fdivW (pv 3) (pv 1)))))
      (pss_cons (ps_par (i := 2) (j := 3) (by rfl) sc__law_rounds.nd rfl rfl (by decide) rfl rfl (pa_cons (pe_op op_mod (pv 2) (pv 1)) (pa_cons (pe_op op_mod (pv 3) (pv 1)) pa_nil)) (by rfl))
      (pss_cons (ps_set (i := 5) sc__law_rounds.nd rfl (Or.inl rfl) (pe_op op_fdivW (pe_op op_add (pe_op op_mulB (pv 2) (pv 0)) (pv 3)) (pv 1)))
      (pss_cons (ps_if (pt_cmpR op_eq (pv 5) pe_int (nomark _)) (pss_cons (ps_ret (pv 4))
      pss_nil) pss_nil)
      (pss_cons (ps_ret (pe_op op_add (pv 4) (pe_call G__law_rounds (hr.mono (by omega)) rfl A__law_rounds.g A__law_rounds.fn.kp A__law_rounds.b .nil pass0 (pa_cons (pv 5) (pa_cons (pv 2) (pa_cons (pv 1) (pa_cons (pe_op op_mod (pe_op op_add (pe_op op_mulB (pv 2) (pv 0)) (pv 3)) (pv 1)) pa_nil)))))))
      pss_nil)))))), Go.at ?_⟩
      refine g_when (et_test (ev_op (ev_var rfl) ev_c (rv_eq rfl))) (fun h => ?_) (fun h => ?_)
      · have hk : (k : Int) = 0 := by have := of_decide_eq_true h; injection this
        have : k = 0 := by omega
        subst this
        exact g_ret ev_c q
      have hk : 0 < (k : Int) := by
        have h1 := of_decide_eq_false h
        rcases Int.lt_or_le 0 (k : Int) with z | z
        · exact z
        · exact absurd (show V.int (k : Int) = V.int 0 by congr 1; omega) h1
      refine g_asg (ev_op (ev_op (ev_op (ev_op (ev_var rfl) (ev_op (ev_var rfl) ev_c rv_I0) (rv_I (mul_ok lk (lv_sub lk (lv_small (by decide))) (by decide) (by decide)))) ev_c (rv_I (div_ok (by decide) (lv_small (by decide)))))
        (ev_op (ev_var rfl) (ev_var rfl) (rv_I (div_ok hb lb))) (rv_I (mul_ok (lv_div (lv_mul lk (lv_sub lk (lv_small (by decide)))) (by decide)) (lv_div lt hb) (by decide) (by decide))))
        (ev_op (ev_var rfl) (ev_op (ev_var rfl) (ev_var rfl) (rv_I (div_ok hb lb))) (rv_I (mul_ok lk (lv_div lm hb) (by decide) (by decide)))) rv_I0) ?_
      refine g_par (ea_cons (ev_op (ev_var rfl) (ev_var rfl) (rv_I hb)) (ea_cons (ev_op (ev_var rfl) (ev_var rfl) (rv_I hb)) ea_nil)) ?_
      refine g_asg (ev_op (ev_op (ev_op (ev_var rfl) (ev_var rfl) (rv_I (mul_ok (lv_mod lb hb) lk (by decide) (by decide)))) (ev_var rfl) rv_I0) (ev_var rfl) (rv_I (div_ok hb lb))) ?_
      have red := S_red k b t m hb
      have a0 := Int.emod_nonneg t (show b ≠ 0 by omega)
      have a1 := Int.emod_lt_of_pos t hb
      have b0 := Int.emod_nonneg m (show b ≠ 0 by omega)
      have b1 := Int.emod_lt_of_pos m hb
      have x0 : 0 ≤ t % b * (k : Int) := Int.mul_nonneg a0 (by omega)
      have q0 : 0 ≤ (t % b * (k : Int) + m % b) / b := Int.ediv_nonneg (by omega) (by omega)
      refine g_when (et_test (ev_op (ev_var rfl) ev_c (rv_eq rfl))) (fun h => ?_) (fun h => ?_)
      · have hl : (t % b * (k : Int) + m % b) / b = 0 := by have := of_decide_eq_true h; injection this
        have h1 : t % b * (k : Int) + m % b < b := by
          have d := Int.emod_add_mul_ediv (t % b * (k : Int) + m % b) b
          have e := Int.emod_lt_of_pos (t % b * (k : Int) + m % b) hb
          rw [hl, Int.mul_zero] at d
          omega
        have z := S_zero k b (t % b) (m % b) hb a0 b0 h1
        rw [z] at red
        refine g_ret (v := .int (S k b t m)) (ev_is (ev_var rfl) ?_) q
        rw [red]
        simp
      · have hl : (t % b * (k : Int) + m % b) / b ≠ 0 := fun z => by
          have h1 := of_decide_eq_false h
          rw [z] at h1
          exact h1 rfl
        have ap : 0 < t % b := by
          rcases Int.lt_or_le 0 (t % b) with z | z
          · exact z
          · have : t % b = 0 := by omega
            rw [this, Int.zero_mul, Int.zero_add] at hl
            exact absurd (Int.ediv_eq_zero_of_lt b0 b1) hl
        have fl := S_flip k b (t % b) (m % b) ap a1 b0 b1
        have qn : (t % b * (k : Int) + m % b) / b ≤ k := by
          have : (t % b * (k : Int) + m % b) / b < k + 1 := by
            refine Int.ediv_lt_of_lt_mul hb ?_
            have h2 : t % b * (k : Int) ≤ (b - 1) * k := Int.mul_le_mul_of_nonneg_right (by omega) (by omega)
            have h3 : (b - 1) * (k : Int) = b * k - k := by rw [Int.sub_mul, Int.one_mul]
            have h4 : ((k : Int) + 1) * b = b * k + b := by rw [Int.add_mul, Int.one_mul, Int.mul_comm]
            omega
          omega
        have call := spv_rounds (H := H) (n := n) (k := (t % b * (k : Int) + m % b) / b) (b := t % b) (t := b) (m := (t % b * (k : Int) + m % b) % b) q0 ap (by omega) (Int.emod_nonneg _ (by omega)) (dep_next hd hb ht) (lv_le lk q0 qn) (lv_mod lb hb) lb (lv_mod lb hb)
        refine g_ret (v := .int (S k b t m)) (ev_is (ev_op (ev_var rfl) (ev_call1 (ea_cons (ev_var rfl) (ea_cons (ev_var rfl) (ea_cons (ev_var rfl) (ea_cons (ev_op (ev_op (ev_op (ev_var rfl) (ev_var rfl) (rv_I (mul_ok (lv_mod lb hb) lk (by decide) (by decide)))) (ev_var rfl) rv_I0) (ev_var rfl) (rv_I hb)) ea_nil)))) call) rv_I0) ?_) q
        rw [red, fl]
abbrev s__law_to : Stmt := topS 25
theorem sc__law_to : FnScope ["_law_places", "_law_step", "_law_marks", "_law_place"] ["_law_places", "_law_step", "_law_marks", "_law_place"] (defScope s__law_to) := ⟨rfl, rfl, rfl, by decide +kernel, rfl, by decide +kernel, by decide +kernel⟩
def spTo : Sp := fun vs H Q _ => ∃ p s n x : Int, vs = [.int p, .int s, .int n, .int x] ∧ Ring p s ∧ 0 ≤ n ∧ x < p ∧ p ≤ PB ∧ Lv 1 n ∧ ∀ H', Ex H H' → Q (.int (cnt p s n.toNat x)) H'
theorem spv_to {H : Hp} {p s n x : Int} (R : Ring p s) (h0 : 0 ≤ n) (h : x < p) (h2 : p ≤ PB) (l2 : Lv 1 n) : SpV spTo [.int p, .int s, .int n, .int x] H (.int (cnt p s n.toNat x)) := fun H1 e Q q E => ⟨p, s, n, x, rfl, R, h0, h, h2, l2, q⟩
theorem ok__law_to (F : Fun K "_law_to" "_law_to" s__law_to f fd) (G__law_rounds : FnOk P w K mg base CX0 196 f1 fd1 ["_law_many", "_law_by", "_law_times", "_law_more"] (spRounds 195)) (A__law_rounds : At K mg "_law_rounds" s__law_rounds ["_law_many", "_law_by", "_law_times", "_law_more"] f1 fd1) : FnOk P w K mg base CX0 197 f fd ["_law_places", "_law_step", "_law_marks", "_law_place"] spTo := by
  refine F.ok sc__law_to (fun vs H Q E h => ?_) (fun cdv A outer s H vs Q E hr h => ?_)
  · obtain ⟨p, s, n, x, rfl, _⟩ := h
    rfl
  · obtain ⟨p, s, n, x, rfl, R, hn, hx, hp, ln, k⟩ := h
    have hp1 := R.p
    have lp : Lv 1 p := lv_140 (by omega) (Int.lt_of_le_of_lt hp PB_lt)
    have hd : dep 195 p s := by
      have e : PB < fb (195 + 2) := by decide +kernel
      exact .inl (by omega)
    refine ⟨_, (pss_cons (ps_if (pt_cmpR op_lt (pv 3) pe_int (nomark _)) (pss_cons (ps_ret pe_int)
      pss_nil) pss_nil)
      (pss_cons (ps_ret (pe_op op_sub (pe_op op_add (pv 2) (pe_call G__law_rounds (hr.mono (by omega)) rfl A__law_rounds.g A__law_rounds.fn.kp A__law_rounds.b .nil pass0 (pa_cons (pv 2) (pa_cons (pv 0) (pa_cons (pv 1) (pa_cons pe_int pa_nil)))))) (pe_call G__law_rounds (hr.mono (by omega)) rfl A__law_rounds.g A__law_rounds.fn.kp A__law_rounds.b .nil pass0 (pa_cons (pv 2) (pa_cons (pv 0) (pa_cons (pv 1) (pa_cons (pe_op op_sub (pe_op op_sub (pv 0) (pv 3)) pe_int) pa_nil)))))))
      pss_nil)), Go.at ?_⟩
    refine g_when (et_test (ev_op (ev_var rfl) ev_c rv_I0)) (fun h => ?_) (fun h => ?_)
    · have h1 : x < 0 := of_decide_eq_true h
      refine g_ret (v := .int (cnt p s n.toNat x)) (ev_is ev_c ?_) k
      rw [cnt_neg p s n.toNat x (by omega) h1]
    · have h1 : ¬ x < 0 := of_decide_eq_false h
      refine g_ret (v := .int (cnt p s n.toNat x)) (ev_is (ev_op (ev_op (ev_var rfl) (ev_call1 (ea_cons (ev_var rfl) (ea_cons (ev_var rfl) (ea_cons (ev_var rfl) (ea_cons ev_c ea_nil)))) (spv_rounds hn (by omega) R.s0 (by decide) hd ln lp (R.ls lp) (lv_small (by decide)))) rv_I0)
        (ev_call1 (ea_cons (ev_var rfl) (ea_cons (ev_var rfl) (ea_cons (ev_var rfl) (ea_cons (ev_op (ev_op (ev_var rfl) (ev_var rfl) rv_I0) ev_c rv_I0) ea_nil)))) (spv_rounds hn (by omega) R.s0 (by omega) hd ln lp (R.ls lp) (lv_le lp (by omega) (by omega)))) rv_I0) ?_) k
      rw [← cnt_S' p s n.toNat x (by omega) hx]
      congr 1
      omega
abbrev s__law_whole : Stmt := topS 26
theorem sc__law_whole : FnScope ["_law_found"] ["_law_found"] (defScope s__law_whole) := ⟨rfl, rfl, rfl, by decide +kernel, rfl, by decide +kernel, by decide +kernel⟩
def spWhole (K : PySem.W.Frag) : Sp := fun vs H Q _ => ∃ x, vs = [x] ∧ Kn K H x ∧ ∀ H', Ex H H' → Q (.bl (isI x && !isB x)) H'
theorem spv_whole {K : PySem.W.Frag} {H : Hp} {x : V} (h : Kn K H x) : SpV (spWhole K) [x] H (.bl (isI x && !isB x)) := fun H1 e Q q E => ⟨x, rfl, h.ex e, q⟩
theorem spv_wholeI {K : PySem.W.Frag} {H : Hp} {i : Int} (h : Lv 1 i) : SpV (spWhole K) [.int i] H (.bl true) := spv_whole (x := .int i) h
theorem ok__law_whole (hA : Blt mg) (F : Fun K "_law_whole" "_law_whole" s__law_whole f fd) : FnOk P w K mg base CX0 1 f fd ["_law_found"] (spWhole K) := by
  refine F.ok sc__law_whole (fun vs H Q E h => ?_) (fun cdv A outer s H vs Q E hr h => ?_)
  · obtain ⟨x, rfl, _⟩ := h
    rfl
  · obtain ⟨x, rfl, hx, k⟩ := h
    exact ⟨_, (pss_cons (ps_ret (pe_and (pe_callB call_isi rfl hA.z_isinstance (by decide +kernel) (pa_cons (pv 0) (pa_cons (pe_bltn (v := .ty "int") (u := .type "int") rfl hA.z_int (by decide +kernel) rfl) pa_nil))) (pe_one (pe_not (pe_callB call_isi rfl hA.z_isinstance (by decide +kernel) (pa_cons (pv 0) (pa_cons (pe_bltn (v := .ty "bool") (u := .type "bool") rfl hA.z_bool (by decide +kernel) rfl) pa_nil)))))))
      pss_nil), Go.at (g_ret (ev_andV (ev_isInt (ev_var rfl) hx) fun _ => ev_notV (ev_isBool (ev_var rfl) hx)) k)⟩
abbrev s__law_rings : Stmt := topS 22
theorem sc__law_rings : FnScope ["_law_script", "_law_cells", "_law_whole_here", "_law_many", "_law_at", "_law_begin", "_law_three", "_law_wide", "_law_places", "_law_step", "_law_kind", "_law_times", "_law_by", "_law_top", "_law_marks", "_law_found", "_law_cell", "_law_k"] ["_law_script"] (defScope s__law_rings) := ⟨rfl, rfl, rfl, by decide +kernel, rfl, by decide +kernel, by decide +kernel⟩
def spRings (K : PySem.W.Frag) : Sp := fun vs H Q _ => ∃ (a : Addr) (ns : List Int), vs = [.ref a] ∧ SqL K H a (ns.map V.int) ∧ ns.length ≤ 63 ∧ (∀ z ∈ ns, Lv 132 z) ∧
  ∀ p H' xs, H p = none → Ex H H' → H' p = some (.lst xs) → RingsAt H' xs → xs.length ≤ ns.length → xs.length ≤ 6 → Q (.ref p) H'
theorem pow140 : (10 : Int) ^ 40 * 6 < 2 ^ 140 := by decide
theorem ok__law_rings (hA : Blt mg) (F : Fun K "_law_rings" "_law_rings" s__law_rings f fd) (G__law_number : FnOk P w K mg base CX0 1 f1 fd1 ["_law_cell", "_law_at", "_law_whole_here"] spNum) (A__law_number : At K mg "_law_number" s__law_number ["_law_cell", "_law_at", "_law_whole_here"] f1 fd1)
    (G__law_common : FnOk P w K mg base CX0 1 f2 fd2 ["_law_one", "_law_other"] spCommon) (A__law_common : At K mg "_law_common" s__law_common ["_law_one", "_law_other"] f2 fd2) : FnOk P w K mg base CX0 2 f fd ["_law_script"] (spRings K) := by
  refine F.ok sc__law_rings (fun vs H Q E h => ?_) (fun cdv A outer s H vs Q E hr h => ?_)
  · obtain ⟨a, ns, rfl, _⟩ := h
    rfl
  · obtain ⟨a, ns, rfl, hS, hlen, hlv, k⟩ := h
    refine ⟨_, (pss_cons (ps_par (i := 1) (j := 15) (by rfl) sc__law_rings.nd rfl rfl (by decide) rfl rfl (pa_cons (pe_slice sl_list (pv 0) po_none (po_some pe_int)) (pa_cons (pe_lst pa_nil) pa_nil)) (by rfl))
      (pss_cons (ps_asg (pe_tup (pa_cons (pe_callB (cr_sum rfl) rfl hA.z_sum (by decide +kernel) (pa_cons (pv 1) pa_nil)) (pa_cons (pe_op op_fdivW (pe_op op_add (pe_callB call_len_seq rfl hA.z_len (by decide +kernel) (pa_cons (pv 1) pa_nil)) pe_int) pe_int) pa_nil))) (pg_tup rfl (pgs_cons (pg_name (i := 2) sc__law_rings.nd rfl (Or.inr rfl)) (pgs_cons (pg_name (i := 3) sc__law_rings.nd rfl (Or.inl rfl)) pgs_nil))))
      (pss_cons (ps_for PassesOwn.never rfl (pi_range1 rfl hA.z_range (pa_cons (pe_callB (call_min2 rfl) rfl hA.z_min (by decide +kernel) (pa_cons pe_int (pa_cons (pv 3) pa_nil))) pa_nil)) (pg_name (i := 4) sc__law_rings.nd rfl (Or.inl rfl)) (pss_cons (ps_set (i := 5) sc__law_rings.nd rfl (Or.inr rfl) (pe_op op_mulB pe_int (pe_op op_mod (pe_op op_add (pv 4) (pv 2)) (pv 3))))
      (pss_cons (ps_setLc (i := 6) (own := [("_law_k", 17), ("_law_cell", 16)]) (g := (gTup K 2 (gCons (gName 17) (gCons (gName 16) gNil)))) rfl sc__law_rings.nd rfl rfl (sw_true rfl rfl rfl (by decide +kernel)) (pi_enum rfl hA.z_enumerate (pa_cons (pe_slice sl_list (pe_op op_rep (pv 1) pe_int) (po_some (pv 5)) (po_some (pe_op op_add (pv 5) pe_int))) pa_nil)) (blkOk_by (own := [("_law_k", 17), ("_law_cell", 16)]) (N := ["_law_script", "_law_cells", "_law_whole_here", "_law_many", "_law_at", "_law_begin", "_law_three", "_law_wide", "_law_places", "_law_step", "_law_kind", "_law_times", "_law_by", "_law_top", "_law_marks", "_law_found", "_law_cell", "_law_k"]) (sc := defScope s__law_rings) (by decide +kernel)) (fun _ _ _ _ _ => (pg_tup rfl (pgs_cons (pg_name (i := 17) sc__law_rings.nd rfl (Or.inl rfl)) (pgs_cons (pg_name (i := 16) sc__law_rings.nd rfl (Or.inl rfl)) pgs_nil)))) (fun _ _ _ _ _ => pts_nil) (fun _ _ _ _ _ => (pe_call G__law_number (hr.mono (by omega)) rfl A__law_number.g A__law_number.fn.kp A__law_number.b .nil pass0 (pa_cons (pv 16) (pa_cons (pe_op op_add (pv 5) (pv 17)) (pa_cons (pv 2) pa_nil))))))
      (pss_cons (ps_set (i := 7) sc__law_rings.nd rfl (Or.inl rfl) (pe_ix ix_tup (pe_tup (pa_cons pe_int (pa_cons pe_int (pa_cons pe_int (pa_cons pe_int (pa_cons pe_int (pa_cons pe_int pa_nil))))))) (pe_op op_mod (pe_op op_add (pe_op op_fdivW (pv 2) pe_int) (pv 4)) pe_int) (fun _ _ => rfl)))
      (pss_cut (ps_if (PW.pt (pw_and (pt_cmpR op_eq (pv 4) pe_int (nomark _)) (pw_and1 (pt_cmpR op_eq (pe_op op_mod (pv 2) pe_int) pe_int (nomark _))))) (pss_cons (ps_set (i := 7) sc__law_rings.nd rfl (Or.inl rfl) (pe_ix ix_tup (pe_tup (pa_cons (pe_op op_pow pe_int pe_int) (pa_cons (pe_op op_pow pe_int pe_int) (pa_cons (pe_op op_pow pe_int pe_int) pa_nil)))) (pe_op op_mod (pe_op op_fdivW (pv 2) pe_int) pe_int) (fun _ _ => rfl)))
      pss_nil) pss_nil)
      (pss_cons (ps_set (i := 8) sc__law_rings.nd rfl (Or.inl rfl) (pe_op op_add pe_int (pe_op op_mod (pe_ix ix_list (pv 6) pe_int (fun _ _ => rfl)) (pv 7))))
      (pss_cons (ps_set (i := 9) sc__law_rings.nd rfl (Or.inl rfl) (pe_op op_mod (pe_op op_fdivW (pe_ix ix_list (pv 6) pe_int (fun _ _ => rfl)) pe_int) (pv 8)))
      (pss_cons (ps_set (i := 10) sc__law_rings.nd rfl (Or.inl rfl) (pe_op op_mod (pe_op op_add (pe_op op_fdivW (pv 2) pe_int) (pv 4)) pe_int))
      (pss_cut (ps_if (pt_cmpR op_eq (pv 10) pe_int (nomark _)) (pss_cons (ps_set (i := 11) sc__law_rings.nd rfl (Or.inl rfl) (pe_op op_add pe_int (pe_op op_mod (pe_ix ix_list (pv 6) pe_int (fun _ _ => rfl)) pe_int)))
      (pss_cons (ps_par (i := 8) (j := 9) (by rfl) sc__law_rings.nd rfl rfl (by decide) rfl rfl (pa_cons (pe_op op_mulB (pv 8) (pv 11)) (pa_cons (pe_op op_mulB (pv 9) (pv 11)) pa_nil)) (by rfl))
      pss_nil)) pss_nil)
      (pss_cut (ps_if (pt_cmpR op_eq (pv 10) pe_int (nomark _)) (pss_cons (ps_set (i := 9) sc__law_rings.nd rfl (Or.inl rfl) (pe_callB (call_min2 rfl) rfl hA.z_min (by decide +kernel) (pa_cons (pe_op op_sub (pv 8) pe_int) (pa_cons (pe_op op_add (pe_op op_fdivW (pv 8) pe_int) (pe_op op_mod (pe_ix ix_list (pv 6) pe_int (fun _ _ => rfl)) pe_int)) pa_nil))))
      pss_nil) pss_nil)
      (pss_cons (ps_set (i := 12) sc__law_rings.nd rfl (Or.inl rfl) (pe_call G__law_common (hr.mono (by omega)) rfl A__law_common.g A__law_common.fn.kp A__law_common.b .nil pass0 (pa_cons (pv 8) (pa_cons (pv 9) pa_nil))))
      (pss_cons (ps_set (i := 13) sc__law_rings.nd rfl (Or.inl rfl) (pe_op op_fdivW (pv 8) (pv 12)))
      (pss_cons (ps_set (i := 14) sc__law_rings.nd rfl (Or.inl rfl) (pe_op op_add pe_int (pe_op op_mod (pe_op op_fdivW (pe_ix ix_list (pv 6) pe_int (fun _ _ => rfl)) pe_int) (pv 13))))
      (pss_cons (ps_set (i := 14) sc__law_rings.nd rfl (Or.inl rfl) (pe_ix ix_tup (pe_tup (pa_cons (pv 14) (pa_cons (pe_op op_add pe_int (pe_op op_mod (pv 14) pe_int)) (pa_cons (pv 13) (pa_cons pe_int (pa_cons (pe_callB (call_min2 rfl) rfl hA.z_min (by decide +kernel) (pa_cons pe_int (pa_cons (pv 13) pa_nil))) (pa_cons (pe_op op_add pe_int (pe_op op_mod (pv 14) (pe_op op_pow pe_int pe_int))) pa_nil))))))) (pe_op op_mod (pe_ix ix_list (pv 6) pe_int (fun _ _ => rfl)) pe_int) (fun _ _ => rfl)))
      (pss_cons (ps_set (i := 14) sc__law_rings.nd rfl (Or.inl rfl) (pe_callB (call_min2 rfl) rfl hA.z_min (by decide +kernel) (pa_cons (pv 14) (pa_cons (pv 13) pa_nil))))
      (pss_cons (ps_expr (pe_bm PySem.F.plainAttrs_list PySem.F.slot_list_append PySem.F.type_list_append mt_append (pv 15) (pa_cons (pe_tup (pa_cons (pv 8) (pa_cons (pv 9) (pa_cons (pv 14) pa_nil)))) pa_nil)))
      pss_nil))))))))))))))))
      (pss_cons (ps_ret (pv 15))
      pss_nil)))), Go.at ?_⟩
    -- the cells, the list to be filled
    refine g_parLL (el_sl (ev_var rfl) eo_none (eo_some ev_c) hS) (el_lst ea_nil (by show 0 ≤ 100000; decide)) ?_
    intro c l H1 H2 nc e1 hc nl e2 hl
    rw [show (63 : Int) = ((63 : Nat) : Int) from rfl, cut_take, ← List.map_take] at hc
    rw [List.take_of_length_le hlen] at hc
    -- their sum, how many rings
    have hlenV : (ns.map V.int).length = ns.length := List.length_map _
    refine g_asg2 (eu_tup (ea_cons (ev_sum (ev_var rfl) (sq_of (e2 c _ hc))) (ea_cons (ev_op (ev_op (ev_len (ev_var rfl) (sq_of (e2 c _ hc))) ev_c rv_I0) ev_c (rv_I (div_ok (by decide) (lv_small (by decide))))) ea_nil)) (by show 2 ≤ 100000; decide)) ?_
    rw [hlenV]
    have hwh : Lv 133 ns.sum := lv_sum hlv (by omega)
    generalize hmany : ((ns.length : Int) + 2) / 3 = many
    have many0 : 0 ≤ many := by omega
    have manyn : 3 * many ≤ ns.length + 2 := by omega
    have hn63 : (ns.length : Int) ≤ 63 := by omega
    generalize hwho : ns.sum = wh at *
    have ncl : c ≠ l := ne_of_none hc nl
    refine g_forR (ea_cons (ev_cb (ea_cons ev_c (ea_cons (ev_var rfl) ea_nil)) (z := .int (min 6 many)) ?mn) ea_nil) ⟨by omega, by omega⟩ (fun i σ' H' => Ex H1 H' ∧ (∃ xs, H' l = some (.lst xs) ∧ RingsAt H' xs ∧ xs.length = i) ∧
      ∃ o4 o5 o6 o7 o8 o9 o10 o11 o12 o13 o14 : Option V, σ' = [some (.ref a), some (.ref c), some (.int wh), some (.int many), o4, o5, o6, o7, o8, o9, o10, o11, o12, o13, o14, some (.ref l), none, none]) ?h0 ?hs ?hd
    case mn =>
      intro H3 e3 Q q
      exact ⟨6, many, rfl, by rw [rMin_eq]; exact q H3 (Ex.refl _)⟩
    case h0 =>
      intro H3 e3
      exact ⟨e2.trans e3, ⟨[], e3 l _ hl, fun i hi => absurd hi (by simp), rfl⟩, none, none, none, none, none, none, none, none, none, none, none, rfl⟩
    case hd =>
      rintro σ' H' ⟨e3, ⟨xs, hxs, hR, hxl⟩, o4, o5, o6, o7, o8, o9, o10, o11, o12, o13, o14, rfl⟩
      refine g_ret (ev_var rfl) fun H4 e4 => ?_
      refine k l H4 xs (fresh_back e1 nl) ((e1.trans e3).trans e4) (e4 l _ hxs) (fun i hi => ?_) (by omega) (by omega)
      obtain ⟨b, P', S', M', h1, h2, h3⟩ := hR i hi
      exact ⟨b, P', S', M', h1, e4 b _ h2, h3⟩
    case hs =>
      rintro i σ' H3 hi ⟨e3, ⟨xs, hxs, hR, hxl⟩, o4, o5, o6, o7, o8, o9, o10, o11, o12, o13, o14, rfl⟩
      have hi' : (i : Int) < many := by omega
      have hc3 : H3 c = some (.lst (ns.map V.int)) := e3 c _ hc
      -- begin
      have b0 := Int.emod_nonneg ((i : Int) + wh) (show many ≠ 0 by omega)
      have b1 := Int.emod_lt_of_pos ((i : Int) + wh) (show 0 < many by omega)
      refine g_asg (ev_op ev_c (ev_op (ev_op (ev_var rfl) (ev_var rfl) rv_I0) (ev_var rfl) (rv_I (show (0 : Int) < many by omega))) (rv_I (mul_ok (lv_small (by decide) : Lv 1 (3 : Int)) (lv_small (show (((i : Int) + wh) % many).natAbs ≤ 1000000000000000000 by omega)) (by decide) (by decide)))) ?_
      obtain ⟨b, hb⟩ : ∃ b : Nat, 3 * (((i : Int) + wh) % many) = b := ⟨(3 * (((i : Int) + wh) % many)).toNat, by omega⟩
      rw [hb]
      have hb3 : b + 3 ≤ (List.replicate 3 (ns.map V.int)).flatten.length := by rw [rep_len, hlenV]; omega
      obtain ⟨x0, x1, x2, hcut, m0, m1, m2⟩ := three_of hb3
      have cell : ∀ {x : V}, x ∈ (List.replicate 3 (ns.map V.int)).flatten → ∃ z, x = .int z ∧ Lv 132 z := fun {x} hx => by
        obtain ⟨z, hz, rfl⟩ := List.mem_map.mp (in_rep hx)
        exact ⟨z, rfl, hlv z hz⟩
      obtain ⟨z0, rfl, l0⟩ := cell m0
      obtain ⟨z1, rfl, l1⟩ := cell m1
      obtain ⟨z2, rfl, l2⟩ := cell m2
      -- three numbers
      have lb : ∀ j : Nat, j < 3 → Lv 1 ((b : Int) + (j : Int)) := fun j hj => lv_small (by omega)
      have hwh4 : Lv 400 wh := lv_mono hwh (by decide)
      have sl : EvL (tSl (rSlL K) (tOp rRep (tVar 1) (tC (.int 3))) (tPart (tVar 5)) (tPart (tOp (rI0 fun i j => .int (i + j)) (tVar 5) (tC (.int 3)))))
          [some (.ref a), some (.ref c), some (.int wh), some (.int many), some (.int (i : Int)), some (.int (b : Int)), o6, o7, o8, o9, o10, o11, o12, o13, o14, some (.ref l), none, none] H3 [.int z0, .int z1, .int z2] := by
        rw [← hcut]
        exact el_slN (el_rep1 (ev_var rfl) hc3 ev_c ⟨by decide, by decide⟩ (by rw [hlenV]; show ns.length * 3 ≤ 100000; omega)) (eo_some (ev_var rfl)) (eo_some (ev_op (ev_var rfl) ev_c rv_I0))
      refine g_asgL (el_lcF (fun _ => true) (fun j => match j with | 0 => .int (lawNum z0 ((b : Int) + (0 : Nat)) wh) | 1 => .int (lawNum z1 ((b : Int) + (1 : Nat)) wh) | _ => .int (lawNum z2 ((b : Int) + (2 : Nat)) wh)) (ef_enumN sl) (by show 3 ≤ 50000; decide) (fun j hj => rfl) (fun H4 e4 j hj => et_yes) ?lc) ?_
      case lc =>
        intro H4 e4 j hj _
        match j, hj with
        | 0, _ => exact ev_call1 (ea_cons (ev_var rfl) (ea_cons (ev_op (ev_var rfl) (ev_var rfl) rv_I0) (ea_cons (ev_var rfl) ea_nil))) (spv_num l0 (lb 0 (by decide)) hwh4)
        | 1, _ => exact ev_call1 (ea_cons (ev_var rfl) (ea_cons (ev_op (ev_var rfl) (ev_var rfl) rv_I0) (ea_cons (ev_var rfl) ea_nil))) (spv_num l1 (lb 1 (by decide)) hwh4)
        | 2, _ => exact ev_call1 (ea_cons (ev_var rfl) (ea_cons (ev_op (ev_var rfl) (ev_var rfl) rv_I0) (ea_cons (ev_var rfl) ea_nil))) (spv_num l2 (lb 2 (by decide)) hwh4)
      intro th H4 nth e4 hth
      have lt0 : Lv 600 (lawNum z0 ((b : Int) + (0 : Nat)) wh) := lv_num l0 (lb 0 (by decide))
      have lt1 : Lv 600 (lawNum z1 ((b : Int) + (1 : Nat)) wh) := lv_num l1 (lb 1 (by decide))
      have lt2 : Lv 600 (lawNum z2 ((b : Int) + (2 : Nat)) wh) := lv_num l2 (lb 2 (by decide))
      generalize lawNum z0 ((b : Int) + (0 : Nat)) wh = t0 at *
      generalize lawNum z1 ((b : Int) + (1 : Nat)) wh = t1 at *
      generalize lawNum z2 ((b : Int) + (2 : Nat)) wh = t2 at *
      have hth : H4 th = some (.lst [.int t0, .int t1, .int t2]) := hth
      have sth := sq_of (K := K) hth
      have hl4 : H4 l = some (.lst xs) := e4 l _ hxs
      -- how wide
      obtain ⟨w0, hw0, mw0⟩ := atI_mod (ns := [9, 60, 60, 300, 1000, 40]) (x := wh / 4 + (i : Int)) (m := 6) rfl (by decide)
      refine g_asg (ev_ixU (eu_tup (ea_cons ev_c (ea_cons ev_c (ea_cons ev_c (ea_cons ev_c (ea_cons ev_c (ea_cons ev_c ea_nil)))))) (by show 6 ≤ 100000; decide)) (ev_op (ev_op (ev_op (ev_var rfl) ev_c (rv_I (div_ok (by decide) (lv_small (by decide))))) (ev_var rfl) rv_I0) ev_c (rv_I (show (0 : Int) < 6 by decide))) hw0) ?_
      have bw0 : 1 ≤ w0 ∧ w0 ≤ 10 ^ 40 := by
        simp only [List.mem_cons, List.not_mem_nil, or_false] at mw0
        omega
      refine g_cut (fun σ' H' => Ex H4 H' ∧ ∃ wd : Int, 1 ≤ wd ∧ wd ≤ 10 ^ 40 ∧ σ' = [some (.ref a), some (.ref c), some (.int wh), some (.int many), some (.int (i : Int)), some (.int (b : Int)), some (.ref th), some (.int wd), o8, o9, o10, o11, o12, o13, o14, some (.ref l), none, none]) (g_one (g_when (b := decide (V.int (i : Int) = V.int 0) && decide (V.int (wh % 4) = V.int 1)) (et_and (et_test (ev_op (ev_var rfl) ev_c (rv_eq rfl))) fun _ => et_test (ev_op (ev_op (ev_var rfl) ev_c (rv_I (show (0 : Int) < 4 by decide))) ev_c (rv_eq rfl))) (fun _ => ?_) (fun _ => g_next fun H' e => ⟨e, w0, bw0.1, bw0.2, rfl⟩))) ?_
      · obtain ⟨w1, hw1, mw1⟩ := atI_mod (ns := [10 ^ 9, 10 ^ 20, 10 ^ 40]) (x := wh / 4) (m := 3) rfl (by decide)
        refine g_asg (ev_ixU (eu_tup (ea_cons (ev_op ev_c ev_c (rv_I ⟨by decide, by decide, by decide⟩)) (ea_cons (ev_op ev_c ev_c (rv_I ⟨by decide, by decide, by decide⟩)) (ea_cons (ev_op ev_c ev_c (rv_I ⟨by decide, by decide, by decide⟩)) ea_nil))) (by show 3 ≤ 100000; decide)) (ev_op (ev_op (ev_var rfl) ev_c (rv_I (div_ok (by decide) (lv_small (by decide))))) ev_c (rv_I (show (0 : Int) < 3 by decide))) hw1) (g_next fun H' e => ⟨e, w1, ?_, ?_, rfl⟩)
        all_goals
          simp only [List.mem_cons, List.not_mem_nil, or_false] at mw1
          omega
      rintro σ' H' ⟨e5, wd, wd1, wd2, rfl⟩
      refine (?_ : Go _ _ _ H4) H' e5
      have pw : (10 : Int) ^ 40 = 10000000000000000000000000000000000000000 := by decide
      have p140 : (2 : Int) ^ 140 = 1393796574908163946345982392040522594123776 := by decide
      rw [pw] at wd2
      -- places, step
      have q0 := Int.emod_nonneg t0 (show wd ≠ 0 by omega)
      have q1 := Int.emod_lt_of_pos t0 (show 0 < wd by omega)
      refine g_asg (ev_op ev_c (ev_op (ev_ixL (ev_var rfl) sth ev_c rfl) (ev_var rfl) (rv_I (show (0 : Int) < wd by omega))) rv_I0) ?_
      generalize hP : 1 + t0 % wd = P0 at *
      have P1 : 1 ≤ P0 := by omega
      have P2 : P0 ≤ 10000000000000000000000000000000000000000 := by omega
      have lP : Lv 1 P0 := lv_lit (Nat.lt_of_le_of_lt (show P0.natAbs ≤ 10000000000000000000000000000000000000000 by omega) (Nat.lt_of_lt_of_le (show 10000000000000000000000000000000000000000 < 2 ^ 140 by decide) (Nat.pow_le_pow_right (by omega) (by omega))))
      refine g_asg (ev_op (ev_op (ev_ixL (ev_var rfl) sth ev_c rfl) ev_c (rv_I (div_ok (by decide) (lv_small (by decide))))) (ev_var rfl) (rv_I (show (0 : Int) < P0 by omega))) ?_
      have s0 := Int.emod_nonneg (t1 / 7) (show P0 ≠ 0 by omega)
      have s1 := Int.emod_lt_of_pos (t1 / 7) (show 0 < P0 by omega)
      generalize hS0 : t1 / 7 % P0 = S0 at *
      have lS : Lv 1 S0 := lv_le lP s0 (by omega)
      -- the kind
      refine g_asg (ev_op (ev_op (ev_op (ev_var rfl) ev_c (rv_I (div_ok (by decide) (lv_small (by decide))))) (ev_var rfl) rv_I0) ev_c (rv_I (show (0 : Int) < 7 by decide))) ?_
      generalize hk : (wh / 24 + (i : Int)) % 7 = kd at *
      refine g_cut (fun σ' H' => Ex H4 H' ∧ ∃ (P1 S1 : Int) (o : Option V), Ring P1 S1 ∧ P1 ≤ PB ∧ σ' = [some (.ref a), some (.ref c), some (.int wh), some (.int many), some (.int (i : Int)), some (.int (b : Int)), some (.ref th), some (.int wd), some (.int P1), some (.int S1), some (.int kd), o, o12, o13, o14, some (.ref l), none, none]) (g_one (g_when (et_test (ev_op (ev_var rfl) ev_c (rv_eq rfl))) (fun _ => ?_) (fun _ => g_next fun H' e => ⟨e, P0, S0, _, ⟨P1, s0, s1⟩, by unfold PB; omega, rfl⟩))) ?_
      · have u0 := Int.emod_nonneg t2 (show (5 : Int) ≠ 0 by decide)
        have u1 := Int.emod_lt_of_pos t2 (show (0 : Int) < 5 by decide)
        refine g_asg (ev_op ev_c (ev_op (ev_ixL (ev_var rfl) sth ev_c rfl) ev_c (rv_I (show (0 : Int) < 5 by decide))) rv_I0) ?_
        have lu : Lv 1 (2 + t2 % 5) := lv_small (by omega)
        refine g_par (ea_cons (ev_op (ev_var rfl) (ev_var rfl) (rv_I (mul_ok lP lu (by decide) (by decide)))) (ea_cons (ev_op (ev_var rfl) (ev_var rfl) (rv_I (mul_ok lS lu (by decide) (by decide)))) ea_nil)) ?_
        generalize hu : 2 + t2 % 5 = u at *
        have m1 : P0 * u ≤ P0 * 6 := Int.mul_le_mul_of_nonneg_left (by omega) (by omega)
        have m2 : P0 * 1 ≤ P0 * u := Int.mul_le_mul_of_nonneg_left (by omega) (by omega)
        have m3 : 0 ≤ S0 * u := Int.mul_nonneg s0 (by omega)
        have m4 : S0 * u < P0 * u := Int.mul_lt_mul_of_pos_right s1 (by omega)
        exact g_next fun H' e => ⟨e, P0 * u, S0 * u, _, ⟨by omega, m3, m4⟩, by unfold PB; omega, rfl⟩
      rintro σ' H' ⟨e6, P2', S2, o11', R2, b2, rfl⟩
      refine (?_ : Go _ _ _ H4) H' e6
      have b3 : P2' ≤ 60000000000000000000000000000000000000000 := b2
      have lP2 : Lv 1 P2' := lv_lit (Nat.lt_of_lt_of_le (show P2'.natAbs < 2 ^ 140 by rw [show (2 : Nat) ^ 140 = 1393796574908163946345982392040522594123776 by decide]; have := R2.p; omega) (Nat.pow_le_pow_right (by omega) (by omega)))
      have r1 := R2.p
      have r2 := R2.s0
      have r3 := R2.s
      refine g_cut (fun σ' H' => Ex H4 H' ∧ ∃ (S1 : Int), Ring P2' S1 ∧ σ' = [some (.ref a), some (.ref c), some (.int wh), some (.int many), some (.int (i : Int)), some (.int (b : Int)), some (.ref th), some (.int wd), some (.int P2'), some (.int S1), some (.int kd), o11', o12, o13, o14, some (.ref l), none, none]) (g_one (g_when (et_test (ev_op (ev_var rfl) ev_c (rv_eq rfl))) (fun _ => ?_) (fun _ => g_next fun H' e => ⟨e, S2, R2, rfl⟩))) ?_
      · have u0 := Int.emod_nonneg t2 (show (2 : Int) ≠ 0 by decide)
        refine g_asg (ev_min (ev_op (ev_var rfl) ev_c rv_I0) (ev_op (ev_op (ev_var rfl) ev_c (rv_I (div_ok (by decide) (lv_small (by decide))))) (ev_op (ev_ixL (ev_var rfl) sth ev_c rfl) ev_c (rv_I (show (0 : Int) < 2 by decide))) rv_I0)) ?_
        exact g_next fun H' e => ⟨e, _, ⟨r1, by omega, by omega⟩, rfl⟩
      rintro σ' H' ⟨e7, S3, R3, rfl⟩
      refine (?_ : Go _ _ _ H4) H' e7
      -- how many marks
      have tp := top_pos (p := P2') (s := S3) (by omega)
      have tl := top_le (p := P2') (s := S3) (by omega)
      refine g_asg (ev_call1 (ea_cons (ev_var rfl) (ea_cons (ev_var rfl) ea_nil)) (spv_common (by omega) R3.s0)) ?_
      refine g_asg (v := .int (top P2' S3)) (ev_op (ev_var rfl) (ev_var rfl) (rv_I (div_ok (G_pos (by omega)) (lv_G R3 lP2)))) ?_
      generalize htop : top P2' S3 = tt at *
      refine g_asg (ev_op ev_c (ev_op (ev_op (ev_ixL (ev_var rfl) sth ev_c rfl) ev_c (rv_I (div_ok (by decide) (lv_small (by decide))))) (ev_var rfl) (rv_I (show (0 : Int) < tt by omega))) rv_I0) ?_
      have v0 := Int.emod_nonneg (t2 / 3) (show tt ≠ 0 by omega)
      generalize hm0 : 1 + t2 / 3 % tt = mk0 at *
      have v1 := Int.emod_nonneg mk0 (show (60 : Int) ≠ 0 by decide)
      have v2 := Int.emod_nonneg mk0 (show (10 : Int) ^ 6 ≠ 0 by decide)
      obtain ⟨w3, hw3, mw3⟩ := atI_mod (ns := [mk0, 1 + mk0 % 60, tt, 1, min 2 tt, 1 + mk0 % 10 ^ 6]) (x := t2) (m := 6) rfl (by decide)
      refine g_asg (ev_ixU (eu_tup (ea_cons (ev_var rfl) (ea_cons (ev_op ev_c (ev_op (ev_var rfl) ev_c (rv_I (show (0 : Int) < 60 by decide))) rv_I0) (ea_cons (ev_var rfl) (ea_cons ev_c (ea_cons (ev_min ev_c (ev_var rfl)) (ea_cons (ev_op ev_c (ev_op (ev_var rfl) (ev_op ev_c ev_c (rv_I ⟨by decide, by decide, by decide⟩)) (rv_I (show (0 : Int) < 10 ^ 6 by decide))) rv_I0) ea_nil)))))) (by show 6 ≤ 100000; decide)) (ev_op (ev_ixL (ev_var rfl) sth ev_c rfl) ev_c (rv_I (show (0 : Int) < 6 by decide))) hw3) ?_
      have bw3 : 1 ≤ w3 := by
        simp only [List.mem_cons, List.not_mem_nil, or_false] at mw3
        omega
      refine g_asg (ev_min (ev_var rfl) (ev_var rfl)) ?_
      -- a row more
      refine g_appU hl4 (ev_var rfl) (eu_tup (ea_cons (ev_var rfl) (ea_cons (ev_var rfl) (ea_cons (ev_var rfl) ea_nil))) (by show 3 ≤ 100000; decide)) (by omega) ?_
      intro p H5 np e8 hp
      refine g_next fun H6 e9 => ⟨?_, ⟨xs ++ [.ref p], e9 l _ upd_same, ?_, by rw [List.length_append]; simp; omega⟩, _, _, _, _, _, _, _, _, _, _, _, rfl⟩
      · exact (Ex.mut ((e3.trans e4).trans e8) nl).trans e9
      · have npl : p ≠ l := fun z => by rw [z, hl4] at np; cases np
        intro j hj
        rw [List.length_append] at hj
        by_cases hjx : j < xs.length
        · obtain ⟨b', P', S', M', h1, h2, h3⟩ := hR j hjx
          refine ⟨b', P', S', M', by rw [List.getElem?_append_left hjx]; exact h1, ?_, h3⟩
          have nb : b' ≠ l := ne_of h2 hxs (by intro z; cases z)
          refine e9 _ _ ?_
          rw [upd_ne nb]
          exact e8 _ _ (e4 _ _ h2)
        · have hj' : j = xs.length := by simp at hj; omega
          subst hj'
          refine ⟨p, P2', S3, min w3 tt, by simp, ?_, ⟨R3, b2, by omega, by rw [htop]; omega⟩⟩
          refine e9 _ _ ?_
          rw [upd_ne npl]
          exact hp
theorem eq_int {a b : Int} : V.bl (decide (V.int a = V.int b)) = V.bl (decide (a = b)) := by
  by_cases z : a = b
  · rw [z, decide_eq_true rfl, decide_eq_true rfl]
  · rw [decide_eq_false z, decide_eq_false (fun q => z (by injection q))]
/-! ### the law -/
def spFirstQ (K : PySem.W.Frag) (c : Cs) (CF CN : Addr) : Sp := fun vs H Q _ => spFirst K c CF CN vs H Q E0
/-- what first hands back -/
def FirstR (CF CN : Addr) (p s b e : Int) (v : V) (H : Hp) : Prop := ∃ x, v = .ref x ∧ ((¬ HasM (G p s) b e ∧ AnsAt H CN x "common" (G p s)) ∨ (HasM (G p s) b e ∧ ∃ k, FirstIn p s b e k ∧ AnsAt H CF x "mark" k))
theorem evp_first {c : Cs} {CF CN : Addr} {σ : L2.St} {H : Hp} {ta : TA} {E : XK} {p s b e : Int} (R : Ring p s) (l : Lv 1 p) (b0 : 0 ≤ b) (be : b ≤ e) (ep : e < p) (h : EvA ta σ H [.int p, .int s, .int b, .int e]) : EvP (tCall (spFirstQ K c CF CN) [] E ta) σ H (FirstR CF CN p s b e) := fun H1 x Q q =>
  h H1 x _ fun H2 x2 => by
    refine ⟨.int p, .int s, .int b, .int e, rfl, l, R.ls l, lv_le l b0 (by omega), lv_le l (by omega) (by omega), fun C hC => ?_, fun v _ => ⟨fun C hC => ?_, fun v _ => ⟨fun hn y H3 _ x3 ha => q _ H3 (x2.trans x3) ⟨y, rfl, .inl ⟨hn, ha⟩⟩, fun hm y k H3 hk _ x3 ha => q _ H3 (x2.trans x3) ⟨y, rfl, .inr ⟨hm, k, hk, ha⟩⟩⟩⟩⟩
    · rw [ringO_ok R] at hC; cases hC
    · rw [stretchO_ok b0 be (show e < iv (.int p) from ep)] at hC; cases hC
/-- either answer -/
def AnsOf (CF CN : Addr) (H : Hp) (x : Addr) (F : Bool) (m : Int) : Prop := match F with
  | true => AnsAt H CF x "mark" m
  | false => AnsAt H CN x "common" m
theorem AnsOf.ex {CF CN : Addr} {H H' : Hp} {x : Addr} {F : Bool} {m : Int} (h : AnsOf CF CN H x F m) (e : Ex H H') : AnsOf CF CN H' x F m := by
  cases F with
  | true => exact AnsAt.ex (f := "mark") h e
  | false => exact AnsAt.ex (f := "common") h e
def showsA (F : Bool) (p s b e m : Int) : Bool := match F with
  | true => showsF p s b e m
  | false => showsN p s b e m
abbrev s__law_due : Stmt := topS 27
theorem sc__law_due : FnScope ["_law_places", "_law_step", "_law_begin", "_law_end", "_law_found", "_law_mark", "_law_by"] ["_law_places", "_law_step", "_law_begin", "_law_end", "_law_found"] (defScope s__law_due) := ⟨rfl, rfl, rfl, by decide +kernel, rfl, by decide +kernel, by decide +kernel⟩
def spDue (CF CN : Addr) : Sp := fun vs H Q _ => ∃ (p s b e : Int) (x : Addr) (F : Bool) (m : Int), vs = [.int p, .int s, .int b, .int e, .ref x] ∧ AnsOf CF CN H x F m ∧ Ring p s ∧ p ≤ PB ∧ 0 ≤ b ∧ b ≤ e ∧ e < p ∧ Lv 1 m ∧ ∀ H', Ex H H' → Q (.bl (showsA F p s b e m)) H'
theorem spv_due {CF CN : Addr} {H : Hp} {p s b e : Int} {x : Addr} {F : Bool} {m : Int} (h : AnsOf CF CN H x F m) (R : Ring p s) (pb : p ≤ PB) (b0 : 0 ≤ b) (be : b ≤ e) (ep : e < p) (l : Lv 1 m) : SpV (spDue CF CN) [.int p, .int s, .int b, .int e, .ref x] H (.bl (showsA F p s b e m)) := fun H1 y Q q E => ⟨p, s, b, e, x, F, m, rfl, h.ex y, R, pb, b0, be, ep, l, q⟩
theorem ok__law_due {CF CN : Addr} (iF : InsI K CF) (iN : InsI K CN) (naF : NoAttr K CF "mark") (naN : NoAttr K CN "common") (kFF : PySem.W.kitOne K (.ref CF) (.ref CF) = some true) (kNF : PySem.W.kitOne K (.ref CN) (.ref CF) = some false) (hA : Blt mg) (F : Fun K "_law_due" "_law_due" s__law_due f fd)
    (M_First_g : mg "First" = some (.ref CF)) (G__law_to : FnOk P w K mg base CX0 197 f1 fd1 ["_law_places", "_law_step", "_law_marks", "_law_place"] spTo) (A__law_to : At K mg "_law_to" s__law_to ["_law_places", "_law_step", "_law_marks", "_law_place"] f1 fd1) : FnOk P w K mg base CX0 198 f fd ["_law_places", "_law_step", "_law_begin", "_law_end", "_law_found"] (spDue CF CN) := by
  refine F.ok sc__law_due (fun vs H Q E h => ?_) (fun cdv A outer s H vs Q E hr h => ?_)
  · obtain ⟨p, s, b, e, x, F, m, rfl, _⟩ := h
    rfl
  · obtain ⟨p, s, b, e, x, F, m, rfl, hx, R, pb, b0, be, ep, lm, k⟩ := h
    have p1 := R.p
    have lp : Lv 1 p := lv_140 (by omega) (Int.lt_of_le_of_lt pb PB_lt)
    have ls := R.ls lp
    have le : Lv 1 e := lv_le lp (by omega) (by omega)
    refine ⟨_, (pss_cons (ps_if (pt_val (pe_callB call_isi rfl hA.z_isinstance (by decide +kernel) (pa_cons (pv 4) (pa_cons (pe_glob (v := .ref _) rfl M_First_g rfl) pa_nil)))) (pss_cons (ps_set (i := 5) sc__law_due.nd rfl (Or.inl rfl) (pe_fld (pv 4) rfl))
      (pss_cons (ps_if (PW.pt (pw_or (pt_cmpR op_lt (pv 5) pe_int (nomark _)) (pw_or1 (pt_not (pt_chain op_le op_le (pv 2) (pe_op op_mod (pe_op op_mulB (pv 5) (pv 1)) (pv 0)) (pv 3)))))) (pss_cons (ps_ret pe_bl)
      pss_nil) pss_nil)
      (pss_cons (ps_ret (pe_cmpR op_eq (pe_call G__law_to (hr.mono (by omega)) rfl A__law_to.g A__law_to.fn.kp A__law_to.b .nil pass0 (pa_cons (pv 0) (pa_cons (pv 1) (pa_cons (pv 5) (pa_cons (pv 3) pa_nil))))) (pe_call G__law_to (hr.mono (by omega)) rfl A__law_to.g A__law_to.fn.kp A__law_to.b .nil pass0 (pa_cons (pv 0) (pa_cons (pv 1) (pa_cons (pv 5) (pa_cons (pe_op op_sub (pv 2) pe_int) pa_nil))))) (nomark _)))
      pss_nil))) pss_nil)
      (pss_cons (ps_set (i := 6) sc__law_due.nd rfl (Or.inl rfl) (pe_fld (pv 4) rfl))
      (pss_cons (ps_ret (pe_and (pe_cmpR op_gt (pv 6) pe_int (nomark _)) (pe_and (pe_cmpR op_eq (pe_op op_mod (pv 0) (pv 6)) pe_int (nomark _)) (pe_and (pe_cmpR op_eq (pe_op op_mod (pv 1) (pv 6)) pe_int (nomark _)) (pe_one (pe_cmpR op_lt (pe_op op_mulB (pe_op op_fdivW (pv 3) (pv 6)) (pv 6)) (pv 2) (nomark _)))))))
      pss_nil))), Go.at ?_⟩
    cases F with
    | true =>
      obtain ⟨dx, hx⟩ := hx
      refine g_when (b := true) (et_B (ev_isIns (ev_var rfl) hx iF kFF)) (fun _ => ?_) (fun h => nomatch h)
      refine g_asg (ev_fld (ev_var rfl) hx iF.cl naF lk_eq) ?_
      refine g_when (b := decide (m < 0) || !(decide (b ≤ m * s % p) && decide (m * s % p ≤ e))) (et_or (et_test (ev_op (ev_var rfl) ev_c rv_I0)) fun _ => et_not (et_test (ev_chainI (ev_var rfl) (ev_op (ev_op (ev_var rfl) (ev_var rfl) (rv_I (mul_ok lm ls (by decide) (by decide)))) (ev_var rfl) (rv_I (show (0 : Int) < p by omega))) (ev_var rfl)))) (fun h => ?_) (fun h => ?_)
      · refine g_ret (v := .bl (showsF p s b e m)) (ev_is ev_c ?_) k
        unfold showsF
        rw [Bool.or_eq_true] at h
        rcases h with h | h
        · have h0 : m < 0 := of_decide_eq_true h
          rw [decide_eq_false (show ¬ 0 ≤ m by omega)]; rfl
        · have : (decide (b ≤ m * s % p) && decide (m * s % p ≤ e)) = false := by
            cases q : (decide (b ≤ m * s % p) && decide (m * s % p ≤ e)) with
            | false => rfl
            | true => rw [q] at h; cases h
          rw [this, Bool.and_false]; rfl
      · rw [Bool.or_eq_false_iff] at h
        have m0 : 0 ≤ m := by have : ¬ m < 0 := of_decide_eq_false h.1; omega
        have h2 := nt h.2
        refine g_ret (v := .bl (showsF p s b e m)) (ev_is (ev_op (ev_call1 (ea_cons (ev_var rfl) (ea_cons (ev_var rfl) (ea_cons (ev_var rfl) (ea_cons (ev_var rfl) ea_nil)))) (spv_to R m0 ep pb lm)) (ev_call1 (ea_cons (ev_var rfl) (ea_cons (ev_var rfl) (ea_cons (ev_var rfl) (ea_cons (ev_op (ev_var rfl) ev_c rv_I0) ea_nil)))) (spv_to R m0 (by omega) pb lm)) (rv_eq rfl)) ?_) k
        unfold showsF
        rw [h2, decide_eq_true m0]
        unfold inCnt
        refine congrArg V.bl ?_
        rw [Bool.and_self, Bool.true_and]
        by_cases z : RS.cnt p s m.toNat e = RS.cnt p s m.toNat (b - 1)
        · rw [z, decide_eq_true rfl, decide_eq_true (by omega)]
        · rw [decide_eq_false (fun q => z (by injection q)), decide_eq_false (by omega)]
    | false =>
      obtain ⟨dx, hx⟩ := hx
      refine g_when (b := false) (et_B (ev_isIns (ev_var rfl) hx iN kNF)) (fun h => nomatch h) (fun _ => ?_)
      refine g_asg (ev_fld (ev_var rfl) hx iN.cl naN lk_eq) ?_
      by_cases m1 : 0 < m
      · have ld : Lv 1 (e / m) := lv_div le m1
        refine g_ret (v := .bl (showsN p s b e m)) (ev_is (ev_andV (ev_op (ev_var rfl) ev_c rv_I0) fun _ => ev_andV (ev_is (ev_op (ev_op (ev_var rfl) (ev_var rfl) (rv_I m1)) ev_c (rv_eq rfl)) eq_int) fun _ => ev_andV (ev_is (ev_op (ev_op (ev_var rfl) (ev_var rfl) (rv_I m1)) ev_c (rv_eq rfl)) eq_int) fun _ =>
          ev_op (ev_op (ev_op (ev_var rfl) (ev_var rfl) (rv_I (div_ok m1 lm))) (ev_var rfl) (rv_I (mul_ok ld lm (by decide) (by decide)))) (ev_var rfl) rv_I0) ?_) k
        refine congrArg V.bl ?_
        unfold showsN
        rw [decide_eq_true (show (1 : Int) ≤ m by omega), decide_eq_true (show m > 0 from m1)]
        simp [Bool.and_assoc]
      · refine g_ret (v := .bl (showsN p s b e m)) (ev_is (ev_andV (a := false) (b := true) (ev_is (ev_op (ev_var rfl) ev_c rv_I0) (congrArg V.bl (decide_eq_false (show ¬ m > 0 from m1)))) fun h => nomatch h) ?_) k
        unfold showsN
        rw [decide_eq_false (show ¬ (1 : Int) ≤ m by omega)]
        rfl
abbrev s__law_right : Stmt := topS 28
theorem sc__law_right : FnScope ["_law_places", "_law_step", "_law_begin", "_law_end", "_law_others", "_law_found", "_law_by", "_law_low", "_law_high", "_law_marks", "_law_mark"] ["_law_places", "_law_step", "_law_begin", "_law_end", "_law_others"] (defScope s__law_right) := ⟨rfl, rfl, rfl, by decide +kernel, rfl, by decide +kernel, by decide +kernel⟩
def spRight (K : PySem.W.Frag) : Sp := fun vs H Q _ => ∃ (p s b e : Int) (o : Addr) (xs : List V) (ps : List (Int × Int)), vs = [.int p, .int s, .int b, .int e, .ref o] ∧ SqL K H o xs ∧ TupsAt H xs (ps.map fun x => [V.int x.1, V.int x.2]) ∧ (∀ x ∈ ps, 0 ≤ x.1 ∧ x.1 ≤ x.2 ∧ x.2 < p) ∧ Ring p s ∧ p ≤ PB ∧ 0 ≤ b ∧ b ≤ e ∧ e < p ∧ ∀ H', Ex H H' → Q (.bl true) H'
theorem spv_right {K : PySem.W.Frag} {H : Hp} {p s b e : Int} {o : Addr} {xs : List V} {ps : List (Int × Int)} (h : SqL K H o xs) (h2 : TupsAt H xs (ps.map fun x => [V.int x.1, V.int x.2])) (h3 : ∀ x ∈ ps, 0 ≤ x.1 ∧ x.1 ≤ x.2 ∧ x.2 < p) (R : Ring p s) (pb : p ≤ PB) (b0 : 0 ≤ b) (be : b ≤ e) (ep : e < p) :
    SpV (spRight K) [.int p, .int s, .int b, .int e, .ref o] H (.bl true) := fun H1 y Q q E => ⟨p, s, b, e, o, xs, ps, rfl, ex_l y h, h2.ex y, h3, R, pb, b0, be, ep, q⟩
theorem ok__law_right {c : Cs} {CF CN CA : Addr} (iF : InsI K CF) (iN : InsI K CN) (naF : NoAttr K CF "mark") (naN : NoAttr K CN "common") (kFF : PySem.W.kitOne K (.ref CF) (.ref CF) = some true) (kNF : PySem.W.kitOne K (.ref CN) (.ref CF) = some false)
    (kFN : PySem.W.kitOne K (.ref CF) (.ref CN) = some false) (kNN : PySem.W.kitOne K (.ref CN) (.ref CN) = some true) (kFA : PySem.W.kitOne K (.ref CF) (.ref CA) = some true) (kNA : PySem.W.kitOne K (.ref CN) (.ref CA) = some true) (hA : Blt mg) (F : Fun K "_law_right" "_law_right" s__law_right f fd)
    (M_First_g : mg "First" = some (.ref CF)) (M_Never_g : mg "Never" = some (.ref CN)) (M_Answer_g : mg "Answer" = some (.ref CA)) (G_first : FnOk P w K mg base CX0 3 f1 fd1 ["places", "step", "begin", "end"] (spFirstQ K c CF CN)) (A_first : At K mg "first" s_first ["places", "step", "begin", "end"] f1 fd1)
    (G__law_whole : FnOk P w K mg base CX0 1 f2 fd2 ["_law_found"] (spWhole K)) (A__law_whole : At K mg "_law_whole" s__law_whole ["_law_found"] f2 fd2)
    (G__law_common : FnOk P w K mg base CX0 1 f3 fd3 ["_law_one", "_law_other"] spCommon) (A__law_common : At K mg "_law_common" s__law_common ["_law_one", "_law_other"] f3 fd3)
    (G__law_due : FnOk P w K mg base CX0 198 f4 fd4 ["_law_places", "_law_step", "_law_begin", "_law_end", "_law_found"] (spDue CF CN)) (A__law_due : At K mg "_law_due" s__law_due ["_law_places", "_law_step", "_law_begin", "_law_end", "_law_found"] f4 fd4)
    (Me_First : Meth K CF "shows" f5) (G_First_shows : FnOk P w K mg base CX0 3 f5 fd5 ["self", "places", "step", "begin", "end"] (spShF CF)) (B_First_shows : Binds K fd5 ["self", "places", "step", "begin", "end"] [])
    (Me_Never : Meth K CN "shows" f6) (G_Never_shows : FnOk P w K mg base CX0 3 f6 fd6 ["self", "places", "step", "begin", "end"] (spShN CN)) (B_Never_shows : Binds K fd6 ["self", "places", "step", "begin", "end"] []) :
    FnOk P w K mg base CX0 199 f fd ["_law_places", "_law_step", "_law_begin", "_law_end", "_law_others"] (spRight K) := by
  have Cl_First := iF.cl
  have Cl_Never := iN.cl
  refine F.ok sc__law_right (fun vs H Q E h => ?_) (fun cdv A outer s H vs Q E hr h => ?_)
  · obtain ⟨p, s, b, e, o, xs, ps, rfl, _⟩ := h
    rfl
  · obtain ⟨p, s, b, e, o, xs, ps, rfl, hxs, hT, hps, R, pb, b0, be, ep, k⟩ := h
    have p1 := R.p
    have lp : Lv 1 p := lv_140 (by omega) (Int.lt_of_le_of_lt pb PB_lt)
    have ls := R.ls lp
    have le : Lv 1 e := lv_le lp (by omega) (by omega)
    have g0 : 0 < G p s := G_pos (by omega)
    have gl : G p s ≤ p := G_le (by omega)
    have lG := lv_G R lp
    have tp := top_pos (p := p) (s := s) (by omega)
    have tl := top_le (p := p) (s := s) (by omega)
    refine ⟨_, (pss_cons (ps_set (i := 5) sc__law_right.nd rfl (Or.inl rfl) (pe_call G_first (hr.mono (by omega)) rfl A_first.g A_first.fn.kp A_first.b .nil pass0 (pa_cons (pv 0) (pa_cons (pv 1) (pa_cons (pv 2) (pa_cons (pv 3) pa_nil))))))
      (pss_cons (ps_if (PW.pt (pw_or (pt_not (pt_val (pe_callB call_isi rfl hA.z_isinstance (by decide +kernel) (pa_cons (pv 5) (pa_cons (pe_glob (v := .ref _) rfl M_Answer_g rfl) pa_nil))))) (pw_or1 (pt_cmpR op_eq (pe_callB call_isi rfl hA.z_isinstance (by decide +kernel) (pa_cons (pv 5) (pa_cons (pe_glob (v := .ref _) rfl M_First_g rfl) pa_nil))) (pe_callB call_isi rfl hA.z_isinstance (by decide +kernel) (pa_cons (pv 5) (pa_cons (pe_glob (v := .ref _) rfl M_Never_g rfl) pa_nil))) (nomark _))))) (pss_cons (ps_ret pe_bl)
      pss_nil) pss_nil)
      (pss_cons (ps_if (pt_not (pt_val (pe_call G__law_whole (hr.mono (by omega)) rfl A__law_whole.g A__law_whole.fn.kp A__law_whole.b .nil pass0 (pa_cons (pe_ifExp (pt_val (pe_callB call_isi rfl hA.z_isinstance (by decide +kernel) (pa_cons (pv 5) (pa_cons (pe_glob (v := .ref _) rfl M_First_g rfl) pa_nil)))) (pe_fld (pv 5) rfl) (pe_fld (pv 5) rfl)) pa_nil)))) (pss_cons (ps_ret pe_bl)
      pss_nil) pss_nil)
      (pss_cons (ps_set (i := 6) sc__law_right.nd rfl (Or.inl rfl) (pe_call G__law_common (hr.mono (by omega)) rfl A__law_common.g A__law_common.fn.kp A__law_common.b .nil pass0 (pa_cons (pv 0) (pa_cons (pv 1) pa_nil))))
      (pss_cons (ps_if (PW.pt (pw_or (pt_cmpR op_ne (pe_callB call_isi rfl hA.z_isinstance (by decide +kernel) (pa_cons (pv 5) (pa_cons (pe_glob (v := .ref _) rfl M_Never_g rfl) pa_nil))) (pe_cmpR op_lt (pe_op op_mulB (pe_op op_fdivW (pv 3) (pv 6)) (pv 6)) (pv 2) (nomark _)) (nomark _)) (pw_or1 (pt_not (pt_val (pe_call G__law_due (hr.mono (by omega)) rfl A__law_due.g A__law_due.fn.kp A__law_due.b .nil pass0 (pa_cons (pv 0) (pa_cons (pv 1) (pa_cons (pv 2) (pa_cons (pv 3) (pa_cons (pv 5) pa_nil))))))))))) (pss_cons (ps_ret pe_bl)
      pss_nil) pss_nil)
      (pss_cons (ps_if (pt_cmpR op_notBl (pe_orR (pe_meth (pv 5) Cl_First Me_First G_First_shows (hr.mono (by omega)) B_First_shows .nil pass0 (pa_cons (pv 0) (pa_cons (pv 1) (pa_cons (pv 2) (pa_cons (pv 3) pa_nil))))) (pe_meth (pv 5) Cl_Never Me_Never G_Never_shows (hr.mono (by omega)) B_Never_shows .nil pass0 (pa_cons (pv 0) (pa_cons (pv 1) (pa_cons (pv 2) (pa_cons (pv 3) pa_nil)))))) pe_bl (nomark _)) (pss_cons (ps_ret pe_bl)
      pss_nil) pss_nil)
      (pss_cons (ps_for PassesOwn.never rfl (pi_list (pv 4)) (pg_tup rfl (pgs_cons (pg_name (i := 7) sc__law_right.nd rfl (Or.inl rfl)) (pgs_cons (pg_name (i := 8) sc__law_right.nd rfl (Or.inl rfl)) pgs_nil))) (pss_cons (ps_if (pt_cmpR op_ne (pe_orR (pe_meth (pv 5) Cl_First Me_First G_First_shows (hr.mono (by omega)) B_First_shows .nil pass0 (pa_cons (pv 0) (pa_cons (pv 1) (pa_cons (pv 7) (pa_cons (pv 8) pa_nil))))) (pe_meth (pv 5) Cl_Never Me_Never G_Never_shows (hr.mono (by omega)) B_Never_shows .nil pass0 (pa_cons (pv 0) (pa_cons (pv 1) (pa_cons (pv 7) (pa_cons (pv 8) pa_nil)))))) (pe_call G__law_due (hr.mono (by omega)) rfl A__law_due.g A__law_due.fn.kp A__law_due.b .nil pass0 (pa_cons (pv 0) (pa_cons (pv 1) (pa_cons (pv 7) (pa_cons (pv 8) (pa_cons (pv 5) pa_nil)))))) (nomark _)) (pss_cons (ps_ret pe_bl)
      pss_nil) pss_nil)
      pss_nil))
      (pss_cut (ps_if (pt_cmpR op_lt (pv 0) pe_int (nomark _)) (pss_cons (ps_setLc (i := 9) (own := [("_law_mark", 10)]) (g := (gName 10)) rfl sc__law_right.nd rfl rfl (sw_true rfl rfl rfl (by decide +kernel)) (pi_range1 rfl hA.z_range (pa_cons (pe_op op_fdivW (pv 0) (pv 6)) pa_nil)) (blkOk_by (own := [("_law_mark", 10)]) (N := ["_law_places", "_law_step", "_law_begin", "_law_end", "_law_others", "_law_found", "_law_by", "_law_low", "_law_high", "_law_marks", "_law_mark"]) (sc := defScope s__law_right) (by decide +kernel)) (fun _ _ _ _ _ => (pg_name (i := 10) sc__law_right.nd rfl (Or.inl rfl))) (fun _ _ _ _ _ => (pts_one (pt_chain op_le op_le (pv 2) (pe_op op_mod (pe_op op_mulB (pv 10) (pv 1)) (pv 0)) (pv 3)))) (fun _ _ _ _ _ => (pv 10)))
      (pss_cons (ps_if (pt_cmpR (op_neD hr.units) (pe_slice sl_list (pv 9) po_none (po_some pe_int)) (pe_ifExp (pt_val (pe_callB call_isi rfl hA.z_isinstance (by decide +kernel) (pa_cons (pv 5) (pa_cons (pe_glob (v := .ref _) rfl M_First_g rfl) pa_nil)))) (pe_lst (pa_cons (pe_fld (pv 5) rfl) pa_nil)) (pe_lst pa_nil)) (nomark _)) (pss_cons (ps_ret pe_bl)
      pss_nil) pss_nil)
      pss_nil)) pss_nil)
      (pss_cons (ps_ret pe_bl)
      pss_nil))))))))), Go.at ?_⟩
    refine g_asgP (evp_first R lp b0 be ep (ea_cons (ev_var rfl) (ea_cons (ev_var rfl) (ea_cons (ev_var rfl) (ea_cons (ev_var rfl) ea_nil))))) ?_
    rintro v H2 e2 ⟨x, rfl, hx⟩
    -- what came: which, its number
    obtain ⟨Fl, m, hAns, hm, hlt, hSh, hAll⟩ : ∃ (Fl : Bool) (m : Int), AnsOf CF CN H2 x Fl m ∧ Lv 1 m ∧ decide (e / G p s * G p s < b) = !Fl ∧ showsA Fl p s b e m = true ∧
        (∀ (c : Nat → Bool), (∀ i : Nat, c i = (decide (b ≤ (i : Int) * s % p) && decide ((i : Int) * s % p ≤ e))) → (given (top p s).toNat c (fun i => V.int (i : Nat))).take 1 = (if Fl then [m] else []).map V.int) := by
      rcases hx with ⟨hn, hx⟩ | ⟨hm, k', hk, hx⟩
      · have hnot : e / G p s * G p s < b := by
          by_cases z : b ≤ e / G p s * G p s
          · exact absurd ((hasM_iff g0).mpr z) hn
          · omega
        refine ⟨false, G p s, hx, lG, decide_eq_true hnot, ?_, fun c hc => ?_⟩
        · show showsN p s b e (G p s) = true
          unfold showsN
          rw [decide_eq_true (show (1 : Int) ≤ G p s by omega), decide_eq_true (show p % G p s = 0 from Int.emod_eq_zero_of_dvd (Int.gcd_dvd_left ..)), decide_eq_true (show s % G p s = 0 from Int.emod_eq_zero_of_dvd (Int.gcd_dvd_right ..)), decide_eq_true hnot]
          rfl
        · have z : given (top p s).toNat c (fun i => V.int (i : Nat)) = [] := given_none fun i _ => by
            rw [hc i]
            cases q : (decide (b ≤ (i : Int) * s % p) && decide ((i : Int) * s % p ≤ e)) with
            | false => rfl
            | true =>
              rw [Bool.and_eq_true] at q
              exact absurd ⟨of_decide_eq_true q.1, of_decide_eq_true q.2⟩ (none_in (k := (i : Int)) (show 0 < p by omega) hn)
          rw [z]
          rfl
      · have hlt := hk.lt (show 0 < p by omega)
        have hnn := hk.nn
        have hyes := (hasM_iff g0).mp hm
        refine ⟨true, k', hx, lv_le lp hnn (by omega), decide_eq_false (by omega), (showsF_iff be).mpr hk, fun c hc => ?_⟩
        have e1 : ((k'.toNat : Nat) : Int) = k' := by omega
        have z : (given (top p s).toNat c (fun i => V.int (i : Nat))).take 1 = [V.int (k'.toNat : Nat)] := given_first (k := k'.toNat) (fun i hi => by
          rw [hc i]
          cases q : (decide (b ≤ (i : Int) * s % p) && decide ((i : Int) * s % p ≤ e)) with
          | false => rfl
          | true =>
            rw [Bool.and_eq_true] at q
            exact absurd ⟨of_decide_eq_true q.1, of_decide_eq_true q.2⟩ (hk.no (i : Int) (by omega) (by omega))) (by
          rw [hc, e1]
          obtain ⟨h1, h2⟩ := hk.is
          rw [decide_eq_true h1, decide_eq_true h2]
          rfl) (show k'.toNat < (top p s).toNat by omega)
        rw [z, e1]
        rfl
    have isF : ∀ {H3 : Hp} {σ' : L2.St} {te : TE}, Ex H2 H3 → Ev te σ' H3 (.ref x) → Ev (tCB (rIsi K) (tCons te (tCons (tC (.ref CF)) tNil))) σ' H3 (.bl Fl) := fun {H3 σ' te} e3 h => by
      have hh := hAns.ex e3
      cases Fl with
      | true => obtain ⟨dx, hh⟩ := hh; exact ev_isIns h hh iF kFF
      | false => obtain ⟨dx, hh⟩ := hh; exact ev_isIns h hh iN kNF
    have isN : ∀ {H3 : Hp} {σ' : L2.St} {te : TE}, Ex H2 H3 → Ev te σ' H3 (.ref x) → Ev (tCB (rIsi K) (tCons te (tCons (tC (.ref CN)) tNil))) σ' H3 (.bl (!Fl)) := fun {H3 σ' te} e3 h => by
      have hh := hAns.ex e3
      cases Fl with
      | true => obtain ⟨dx, hh⟩ := hh; exact ev_isIns h hh iF kFN
      | false => obtain ⟨dx, hh⟩ := hh; exact ev_isIns h hh iN kNN
    have isA : ∀ {H3 : Hp} {σ' : L2.St} {te : TE}, Ex H2 H3 → Ev te σ' H3 (.ref x) → Ev (tCB (rIsi K) (tCons te (tCons (tC (.ref CA)) tNil))) σ' H3 (.bl true) := fun {H3 σ' te} e3 h => by
      have hh := hAns.ex e3
      cases Fl with
      | true => obtain ⟨dx, hh⟩ := hh; exact ev_isIns h hh iF kFA
      | false => obtain ⟨dx, hh⟩ := hh; exact ev_isIns h hh iN kNA
    have fF : ∀ {H3 : Hp} {σ' : L2.St} {te : TE}, Fl = true → Ex H2 H3 → Ev te σ' H3 (.ref x) → Ev (tFld K te "mark") σ' H3 (.int m) := fun {H3 σ' te} hf e3 h => by
      have hh := hAns.ex e3
      subst hf
      obtain ⟨dx, hh⟩ := hh
      exact ev_fld h hh Cl_First naF lk_eq
    have fN : ∀ {H3 : Hp} {σ' : L2.St} {te : TE}, Fl = false → Ex H2 H3 → Ev te σ' H3 (.ref x) → Ev (tFld K te "common") σ' H3 (.int m) := fun {H3 σ' te} hf e3 h => by
      have hh := hAns.ex e3
      subst hf
      obtain ⟨dx, hh⟩ := hh
      exact ev_fld h hh Cl_Never naN lk_eq
    have shw : ∀ {H3 : Hp} {σ' : L2.St} {te : TE} {ta : TA} {E1 E2 : XK} {lo hi : Int}, Ex H2 H3 → Ev te σ' H3 (.ref x) → EvA ta σ' H3 [.int p, .int s, .int lo, .int hi] → 0 ≤ lo → lo ≤ hi → hi < p →
        Ev (fun σ H Q => tMeth CF "shows" (spShF CF) [] E1 te ta σ H Q ∨ tMeth CN "shows" (spShN CN) [] E2 te ta σ H Q) σ' H3 (.bl (showsA Fl p s lo hi m)) := fun {H3 σ' te ta E1 E2 lo hi} e3 h ha q0 q1 q2 => by
      have hh := hAns.ex e3
      cases Fl with
      | true =>
        obtain ⟨dx, hh⟩ := hh
        exact ev_orl (ev_meth h hh (lk_ne (by decide)) ha (spv_shF ⟨dx, hh⟩ R q0 q1 q2 lp hm))
      | false =>
        obtain ⟨dx, hh⟩ := hh
        exact ev_orr (ev_meth h hh (lk_ne (by decide)) ha (spv_shN ⟨dx, hh⟩ (lv_le lp (by omega) (by omega)) hm))
    refine g_when (b := false) (et_or (a := false) (b := false) (et_not (et_B (isA (Ex.refl H2) (ev_var rfl)))) fun _ => et_is (et_test (ev_op (isF (Ex.refl H2) (ev_var rfl)) (isN (Ex.refl H2) (ev_var rfl)) (rv_eq rfl))) (by cases Fl <;> rfl)) (fun h => nomatch h) (fun _ => ?_)
    refine g_when (b := false) (et_not (et_B (ev_call1 (ea_cons (ev_if (v := .int m) (et_B (isF (Ex.refl H2) (ev_var rfl))) (fun h => fF h (Ex.refl H2) (ev_var rfl)) (fun h => fN h (Ex.refl H2) (ev_var rfl))) ea_nil) (spv_wholeI hm)))) (fun h => nomatch h) (fun _ => ?_)
    refine g_asg (ev_call1 (ea_cons (ev_var rfl) (ea_cons (ev_var rfl) ea_nil)) (spv_common (by omega) R.s0)) ?_
    have ldG : Lv 1 (e / G p s) := lv_div le g0
    refine g_when (b := false) (et_or (a := false) (b := false) (et_is (et_test (ev_op (isN (Ex.refl H2) (ev_var rfl)) (ev_is (ev_op (ev_op (ev_op (ev_var rfl) (ev_var rfl) (rv_I (div_ok g0 lG))) (ev_var rfl) (rv_I (mul_ok ldG lG (by decide) (by decide)))) (ev_var rfl) rv_I0) (congrArg V.bl hlt)) (rv_ne rfl))) (by cases Fl <;> rfl))
      fun _ => et_not (et_B (ev_is (ev_call1 (ea_cons (ev_var rfl) (ea_cons (ev_var rfl) (ea_cons (ev_var rfl) (ea_cons (ev_var rfl) (ea_cons (ev_var rfl) ea_nil))))) (spv_due hAns R pb b0 be ep hm)) (congrArg V.bl hSh)))) (fun h => nomatch h) (fun _ => ?_)
    refine g_when (b := false) (et_is (et_test (ev_op (ev_is (shw (Ex.refl H2) (ev_var rfl) (ea_cons (ev_var rfl) (ea_cons (ev_var rfl) (ea_cons (ev_var rfl) (ea_cons (ev_var rfl) ea_nil)))) b0 be ep) (congrArg V.bl hSh)) ev_c rv_notB)) rfl) (fun h => nomatch h) (fun _ => ?_)
    refine g_for (ef_tups2 (ps := ps.map fun x => (V.int x.1, V.int x.2)) (ev_var rfl) (ex_l e2 hxs) (by rw [List.map_map]; exact hT.ex e2)) (fun j' σ' => ∃ o7 o8 o9 o10 : Option V, σ' = [some (.int p), some (.int s), some (.int b), some (.int e), some (.ref o), some (.ref x), some (.int (G p s)), o7, o8, o9, o10]) ⟨_, _, _, _, rfl⟩ ?_ ?_
    · rintro H3 e3 j' σ' hj' ⟨o7, o8, o9, o10, rfl⟩
      rw [List.length_map] at hj'
      obtain ⟨lo, hi', hlh⟩ : ∃ lo hi', ps[j'] = (lo, hi') := ⟨_, _, rfl⟩
      obtain ⟨q0, q1, q2⟩ := hps ps[j'] (List.getElem_mem hj')
      rw [hlh] at q0 q1 q2
      have q0 : 0 ≤ lo := q0
      have q1 : lo ≤ hi' := q1
      have q2 : hi' < p := q2
      have gx : (ps.map fun x => (V.int x.1, V.int x.2))[j']? = some (V.int lo, V.int hi') := by rw [List.getElem?_map, List.getElem?_eq_getElem hj', hlh]; rfl
      rw [gx]
      exact g_when (b := false) (et_is (et_test (ev_op (shw e3 (ev_var rfl) (ea_cons (ev_var rfl) (ea_cons (ev_var rfl) (ea_cons (ev_var rfl) (ea_cons (ev_var rfl) ea_nil)))) q0 q1 q2) (ev_call1 (ea_cons (ev_var rfl) (ea_cons (ev_var rfl) (ea_cons (ev_var rfl) (ea_cons (ev_var rfl) (ea_cons (ev_var rfl) ea_nil))))) (spv_due (hAns.ex e3) R pb q0 q1 q2 hm)) (rv_ne rfl))) (ne_same rfl)) (fun h => nomatch h) (fun _ => g_next fun H' e' => ⟨e', _, _, _, _, rfl⟩)
    · rintro H3 e3 σ' ⟨o7, o8, o9, o10, rfl⟩
      refine g_cut (fun σ' H' => Ex H3 H') (g_one (g_when (et_test (ev_op (ev_var rfl) ev_c rv_I0)) (fun h => ?_) (fun _ => g_next fun H' e' => e'))) (fun σ' H' e' => ?_)
      · have hp : p < 70 := of_decide_eq_true h
        have htop : ((top p s).toNat : Int) = top p s := by omega
        refine g_asgL (el_lcF (n := (top p s).toNat) (fun i' => decide (b ≤ (i' : Int) * s % p) && decide ((i' : Int) * s % p ≤ e)) (fun i' => V.int (i' : Nat)) (ef_range (n := top p s) (ea_cons (ev_op (ev_var rfl) (ev_var rfl) (rv_I (div_ok g0 lG))) ea_nil) (by omega) (by omega)) (by omega) (fun i' _ => rfl) ?c1 ?c2) ?_
        case c1 =>
          intro H8 e8 i' hi''
          exact et_test (ev_chainI (ev_var rfl) (ev_op (ev_op (ev_var rfl) (ev_var rfl) (rv_I (mul_ok (lv_small (by omega)) ls (by decide) (by decide)))) (ev_var rfl) (rv_I (show (0 : Int) < p by omega))) (ev_var rfl))
        case c2 =>
          intro H8 e8 i' hi'' _
          exact ev_var rfl
        intro lm H4 nlm e4 hlm
        have hall := hAll _ fun i => rfl
        have sl : EvL (tSl (rSlL K) (tVar 9) tNoPart (tPart (tC (.int 1)))) [some (.int p), some (.int s), some (.int b), some (.int e), some (.ref o), some (.ref x), some (.int (G p s)), o7, o8, some (.ref lm), o10] H4 ((if Fl then [m] else []).map V.int) := by
          rw [← hall, ← cut_take]
          exact el_sl (ev_var rfl) eo_none (eo_some ev_c) (sq_of hlm)
        refine g_when (b := false) (et_is (et_test (ev_neD (ed_ints sl) (ed_if (et_B (isF (e3.trans e4) (ev_var rfl))) (fun h => ed_ints (ns := if Fl then [m] else []) ?e1) (fun h => ed_ints (ns := if Fl then [m] else []) ?e2)) ?e3 ?e3)) ?e4) (fun h => nomatch h) (fun _ => g_next fun H' e' => e4.trans e')
        case e1 =>
          rw [h]
          exact el_lst (ea_cons (fF h (e3.trans e4) (ev_var rfl)) ea_nil) (by show 1 ≤ 100000; decide)
        case e2 =>
          rw [h]
          exact el_lst ea_nil (by show 0 ≤ 100000; decide)
        case e3 => cases Fl <;> rfl
        case e4 =>
          cases Fl with
          | true =>
            show (!((m == m) && true)) = false
            rw [beq_self_eq_true]
            rfl
          | false => rfl
      · exact (g_ret ev_c fun H'' e'' => k H'' (((e2.trans e3).trans e').trans e'')).at
abbrev s_law : Stmt := topS 29
theorem sc_law : FnScope ["_law_script", "_law_whole_here", "_law_at", "_law_ring", "_law_places", "_law_step", "_law_marks", "_law_number_here", "_law_begin", "_law_end", "_law_place", "_law_by", "_law_pairs", "_law_low", "_law_wide", "_law_high"] ["_law_script"] (defScope s_law) := ⟨rfl, rfl, rfl, by decide +kernel, rfl, by decide +kernel, by decide +kernel⟩
def spLaw (K : PySem.W.Frag) : Sp := fun vs H Q _ => ∃ (a : Addr) (ns : List Int), vs = [.ref a] ∧ SqL K H a (ns.map V.int) ∧ ns.length ≤ 63 ∧ (∀ z ∈ ns, Lv 132 z) ∧ ∀ H', Q (.bl true) H'
theorem block_le {P g b : Int} (hg : 0 < g) (hd : P % g = 0) (h : b < P) : b / g * g + g ≤ P := by
  have e1 := Int.mul_ediv_cancel' (Int.dvd_of_emod_eq_zero hd)
  have h2 : b / g < P / g := by
    refine Int.ediv_lt_of_lt_mul hg ?_
    rw [Int.mul_comm, e1]
    exact h
  have h3 : (b / g + 1) * g ≤ P / g * g := Int.mul_le_mul_of_nonneg_right (by omega) (by omega)
  rw [Int.add_mul, Int.one_mul, Int.mul_comm (P / g) g, e1] at h3
  exact h3
theorem ok_law {c : Cs} {CF CN : Addr} (naF : NoAttr K CF "mark") (naN : NoAttr K CN "common") (Cl_First : Cls K CF) (Cl_Never : Cls K CN) (hA : Blt mg) (F : Fun K "law" "law" s_law f fd) (G__law_number : FnOk P w K mg base CX0 1 f1 fd1 ["_law_cell", "_law_at", "_law_whole_here"] spNum) (A__law_number : At K mg "_law_number" s__law_number ["_law_cell", "_law_at", "_law_whole_here"] f1 fd1)
    (G__law_rings : FnOk P w K mg base CX0 2 f2 fd2 ["_law_script"] (spRings K)) (A__law_rings : At K mg "_law_rings" s__law_rings ["_law_script"] f2 fd2) (G_first : FnOk P w K mg base CX0 3 f3 fd3 ["places", "step", "begin", "end"] (spFirstQ K c CF CN)) (A_first : At K mg "first" s_first ["places", "step", "begin", "end"] f3 fd3)
    (G__law_common : FnOk P w K mg base CX0 1 f4 fd4 ["_law_one", "_law_other"] spCommon) (A__law_common : At K mg "_law_common" s__law_common ["_law_one", "_law_other"] f4 fd4)
    (G__law_right : FnOk P w K mg base CX0 199 f5 fd5 ["_law_places", "_law_step", "_law_begin", "_law_end", "_law_others"] (spRight K)) (A__law_right : At K mg "_law_right" s__law_right ["_law_places", "_law_step", "_law_begin", "_law_end", "_law_others"] f5 fd5) :
    FnOk P w K mg base CX0 200 f fd ["_law_script"] (spLaw K) := by
  refine F.ok sc_law (fun vs H Q E h => ?_) (fun cdv A outer s H vs Q E hr h => ?_)
  · obtain ⟨a, ns, rfl, _⟩ := h
    rfl
  · obtain ⟨a, ns, rfl, hS, hlen, hlv, k⟩ := h
    have cM : ∀ {p s b e m : Int} {σ : L2.St} {H : Hp} {E : XK} {ta : TA}, EvA ta σ H [.int p, .int s, .int b, .int e] → Ring p s → 0 ≤ b → b ≤ e → e < p → Lv 1 p → showsF p s b e m = true → Ev (tFld K (tCall (spFirstQ K c CF CN) [] E ta) "mark") σ H (.int m) := fun {p s b e m σ H E ta} ha R b0 be ep lp hs =>
      ev_fldP (evp_first R lp b0 be ep ha) fun v H2 ⟨x, hv, hx⟩ => by
        have hF := (showsF_iff be).mp hs
        rcases hx with ⟨hn, _⟩ | ⟨_, k', hk, dx, hx⟩
        · exact absurd hF.is (none_in (by have := R.p; omega) hn)
        · have := hk.uniq hF
          subst this
          exact ⟨x, CF, dx, _, hv, hx, Cl_First, naF, lk_eq⟩
    have cC : ∀ {p s b e g : Int} {σ : L2.St} {H : Hp} {E : XK} {ta : TA}, EvA ta σ H [.int p, .int s, .int b, .int e] → Ring p s → 0 ≤ b → b ≤ e → e < p → Lv 1 p → G p s = g → e / g * g < b → Ev (tFld K (tCall (spFirstQ K c CF CN) [] E ta) "common") σ H (.int g) := fun {p s b e g σ H E ta} ha R b0 be ep lp hg hs =>
      ev_fldP (evp_first R lp b0 be ep ha) fun v H2 ⟨x, hv, hx⟩ => by
        subst hg
        rcases hx with ⟨hn, dx, hx⟩ | ⟨hm, _⟩
        · exact ⟨x, CN, dx, _, hv, hx, Cl_Never, naN, lk_eq⟩
        · have := (hasM_iff (G_pos (p := p) (s := s) (by have := R.p; omega))).mp hm
          omega
    refine ⟨_, (pss_cons (ps_set (i := 1) sc_law.nd rfl (Or.inl rfl) (pe_callB (cr_sum rfl) rfl hA.z_sum (by decide +kernel) (pa_cons (pe_slice sl_list (pv 0) po_none (po_some pe_int)) pa_nil)))
      (pss_cons (ps_for PassesOwn.never rfl (pi_enum rfl hA.z_enumerate (pa_cons (pe_call G__law_rings (hr.mono (by omega)) rfl A__law_rings.g A__law_rings.fn.kp A__law_rings.b .nil pass0 (pa_cons (pv 0) pa_nil)) pa_nil)) (pg_tup rfl (pgs_cons (pg_name (i := 2) sc_law.nd rfl (Or.inl rfl)) (pgs_cons (pg_name (i := 3) sc_law.nd rfl (Or.inl rfl)) pgs_nil))) (pss_cons (ps_asg (pv 3) (pg_tup rfl (pgs_cons (pg_name (i := 4) sc_law.nd rfl (Or.inl rfl)) (pgs_cons (pg_name (i := 5) sc_law.nd rfl (Or.inl rfl)) (pgs_cons (pg_name (i := 6) sc_law.nd rfl (Or.inl rfl)) pgs_nil)))))
      (pss_cons (ps_set (i := 7) sc_law.nd rfl (Or.inl rfl) (pe_call G__law_number (hr.mono (by omega)) rfl A__law_number.g A__law_number.fn.kp A__law_number.b .nil pass0 (pa_cons (pe_ix ix_list (pv 0) (pv 2) (fun _ _ => rfl)) (pa_cons (pv 2) (pa_cons (pv 1) pa_nil)))))
      (pss_cons (ps_asg (pe_callB cr_sortedI rfl hA.z_sorted (by decide +kernel) (pa_cons (pe_lst (pa_cons (pe_op op_mod (pv 7) (pv 4)) (pa_cons (pe_op op_mod (pe_op op_fdivW (pe_op op_mulB (pv 7) (pv 7)) (pe_op op_add (pv 4) pe_int)) (pv 4)) pa_nil))) pa_nil)) (pg_unl rfl (pgs_cons (pg_name (i := 8) sc_law.nd rfl (Or.inl rfl)) (pgs_cons (pg_name (i := 9) sc_law.nd rfl (Or.inl rfl)) pgs_nil))))
      (pss_cons (ps_par (i := 10) (j := 11) (by rfl) sc_law.nd rfl rfl (by decide) rfl rfl (pa_cons (pe_op op_mod (pe_op op_mulB (pe_op op_sub (pv 6) pe_int) (pv 5)) (pv 4)) (pa_cons (pe_call G__law_common (hr.mono (by omega)) rfl A__law_common.g A__law_common.fn.kp A__law_common.b .nil pass0 (pa_cons (pv 4) (pa_cons (pv 5) pa_nil))) pa_nil)) (by rfl))
      (pss_cons (ps_set (i := 12) sc_law.nd rfl (Or.inl rfl) (pe_lst (pa_cons (pe_tup (pa_cons (pv 8) (pa_cons (pv 9) pa_nil))) (pa_cons (pe_tup (pa_cons (pv 8) (pa_cons (pv 8) pa_nil))) (pa_cons (pe_tup (pa_cons (pv 9) (pa_cons (pv 9) pa_nil))) (pa_cons (pe_tup (pa_cons (pv 10) (pa_cons (pv 10) pa_nil))) (pa_cons (pe_tup (pa_cons pe_int (pa_cons (pv 9) pa_nil))) (pa_cons (pe_tup (pa_cons (pv 8) (pa_cons (pe_op op_sub (pv 4) pe_int) pa_nil))) pa_nil))))))))
      (pss_cons (ps_set (i := 13) sc_law.nd rfl (Or.inl rfl) (pe_op op_mod (pe_op op_fdivW (pv 7) pe_int) (pv 4)))
      (pss_cons (ps_for PassesOwn.never rfl (pi_list (pe_lst (pa_cons pe_int (pa_cons (pe_op op_add pe_int (pe_op op_fdivW (pv 4) (pv 6))) (pa_cons (pe_op op_add pe_int (pe_op op_mulB pe_int (pe_op op_fdivW (pv 4) (pv 6)))) pa_nil))))) (pg_name (i := 14) sc_law.nd rfl (Or.inl rfl)) (pss_cons (ps_expr (pe_bm PySem.F.plainAttrs_list PySem.F.slot_list_append PySem.F.type_list_append mt_append (pv 12) (pa_cons (pe_tup (pa_cons (pv 13) (pa_cons (pe_callB (call_min2 rfl) rfl hA.z_min (by decide +kernel) (pa_cons (pe_op op_sub (pv 4) pe_int) (pa_cons (pe_op op_add (pv 13) (pe_op op_mod (pe_op op_fdivW (pv 7) pe_int) (pv 14))) pa_nil))) pa_nil))) pa_nil)))
      pss_nil))
      (pss_cons (ps_expr (pe_bm PySem.F.plainAttrs_list PySem.F.slot_list_append PySem.F.type_list_append mt_append (pv 12) (pa_cons (pe_tup (pa_cons (pe_callB (call_max2 rfl) rfl hA.z_max (by decide +kernel) (pa_cons pe_int (pa_cons (pe_op op_sub (pv 10) pe_int) pa_nil))) (pa_cons (pv 10) pa_nil))) pa_nil)))
      (pss_cut (ps_if (pt_cmpR op_gt (pv 11) pe_int (nomark _)) (pss_cons (ps_expr (pe_bm PySem.F.plainAttrs_list PySem.F.slot_list_append PySem.F.type_list_append mt_append (pv 12) (pa_cons (pe_tup (pa_cons (pe_op op_add (pe_op op_mulB (pe_op op_fdivW (pv 8) (pv 11)) (pv 11)) pe_int) (pa_cons (pe_callB (call_min2 rfl) rfl hA.z_min (by decide +kernel) (pa_cons (pe_op op_sub (pv 4) pe_int) (pa_cons (pe_op op_sub (pe_op op_add (pe_op op_mulB (pe_op op_fdivW (pv 8) (pv 11)) (pv 11)) (pv 11)) pe_int) pa_nil))) pa_nil))) pa_nil)))
      pss_nil) pss_nil)
      (pss_cons (ps_for PassesOwn.never rfl (pi_list (pv 12)) (pg_tup rfl (pgs_cons (pg_name (i := 13) sc_law.nd rfl (Or.inl rfl)) (pgs_cons (pg_name (i := 15) sc_law.nd rfl (Or.inl rfl)) pgs_nil))) (pss_cons (ps_if (pt_not (pt_val (pe_call G__law_right (hr.mono (by omega)) rfl A__law_right.g A__law_right.fn.kp A__law_right.b .nil pass0 (pa_cons (pv 4) (pa_cons (pv 5) (pa_cons (pv 13) (pa_cons (pv 15) (pa_cons (pe_slice sl_list (pv 12) po_none (po_some pe_int)) pa_nil)))))))) (pss_cons (ps_ret pe_bl)
      pss_nil) pss_nil)
      pss_nil))
      pss_nil)))))))))))
      (pss_cons (ps_if (PW.pt (pw_or (pt_cmpR op_ne (pe_fld (pe_call G_first (hr.mono (by omega)) rfl A_first.g A_first.fn.kp A_first.b .nil pass0 (pa_cons pe_int (pa_cons pe_int (pa_cons pe_int (pa_cons pe_int pa_nil))))) rfl) pe_int (nomark _)) (pw_or (pt_cmpR op_ne (pe_fld (pe_call G_first (hr.mono (by omega)) rfl A_first.g A_first.fn.kp A_first.b .nil pass0 (pa_cons pe_int (pa_cons pe_int (pa_cons pe_int (pa_cons pe_int pa_nil))))) rfl) pe_int (nomark _)) (pw_or1 (pt_cmpR op_ne (pe_fld (pe_call G_first (hr.mono (by omega)) rfl A_first.g A_first.fn.kp A_first.b .nil pass0 (pa_cons pe_int (pa_cons pe_int (pa_cons pe_int (pa_cons pe_int pa_nil))))) rfl) pe_int (nomark _)))))) (pss_cons (ps_ret pe_bl)
      pss_nil) pss_nil)
      (pss_cons (ps_ret (pe_and (pe_cmpR op_eq (pe_fld (pe_call G_first (hr.mono (by omega)) rfl A_first.g A_first.fn.kp A_first.b .nil pass0 (pa_cons pe_int (pa_cons pe_int (pa_cons pe_int (pa_cons pe_int pa_nil))))) rfl) pe_int (nomark _)) (pe_one (pe_cmpR op_gt (pe_fld (pe_call G_first (hr.mono (by omega)) rfl A_first.g A_first.fn.kp A_first.b .nil pass0 (pa_cons (pe_op op_pow pe_int pe_int) (pa_cons (pe_op op_pow pe_int pe_int) (pa_cons pe_int (pa_cons (pe_op op_pow pe_int pe_int) pa_nil))))) rfl) (pe_op op_pow pe_int pe_int) (nomark _)))))
      pss_nil)))), Go.at ?_⟩
    refine g_asg (ev_sumN (ns := ns.take 63) (by rw [List.map_take, ← cut_take]; exact el_sl (ev_var rfl) eo_none (eo_some ev_c) hS)) ?_
    rw [List.take_of_length_le hlen]
    have hwh : Lv 133 ns.sum := lv_sum hlv (by omega)
    generalize ns.sum = wh at *
    have hwh4 : Lv 400 wh := lv_mono hwh (by decide)
    refine g_forP (R := fun v H2 => ∃ p xs, v = .ref p ∧ H2 p = some (.lst xs) ∧ RingsAt H2 xs ∧ xs.length ≤ 6 ∧ xs.length ≤ ns.length) (fun H1 e1 Q' q => ⟨_, rfl, a, ns, rfl, ex_l e1 hS, hlen, hlv, fun p H' xs np e2 hp hR hn h6 => q _ _ e2 ⟨p, xs, rfl, hp, hR, h6, hn⟩⟩) ?_
    rintro v H2 e1 ⟨p, xs, rfl, hp, hR, h6, hxn⟩
    have hS2 := ex_l e1 hS
    refine g_for (ef_enum (ea_cons ev_c ea_nil) (sq_of hp)) (fun i σ' => ∃ o2 o3 o4 o5 o6 o7 o8 o9 o10 o11 o12 o13 o14 o15 : Option V, σ' = [some (.ref a), some (.int wh), o2, o3, o4, o5, o6, o7, o8, o9, o10, o11, o12, o13, o14, o15]) ⟨_, _, _, _, _, _, _, _, _, _, _, _, _, _, rfl⟩ ?_ ?_
    · rintro H3 e3 i σ' hi ⟨o2, o3, o4, o5, o6, o7, o8, o9, o10, o11, o12, o13, o14, o15, rfl⟩
      have hS3 := ex_l e3 hS2
      obtain ⟨b, P', S', M', h1, h2, G'⟩ := hR i hi
      have h3 := e3 b _ h2
      have lP := G'.lp
      have lS := G'.ls
      have lM := G'.lm
      obtain ⟨R, pb, m1, m2⟩ := id G'
      have p1 := R.p
      rw [h1]
      refine g_unt3c (ev_var rfl) h3 ?_
      have hin : i < ns.length := by omega
      have lz : Lv 132 ns[i] := hlv _ (List.getElem_mem hin)
      have hat : atI (ns.map V.int) (i : Int) = some (V.int ns[i]) := atI_nat (by rw [List.getElem?_map, List.getElem?_eq_getElem hin]; rfl)
      have lat : Lv 1 (i : Int) := lv_small (by omega)
      refine g_asg (ev_call1 (ea_cons (ev_ixL (ev_var rfl) hS3 (ev_var rfl) hat) (ea_cons (ev_var rfl) (ea_cons (ev_var rfl) ea_nil))) (spv_num lz lat hwh4)) ?_
      have ln : Lv 600 (lawNum ns[i] (i : Int) wh) := lv_num lz lat
      generalize lawNum ns[i] (i : Int) wh = nb at *
      have g0 : 0 < G P' S' := G_pos (by omega)
      have gl : G P' S' ≤ P' := G_le (by omega)
      have lG := lv_G R lP
      refine g_unl2 (el_sort2 (el_lst (ea_cons (ev_op (ev_var rfl) (ev_var rfl) (rv_I (show (0 : Int) < P' by omega))) (ea_cons (ev_op (ev_op (ev_op (ev_var rfl) (ev_var rfl) (rv_I (mul_ok ln ln (by decide) (by decide)))) (ev_op (ev_var rfl) ev_c rv_I0) (rv_I (div_ok (by omega) (lv_140p p1 pb)))) (ev_var rfl) (rv_I (show (0 : Int) < P' by omega))) ea_nil)) (by show 2 ≤ 100000; decide))) ?_
      have c0 := Int.emod_nonneg nb (show P' ≠ 0 by omega)
      have c1 := Int.emod_lt_of_pos nb (show 0 < P' by omega)
      have d0 := Int.emod_nonneg (nb * nb / (P' + 1)) (show P' ≠ 0 by omega)
      have d1 := Int.emod_lt_of_pos (nb * nb / (P' + 1)) (show 0 < P' by omega)
      generalize nb % P' = x0 at *
      generalize nb * nb / (P' + 1) % P' = y0 at *
      have be0 : 0 ≤ min x0 y0 := by omega
      have be1 : min x0 y0 ≤ max x0 y0 := by omega
      have be2 : max x0 y0 < P' := by omega
      generalize min x0 y0 = bg at *
      generalize max x0 y0 = en at *
      have lbg : Lv 1 bg := lv_le lP be0 (by omega)
      have z0 := Int.emod_nonneg ((M' - 1) * S') (show P' ≠ 0 by omega)
      have z1 := Int.emod_lt_of_pos ((M' - 1) * S') (show 0 < P' by omega)
      have lM1 : Lv 1 (M' - 1) := lv_le lM (by omega) (by omega)
      refine g_par (ea_cons (ev_op (ev_op (ev_op (ev_var rfl) ev_c rv_I0) (ev_var rfl) (rv_I (mul_ok lM1 lS (by decide) (by decide)))) (ev_var rfl) (rv_I (show (0 : Int) < P' by omega))) (ea_cons (ev_call1 (ea_cons (ev_var rfl) (ea_cons (ev_var rfl) ea_nil)) (spv_common (by omega) R.s0)) ea_nil)) ?_
      generalize (M' - 1) * S' % P' = pl at *
      -- the stretches
      refine g_asgLT (pss := [(bg, en), (bg, bg), (en, en), (pl, pl), (0, en), (bg, P' - 1)].map fun x : Int × Int => [V.int x.1, V.int x.2])
        (eat_cons (eu_tup (ea_cons (ev_var rfl) (ea_cons (ev_var rfl) ea_nil)) (by show 2 ≤ 100000; decide)) (eat_cons (eu_tup (ea_cons (ev_var rfl) (ea_cons (ev_var rfl) ea_nil)) (by show 2 ≤ 100000; decide))
        (eat_cons (eu_tup (ea_cons (ev_var rfl) (ea_cons (ev_var rfl) ea_nil)) (by show 2 ≤ 100000; decide)) (eat_cons (eu_tup (ea_cons (ev_var rfl) (ea_cons (ev_var rfl) ea_nil)) (by show 2 ≤ 100000; decide))
        (eat_cons (eu_tup (ea_cons ev_c (ea_cons (ev_var rfl) ea_nil)) (by show 2 ≤ 100000; decide)) (eat_cons (eu_tup (ea_cons (ev_var rfl) (ea_cons (ev_op (ev_var rfl) ev_c rv_I0) ea_nil)) (by show 2 ≤ 100000; decide)) eat_nil)))))) (by show 6 ≤ 100000; decide) ?_
      intro pa vs H5 npa e5 hpa hT
      have hps : ∀ x ∈ [(bg, en), (bg, bg), (en, en), (pl, pl), (0, en), (bg, P' - 1)], 0 ≤ x.1 ∧ x.1 ≤ x.2 ∧ x.2 < P' := fun x hx => by
        simp only [List.mem_cons, List.not_mem_nil, or_false] at hx
        rcases hx with rfl | rfl | rfl | rfl | rfl | rfl <;> (refine ⟨?_, ?_, ?_⟩ <;> simp only [] <;> omega)
      have hpl6 : [(bg, en), (bg, bg), (en, en), (pl, pl), (0, en), (bg, P' - 1)].length = 6 := rfl
      generalize [(bg, en), (bg, bg), (en, en), (pl, pl), (0, en), (bg, P' - 1)] = ps at *
      have w0 := Int.emod_nonneg (nb / 11) (show P' ≠ 0 by omega)
      have w1 := Int.emod_lt_of_pos (nb / 11) (show 0 < P' by omega)
      refine g_asg (ev_op (ev_op (ev_var rfl) ev_c (rv_I (div_ok (by decide) (lv_small (by decide))))) (ev_var rfl) (rv_I (show (0 : Int) < P' by omega))) ?_
      generalize nb / 11 % P' = lw at *
      have dq0 : 0 ≤ P' / M' := Int.ediv_nonneg (by omega) (by omega)
      have ldq : Lv 1 (P' / M') := lv_div lP (by omega)
      -- three more, by a loop
      refine g_forXl (xs := [9, 1 + P' / M', 1 + 3 * (P' / M')].map V.int) (el_lst (ea_cons ev_c (ea_cons (ev_op ev_c (ev_op (ev_var rfl) (ev_var rfl) (rv_I (div_ok (by omega) lM))) rv_I0) (ea_cons (ev_op ev_c (ev_op ev_c (ev_op (ev_var rfl) (ev_var rfl) (rv_I (div_ok (by omega) lM))) (rv_I (mul_ok (lv_small (by decide) : Lv 1 (3 : Int)) ldq (by decide) (by decide)))) rv_I0) ea_nil))) (by show 3 ≤ 100000; decide)) hpa
        (fun n σ' H' => (∃ vs' ps', H' pa = some (.lst vs') ∧ TupsAt H' vs' (ps'.map fun x : Int × Int => [V.int x.1, V.int x.2]) ∧ (∀ x ∈ ps', 0 ≤ x.1 ∧ x.1 ≤ x.2 ∧ x.2 < P') ∧ ps'.length = 6 + n) ∧
          ∃ o14 : Option V, σ' = [some (.ref a), some (.int wh), some (.int (i : Int)), some (.ref b), some (.int P'), some (.int S'), some (.int M'), some (.int nb), some (.int bg), some (.int en), some (.int pl), some (.int (G P' S')), some (.ref pa), some (.int lw), o14, o15])
        (fun H6 e6 => ⟨⟨vs, ps, e6 _ _ hpa, hT.ex e6, hps, hpl6⟩, _, rfl⟩) ?_ ?_
      · rintro B eB n x σ' H6 hx xl ⟨⟨vs', ps', hv', hT', hp', hl'⟩, o14', rfl⟩
        obtain ⟨wd, rfl, wd0, hn3⟩ : ∃ wd : Int, x = .int wd ∧ 0 < wd ∧ n < 3 := by
          match n, hx with
          | 0, hx => exact ⟨9, (Option.some.inj hx).symm, by decide, by decide⟩
          | 1, hx => exact ⟨1 + P' / M', (Option.some.inj hx).symm, by omega, by decide⟩
          | 2, hx => exact ⟨1 + 3 * (P' / M'), (Option.some.inj hx).symm, by omega, by decide⟩
          | n + 3, hx => cases hx
        have v0 := Int.emod_nonneg (nb / 13) (show wd ≠ 0 by omega)
        refine g_appU hv' (ev_var rfl) (eu_tup (ea_cons (ev_var rfl) (ea_cons (ev_min (ev_op (ev_var rfl) ev_c rv_I0) (ev_op (ev_var rfl) (ev_op (ev_op (ev_var rfl) ev_c (rv_I (div_ok (by decide) (lv_small (by decide))))) (ev_var rfl) (rv_I wd0)) rv_I0)) ea_nil)) (by show 2 ≤ 100000; decide)) (by rw [hT'.1, List.length_map]; omega) ?_
        intro q H7 nq e7 hq
        have nqp : q ≠ pa := fun z => by rw [z, hv'] at nq; cases nq
        refine g_next fun H8 e8 => ⟨((xl.trans (Xl.of e7)).trans Xl.upd).trans (Xl.of e8), ⟨vs' ++ [.ref q], ps' ++ [(lw, min (P' - 1) (lw + nb / 13 % wd))], e8 _ _ upd_same, ?_, ?_, by rw [List.length_append]; simp; omega⟩, _, rfl⟩
        · rw [List.map_append]
          exact (((hT'.ex e7).upd (e7 _ _ hv')).snoc (by rw [upd_ne nqp]; exact hq)).ex e8
        · intro x hx
          rw [List.mem_append] at hx
          rcases hx with hx | hx
          · exact hp' x hx
          · simp only [List.mem_cons, List.not_mem_nil, or_false] at hx
            subst hx
            exact ⟨w0, by show lw ≤ min (P' - 1) (lw + nb / 13 % wd); omega, by show min (P' - 1) (lw + nb / 13 % wd) < P'; omega⟩
      rintro σ' H6 xl6 ⟨⟨vs6, ps6, hv6, hT6, hp6, hl6⟩, o14', rfl⟩
      have hl6 : ps6.length = 9 := hl6
      -- one more
      refine g_appU hv6 (ev_var rfl) (eu_tup (ea_cons (ev_max ev_c (ev_op (ev_var rfl) ev_c rv_I0)) (ea_cons (ev_var rfl) ea_nil)) (by show 2 ≤ 100000; decide)) (by rw [hT6.1, List.length_map]; omega) ?_
      intro q7 H7 nq7 e7 hq7
      have nqp7 : q7 ≠ pa := fun z => by rw [z, hv6] at nq7; cases nq7
      have hT8 : TupsAt (upd H7 pa (.lst (vs6 ++ [.ref q7]))) (vs6 ++ [.ref q7]) ((ps6 ++ [(max 0 (pl - 1), pl)]).map fun x : Int × Int => [V.int x.1, V.int x.2]) := by
        rw [List.map_append]
        exact ((hT6.ex e7).upd (e7 _ _ hv6)).snoc (by rw [upd_ne nqp7]; exact hq7)
      have hv8 : (upd H7 pa (.lst (vs6 ++ [.ref q7]))) pa = some (.lst (vs6 ++ [.ref q7])) := upd_same
      have xl8 : Xl pa H5 (upd H7 pa (.lst (vs6 ++ [.ref q7]))) := (xl6.trans (Xl.of e7)).trans Xl.upd
      generalize upd H7 pa (.lst (vs6 ++ [.ref q7])) = H8 at *
      have hp8 : ∀ x ∈ ps6 ++ [(max 0 (pl - 1), pl)], 0 ≤ x.1 ∧ x.1 ≤ x.2 ∧ x.2 < P' := fun x hx => by
        rw [List.mem_append] at hx
        rcases hx with hx | hx
        · exact hp6 x hx
        · simp only [List.mem_cons, List.not_mem_nil, or_false] at hx
          subst hx
          exact ⟨by show 0 ≤ max 0 (pl - 1); omega, by show max 0 (pl - 1) ≤ pl; omega, z1⟩
      have hl8 : (ps6 ++ [(max 0 (pl - 1), pl)]).length = 10 := by rw [List.length_append, hl6]; rfl
      generalize vs6 ++ [.ref q7] = vs8 at *
      generalize ps6 ++ [(max 0 (pl - 1), pl)] = ps8 at *
      -- perhaps one more
      refine g_cut (fun σ' H' => (∃ vs' ps', H' pa = some (.lst vs') ∧ TupsAt H' vs' (ps'.map fun x : Int × Int => [V.int x.1, V.int x.2]) ∧ (∀ x ∈ ps', 0 ≤ x.1 ∧ x.1 ≤ x.2 ∧ x.2 < P')) ∧ Xl pa H5 H' ∧
          σ' = [some (.ref a), some (.int wh), some (.int (i : Int)), some (.ref b), some (.int P'), some (.int S'), some (.int M'), some (.int nb), some (.int bg), some (.int en), some (.int pl), some (.int (G P' S')), some (.ref pa), some (.int lw), o14', o15]) (g_one (g_when (et_test (ev_op (ev_var rfl) ev_c rv_I0)) (fun h => ?_) (fun _ => g_next fun H' e' => ⟨⟨vs8, ps8, e' _ _ hv8, hT8.ex e', hp8⟩, xl8.trans (Xl.of e'), rfl⟩))) ?_
      · have hg1 : G P' S' > 1 := of_decide_eq_true h
        have lbq : Lv 1 (bg / G P' S') := lv_div lbg g0
        have mulE : ∀ {σ' : L2.St} {H' : Hp}, σ'[8]? = some (some (.int bg)) → σ'[11]? = some (some (.int (G P' S'))) → Ev (tOp (rI CMulB fun i j => .int (i * j)) (tOp (rI CDivW fun i j => .int (i / j)) (tVar 8) (tVar 11)) (tVar 11)) σ' H' (.int (bg / G P' S' * G P' S')) := fun h1 h2 =>
          ev_op (ev_op (ev_var h1) (ev_var h2) (rv_I (div_ok g0 lG))) (ev_var h2) (rv_I (mul_ok lbq lG (by decide) (by decide)))
        refine g_appU hv8 (ev_var rfl) (eu_tup (ea_cons (ev_op (mulE rfl rfl) ev_c rv_I0) (ea_cons (ev_min (ev_op (ev_var rfl) ev_c rv_I0) (ev_op (ev_op (mulE rfl rfl) (ev_var rfl) rv_I0) ev_c rv_I0)) ea_nil)) (by show 2 ≤ 100000; decide)) (by rw [hT8.1, List.length_map]; omega) ?_
        intro q9 H9 nq9 e9 hq9
        have nqp9 : q9 ≠ pa := fun z => by rw [z, hv8] at nq9; cases nq9
        refine g_next fun H' e' => ⟨⟨vs8 ++ [.ref q9], ps8 ++ [(bg / G P' S' * G P' S' + 1, min (P' - 1) (bg / G P' S' * G P' S' + G P' S' - 1))], e' _ _ upd_same, ?_, ?_⟩, ((xl8.trans (Xl.of e9)).trans Xl.upd).trans (Xl.of e'), rfl⟩
        · rw [List.map_append]
          exact (((hT8.ex e9).upd (e9 _ _ hv8)).snoc (by rw [upd_ne nqp9]; exact hq9)).ex e'
        · intro x hx
          rw [List.mem_append] at hx
          rcases hx with hx | hx
          · exact hp8 x hx
          · simp only [List.mem_cons, List.not_mem_nil, or_false] at hx
            subst hx
            have bl := block_le (P := P') (g := G P' S') (b := bg) g0 (Int.emod_eq_zero_of_dvd (Int.gcd_dvd_left ..)) (by omega)
            have bn : 0 ≤ bg / G P' S' * G P' S' := Int.mul_nonneg (Int.ediv_nonneg be0 (by omega)) (by omega)
            generalize bg / G P' S' * G P' S' = bb at *
            exact ⟨by show 0 ≤ bb + 1; omega, by show bb + 1 ≤ min (P' - 1) (bb + G P' S' - 1); omega, by show min (P' - 1) (bb + G P' S' - 1) < P'; omega⟩
      rintro σ' H9 ⟨⟨vs9, ps9, hv9, hT9, hp9⟩, xl9, rfl⟩
      refine (?_ : Go _ _ _ H9).at
      have e39 : Ex H3 H9 := xl9.ex e5 npa
      refine g_for (ef_tups2 (ps := ps9.map fun x => (V.int x.1, V.int x.2)) (ev_var rfl) (sq_of hv9) (by rw [List.map_map]; exact hT9)) (fun j' σ' => ∃ o13 o14 o15 : Option V, σ' = [some (.ref a), some (.int wh), some (.int (i : Int)), some (.ref b), some (.int P'), some (.int S'), some (.int M'), some (.int nb), some (.int bg), some (.int en), some (.int pl), some (.int (G P' S')), some (.ref pa), o13, o14, o15]) ⟨_, _, _, rfl⟩ ?_ (fun H10 e10 σ' ⟨_, _, _, h⟩ => by subst h; exact g_next fun H11 e11 => ⟨(e39.trans e10).trans e11, _, _, _, _, _, _, _, _, _, _, _, _, _, _, rfl⟩)
      rintro H10 e10 j' σ' hj' ⟨o13', o14'', o15', rfl⟩
      rw [List.length_map] at hj'
      obtain ⟨lo, hi', hlh⟩ : ∃ lo hi', ps9[j'] = (lo, hi') := ⟨_, _, rfl⟩
      obtain ⟨q0, q1, q2⟩ := hp9 ps9[j'] (List.getElem_mem hj')
      rw [hlh] at q0 q1 q2
      have q0 : 0 ≤ lo := q0
      have q1 : lo ≤ hi' := q1
      have q2 : hi' < P' := q2
      have gx : (ps9.map fun x => (V.int x.1, V.int x.2))[j']? = some (V.int lo, V.int hi') := by rw [List.getElem?_map, List.getElem?_eq_getElem hj', hlh]; rfl
      rw [gx]
      refine g_when (b := false) (et_not (et_B (ev_callR (v := .bl true) (ear_cons (ev_var rfl) (ear_cons (ev_var rfl) (ear_cons (ev_var rfl) (ear_cons (ev_var rfl) (ear_lst (el_sl (ev_var rfl) eo_none (eo_some ev_c) (ex_l e10 (sq_of hv9)))))))) ?_))) (fun h => nomatch h) (fun _ => g_next fun H11 e11 => ⟨e11, _, _, _, rfl⟩)
      rintro us H11 e11 ⟨_, rfl, _, rfl, _, rfl, _, rfl, po, rfl, hpo⟩
      rw [show (3 : Int) = ((3 : Nat) : Int) from rfl, cut_take] at hpo
      refine spv_right (ps := ps9.take 3) (sq_of hpo) ?_ (fun x hx => hp9 x (List.mem_of_mem_take hx)) R pb q0 q1 q2
      rw [List.map_take]
      exact ((hT9.ex e10).ex e11).take 3
    · rintro H3 e3 σ' ⟨o2, o3, o4, o5, o6, o7, o8, o9, o10, o11, o12, o13, o14, o15, rfl⟩
      have a4 : ∀ {p s b e : Int} {σ : L2.St} {H : Hp}, EvA (tCons (tC (.int p)) (tCons (tC (.int s)) (tCons (tC (.int b)) (tCons (tC (.int e)) tNil)))) σ H [.int p, .int s, .int b, .int e] := fun {p s b e σ H} => ea_cons ev_c (ea_cons ev_c (ea_cons ev_c (ea_cons ev_c ea_nil)))
      refine g_when (b := false) (et_or (a := false) (b := false) (et_is (et_test (ev_op (cM (m := 4) a4 ⟨by decide, by decide, by decide⟩ (by decide) (by decide) (by decide) (lv_small (by decide)) (by decide)) ev_c (rv_ne rfl))) (ne_same rfl)) fun _ =>
        et_or (a := false) (b := false) (et_is (et_test (ev_op (cC (g := 4) a4 ⟨by decide, by decide, by decide⟩ (by decide) (by decide) (by decide) (lv_small (by decide)) (by decide) (by decide)) ev_c (rv_ne rfl))) (ne_same rfl)) fun _ =>
        et_is (et_test (ev_op (cM (m := 2) a4 ⟨by decide, by decide, by decide⟩ (by decide) (by decide) (by decide) (lv_small (by decide)) (by decide)) ev_c (rv_ne rfl))) (ne_same rfl)) (fun h => nomatch h) (fun _ => ?_)
      have p10 : ∀ {n : Int} {σ : L2.St} {H : Hp}, CPow 10 n → Ev (tOp (rI CPow fun i j => .int (i ^ j.toNat)) (tC (.int 10)) (tC (.int n))) σ H (.int (10 ^ n.toNat)) := fun h => ev_op ev_c ev_c (rv_I h)
      refine g_ret (v := .bl true) (ev_is (ev_andV (a := true) (b := true) (ev_is (ev_op (cM (m := 0) a4 ⟨by decide, by decide, by decide⟩ (by decide) (by decide) (by decide) (lv_small (by decide)) (by decide)) ev_c (rv_eq rfl)) rfl) fun _ => ev_is (ev_op (cC (p := 10 ^ 30) (s := 10 ^ 15) (b := 1) (e := 10 ^ 14) (g := 10 ^ 15) (ea_cons (p10 ⟨by decide, by decide, by decide⟩) (ea_cons (p10 ⟨by decide, by decide, by decide⟩) (ea_cons ev_c (ea_cons (p10 ⟨by decide, by decide, by decide⟩) ea_nil)))) ⟨by decide, by decide, by decide⟩ (by decide) (by decide) (by decide) (lv_140 (by decide) (by decide)) (by decide +kernel) (by decide)) (p10 ⟨by decide, by decide, by decide⟩) rv_I0) rfl) rfl) fun H' _ => k H'
end
theorem all_mk {l : PySem.W.OpenLaw} {w : World} {K : PySem.W.Frag} {h : Heap} {mg : Str → Option Value} {fa : Addr} (X : K.In h) (G : h.Ns mainGlobals mg) (hfa : mg "law" = some (.ref fa))
    {C_Answer : Addr}
    {C_Never : Addr}
    {C_First : Addr}
    {a_is_number : Addr} {oc_is_number kV_is_number dc_is_number pm_is_number cd_is_number ct_is_number : Value} {od_is_number an_is_number : Option Addr} {sl_is_number : Array (Option Value)}
    {a_common : Addr} {oc_common kV_common dc_common pm_common cd_common ct_common : Value} {od_common an_common : Option Addr} {sl_common : Array (Option Value)}
    {a_check_ring : Addr} {oc_check_ring kV_check_ring dc_check_ring pm_check_ring cd_check_ring ct_check_ring : Value} {od_check_ring an_check_ring : Option Addr} {sl_check_ring : Array (Option Value)}
    {a_check_stretch : Addr} {oc_check_stretch kV_check_stretch dc_check_stretch pm_check_stretch cd_check_stretch ct_check_stretch : Value} {od_check_stretch an_check_stretch : Option Addr} {sl_check_stretch : Array (Option Value)}
    {a_quotients : Addr} {oc_quotients kV_quotients dc_quotients pm_quotients cd_quotients ct_quotients : Value} {od_quotients an_quotients : Option Addr} {sl_quotients : Array (Option Value)}
    {a_marks_to : Addr} {oc_marks_to kV_marks_to dc_marks_to pm_marks_to cd_marks_to ct_marks_to : Value} {od_marks_to an_marks_to : Option Addr} {sl_marks_to : Array (Option Value)}
    {a_led_back : Addr} {oc_led_back kV_led_back dc_led_back pm_led_back cd_led_back ct_led_back : Value} {od_led_back an_led_back : Option Addr} {sl_led_back : Array (Option Value)}
    {a_least_mark : Addr} {oc_least_mark kV_least_mark dc_least_mark pm_least_mark cd_least_mark ct_least_mark : Value} {od_least_mark an_least_mark : Option Addr} {sl_least_mark : Array (Option Value)}
    {a_first : Addr} {oc_first kV_first dc_first pm_first cd_first ct_first : Value} {od_first an_first : Option Addr} {sl_first : Array (Option Value)}
    {a__law_number : Addr} {oc__law_number kV__law_number dc__law_number pm__law_number cd__law_number ct__law_number : Value} {od__law_number an__law_number : Option Addr} {sl__law_number : Array (Option Value)}
    {a__law_rings : Addr} {oc__law_rings kV__law_rings dc__law_rings pm__law_rings cd__law_rings ct__law_rings : Value} {od__law_rings an__law_rings : Option Addr} {sl__law_rings : Array (Option Value)}
    {a__law_common : Addr} {oc__law_common kV__law_common dc__law_common pm__law_common cd__law_common ct__law_common : Value} {od__law_common an__law_common : Option Addr} {sl__law_common : Array (Option Value)}
    {a__law_rounds : Addr} {oc__law_rounds kV__law_rounds dc__law_rounds pm__law_rounds cd__law_rounds ct__law_rounds : Value} {od__law_rounds an__law_rounds : Option Addr} {sl__law_rounds : Array (Option Value)}
    {a__law_to : Addr} {oc__law_to kV__law_to dc__law_to pm__law_to cd__law_to ct__law_to : Value} {od__law_to an__law_to : Option Addr} {sl__law_to : Array (Option Value)}
    {a__law_whole : Addr} {oc__law_whole kV__law_whole dc__law_whole pm__law_whole cd__law_whole ct__law_whole : Value} {od__law_whole an__law_whole : Option Addr} {sl__law_whole : Array (Option Value)}
    {a__law_due : Addr} {oc__law_due kV__law_due dc__law_due pm__law_due cd__law_due ct__law_due : Value} {od__law_due an__law_due : Option Addr} {sl__law_due : Array (Option Value)}
    {a__law_right : Addr} {oc__law_right kV__law_right dc__law_right pm__law_right cd__law_right ct__law_right : Value} {od__law_right an__law_right : Option Addr} {sl__law_right : Array (Option Value)}
    {a_law : Addr} {oc_law kV_law dc_law pm_law cd_law ct_law : Value} {od_law an_law : Option Addr} {sl_law : Array (Option Value)}
    {a_First___init__ : Addr} {oc_First___init__ kV_First___init__ dc_First___init__ pm_First___init__ cd_First___init__ ct_First___init__ : Value} {od_First___init__ an_First___init__ : Option Addr} {sl_First___init__ : Array (Option Value)}
    {a_First_shows : Addr} {oc_First_shows kV_First_shows dc_First_shows pm_First_shows cd_First_shows ct_First_shows : Value} {od_First_shows an_First_shows : Option Addr} {sl_First_shows : Array (Option Value)}
    {a_Never___init__ : Addr} {oc_Never___init__ kV_Never___init__ dc_Never___init__ pm_Never___init__ cd_Never___init__ ct_Never___init__ : Value} {od_Never___init__ an_Never___init__ : Option Addr} {sl_Never___init__ : Array (Option Value)}
    {a_Never_shows : Addr} {oc_Never_shows kV_Never_shows dc_Never_shows pm_Never_shows cd_Never_shows ct_Never_shows : Value} {od_Never_shows an_Never_shows : Option Addr} {sl_Never_shows : Array (Option Value)}
    {C_BadPlaces : Addr}
    {C_BadStep : Addr}
    {C_BadPlace : Addr}
    (n_First : PySem.W.nsIn K mainGlobals "First" = some (some (.ref C_First)))
    (n_Never : PySem.W.nsIn K mainGlobals "Never" = some (some (.ref C_Never)))
    (n_Answer : PySem.W.nsIn K mainGlobals "Answer" = some (some (.ref C_Answer)))
    (n_is_number : PySem.W.nsIn K mainGlobals "is_number" = some (some (.ref a_is_number)))
    (l_is_number : K.lookup a_is_number = some ⟨oc_is_number, od_is_number, .func (PySem.W.fnOf "is_number" "is_number" (defArgs s_is_number) (defBody s_is_number) (defScope s_is_number) .none kV_is_number dc_is_number pm_is_number an_is_number cd_is_number ct_is_number), sl_is_number⟩)
    (c_is_number : PySem.W.codeIn K cd_is_number "is_number" = true)
    (k_is_number : PySem.W.keepIn K (.ref a_is_number) = true)
    (n_common : PySem.W.nsIn K mainGlobals "common" = some (some (.ref a_common)))
    (l_common : K.lookup a_common = some ⟨oc_common, od_common, .func (PySem.W.fnOf "common" "common" (defArgs s_common) (defBody s_common) (defScope s_common) .none kV_common dc_common pm_common an_common cd_common ct_common), sl_common⟩)
    (c_common : PySem.W.codeIn K cd_common "common" = true)
    (k_common : PySem.W.keepIn K (.ref a_common) = true)
    (n_check_ring : PySem.W.nsIn K mainGlobals "check_ring" = some (some (.ref a_check_ring)))
    (l_check_ring : K.lookup a_check_ring = some ⟨oc_check_ring, od_check_ring, .func (PySem.W.fnOf "check_ring" "check_ring" (defArgs s_check_ring) (defBody s_check_ring) (defScope s_check_ring) .none kV_check_ring dc_check_ring pm_check_ring an_check_ring cd_check_ring ct_check_ring), sl_check_ring⟩)
    (c_check_ring : PySem.W.codeIn K cd_check_ring "check_ring" = true)
    (k_check_ring : PySem.W.keepIn K (.ref a_check_ring) = true)
    (n_check_stretch : PySem.W.nsIn K mainGlobals "check_stretch" = some (some (.ref a_check_stretch)))
    (l_check_stretch : K.lookup a_check_stretch = some ⟨oc_check_stretch, od_check_stretch, .func (PySem.W.fnOf "check_stretch" "check_stretch" (defArgs s_check_stretch) (defBody s_check_stretch) (defScope s_check_stretch) .none kV_check_stretch dc_check_stretch pm_check_stretch an_check_stretch cd_check_stretch ct_check_stretch), sl_check_stretch⟩)
    (c_check_stretch : PySem.W.codeIn K cd_check_stretch "check_stretch" = true)
    (k_check_stretch : PySem.W.keepIn K (.ref a_check_stretch) = true)
    (n_quotients : PySem.W.nsIn K mainGlobals "quotients" = some (some (.ref a_quotients)))
    (l_quotients : K.lookup a_quotients = some ⟨oc_quotients, od_quotients, .func (PySem.W.fnOf "quotients" "quotients" (defArgs s_quotients) (defBody s_quotients) (defScope s_quotients) .none kV_quotients dc_quotients pm_quotients an_quotients cd_quotients ct_quotients), sl_quotients⟩)
    (c_quotients : PySem.W.codeIn K cd_quotients "quotients" = true)
    (k_quotients : PySem.W.keepIn K (.ref a_quotients) = true)
    (n_marks_to : PySem.W.nsIn K mainGlobals "marks_to" = some (some (.ref a_marks_to)))
    (l_marks_to : K.lookup a_marks_to = some ⟨oc_marks_to, od_marks_to, .func (PySem.W.fnOf "marks_to" "marks_to" (defArgs s_marks_to) (defBody s_marks_to) (defScope s_marks_to) .none kV_marks_to dc_marks_to pm_marks_to an_marks_to cd_marks_to ct_marks_to), sl_marks_to⟩)
    (c_marks_to : PySem.W.codeIn K cd_marks_to "marks_to" = true)
    (k_marks_to : PySem.W.keepIn K (.ref a_marks_to) = true)
    (n_led_back : PySem.W.nsIn K mainGlobals "led_back" = some (some (.ref a_led_back)))
    (l_led_back : K.lookup a_led_back = some ⟨oc_led_back, od_led_back, .func (PySem.W.fnOf "led_back" "led_back" (defArgs s_led_back) (defBody s_led_back) (defScope s_led_back) .none kV_led_back dc_led_back pm_led_back an_led_back cd_led_back ct_led_back), sl_led_back⟩)
    (c_led_back : PySem.W.codeIn K cd_led_back "led_back" = true)
    (k_led_back : PySem.W.keepIn K (.ref a_led_back) = true)
    (n_least_mark : PySem.W.nsIn K mainGlobals "least_mark" = some (some (.ref a_least_mark)))
    (l_least_mark : K.lookup a_least_mark = some ⟨oc_least_mark, od_least_mark, .func (PySem.W.fnOf "least_mark" "least_mark" (defArgs s_least_mark) (defBody s_least_mark) (defScope s_least_mark) .none kV_least_mark dc_least_mark pm_least_mark an_least_mark cd_least_mark ct_least_mark), sl_least_mark⟩)
    (c_least_mark : PySem.W.codeIn K cd_least_mark "least_mark" = true)
    (k_least_mark : PySem.W.keepIn K (.ref a_least_mark) = true)
    (n_first : PySem.W.nsIn K mainGlobals "first" = some (some (.ref a_first)))
    (l_first : K.lookup a_first = some ⟨oc_first, od_first, .func (PySem.W.fnOf "first" "first" (defArgs s_first) (defBody s_first) (defScope s_first) .none kV_first dc_first pm_first an_first cd_first ct_first), sl_first⟩)
    (c_first : PySem.W.codeIn K cd_first "first" = true)
    (k_first : PySem.W.keepIn K (.ref a_first) = true)
    (n__law_number : PySem.W.nsIn K mainGlobals "_law_number" = some (some (.ref a__law_number)))
    (l__law_number : K.lookup a__law_number = some ⟨oc__law_number, od__law_number, .func (PySem.W.fnOf "_law_number" "_law_number" (defArgs s__law_number) (defBody s__law_number) (defScope s__law_number) .none kV__law_number dc__law_number pm__law_number an__law_number cd__law_number ct__law_number), sl__law_number⟩)
    (c__law_number : PySem.W.codeIn K cd__law_number "_law_number" = true)
    (k__law_number : PySem.W.keepIn K (.ref a__law_number) = true)
    (n__law_rings : PySem.W.nsIn K mainGlobals "_law_rings" = some (some (.ref a__law_rings)))
    (l__law_rings : K.lookup a__law_rings = some ⟨oc__law_rings, od__law_rings, .func (PySem.W.fnOf "_law_rings" "_law_rings" (defArgs s__law_rings) (defBody s__law_rings) (defScope s__law_rings) .none kV__law_rings dc__law_rings pm__law_rings an__law_rings cd__law_rings ct__law_rings), sl__law_rings⟩)
    (c__law_rings : PySem.W.codeIn K cd__law_rings "_law_rings" = true)
    (k__law_rings : PySem.W.keepIn K (.ref a__law_rings) = true)
    (n__law_common : PySem.W.nsIn K mainGlobals "_law_common" = some (some (.ref a__law_common)))
    (l__law_common : K.lookup a__law_common = some ⟨oc__law_common, od__law_common, .func (PySem.W.fnOf "_law_common" "_law_common" (defArgs s__law_common) (defBody s__law_common) (defScope s__law_common) .none kV__law_common dc__law_common pm__law_common an__law_common cd__law_common ct__law_common), sl__law_common⟩)
    (c__law_common : PySem.W.codeIn K cd__law_common "_law_common" = true)
    (k__law_common : PySem.W.keepIn K (.ref a__law_common) = true)
    (n__law_rounds : PySem.W.nsIn K mainGlobals "_law_rounds" = some (some (.ref a__law_rounds)))
    (l__law_rounds : K.lookup a__law_rounds = some ⟨oc__law_rounds, od__law_rounds, .func (PySem.W.fnOf "_law_rounds" "_law_rounds" (defArgs s__law_rounds) (defBody s__law_rounds) (defScope s__law_rounds) .none kV__law_rounds dc__law_rounds pm__law_rounds an__law_rounds cd__law_rounds ct__law_rounds), sl__law_rounds⟩)
    (c__law_rounds : PySem.W.codeIn K cd__law_rounds "_law_rounds" = true)
    (k__law_rounds : PySem.W.keepIn K (.ref a__law_rounds) = true)
    (n__law_to : PySem.W.nsIn K mainGlobals "_law_to" = some (some (.ref a__law_to)))
    (l__law_to : K.lookup a__law_to = some ⟨oc__law_to, od__law_to, .func (PySem.W.fnOf "_law_to" "_law_to" (defArgs s__law_to) (defBody s__law_to) (defScope s__law_to) .none kV__law_to dc__law_to pm__law_to an__law_to cd__law_to ct__law_to), sl__law_to⟩)
    (c__law_to : PySem.W.codeIn K cd__law_to "_law_to" = true)
    (k__law_to : PySem.W.keepIn K (.ref a__law_to) = true)
    (n__law_whole : PySem.W.nsIn K mainGlobals "_law_whole" = some (some (.ref a__law_whole)))
    (l__law_whole : K.lookup a__law_whole = some ⟨oc__law_whole, od__law_whole, .func (PySem.W.fnOf "_law_whole" "_law_whole" (defArgs s__law_whole) (defBody s__law_whole) (defScope s__law_whole) .none kV__law_whole dc__law_whole pm__law_whole an__law_whole cd__law_whole ct__law_whole), sl__law_whole⟩)
    (c__law_whole : PySem.W.codeIn K cd__law_whole "_law_whole" = true)
    (k__law_whole : PySem.W.keepIn K (.ref a__law_whole) = true)
    (n__law_due : PySem.W.nsIn K mainGlobals "_law_due" = some (some (.ref a__law_due)))
    (l__law_due : K.lookup a__law_due = some ⟨oc__law_due, od__law_due, .func (PySem.W.fnOf "_law_due" "_law_due" (defArgs s__law_due) (defBody s__law_due) (defScope s__law_due) .none kV__law_due dc__law_due pm__law_due an__law_due cd__law_due ct__law_due), sl__law_due⟩)
    (c__law_due : PySem.W.codeIn K cd__law_due "_law_due" = true)
    (k__law_due : PySem.W.keepIn K (.ref a__law_due) = true)
    (n__law_right : PySem.W.nsIn K mainGlobals "_law_right" = some (some (.ref a__law_right)))
    (l__law_right : K.lookup a__law_right = some ⟨oc__law_right, od__law_right, .func (PySem.W.fnOf "_law_right" "_law_right" (defArgs s__law_right) (defBody s__law_right) (defScope s__law_right) .none kV__law_right dc__law_right pm__law_right an__law_right cd__law_right ct__law_right), sl__law_right⟩)
    (c__law_right : PySem.W.codeIn K cd__law_right "_law_right" = true)
    (k__law_right : PySem.W.keepIn K (.ref a__law_right) = true)
    (n_law : PySem.W.nsIn K mainGlobals "law" = some (some (.ref a_law)))
    (l_law : K.lookup a_law = some ⟨oc_law, od_law, .func (PySem.W.fnOf "law" "law" (defArgs s_law) (defBody s_law) (defScope s_law) .none kV_law dc_law pm_law an_law cd_law ct_law), sl_law⟩)
    (c_law : PySem.W.codeIn K cd_law "law" = true)
    (k_law : PySem.W.keepIn K (.ref a_law) = true)
    (n_First___init__ : PySem.W.findIn K (.ref C_First) "__init__" = some (some (.ref a_First___init__)))
    (i_First___init__ : PySem.W.isFn K (.ref a_First___init__) = true)
    (l_First___init__ : K.lookup a_First___init__ = some ⟨oc_First___init__, od_First___init__, .func (PySem.W.fnOf "__init__" "First.__init__" (defArgs s_First___init__) (defBody s_First___init__) (defScope s_First___init__) .none kV_First___init__ dc_First___init__ pm_First___init__ an_First___init__ cd_First___init__ ct_First___init__), sl_First___init__⟩)
    (c_First___init__ : PySem.W.codeIn K cd_First___init__ "First.__init__" = true)
    (k_First___init__ : PySem.W.keepIn K (.ref a_First___init__) = true)
    (n_First_shows : PySem.W.findIn K (.ref C_First) "shows" = some (some (.ref a_First_shows)))
    (i_First_shows : PySem.W.isFn K (.ref a_First_shows) = true)
    (l_First_shows : K.lookup a_First_shows = some ⟨oc_First_shows, od_First_shows, .func (PySem.W.fnOf "shows" "First.shows" (defArgs s_First_shows) (defBody s_First_shows) (defScope s_First_shows) .none kV_First_shows dc_First_shows pm_First_shows an_First_shows cd_First_shows ct_First_shows), sl_First_shows⟩)
    (c_First_shows : PySem.W.codeIn K cd_First_shows "First.shows" = true)
    (k_First_shows : PySem.W.keepIn K (.ref a_First_shows) = true)
    (n_Never___init__ : PySem.W.findIn K (.ref C_Never) "__init__" = some (some (.ref a_Never___init__)))
    (i_Never___init__ : PySem.W.isFn K (.ref a_Never___init__) = true)
    (l_Never___init__ : K.lookup a_Never___init__ = some ⟨oc_Never___init__, od_Never___init__, .func (PySem.W.fnOf "__init__" "Never.__init__" (defArgs s_Never___init__) (defBody s_Never___init__) (defScope s_Never___init__) .none kV_Never___init__ dc_Never___init__ pm_Never___init__ an_Never___init__ cd_Never___init__ ct_Never___init__), sl_Never___init__⟩)
    (c_Never___init__ : PySem.W.codeIn K cd_Never___init__ "Never.__init__" = true)
    (k_Never___init__ : PySem.W.keepIn K (.ref a_Never___init__) = true)
    (n_Never_shows : PySem.W.findIn K (.ref C_Never) "shows" = some (some (.ref a_Never_shows)))
    (i_Never_shows : PySem.W.isFn K (.ref a_Never_shows) = true)
    (l_Never_shows : K.lookup a_Never_shows = some ⟨oc_Never_shows, od_Never_shows, .func (PySem.W.fnOf "shows" "Never.shows" (defArgs s_Never_shows) (defBody s_Never_shows) (defScope s_Never_shows) .none kV_Never_shows dc_Never_shows pm_Never_shows an_Never_shows cd_Never_shows ct_Never_shows), sl_Never_shows⟩)
    (c_Never_shows : PySem.W.codeIn K cd_Never_shows "Never.shows" = true)
    (k_Never_shows : PySem.W.keepIn K (.ref a_Never_shows) = true)
    (pg_First : PySem.W.plainGet K C_First Str.empty = true)
    (hd_First : PySem.W.hasDictIn K C_First = true)
    (po_First : PySem.W.plainOver K C_First = true)
    (sa_First : PySem.W.findIn K (.ref C_First) "__setattr__" = some (some (.builtin "object.__setattr__")))
    (na_First_mark : PySem.W.findIn K (.ref C_First) "mark" = some none)
    (mk_First : PySem.W.makesIn K C_First = true)
    (kc_First : PySem.W.keepIn K (.ref C_First) = true)
    (oc_First : PySem.W.findIn K (.ref C_First) "__class__" = some (some (.builtin "object.__class__")))
    (om_First : PySem.W.mroIn K C_First (.type "object") = some true)
    (ic_First : PySem.W.isClsIn K C_First = true)
    (tc_First : PySem.W.typeIn K (.ref C_First) = some (.type "type"))
    (ss_First : PySem.W.subIn K (.ref C_First) (.ref C_First) = some true)
    (pg_Never : PySem.W.plainGet K C_Never Str.empty = true)
    (hd_Never : PySem.W.hasDictIn K C_Never = true)
    (po_Never : PySem.W.plainOver K C_Never = true)
    (sa_Never : PySem.W.findIn K (.ref C_Never) "__setattr__" = some (some (.builtin "object.__setattr__")))
    (na_Never_common : PySem.W.findIn K (.ref C_Never) "common" = some none)
    (mk_Never : PySem.W.makesIn K C_Never = true)
    (kc_Never : PySem.W.keepIn K (.ref C_Never) = true)
    (oc_Never : PySem.W.findIn K (.ref C_Never) "__class__" = some (some (.builtin "object.__class__")))
    (om_Never : PySem.W.mroIn K C_Never (.type "object") = some true)
    (ic_Never : PySem.W.isClsIn K C_Never = true)
    (tc_Never : PySem.W.typeIn K (.ref C_Never) = some (.type "type"))
    (ss_Never : PySem.W.subIn K (.ref C_Never) (.ref C_Never) = some true)
    (ic_Answer : PySem.W.isClsIn K C_Answer = true)
    (tc_Answer : PySem.W.typeIn K (.ref C_Answer) = some (.type "type"))
    (ss_Answer : PySem.W.subIn K (.ref C_Answer) (.ref C_Answer) = some true)
    (ss_First_Never : PySem.W.subIn K (.ref C_First) (.ref C_Never) = some false)
    (ss_First_Answer : PySem.W.subIn K (.ref C_First) (.ref C_Answer) = some true)
    (ss_Never_First : PySem.W.subIn K (.ref C_Never) (.ref C_First) = some false)
    (ss_Never_Answer : PySem.W.subIn K (.ref C_Never) (.ref C_Answer) = some true)
    (ogt : PySem.W.specialIn K (.builtin "object.__class__") "__get__" = some (some (.builtin "getset_descriptor.__get__")))
    (otk : PySem.W.takesIn K (.builtin "object.__class__") = some true)
    (n_BadPlaces : PySem.W.nsIn K mainGlobals "BadPlaces" = some (some (.ref C_BadPlaces)))
    (x_BadPlaces : PySem.W.excIn K C_BadPlaces [.type "ValueError", .type "Exception", .type "BaseException", .type "object"] "ValueError.__new__" = true)
    (k_BadPlaces : PySem.W.keepIn K (.ref C_BadPlaces) = true)
    (b_BadPlaces : PySem.W.subIn K (.ref C_BadPlaces) (.type "BaseException") = some true)
    (t_BadPlaces : PySem.W.typeIn K (.ref C_BadPlaces) = some (.type "type"))
    (n_BadStep : PySem.W.nsIn K mainGlobals "BadStep" = some (some (.ref C_BadStep)))
    (x_BadStep : PySem.W.excIn K C_BadStep [.type "ValueError", .type "Exception", .type "BaseException", .type "object"] "ValueError.__new__" = true)
    (k_BadStep : PySem.W.keepIn K (.ref C_BadStep) = true)
    (b_BadStep : PySem.W.subIn K (.ref C_BadStep) (.type "BaseException") = some true)
    (t_BadStep : PySem.W.typeIn K (.ref C_BadStep) = some (.type "type"))
    (n_BadPlace : PySem.W.nsIn K mainGlobals "BadPlace" = some (some (.ref C_BadPlace)))
    (x_BadPlace : PySem.W.excIn K C_BadPlace [.type "ValueError", .type "Exception", .type "BaseException", .type "object"] "ValueError.__new__" = true)
    (k_BadPlace : PySem.W.keepIn K (.ref C_BadPlace) = true)
    (b_BadPlace : PySem.W.subIn K (.ref C_BadPlace) (.type "BaseException") = some true)
    (t_BadPlace : PySem.W.typeIn K (.ref C_BadPlace) = some (.type "type"))
    (z_isinstance : PySem.W.nsIn K mainGlobals "isinstance" = some none)
    (z_int : PySem.W.nsIn K mainGlobals "int" = some none)
    (z_bool : PySem.W.nsIn K mainGlobals "bool" = some none)
    (z_len : PySem.W.nsIn K mainGlobals "len" = some none)
    (z_sum : PySem.W.nsIn K mainGlobals "sum" = some none)
    (z_min : PySem.W.nsIn K mainGlobals "min" = some none)
    (z_max : PySem.W.nsIn K mainGlobals "max" = some none)
    (z_sorted : PySem.W.nsIn K mainGlobals "sorted" = some none)
    (z_range : PySem.W.nsIn K mainGlobals "range" = some none)
    (z_enumerate : PySem.W.nsIn K mainGlobals "enumerate" = some none)
    (z_reversed : PySem.W.nsIn K mainGlobals "reversed" = some none)
    (z_zip : PySem.W.nsIn K mainGlobals "zip" = some none)
    (z_abs : PySem.W.nsIn K mainGlobals "abs" = some none)
    (z_all : PySem.W.nsIn K mainGlobals "all" = some none)
    (z_any : PySem.W.nsIn K mainGlobals "any" = some none)
    (z_list : PySem.W.nsIn K mainGlobals "list" = some none)
    (z_tuple : PySem.W.nsIn K mainGlobals "tuple" = some none)
    (z_set : PySem.W.nsIn K mainGlobals "set" = some none)
    (z_str : PySem.W.nsIn K mainGlobals "str" = some none)
    (z_ValueError : PySem.W.nsIn K mainGlobals "ValueError" = some none) :
    ∃ fd : FuncData, (∀ (s : Shared) (v : Value), BindsTo s fd ⟨[v], []⟩ [("_law_script", v)]) ∧ ∀ base : Heap, K.In base → base.Ns mainGlobals mg → FnOk l.prog w K mg base CX0 200 fa fd ["_law_script"] (spLaw K) := by
  have e := hfa.symm.trans (PySem.W.mg_of X G n_law)
  cases e
  have F_is_number := fun_mk (st := s_is_number) l_is_number c_is_number k_is_number
  have A_is_number : At K mg "is_number" s_is_number ["thing", "least", "most"] _ _ := ⟨F_is_number, F_is_number.binds fun _ _ _ _ _ _ us hl => match us, hl with | [_, _, _], _ => rfl, PySem.W.mg_of X G n_is_number⟩
  have F_common := fun_mk (st := s_common) l_common c_common k_common
  have A_common : At K mg "common" s_common ["one", "other"] _ _ := ⟨F_common, F_common.binds fun _ _ _ _ _ _ us hl => match us, hl with | [_, _], _ => rfl, PySem.W.mg_of X G n_common⟩
  have F_check_ring := fun_mk (st := s_check_ring) l_check_ring c_check_ring k_check_ring
  have A_check_ring : At K mg "check_ring" s_check_ring ["places", "step"] _ _ := ⟨F_check_ring, F_check_ring.binds fun _ _ _ _ _ _ us hl => match us, hl with | [_, _], _ => rfl, PySem.W.mg_of X G n_check_ring⟩
  have F_check_stretch := fun_mk (st := s_check_stretch) l_check_stretch c_check_stretch k_check_stretch
  have A_check_stretch : At K mg "check_stretch" s_check_stretch ["places", "begin", "end"] _ _ := ⟨F_check_stretch, F_check_stretch.binds fun _ _ _ _ _ _ us hl => match us, hl with | [_, _, _], _ => rfl, PySem.W.mg_of X G n_check_stretch⟩
  have F_quotients := fun_mk (st := s_quotients) l_quotients c_quotients k_quotients
  have A_quotients : At K mg "quotients" s_quotients ["many", "by", "times", "more"] _ _ := ⟨F_quotients, F_quotients.binds fun _ _ _ _ _ _ us hl => match us, hl with | [_, _, _, _], _ => rfl, PySem.W.mg_of X G n_quotients⟩
  have F_marks_to := fun_mk (st := s_marks_to) l_marks_to c_marks_to k_marks_to
  have A_marks_to : At K mg "marks_to" s_marks_to ["places", "step", "marks", "place"] _ _ := ⟨F_marks_to, F_marks_to.binds fun _ _ _ _ _ _ us hl => match us, hl with | [_, _, _, _], _ => rfl, PySem.W.mg_of X G n_marks_to⟩
  have F_led_back := fun_mk (st := s_led_back) l_led_back c_led_back k_led_back
  have A_led_back : At K mg "led_back" s_led_back ["led", "mark"] _ _ := ⟨F_led_back, F_led_back.binds fun _ _ _ _ _ _ us hl => match us, hl with | [_, _], _ => rfl, PySem.W.mg_of X G n_led_back⟩
  have F_least_mark := fun_mk (st := s_least_mark) l_least_mark c_least_mark k_least_mark
  have A_least_mark : At K mg "least_mark" s_least_mark ["places", "step", "begin", "end"] _ _ := ⟨F_least_mark, F_least_mark.binds fun _ _ _ _ _ _ us hl => match us, hl with | [_, _, _, _], _ => rfl, PySem.W.mg_of X G n_least_mark⟩
  have F_first := fun_mk (st := s_first) l_first c_first k_first
  have A_first : At K mg "first" s_first ["places", "step", "begin", "end"] _ _ := ⟨F_first, F_first.binds fun _ _ _ _ _ _ us hl => match us, hl with | [_, _, _, _], _ => rfl, PySem.W.mg_of X G n_first⟩
  have F__law_number := fun_mk (st := s__law_number) l__law_number c__law_number k__law_number
  have A__law_number : At K mg "_law_number" s__law_number ["_law_cell", "_law_at", "_law_whole_here"] _ _ := ⟨F__law_number, F__law_number.binds fun _ _ _ _ _ _ us hl => match us, hl with | [_, _, _], _ => rfl, PySem.W.mg_of X G n__law_number⟩
  have F__law_rings := fun_mk (st := s__law_rings) l__law_rings c__law_rings k__law_rings
  have A__law_rings : At K mg "_law_rings" s__law_rings ["_law_script"] _ _ := ⟨F__law_rings, F__law_rings.binds fun _ _ _ _ _ _ us hl => match us, hl with | [_], _ => rfl, PySem.W.mg_of X G n__law_rings⟩
  have F__law_common := fun_mk (st := s__law_common) l__law_common c__law_common k__law_common
  have A__law_common : At K mg "_law_common" s__law_common ["_law_one", "_law_other"] _ _ := ⟨F__law_common, F__law_common.binds fun _ _ _ _ _ _ us hl => match us, hl with | [_, _], _ => rfl, PySem.W.mg_of X G n__law_common⟩
  have F__law_rounds := fun_mk (st := s__law_rounds) l__law_rounds c__law_rounds k__law_rounds
  have A__law_rounds : At K mg "_law_rounds" s__law_rounds ["_law_many", "_law_by", "_law_times", "_law_more"] _ _ := ⟨F__law_rounds, F__law_rounds.binds fun _ _ _ _ _ _ us hl => match us, hl with | [_, _, _, _], _ => rfl, PySem.W.mg_of X G n__law_rounds⟩
  have F__law_to := fun_mk (st := s__law_to) l__law_to c__law_to k__law_to
  have A__law_to : At K mg "_law_to" s__law_to ["_law_places", "_law_step", "_law_marks", "_law_place"] _ _ := ⟨F__law_to, F__law_to.binds fun _ _ _ _ _ _ us hl => match us, hl with | [_, _, _, _], _ => rfl, PySem.W.mg_of X G n__law_to⟩
  have F__law_whole := fun_mk (st := s__law_whole) l__law_whole c__law_whole k__law_whole
  have A__law_whole : At K mg "_law_whole" s__law_whole ["_law_found"] _ _ := ⟨F__law_whole, F__law_whole.binds fun _ _ _ _ _ _ us hl => match us, hl with | [_], _ => rfl, PySem.W.mg_of X G n__law_whole⟩
  have F__law_due := fun_mk (st := s__law_due) l__law_due c__law_due k__law_due
  have A__law_due : At K mg "_law_due" s__law_due ["_law_places", "_law_step", "_law_begin", "_law_end", "_law_found"] _ _ := ⟨F__law_due, F__law_due.binds fun _ _ _ _ _ _ us hl => match us, hl with | [_, _, _, _, _], _ => rfl, PySem.W.mg_of X G n__law_due⟩
  have F__law_right := fun_mk (st := s__law_right) l__law_right c__law_right k__law_right
  have A__law_right : At K mg "_law_right" s__law_right ["_law_places", "_law_step", "_law_begin", "_law_end", "_law_others"] _ _ := ⟨F__law_right, F__law_right.binds fun _ _ _ _ _ _ us hl => match us, hl with | [_, _, _, _, _], _ => rfl, PySem.W.mg_of X G n__law_right⟩
  have F_law := fun_mk (st := s_law) l_law c_law k_law
  have A_law : At K mg "law" s_law ["_law_script"] _ _ := ⟨F_law, F_law.binds fun _ _ _ _ _ _ us hl => match us, hl with | [_], _ => rfl, PySem.W.mg_of X G n_law⟩
  have F_First___init__ := fun_mk (st := s_First___init__) l_First___init__ c_First___init__ k_First___init__
  have B_First___init__ := F_First___init__.binds (ps := ["self", "mark"]) fun _ _ _ _ _ _ us hl => match us, hl with | [_, _], _ => rfl
  have F_First_shows := fun_mk (st := s_First_shows) l_First_shows c_First_shows k_First_shows
  have B_First_shows := F_First_shows.binds (ps := ["self", "places", "step", "begin", "end"]) fun _ _ _ _ _ _ us hl => match us, hl with | [_, _, _, _, _], _ => rfl
  have F_Never___init__ := fun_mk (st := s_Never___init__) l_Never___init__ c_Never___init__ k_Never___init__
  have B_Never___init__ := F_Never___init__.binds (ps := ["self", "common"]) fun _ _ _ _ _ _ us hl => match us, hl with | [_, _], _ => rfl
  have F_Never_shows := fun_mk (st := s_Never_shows) l_Never_shows c_Never_shows k_Never_shows
  have B_Never_shows := F_Never_shows.binds (ps := ["self", "places", "step", "begin", "end"]) fun _ _ _ _ _ _ us hl => match us, hl with | [_, _, _, _, _], _ => rfl
  have M_First : Mk K C_First a_First___init__ := ⟨mk_First, n_First___init__, i_First___init__, kc_First⟩
  have Cl_First : Cls K C_First := ⟨pg_First, hd_First, po_First, sa_First⟩
  have I_First : InsI K C_First := ⟨Cl_First, oc_First, ogt, otk, om_First⟩
  have M_First_g : mg "First" = some (.ref C_First) := PySem.W.mg_of X G n_First
  have M_Never : Mk K C_Never a_Never___init__ := ⟨mk_Never, n_Never___init__, i_Never___init__, kc_Never⟩
  have Cl_Never : Cls K C_Never := ⟨pg_Never, hd_Never, po_Never, sa_Never⟩
  have I_Never : InsI K C_Never := ⟨Cl_Never, oc_Never, ogt, otk, om_Never⟩
  have M_Never_g : mg "Never" = some (.ref C_Never) := PySem.W.mg_of X G n_Never
  have M_Answer_g : mg "Answer" = some (.ref C_Answer) := PySem.W.mg_of X G n_Answer
  have k_First_Never : PySem.W.kitOne K (.ref C_First) (.ref C_Never) = some false := kit_own ic_Never tc_Never ss_First_Never ss_Never
  have k_First_Answer : PySem.W.kitOne K (.ref C_First) (.ref C_Answer) = some true := kit_own ic_Answer tc_Answer ss_First_Answer ss_Answer
  have k_First_First : PySem.W.kitOne K (.ref C_First) (.ref C_First) = some true := kit_own ic_First tc_First ss_First ss_First
  have Me_First : Meth K C_First "shows" a_First_shows := ⟨n_First_shows, i_First_shows, k_First_shows⟩
  have k_Never_First : PySem.W.kitOne K (.ref C_Never) (.ref C_First) = some false := kit_own ic_First tc_First ss_Never_First ss_First
  have k_Never_Answer : PySem.W.kitOne K (.ref C_Never) (.ref C_Answer) = some true := kit_own ic_Answer tc_Answer ss_Never_Answer ss_Answer
  have k_Never_Never : PySem.W.kitOne K (.ref C_Never) (.ref C_Never) = some true := kit_own ic_Never tc_Never ss_Never ss_Never
  have Me_Never : Meth K C_Never "shows" a_Never_shows := ⟨n_Never_shows, i_Never_shows, k_Never_shows⟩
  have E_BadPlaces : ErrAt K mg "BadPlaces" C_BadPlaces := ⟨x_BadPlaces, PySem.W.mg_of X G n_BadPlaces, k_BadPlaces, b_BadPlaces, t_BadPlaces⟩
  have E_BadStep : ErrAt K mg "BadStep" C_BadStep := ⟨x_BadStep, PySem.W.mg_of X G n_BadStep, k_BadStep, b_BadStep, t_BadStep⟩
  have E_BadPlace : ErrAt K mg "BadPlace" C_BadPlace := ⟨x_BadPlace, PySem.W.mg_of X G n_BadPlace, k_BadPlace, b_BadPlace, t_BadPlace⟩
  have hA : Blt mg := ⟨PySem.W.mg_none_of X G z_isinstance, PySem.W.mg_none_of X G z_int, PySem.W.mg_none_of X G z_bool, PySem.W.mg_none_of X G z_len, PySem.W.mg_none_of X G z_sum, PySem.W.mg_none_of X G z_min, PySem.W.mg_none_of X G z_max, PySem.W.mg_none_of X G z_sorted, PySem.W.mg_none_of X G z_range, PySem.W.mg_none_of X G z_enumerate, PySem.W.mg_none_of X G z_reversed, PySem.W.mg_none_of X G z_zip, PySem.W.mg_none_of X G z_abs, PySem.W.mg_none_of X G z_all, PySem.W.mg_none_of X G z_any, PySem.W.mg_none_of X G z_list, PySem.W.mg_none_of X G z_tuple, PySem.W.mg_none_of X G z_set, PySem.W.mg_none_of X G z_str, PySem.W.mg_none_of X G z_ValueError⟩
  refine ⟨_, fun s v => .of_eq (show bindArgs (PySem.W.fnOf "law" "law" (defArgs s_law) (defBody s_law) (defScope s_law) .none kV_law dc_law pm_law an_law cd_law ct_law) ⟨[v], []⟩ = _ from rfl), fun base _ _ => ?_⟩
  let c : Cs := ⟨C_BadPlaces, C_BadStep, 0, C_BadPlace, 0⟩
  have G_is_number := ok_is_number (P := l.prog) (w := w) (base := base) hA F_is_number
  have G_common := ok_common (P := l.prog) (w := w) (mg := mg) (base := base) F_common
  have G_check_ring := ok_check_ring (c := c) F_check_ring G_is_number A_is_number E_BadPlaces E_BadStep
  have G_check_stretch := ok_check_stretch (c := c) F_check_stretch G_is_number A_is_number E_BadPlace
  have G_quotients := ok_quotients (P := l.prog) (w := w) (mg := mg) (base := base) F_quotients
  have G_marks_to := ok_marks_to F_marks_to G_quotients A_quotients
  have G_First___init__ := ok_First___init__ (P := l.prog) (w := w) (mg := mg) (base := base) Cl_First na_First_mark F_First___init__
  have G_Never___init__ := ok_Never___init__ (P := l.prog) (w := w) (mg := mg) (base := base) Cl_Never na_Never_common F_Never___init__
  have G_First_shows := ok_First_shows Cl_First na_First_mark F_First_shows G_is_number A_is_number G_marks_to A_marks_to
  have G_Never_shows := ok_Never_shows Cl_Never na_Never_common F_Never_shows G_is_number A_is_number
  have G_least_mark := ok_least_mark F_least_mark (fun P0 A0 B0 E1 => ok_led_back (P := l.prog) (w := w) (base := base) (P0 := P0) (A0 := A0) (B0 := B0) (E1 := E1) hA F_led_back) A_led_back
  have G_first := quiet (ok_first F_first G_check_ring A_check_ring G_check_stretch A_check_stretch G_common A_common G_least_mark A_least_mark M_First G_First___init__ M_First_g B_First___init__ M_Never G_Never___init__ M_Never_g B_Never___init__)
  have G__law_number := ok__law_number (P := l.prog) (w := w) (mg := mg) (base := base) F__law_number
  have G__law_common := ok__law_common (P := l.prog) (w := w) (mg := mg) (base := base) F__law_common
  have G__law_rounds := ok__law_rounds (P := l.prog) (w := w) (base := base) F__law_rounds A__law_rounds 195
  have G__law_to := ok__law_to F__law_to G__law_rounds A__law_rounds
  have G__law_whole := ok__law_whole (P := l.prog) (w := w) (base := base) hA F__law_whole
  have G__law_rings := ok__law_rings hA F__law_rings G__law_number A__law_number G__law_common A__law_common
  have G__law_due := ok__law_due I_First I_Never na_First_mark na_Never_common k_First_First k_Never_First hA F__law_due M_First_g G__law_to A__law_to
  have G__law_right := ok__law_right (c := c) I_First I_Never na_First_mark na_Never_common k_First_First k_Never_First k_First_Never k_Never_Never k_First_Answer k_Never_Answer hA F__law_right M_First_g M_Never_g M_Answer_g G_first A_first G__law_whole A__law_whole G__law_common A__law_common G__law_due A__law_due
    Me_First G_First_shows B_First_shows Me_Never G_Never_shows B_Never_shows
  exact ok_law (c := c) na_First_mark na_Never_common Cl_First Cl_Never hA F_law G__law_number A__law_number G__law_rings A__law_rings G_first A_first G__law_common A__law_common G__law_right A__law_right
theorem walk {l : PySem.W.OpenLaw} {q : Program} {loose : List Str} {XP : (Str → Option Value) → Heap → Prop} {YP : World → Heap → Prop} {d : DefRec} {K : Params → PySem.W.Frag} (hn : l.most = some 63) (hdf : d.params.defaults = [])
    (hY : ∀ (w : World) (h : Heap), YP w h → (K w.params).In h)
    (F : ∀ (w : World) (mg : Str → Option Value) (fa : Addr) (h : Heap), (K w.params).In h → h.Ns mainGlobals mg → mg d.name = some (.ref fa) →
      ∃ fd : FuncData, (∀ (s : Shared) (u : Value), BindsTo s fd ⟨[u], []⟩ [("_law_script", u)]) ∧ ∀ base : Heap, (K w.params).In base → base.Ns mainGlobals mg → FnOk l.prog w (K w.params) mg base CX0 200 fa fd ["_law_script"] (spLaw (K w.params))) :
    PySem.W.WalkO q loose XP YP l.row.toRowW d [] (fun f vs => PySem.call f vs) :=
  L2.walk_ofB (n := 63) (k := 200) (x := "_law_script") (CX := fun _ => CX0) (sp := fun w => spLaw (K w.params)) hn (by decide) hdf ⟨rfl, by decide, by decide⟩ hY F (fun _ _ a ns hl hb _ hS => ⟨a, ns, rfl, hS, hl, fun z hz => lv_bits (hb z hz), fun _ => rfl⟩) fun _ _ _ _ _ z => z
end RP
open PySem PySem.W PyProof.Rows
set_option maxRecDepth 100000 in
set_option maxHeartbeats 0 in
theorem PySem.Challenge.cw_ringsteps_k04_whole_first_holds : PySem.Challenge.rw_ringsteps_k04_whole_first.Holds := by
  w_on; o_law; k_head; (case hw => w_witness2)
  k_fill
  refine RP.walk (l := PySem.Challenge.rw_ringsteps_k04_whole_first) rfl rfl (fun w h Y => PySem.W.kIn_of Y) ?F
  case F =>
    intro w mg fa h KX G hmg
    refine' RP.all_mk KX G hmg ?n_First ?n_Never ?n_Answer ?n_is_number ?l_is_number ?c_is_number ?k_is_number ?n_common ?l_common ?c_common ?k_common ?n_check_ring ?l_check_ring ?c_check_ring ?k_check_ring ?n_check_stretch ?l_check_stretch ?c_check_stretch ?k_check_stretch ?n_quotients ?l_quotients ?c_quotients ?k_quotients ?n_marks_to ?l_marks_to ?c_marks_to ?k_marks_to ?n_led_back ?l_led_back ?c_led_back ?k_led_back ?n_least_mark ?l_least_mark ?c_least_mark ?k_least_mark ?n_first ?l_first ?c_first ?k_first ?n__law_number ?l__law_number ?c__law_number ?k__law_number ?n__law_rings ?l__law_rings ?c__law_rings ?k__law_rings ?n__law_common ?l__law_common ?c__law_common ?k__law_common ?n__law_rounds ?l__law_rounds ?c__law_rounds ?k__law_rounds ?n__law_to ?l__law_to ?c__law_to ?k__law_to ?n__law_whole ?l__law_whole ?c__law_whole ?k__law_whole ?n__law_due ?l__law_due ?c__law_due ?k__law_due ?n__law_right ?l__law_right ?c__law_right ?k__law_right ?n_law ?l_law ?c_law ?k_law ?n_First___init__ ?i_First___init__ ?l_First___init__ ?c_First___init__ ?k_First___init__ ?n_First_shows ?i_First_shows ?l_First_shows ?c_First_shows ?k_First_shows ?n_Never___init__ ?i_Never___init__ ?l_Never___init__ ?c_Never___init__ ?k_Never___init__ ?n_Never_shows ?i_Never_shows ?l_Never_shows ?c_Never_shows ?k_Never_shows ?pg_First ?hd_First ?po_First ?sa_First ?na_First_mark ?mk_First ?kc_First ?oc_First ?om_First ?ic_First ?tc_First ?ss_First ?pg_Never ?hd_Never ?po_Never ?sa_Never ?na_Never_common ?mk_Never ?kc_Never ?oc_Never ?om_Never ?ic_Never ?tc_Never ?ss_Never ?ic_Answer ?tc_Answer ?ss_Answer ?ss_First_Never ?ss_First_Answer ?ss_Never_First ?ss_Never_Answer ?ogt ?otk ?n_BadPlaces ?x_BadPlaces ?k_BadPlaces ?b_BadPlaces ?t_BadPlaces ?n_BadStep ?x_BadStep ?k_BadStep ?b_BadStep ?t_BadStep ?n_BadPlace ?x_BadPlace ?k_BadPlace ?b_BadPlace ?t_BadPlace ?z_isinstance ?z_int ?z_bool ?z_len ?z_sum ?z_min ?z_max ?z_sorted ?z_range ?z_enumerate ?z_reversed ?z_zip ?z_abs ?z_all ?z_any ?z_list ?z_tuple ?z_set ?z_str ?z_ValueError
    (case n_First => k_is)
    (case n_Never => k_is)
    (case n_Answer => k_is)
    (case n_is_number => k_is)
    (case l_is_number => k_is)
    (case c_is_number => k_is)
    (case k_is_number => k_is)
    (case n_common => k_is)
    (case l_common => k_is)
    (case c_common => k_is)
    (case k_common => k_is)
    (case n_check_ring => k_is)
    (case l_check_ring => k_is)
    (case c_check_ring => k_is)
    (case k_check_ring => k_is)
    (case n_check_stretch => k_is)
    (case l_check_stretch => k_is)
    (case c_check_stretch => k_is)
    (case k_check_stretch => k_is)
    (case n_quotients => k_is)
    (case l_quotients => k_is)
    (case c_quotients => k_is)
    (case k_quotients => k_is)
    (case n_marks_to => k_is)
    (case l_marks_to => k_is)
    (case c_marks_to => k_is)
    (case k_marks_to => k_is)
    (case n_led_back => k_is)
    (case l_led_back => k_is)
    (case c_led_back => k_is)
    (case k_led_back => k_is)
    (case n_least_mark => k_is)
    (case l_least_mark => k_is)
    (case c_least_mark => k_is)
    (case k_least_mark => k_is)
    (case n_first => k_is)
    (case l_first => k_is)
    (case c_first => k_is)
    (case k_first => k_is)
    (case n__law_number => k_is)
    (case l__law_number => k_is)
    (case c__law_number => k_is)
    (case k__law_number => k_is)
    (case n__law_rings => k_is)
    (case l__law_rings => k_is)
    (case c__law_rings => k_is)
    (case k__law_rings => k_is)
    (case n__law_common => k_is)
    (case l__law_common => k_is)
    (case c__law_common => k_is)
    (case k__law_common => k_is)
    (case n__law_rounds => k_is)
    (case l__law_rounds => k_is)
    (case c__law_rounds => k_is)
    (case k__law_rounds => k_is)
    (case n__law_to => k_is)
    (case l__law_to => k_is)
    (case c__law_to => k_is)
    (case k__law_to => k_is)
    (case n__law_whole => k_is)
    (case l__law_whole => k_is)
    (case c__law_whole => k_is)
    (case k__law_whole => k_is)
    (case n__law_due => k_is)
    (case l__law_due => k_is)
    (case c__law_due => k_is)
    (case k__law_due => k_is)
    (case n__law_right => k_is)
    (case l__law_right => k_is)
    (case c__law_right => k_is)
    (case k__law_right => k_is)
    (case n_law => k_is)
    (case l_law => k_is)
    (case c_law => k_is)
    (case k_law => k_is)
    (case n_First___init__ => k_is)
    (case i_First___init__ => k_is)
    (case l_First___init__ => k_is)
    (case c_First___init__ => k_is)
    (case k_First___init__ => k_is)
    (case n_First_shows => k_is)
    (case i_First_shows => k_is)
    (case l_First_shows => k_is)
    (case c_First_shows => k_is)
    (case k_First_shows => k_is)
    (case n_Never___init__ => k_is)
    (case i_Never___init__ => k_is)
    (case l_Never___init__ => k_is)
    (case c_Never___init__ => k_is)
    (case k_Never___init__ => k_is)
    (case n_Never_shows => k_is)
    (case i_Never_shows => k_is)
    (case l_Never_shows => k_is)
    (case c_Never_shows => k_is)
    (case k_Never_shows => k_is)
    (case pg_First => k_is)
    (case hd_First => k_is)
    (case po_First => k_is)
    (case sa_First => k_is)
    (case na_First_mark => k_is)
    (case mk_First => k_is)
    (case kc_First => k_is)
    (case oc_First => k_is)
    (case om_First => k_is)
    (case ic_First => k_is)
    (case tc_First => k_is)
    (case ss_First => k_is)
    (case pg_Never => k_is)
    (case hd_Never => k_is)
    (case po_Never => k_is)
    (case sa_Never => k_is)
    (case na_Never_common => k_is)
    (case mk_Never => k_is)
    (case kc_Never => k_is)
    (case oc_Never => k_is)
    (case om_Never => k_is)
    (case ic_Never => k_is)
    (case tc_Never => k_is)
    (case ss_Never => k_is)
    (case ic_Answer => k_is)
    (case tc_Answer => k_is)
    (case ss_Answer => k_is)
    (case ss_First_Never => k_is)
    (case ss_First_Answer => k_is)
    (case ss_Never_First => k_is)
    (case ss_Never_Answer => k_is)
    (case ogt => k_is)
    (case otk => k_is)
    (case n_BadPlaces => k_is)
    (case x_BadPlaces => k_exc)
    (case k_BadPlaces => k_is)
    (case b_BadPlaces => k_is)
    (case t_BadPlaces => k_is)
    (case n_BadStep => k_is)
    (case x_BadStep => k_exc)
    (case k_BadStep => k_is)
    (case b_BadStep => k_is)
    (case t_BadStep => k_is)
    (case n_BadPlace => k_is)
    (case x_BadPlace => k_exc)
    (case k_BadPlace => k_is)
    (case b_BadPlace => k_is)
    (case t_BadPlace => k_is)
    (case z_isinstance => k_is)
    (case z_int => k_is)
    (case z_bool => k_is)
    (case z_len => k_is)
    (case z_sum => k_is)
    (case z_min => k_is)
    (case z_max => k_is)
    (case z_sorted => k_is)
    (case z_range => k_is)
    (case z_enumerate => k_is)
    (case z_reversed => k_is)
    (case z_zip => k_is)
    (case z_abs => k_is)
    (case z_all => k_is)
    (case z_any => k_is)
    (case z_list => k_is)
    (case z_tuple => k_is)
    (case z_set => k_is)
    (case z_str => k_is)
    (case z_ValueError => k_is)
