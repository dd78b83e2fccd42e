import PyProof.Rows.All
import Wide.All
import OpenK.AllK
import Wide.FinOn
import HandS.ForMost
import HandS.ForExc
import HandS.Wide
import HandS.WideBits
import HandS.IsInst
import HandS.Steps
import HandS.Defaults
import HandS.MakeKw
import HandS.EndBits
import HandS.ExcIs
import HandS.Evl
import Flt.Len
import HandS.SetFor
import HandS.Strs
import PySem.Challenge.RW_gaphand_k10_whole_wheel_parted
set_option Elab.async false
set_option linter.all false
set_option maxRecDepth 100000
set_option maxHeartbeats 4000000
namespace Gh
/-! ## gcd by Euclid's loop -/
theorem gcd_step {a b : Int} (ha : 0 ≤ a) (hb : 0 < b) : Int.gcd b (a % b) = Int.gcd a b := by
  have e : (a % b).natAbs = a.natAbs % b.natAbs := by
    have h1 : a = (a.natAbs : Int) := by omega
    have h2 : b = (b.natAbs : Int) := by omega
    rw [h1, h2, ← Int.natCast_emod]
    rfl
  show Nat.gcd b.natAbs (a % b).natAbs = Nat.gcd a.natAbs b.natAbs
  rw [e, Nat.gcd_comm a.natAbs, Nat.gcd_rec b.natAbs a.natAbs, Nat.gcd_comm]

/-! ## the slanted sum -/
def S : Nat → Int → Int → Int → Int
  | 0, _, _, _ => 0
  | n + 1, step, start, size => S n step start size + (start + (n : Int) * step) / size
theorem S_add (n : Nat) (a b m : Int) : ∀ k : Nat, S (n + k) a b m = S n a b m + S k a (b + (n : Int) * a) m
  | 0 => by simp [S]
  | k + 1 => by
    have ih := S_add n a b m k
    show S (n + k) a b m + (b + ((n + k : Nat) : Int) * a) / m = S n a b m + (S k a (b + (n : Int) * a) m + (b + (n : Int) * a + (k : Int) * a) / m)
    rw [ih, show b + ((n + k : Nat) : Int) * a = b + (n : Int) * a + (k : Int) * a by rw [Int.natCast_add]; grind]
    omega
theorem S_front (k : Nat) (a b m : Int) : S (k + 1) a b m = b / m + S k a (b + a) m := by
  have h := S_add 1 a b m k
  rw [Nat.add_comm 1 k] at h
  rw [h]
  simp [S]
theorem S_start (a b m : Int) (hm : 0 < m) : ∀ n : Nat, S n a b m = S n a (b % m) m + b / m * (n : Int)
  | 0 => by simp [S]
  | n + 1 => by
    have ih := S_start a b m hm n
    show S n a b m + (b + (n : Int) * a) / m = S n a (b % m) m + (b % m + (n : Int) * a) / m + b / m * ((n + 1 : Nat) : Int)
    have e : b + (n : Int) * a = b % m + (n : Int) * a + b / m * m := by
      have := Int.emod_add_mul_ediv b m
      grind
    rw [ih, e, Int.add_mul_ediv_right _ _ (by omega)]
    rw [show ((n + 1 : Nat) : Int) = (n : Int) + 1 from rfl]
    grind
theorem S_shift (c b a : Int) (ha : 0 < a) : ∀ k : Nat, S k c (b + a) a = S k c b a + (k : Int)
  | 0 => by simp [S]
  | k + 1 => by
    have ih := S_shift c b a ha k
    show S k c (b + a) a + (b + a + (k : Int) * c) / a = S k c b a + (b + (k : Int) * c) / a + ((k + 1 : Nat) : Int)
    rw [ih, show b + a + (k : Int) * c = b + (k : Int) * c + 1 * a by grind, Int.add_mul_ediv_right _ _ (by omega)]
    omega
/-- 0 + 1 + .. + (n - 1), as the program has it -/
theorem tri_succ (n : Int) : (n + 1) * ((n + 1) - 1) / 2 = n * (n - 1) / 2 + n := by
  have e : (n + 1) * ((n + 1) - 1) = n * (n - 1) + n * 2 := by grind
  rw [e, Int.add_mul_ediv_right _ _ (by omega)]
theorem S_step (a b m : Int) (hm : 0 < m) : ∀ n : Nat, S n a b m = S n (a % m) b m + a / m * ((n : Int) * ((n : Int) - 1) / 2)
  | 0 => by simp [S]
  | n + 1 => by
    have ih := S_step a b m hm n
    show S n a b m + (b + (n : Int) * a) / m = S n (a % m) b m + (b + (n : Int) * (a % m)) / m + a / m * (((n : Int) + 1) * (((n : Int) + 1) - 1) / 2)
    have e : b + (n : Int) * a = b + (n : Int) * (a % m) + (n : Int) * (a / m) * m := by
      have := Int.emod_add_mul_ediv a m
      grind
    rw [ih, e, Int.add_mul_ediv_right _ _ (by omega), tri_succ]
    grind
theorem S_zero (b m : Int) (h0 : 0 ≤ b) (h1 : b < m) : ∀ n : Nat, S n 0 b m = 0
  | 0 => rfl
  | n + 1 => by
    show S n 0 b m + (b + (n : Int) * 0) / m = 0
    rw [S_zero b m h0 h1 n, Int.mul_zero, Int.add_zero, Int.ediv_eq_zero_of_lt h0 h1]
    rfl
/-- the heart: counted the other way round -/
theorem S_flip (a b m : Int) (ha : 0 < a) (ham : a < m) (hb : 0 ≤ b) (hbm : b < m) : ∀ n : Nat, S n a b m = S ((b + (n : Int) * a) / m).toNat m ((b + (n : Int) * a) % m) a
  | 0 => by
    have e : (b + ((0 : Nat) : Int) * a) / m = 0 := by
      rw [show b + ((0 : Nat) : Int) * a = b by simp]
      exact Int.ediv_eq_zero_of_lt hb hbm
    rw [e]
    rfl
  | n + 1 => by
    have ih := S_flip a b m ha ham hb hbm n
    show S n a b m + (b + (n : Int) * a) / m = _
    rw [show b + ((n + 1 : Nat) : Int) * a = b + (n : Int) * a + a by rw [show ((n + 1 : Nat) : Int) = (n : Int) + 1 from rfl]; grind]
    have hy : 0 ≤ b + (n : Int) * a := Int.add_nonneg hb (Int.mul_nonneg (Int.natCast_nonneg n) (by omega))
    rw [ih]
    generalize b + (n : Int) * a = y at hy
    have hm : 0 < m := by omega
    have q0 : 0 ≤ y / m := Int.ediv_nonneg hy (by omega)
    have r0 : 0 ≤ y % m := Int.emod_nonneg y (by omega)
    have r1 : y % m < m := Int.emod_lt_of_pos y hm
    have ey := Int.emod_add_mul_ediv y m
    by_cases hc : y % m + a < m
    · have e1 : (y + a) / m = y / m := by
        rw [show y + a = (y % m + a) + (y / m) * m by grind, Int.add_mul_ediv_right _ _ (by omega), Int.ediv_eq_zero_of_lt (by omega) hc]
        omega
      have e2 : (y + a) % m = y % m + a := by
        rw [show y + a = (y % m + a) + m * (y / m) by omega, Int.add_mul_emod_self_left, Int.emod_eq_of_lt (by omega) hc]
      rw [e1, e2, S_shift _ _ _ ha]
      omega
    · have e1 : (y + a) / m = y / m + 1 := by
        rw [show y + a = (y % m + a - m) + (y / m + 1) * m by grind, Int.add_mul_ediv_right _ _ (by omega), Int.ediv_eq_zero_of_lt (by omega) (by omega)]
        omega
      have e2 : (y + a) % m = y % m + a - m := by
        rw [show y + a = (y % m + a - m) + m * (y / m + 1) by grind, Int.add_mul_emod_self_left, Int.emod_eq_of_lt (by omega) (by omega)]
      have e3 : (y % m + a - m) / a = 0 := Int.ediv_eq_zero_of_lt (by omega) (by omega)
      rw [e1, e2, show (y / m + 1).toNat = (y / m).toNat + 1 by omega, S_front, e3,
        show y % m + a - m + m = y % m + a by omega, S_shift _ _ _ ha]
      omega
/-- one turn of the program's loop -/
theorem S_turn {n a b m : Int} (hn : 0 < n) (hm : 0 < m) :
    S n.toNat a b m = a / m * (n * (n - 1) / 2) + b / m * n + S ((b % m + n * (a % m)) / m).toNat m ((b % m + n * (a % m)) % m) (a % m) := by
  have en : ((n.toNat : Nat) : Int) = n := by omega
  rw [S_step a b m hm, S_start (a % m) b m hm, en]
  have r0 : 0 ≤ b % m := Int.emod_nonneg b (by omega)
  have r1 : b % m < m := Int.emod_lt_of_pos b hm
  have s0 : 0 ≤ a % m := Int.emod_nonneg a (by omega)
  have s1 : a % m < m := Int.emod_lt_of_pos a hm
  by_cases ha : a % m = 0
  · rw [ha, S_zero _ _ r0 r1, Int.mul_zero, Int.add_zero, Int.ediv_eq_zero_of_lt r0 r1]
    simp [S]
    omega
  · rw [S_flip (a % m) (b % m) m (by omega) s1 r0 r1, en]
    omega
theorem S_succ (n : Nat) (a b m : Int) : S (n + 1) a b m = S n a b m + (b + (n : Int) * a) / m := rfl
/-- the new many is no greater, the new size smaller -/
theorem turn_many {n a b m : Int} (hn : 0 < n) (hm : 0 < m) : 0 ≤ (b % m + n * (a % m)) / m ∧ (b % m + n * (a % m)) / m ≤ n ∧ (a % m = 0 → (b % m + n * (a % m)) / m = 0) := by
  have r0 : 0 ≤ b % m := Int.emod_nonneg b (by omega)
  have r1 : b % m < m := Int.emod_lt_of_pos b hm
  have s0 : 0 ≤ a % m := Int.emod_nonneg a (by omega)
  have s1 : a % m < m := Int.emod_lt_of_pos a hm
  refine ⟨Int.ediv_nonneg (Int.add_nonneg r0 (Int.mul_nonneg (by omega) s0)) (by omega), ?_, fun h => ?_⟩
  · have h1 : n * (a % m) ≤ n * (m - 1) := Int.mul_le_mul_of_nonneg_left (by omega) (by omega)
    have h2 : b % m + n * (a % m) < (n + 1) * m := by grind
    have := Int.ediv_lt_of_lt_mul hm h2
    omega
  · rw [h, Int.mul_zero, Int.add_zero, Int.ediv_eq_zero_of_lt r0 r1]
end Gh

namespace Gh
/-! ## neighbours of beat 0 -/
theorem mul_ge {u p : Int} (hu : 1 ≤ u) (hp : 0 ≤ p) : p ≤ u * p := by
  have := Int.mul_le_mul_of_nonneg_right hu hp
  omega
theorem mul_le_neg {v b : Int} (hv : v ≤ -1) (hb : 0 ≤ b) : v * b ≤ -b := by
  have := Int.mul_le_mul_of_nonneg_right hv hb
  omega
structure Four (size step p n b k : Int) : Prop where
  p1 : 1 ≤ p
  n1 : 1 ≤ n
  b1 : 1 ≤ b
  k1 : 1 ≤ k
  hp : size ∣ p * step - n
  hb : size ∣ b * step + k
  det : b * n + p * k = size
section
variable {size step p n b k lap g : Int}
theorem Four.pos (F : Four size step p n b k) : 0 < size := by
  have h1 := Int.mul_pos (show 0 < b by have := F.b1; omega) (show 0 < n by have := F.n1; omega)
  have h2 := Int.mul_pos (show 0 < p by have := F.p1; omega) (show 0 < k by have := F.k1; omega)
  have := F.det
  omega
theorem Four.lt (F : Four size step p n b k) : n < size ∧ k < size ∧ p < size ∧ b < size := by
  have a1 := F.p1
  have a2 := F.n1
  have a3 := F.b1
  have a4 := F.k1
  have h1 := mul_ge a3 (show 0 ≤ n by omega)
  have h2 := mul_ge a1 (show 0 ≤ k by omega)
  have h3 := mul_ge a2 (show 0 ≤ b by omega)
  have h4 := mul_ge a4 (show 0 ≤ p by omega)
  rw [Int.mul_comm n b] at h3
  rw [Int.mul_comm k p] at h4
  have := F.det
  omega
/-- every beat's way is a sum of the two gaps -/
theorem Four.uv (F : Four size step p n b k) {d x : Int} (h : size ∣ d * step - x) : ∃ u v, d = u * p + v * b ∧ x = u * n - v * k := by
  have hs := F.pos
  obtain ⟨cp, ep⟩ := F.hp
  obtain ⟨cb, eb⟩ := F.hb
  obtain ⟨c, e⟩ := h
  have det := F.det
  have e1 : cb * p - cp * b = 1 := by
    have q : size * (cb * p - cp * b) = size * 1 := by
      have q1 : size * cb * p = (b * step + k) * p := by rw [eb]
      have q2 : size * cp * b = (p * step - n) * b := by rw [ep]
      grind
    exact Int.eq_of_mul_eq_mul_left (by omega) q
  have e2 : cb * n + cp * k = step := by
    have q : size * (cb * n + cp * k) = size * step := by
      have q1 : size * cb * n = (b * step + k) * n := by rw [eb]
      have q2 : size * cp * k = (p * step - n) * k := by rw [ep]
      grind
    exact Int.eq_of_mul_eq_mul_left (by omega) q
  refine ⟨d * cb - b * c, p * c - d * cp, ?_, ?_⟩
  · have : (d * cb - b * c) * p + (p * c - d * cp) * b = d * (cb * p - cp * b) := by grind
    rw [this, e1, Int.mul_one]
  · have : (d * cb - b * c) * n - (p * c - d * cp) * k = d * (cb * n + cp * k) - c * (b * n + p * k) := by grind
    rw [this, e2, det]
    grind
/-- where a beat d on (or back) may stand, x places on -/
theorem Four.cases (F : Four size step p n b k) {d x : Int} (h : size ∣ d * step - x) (hx : 0 < x) :
    (p ≤ d ∧ (n ≤ x ∨ p + b ≤ d)) ∨ n + k ≤ x ∨ (d ≤ -b ∧ (k ≤ x ∨ d ≤ -p - b)) := by
  obtain ⟨u, v, e1, e2⟩ := F.uv h
  have a1 := F.p1
  have a2 := F.n1
  have a3 := F.b1
  have a4 := F.k1
  by_cases hv : 0 ≤ v
  · have hu : 1 ≤ u := by
      apply Decidable.byContradiction
      intro z
      have z1 : u * n ≤ 0 := Int.mul_nonpos_of_nonpos_of_nonneg (by omega) (by omega)
      have z2 : 0 ≤ v * k := Int.mul_nonneg hv (by omega)
      omega
    have h1 := mul_ge hu (show 0 ≤ p by omega)
    have h2 : 0 ≤ v * b := Int.mul_nonneg hv (by omega)
    left
    refine ⟨by omega, ?_⟩
    by_cases hv0 : v = 0
    · left
      have h3 := mul_ge hu (show 0 ≤ n by omega)
      rw [hv0, Int.zero_mul] at e2
      omega
    · right
      have h3 := mul_ge (show 1 ≤ v by omega) (show 0 ≤ b by omega)
      omega
  · have hv1 : v ≤ -1 := by omega
    have h1 := mul_le_neg hv1 (show 0 ≤ b by omega)
    have h2 := mul_le_neg hv1 (show 0 ≤ k by omega)
    by_cases hu : 1 ≤ u
    · right
      left
      have h3 := mul_ge hu (show 0 ≤ n by omega)
      omega
    · right
      right
      have h3 : u * p ≤ 0 := Int.mul_nonpos_of_nonpos_of_nonneg (by omega) (by omega)
      refine ⟨by omega, ?_⟩
      by_cases hu0 : u = 0
      · left
        rw [hu0, Int.zero_mul] at e2
        omega
      · right
        have h4 := mul_le_neg (show u ≤ -1 by omega) (show 0 ≤ p by omega)
        omega
theorem Four.grow1 (F : Four size step p n b k) {t : Int} (h0 : 0 ≤ t) (h : t * k ≤ n - 1) : Four size step (p + t * b) (n - t * k) b k := by
  have a1 := F.p1
  have a3 := F.b1
  have h1 : 0 ≤ t * b := Int.mul_nonneg h0 (by omega)
  refine ⟨by omega, by omega, a3, F.k1, ?_, F.hb, ?_⟩
  · have e : (p + t * b) * step - (n - t * k) = (p * step - n) + (b * step + k) * t := by grind
    rw [e]
    exact Int.dvd_add F.hp (Int.dvd_mul_of_dvd_left F.hb)
  · have := F.det
    grind
theorem Four.grow2 (F : Four size step p n b k) {t : Int} (h0 : 0 ≤ t) (h : t * n ≤ k - 1) : Four size step p n (b + t * p) (k - t * n) := by
  have a1 := F.p1
  have a3 := F.b1
  have h1 : 0 ≤ t * p := Int.mul_nonneg h0 (by omega)
  refine ⟨a1, F.n1, by omega, by omega, F.hp, ?_, ?_⟩
  · have e : (b + t * p) * step + (k - t * n) = (b * step + k) + (p * step - n) * t := by grind
    rw [e]
    exact Int.dvd_add F.hb (Int.dvd_mul_of_dvd_left F.hp)
  · have := F.det
    grind
/-- size, step, lap and what divides both -/
structure Lap (size step lap g : Int) : Prop where
  g1 : 1 ≤ g
  l1 : 1 ≤ lap
  e : lap * g = size
  gs : g ∣ step
  least : ∀ d, size ∣ d * step → lap ∣ d
theorem Lap.pos (L : Lap size step lap g) : 0 < size := by
  have := Int.mul_pos (show 0 < lap by have := L.l1; omega) (show 0 < g by have := L.g1; omega)
  have := L.e
  omega
theorem Lap.ge (L : Lap size step lap g) {d : Int} (h : size ∣ d * step) (hd : 0 < d) : lap ≤ d := Int.le_of_dvd hd (L.least d h)
theorem Lap.mk' {size step : Int} (hs : 0 < size) : Lap size step (size / (Int.gcd size step : Int)) (Int.gcd size step : Int) := by
  have hg : 0 < Int.gcd size step := Int.gcd_pos_of_ne_zero_left _ (by omega)
  have d1 : (Int.gcd size step : Int) ∣ size := Int.gcd_dvd_left ..
  have d2 : (Int.gcd size step : Int) ∣ step := Int.gcd_dvd_right ..
  obtain ⟨q, eq⟩ := d1
  obtain ⟨r, er⟩ := d2
  have hgi : (0 : Int) < (Int.gcd size step : Int) := by omega
  generalize hG : Int.gcd size step = G at *
  have eq' : size / (G : Int) = q := by rw [eq, Int.mul_ediv_cancel_left _ (by omega)]
  have cop : Int.gcd q r = 1 := by
    have h1 : Int.gcd ((G : Int) * q) ((G : Int) * r) = G * Int.gcd q r := by
      rw [Int.gcd_mul_left]
      simp
    rw [← eq, ← er, hG] at h1
    have h2 : G * 1 = G * Int.gcd q r := by omega
    exact (Nat.eq_of_mul_eq_mul_left hg h2).symm
  have hq : 0 < q := by
    apply Decidable.byContradiction
    intro z
    have : (G : Int) * q ≤ 0 := Int.mul_nonpos_of_nonneg_of_nonpos (by omega) (by omega)
    omega
  rw [eq']
  refine ⟨by omega, by omega, by rw [eq, Int.mul_comm], ⟨r, er⟩, fun d h => ?_⟩
  obtain ⟨c, e⟩ := h
  have e2 : q ∣ d * r := by
    refine ⟨c, ?_⟩
    have e3 : (G : Int) * (d * r) = (G : Int) * (q * c) := by
      rw [er, eq] at e
      grind
    exact Int.eq_of_mul_eq_mul_left (by omega) e3
  have e4 : q.natAbs ∣ d.natAbs * r.natAbs := by
    rw [← Int.natAbs_mul]
    exact Int.natAbs_dvd_natAbs.mpr e2
  exact Int.natAbs_dvd_natAbs.mp (Nat.Coprime.dvd_of_dvd_mul_right cop e4)
theorem Four.ne (F : Four size step p n b k) (L : Lap size step lap g) (h : p + b < lap) : n ≠ k := by
  intro e
  have d : size ∣ (p + b) * step := by
    have : (p + b) * step = (p * step - n) + (b * step + k) := by grind
    rw [this]
    exact Int.dvd_add F.hp F.hb
  have := L.ge d (by have := F.p1; have := F.b1; omega)
  omega
theorem Four.eq_g (F : Four size step p n b k) (L : Lap size step lap g) (e : n = k) : n ≤ g := by
  have d : size ∣ (p + b) * step := by
    have : (p + b) * step = (p * step - n) + (b * step + k) := by grind
    rw [this]
    exact Int.dvd_add F.hp F.hb
  have h1 := L.ge d (by have := F.p1; have := F.b1; omega)
  apply Decidable.byContradiction
  intro z
  have h2 : lap * n ≤ (p + b) * n := Int.mul_le_mul_of_nonneg_right h1 (by have := F.n1; omega)
  have h3 : lap * g < lap * n := Int.mul_lt_mul_of_pos_left (by omega) (by have := L.l1; omega)
  have h4 : (p + b) * n = size := by
    have := F.det
    grind
  have := L.e
  omega
theorem four_start (h1 : 1 ≤ step) (h2 : step < size) : Four size step 1 step 1 (size - step) :=
  ⟨by omega, h1, by omega, by omega, ⟨0, by omega⟩, ⟨1, by omega⟩, by omega⟩
/-- the turns of around: how often, and what comes -/
theorem around1 (F : Four size step p n b k) {many t : Int} (hk : k < n) (hm : p + b < many) (hp : p < many) (ht : t = if (many - 1 - p) / b < (n - 1) / k then (many - 1 - p) / b else (n - 1) / k) :
    1 ≤ t ∧ Four size step (p + t * b) (n - t * k) b k ∧ p + t * b < many ∧ p + b < p + t * b + b ∧ t ≤ n ∧ t * b ≤ many := by
  have a1 := F.p1
  have a2 := F.n1
  have a3 := F.b1
  have a4 := F.k1
  have x1 : 1 ≤ (n - 1) / k := (Int.le_ediv_iff_mul_le (by omega)).mpr (by omega)
  have x2 : 1 ≤ (many - 1 - p) / b := (Int.le_ediv_iff_mul_le (by omega)).mpr (by omega)
  have t1 : 1 ≤ t := by rw [ht]; split <;> assumption
  have t2 : t ≤ (n - 1) / k := by rw [ht]; split <;> omega
  have t3 : t ≤ (many - 1 - p) / b := by rw [ht]; split <;> omega
  have m2 := (Int.le_ediv_iff_mul_le (show 0 < k by omega)).mp t2
  have m3 := (Int.le_ediv_iff_mul_le (show 0 < b by omega)).mp t3
  have m4 := mul_ge t1 (show 0 ≤ b by omega)
  have m5 : t ≤ t * k := by
    have := mul_ge a4 (show 0 ≤ t by omega)
    rw [Int.mul_comm]
    exact this
  exact ⟨t1, F.grow1 (by omega) m2, by omega, by omega, by omega, by omega⟩
theorem around2 (F : Four size step p n b k) (L : Lap size step lap g) {many t : Int} (hk : ¬ k < n) (hm : p + b < many) (hl : many ≤ lap) (hb : b < many) (ht : t = if (many - 1 - b) / p < (k - 1) / n then (many - 1 - b) / p else (k - 1) / n) :
    1 ≤ t ∧ Four size step p n (b + t * p) (k - t * n) ∧ b + t * p < many ∧ p + b < p + (b + t * p) ∧ t ≤ k ∧ t * p ≤ many := by
  have a1 := F.p1
  have a2 := F.n1
  have a3 := F.b1
  have a4 := F.k1
  have ne := F.ne L (by omega)
  have x1 : 1 ≤ (k - 1) / n := (Int.le_ediv_iff_mul_le (by omega)).mpr (by omega)
  have x2 : 1 ≤ (many - 1 - b) / p := (Int.le_ediv_iff_mul_le (by omega)).mpr (by omega)
  have t1 : 1 ≤ t := by rw [ht]; split <;> assumption
  have t2 : t ≤ (k - 1) / n := by rw [ht]; split <;> omega
  have t3 : t ≤ (many - 1 - b) / p := by rw [ht]; split <;> omega
  have m2 := (Int.le_ediv_iff_mul_le (show 0 < n by omega)).mp t2
  have m3 := (Int.le_ediv_iff_mul_le (show 0 < p by omega)).mp t3
  have m4 := mul_ge t1 (show 0 ≤ p by omega)
  have m5 : t ≤ t * n := by
    have := mul_ge a2 (show 0 ≤ t by omega)
    rw [Int.mul_comm]
    exact this
  exact ⟨t1, F.grow2 (by omega) m2, by omega, by omega, by omega, by omega⟩
/-- what is told of the first many beats -/
structure Told (size step many p n b k : Int) : Prop where
  f : Four size step p n b k
  pm : p < many
  bm : b < many
  all : many ≤ p + b
/-- the one after a beat: no other one stands between -/
def due (p n b k many beat : Int) : Int × Int :=
  if beat + p < many then (beat + p, n) else if b ≤ beat then (beat - b, k) else (beat + p - b, n + k)
theorem Told.due_in {many beat : Int} (T : Told size step many p n b k) (h0 : 0 ≤ beat) (h1 : beat < many) : 0 ≤ (due p n b k many beat).1 ∧ (due p n b k many beat).1 < many ∧ 1 ≤ (due p n b k many beat).2 := by
  have := T.f.p1
  have := T.f.n1
  have := T.f.b1
  have := T.f.k1
  have := T.pm
  have := T.bm
  have := T.all
  unfold due
  split
  · exact ⟨by omega, by omega, by omega⟩
  · split
    · exact ⟨by omega, by omega, by omega⟩
    · exact ⟨by show 0 ≤ beat + p - b; omega, by show beat + p - b < many; omega, by show 1 ≤ n + k; omega⟩
theorem Told.due_cg {many beat : Int} (T : Told size step many p n b k) : size ∣ ((due p n b k many beat).1 - beat) * step - (due p n b k many beat).2 := by
  have h1 := T.f.hp
  have h2 := T.f.hb
  unfold due
  split
  · show size ∣ (beat + p - beat) * step - n
    rw [show beat + p - beat = p by omega]
    exact h1
  · split
    · show size ∣ (beat - b - beat) * step - k
      rw [show (beat - b - beat) * step - k = -(b * step + k) by grind]
      exact Int.dvd_neg.mpr h2
    · show size ∣ (beat + p - b - beat) * step - (n + k)
      rw [show (beat + p - b - beat) * step - (n + k) = (p * step - n) - (b * step + k) by grind]
      exact Int.dvd_sub h1 h2
theorem Told.none_between {many beat c x : Int} (T : Told size step many p n b k) (h0 : 0 ≤ beat) (h1 : beat < many) (c0 : 0 ≤ c) (c1 : c < many) (hx : size ∣ (c - beat) * step - x) (x0 : 0 < x) : (due p n b k many beat).2 ≤ x := by
  have := T.f.p1
  have := T.f.n1
  have := T.f.b1
  have := T.f.k1
  have := T.pm
  have := T.bm
  have := T.all
  have hc := T.f.cases hx x0
  unfold due
  split
  · show n ≤ x
    omega
  · split
    · show k ≤ x
      omega
    · show n + k ≤ x
      omega
end
end Gh

namespace Gh
section
variable {size step many p n b k p' n' b' k' : Int}
theorem Told.one (T : Told size step many p n b k) (U : Told size step many p' n' b' k') : n ≤ n' ∧ k ≤ k' ∧ (n' ≤ n → p ≤ p') ∧ (k' ≤ k → b ≤ b') := by
  have a1 := T.f.p1
  have a2 := T.f.n1
  have a3 := T.f.b1
  have a4 := T.f.k1
  have c1 := U.f.p1
  have c2 := U.f.n1
  have c3 := U.f.b1
  have c4 := U.f.k1
  have t1 := T.all
  have u1 := U.pm
  have u2 := U.bm
  have h1 := T.f.cases (d := p') (x := n') U.f.hp (by omega)
  have h2 := T.f.cases (d := -b') (x := k') (by
    have := Int.dvd_neg.mpr U.f.hb
    rw [show -b' * step - k' = -(b' * step + k') by grind]
    exact this) (by omega)
  omega
/-- there is but one telling -/
theorem Told.uniq (T : Told size step many p n b k) (U : Told size step many p' n' b' k') : p = p' ∧ n = n' ∧ b = b' ∧ k = k' := by
  have h1 := T.one U
  have h2 := U.one T
  omega
/-- what after and before tell -/
def bdue (p b many beat : Int) : Int := if p ≤ beat then beat - p else if beat + b < many then beat + b else beat + b - p
structure After (size step many beat r : Int) : Prop where
  r0 : 0 ≤ r
  r1 : r < many
  one : many = 1 → r = beat
  due : ∀ p n b k, Told size step many p n b k → r = (due p n b k many beat).1
  ex : 1 < many → ∃ p n b k, Told size step many p n b k
structure Before (size step many beat r : Int) : Prop where
  r0 : 0 ≤ r
  r1 : r < many
  one : many = 1 → r = beat
  due : ∀ p n b k, Told size step many p n b k → r = bdue p b many beat
  ex : 1 < many → ∃ p n b k, Told size step many p n b k
theorem Told.bdue_in {beat : Int} (T : Told size step many p n b k) (h0 : 0 ≤ beat) (h1 : beat < many) : 0 ≤ bdue p b many beat ∧ bdue p b many beat < many := by
  have := T.f.p1
  have := T.f.b1
  have := T.pm
  have := T.bm
  have := T.all
  unfold bdue
  split
  · omega
  · split <;> omega
theorem Told.there {beat : Int} (T : Told size step many p n b k) (h0 : 0 ≤ beat) (h1 : beat < many) : bdue p b many (Gh.due p n b k many beat).1 = beat := by
  have := T.f.p1
  have := T.f.b1
  have := T.pm
  have := T.bm
  have := T.all
  unfold Gh.due bdue
  split
  · show (if p ≤ beat + p then beat + p - p else _) = beat
    rw [if_pos (by omega)]
    omega
  · split
    · show (if p ≤ beat - b then _ else if beat - b + b < many then beat - b + b else _) = beat
      rw [if_neg (by omega), if_pos (by omega)]
      omega
    · show (if p ≤ beat + p - b then _ else if beat + p - b + b < many then _ else beat + p - b + b - p) = beat
      rw [if_neg (by omega), if_neg (by omega)]
      omega
theorem Told.back {beat : Int} (T : Told size step many p n b k) (h0 : 0 ≤ beat) (h1 : beat < many) : (Gh.due p n b k many (bdue p b many beat)).1 = beat := by
  have := T.f.p1
  have := T.f.b1
  have := T.pm
  have := T.bm
  have := T.all
  unfold bdue
  split
  · unfold Gh.due
    rw [if_pos (by omega)]
    show beat - p + p = beat
    omega
  · split
    · unfold Gh.due
      rw [if_neg (by omega), if_pos (by omega)]
      show beat + b - b = beat
      omega
    · unfold Gh.due
      rw [if_neg (by omega), if_neg (by omega)]
      show beat + b - p + p - b = beat
      omega
end
end Gh

namespace Gh
/-! ## how many beats stand in a stretch -/
def inS (size step begin width : Int) (b : Int) : Bool := decide ((begin + b * step) % size ≤ width)
def cntS (size step begin width : Int) : Nat → Int
  | 0 => 0
  | n + 1 => cntS size step begin width n + (if inS size step begin width (n : Int) = true then 1 else 0)
theorem ind_div {size width x : Int} (hs : 0 < size) (w0 : 0 ≤ width) (w1 : width < size) : x / size - (x - width - 1) / size = if x % size ≤ width then 1 else 0 := by
  have e := Int.emod_add_mul_ediv x size
  have r0 := Int.emod_nonneg x (show size ≠ 0 by omega)
  have r1 := Int.emod_lt_of_pos x hs
  have e1 : x - width - 1 = (x % size - width - 1) + size * (x / size) := by omega
  rw [e1, Int.add_mul_ediv_left _ _ (by omega)]
  split
  · have : (x % size - width - 1) / size = -1 := by
      rw [show x % size - width - 1 = (x % size - width - 1 + size) + size * (-1) by omega, Int.add_mul_ediv_left _ _ (by omega), Int.ediv_eq_zero_of_lt (by omega) (by omega)]
      rfl
    omega
  · have : (x % size - width - 1) / size = 0 := Int.ediv_eq_zero_of_lt (by omega) (by omega)
    omega
theorem S_cnt {size step begin width : Int} (hs : 0 < size) (w0 : 0 ≤ width) (w1 : width < size) : ∀ n : Nat, S n step begin size - S n step (begin - width - 1) size = cntS size step begin width n
  | 0 => rfl
  | n + 1 => by
    have ih := S_cnt (size := size) (step := step) (begin := begin) hs w0 w1 n
    have i1 := ind_div (x := begin + (n : Int) * step) hs w0 w1
    show S n step begin size + (begin + (n : Int) * step) / size - (S n step (begin - width - 1) size + (begin - width - 1 + (n : Int) * step) / size) = cntS size step begin width n + (if inS size step begin width (n : Int) = true then 1 else 0)
    rw [show begin - width - 1 + (n : Int) * step = begin + (n : Int) * step - width - 1 by omega]
    unfold inS
    rw [← ih]
    by_cases c : (begin + (n : Int) * step) % size ≤ width
    · rw [decide_eq_true c, if_pos rfl]
      rw [if_pos c] at i1
      omega
    · rw [decide_eq_false c, if_neg (by decide)]
      rw [if_neg c] at i1
      omega
theorem cntS_full {size step begin : Int} (hs : 0 < size) : ∀ n : Nat, cntS size step begin (size - 1) n = (n : Int)
  | 0 => rfl
  | n + 1 => by
    have r1 := Int.emod_lt_of_pos (begin + (n : Int) * step) hs
    show cntS size step begin (size - 1) n + (if inS size step begin (size - 1) (n : Int) = true then 1 else 0) = ((n + 1 : Nat) : Int)
    rw [cntS_full hs n]
    unfold inS
    rw [decide_eq_true (by omega), if_pos rfl]
    omega
theorem cntS_filter (size step begin width : Int) : ∀ n : Nat, cntS size step begin width n = ((((List.range n).filter fun (i : Nat) => inS size step begin width (i : Int)).length : Nat) : Int)
  | 0 => rfl
  | n + 1 => by
    show cntS size step begin width n + (if inS size step begin width (n : Int) = true then 1 else 0) = _
    rw [cntS_filter size step begin width n, List.range_succ, List.filter_append, List.length_append]
    by_cases c : inS size step begin width (n : Int) = true
    · rw [if_pos c]
      simp [c]
    · rw [if_neg c]
      simp [c]
/-- the wheel's own step and start do as the raw ones -/
theorem inS_raw {size step start low width b : Int} : inS size (step % size) (start % size - low) width b = inS size step (start - low) width b := by
  unfold inS
  have e : (start % size - low + b * (step % size)) % size = (start - low + b * step) % size := by
    have h1 := Int.emod_add_mul_ediv start size
    have h2 := Int.emod_add_mul_ediv step size
    have : start - low + b * step = (start % size - low + b * (step % size)) + size * (start / size + b * (step / size)) := by grind
    rw [this, Int.add_mul_emod_self_left]
  rw [e]
theorem cntS_raw {size step start low width : Int} : ∀ n : Nat, cntS size (step % size) (start % size - low) width n = cntS size step (start - low) width n
  | 0 => rfl
  | n + 1 => by
    show cntS size (step % size) (start % size - low) width n + _ = cntS size step (start - low) width n + _
    rw [cntS_raw n, inS_raw]
theorem cntS_bd (size step begin width : Int) : ∀ n : Nat, 0 ≤ cntS size step begin width n ∧ cntS size step begin width n ≤ n
  | 0 => ⟨Int.le_refl _, Int.le_refl _⟩
  | n + 1 => by
    have ih := cntS_bd size step begin width n
    show 0 ≤ cntS size step begin width n + (if inS size step begin width (n : Int) = true then 1 else 0) ∧ cntS size step begin width n + (if inS size step begin width (n : Int) = true then 1 else 0) ≤ ((n + 1 : Nat) : Int)
    split <;> omega
end Gh

namespace Gh
/-! ## near beats -/
section
variable {size step lap g far0 p n b k beat far : Int}
theorem Lap.dvd_n (L : Lap size step lap g) {d x : Int} (h : size ∣ d * step - x) : g ∣ x := by
  obtain ⟨c, hc⟩ := h
  obtain ⟨s, hs⟩ := L.gs
  have e := L.e
  refine ⟨d * s - lap * c, ?_⟩
  have : x = d * step - size * c := by omega
  rw [this, hs, ← e]
  grind
theorem Four.g_le (F : Four size step p n b k) (L : Lap size step lap g) : g ≤ n ∧ g ≤ k := by
  have h1 := Int.le_of_dvd (by have := F.n1; omega) (L.dvd_n F.hp)
  have h2 : g ∣ k := by
    have := L.dvd_n (d := -b) (x := k) (by
      have := Int.dvd_neg.mpr F.hb
      rw [show -b * step - k = -(b * step + k) by grind]
      exact this)
    exact this
  exact ⟨h1, Int.le_of_dvd (by have := F.k1; omega) h2⟩
theorem Four.lap_le (F : Four size step p n b k) (L : Lap size step lap g) : p + b ≤ lap := by
  obtain ⟨h1, h2⟩ := F.g_le L
  have a1 := F.p1
  have a3 := F.b1
  have x1 : b * g ≤ b * n := Int.mul_le_mul_of_nonneg_left h1 (by omega)
  have x2 : p * g ≤ p * k := Int.mul_le_mul_of_nonneg_left h2 (by omega)
  have det := F.det
  have e := L.e
  have : (p + b) * g ≤ lap * g := by
    have : (p + b) * g = b * g + p * g := by grind
    omega
  exact Int.le_of_mul_le_mul_right this (by have := L.g1; omega)
/-- how far a beat stands behind the place -/
def dist (size step far0 e : Int) : Int := (far0 - e * step) % size
theorem dist_in (hs : 0 < size) (e : Int) : 0 ≤ dist size step far0 e ∧ dist size step far0 e < size := ⟨Int.emod_nonneg _ (by omega), Int.emod_lt_of_pos _ hs⟩
theorem dist_dvd (e : Int) : size ∣ far0 - e * step - dist size step far0 e := Int.dvd_self_sub_emod
theorem dist_eq {e x : Int} (h : size ∣ far0 - e * step - x) (h0 : 0 ≤ x) (h1 : x < size) : dist size step far0 e = x := by
  unfold dist
  obtain ⟨c, hc⟩ := h
  rw [show far0 - e * step = x + size * c by omega, Int.add_mul_emod_self_left, Int.emod_eq_of_lt h0 h1]
/-- the state of the walk over near beats -/
structure NI (size step far0 p n b k beat far : Int) : Prop where
  f : Four size step p n b k
  b0 : 0 ≤ beat
  f0 : 0 ≤ far
  fs : far < size
  df : size ∣ far0 - beat * step - far
  pap : p = 1 ∨ far < n + k + (b - 1) / p * n
  best : ∀ e, 0 ≤ e → e < beat → far < dist size step far0 e
theorem NI.here (I : NI size step far0 p n b k beat far) : dist size step far0 beat = far := dist_eq I.df I.f0 I.fs
/-- the two steps as around tells them for on + 1 beats -/
theorem NI.told (I : NI size step far0 p n b k beat far) : Told size step (p + 1) p n (b - (b - 1) / p * p) (k + (b - 1) / p * n) := by
  have F := I.f
  have a1 := F.p1
  have a2 := F.n1
  have a3 := F.b1
  have a4 := F.k1
  have t0 : 0 ≤ (b - 1) / p := Int.ediv_nonneg (by omega) (by omega)
  have e := Int.emod_add_mul_ediv (b - 1) p
  have r0 := Int.emod_nonneg (b - 1) (show p ≠ 0 by omega)
  have r1 := Int.emod_lt_of_pos (b - 1) (show 0 < p by omega)
  generalize (b - 1) / p = t at *
  generalize (b - 1) % p = r at *
  have m1 : 0 ≤ t * n := Int.mul_nonneg t0 (by omega)
  have m2 : t * p = p * t := Int.mul_comm t p
  refine ⟨⟨a1, a2, by omega, by omega, F.hp, ?_, ?_⟩, by omega, by omega, by omega⟩
  · have : (b - t * p) * step + (k + t * n) = (b * step + k) - (p * step - n) * t := by grind
    rw [this]
    exact Int.dvd_sub F.hb (Int.dvd_mul_of_dvd_left F.hp)
  · have := F.det
    grind
/-- between the beat and the next one none is nearer -/
theorem NI.between (I : NI size step far0 p n b k beat far) {e : Int} (h0 : beat < e) (h1 : e < beat + p) : far ≤ Gh.dist size step far0 e := by
  have T := I.told
  have hs := I.f.pos
  have d1 := dist_dvd (size := size) (step := step) (far0 := far0) e
  have di := dist_in (step := step) (far0 := far0) hs e
  generalize Gh.dist size step far0 e = y at d1 di ⊢
  apply Decidable.byContradiction
  intro z
  have d2 : size ∣ (e - beat) * step - (far - y) := by
    have := Int.dvd_sub I.df d1
    rw [show far0 - beat * step - far - (far0 - e * step - y) = (e - beat) * step - (far - y) by grind] at this
    exact this
  have c := T.f.cases d2 (by omega)
  have := T.f.b1
  rcases I.pap with h | h
  · omega
  · have c2 := T.f.k1
    omega
theorem NI.next (I : NI size step far0 p n b k beat far) (h : n ≤ far) : NI size step far0 p n b k (beat + p) (far - n) := by
  have a1 := I.f.p1
  have a2 := I.f.n1
  have b0 := I.b0
  have fs := I.fs
  refine ⟨I.f, by omega, by omega, by omega, ?_, ?_, fun e h0 h1 => ?_⟩
  · have := Int.dvd_sub I.df I.f.hp
    rw [show far0 - beat * step - far - (p * step - n) = far0 - (beat + p) * step - (far - n) by grind] at this
    exact this
  · rcases I.pap with c | c
    · exact .inl c
    · exact .inr (by omega)
  · by_cases c : e < beat
    · have := I.best e h0 c
      omega
    · by_cases c2 : e = beat
      · rw [c2, I.here]
        omega
      · have := I.between (e := e) (by omega) h1
        omega
theorem NI.steps (I : NI size step far0 p n b k beat far) : ∀ t : Nat, (t : Int) * n ≤ far → NI size step far0 p n b k (beat + (t : Int) * p) (far - (t : Int) * n)
  | 0, _ => by
    have e : ∀ x : Int, ((0 : Nat) : Int) * x = 0 := fun x => Int.zero_mul x
    rw [e, e, Int.add_zero, Int.sub_zero]
    exact I
  | t + 1, h => by
    have a2 := I.f.n1
    have e : ∀ x : Int, ((t + 1 : Nat) : Int) * x = (t : Int) * x + x := fun x => by
      rw [show ((t + 1 : Nat) : Int) = (t : Int) + 1 from rfl, Int.add_mul, Int.one_mul]
    rw [e] at h
    have J := (I.steps t (by omega)).next (by omega)
    rw [e, e, ← Int.add_assoc, show far - ((t : Int) * n + n) = far - (t : Int) * n - n by omega]
    exact J
theorem NI.jump (I : NI size step far0 p n b k beat far) {t : Int} (t0 : 0 ≤ t) (h : t * n ≤ far) : NI size step far0 p n b k (beat + t * p) (far - t * n) := by
  have := I.steps t.toNat (by rw [show ((t.toNat : Nat) : Int) = t by omega]; exact h)
  rw [show ((t.toNat : Nat) : Int) = t by omega] at this
  exact this
theorem ni_start (hs : 0 < size) (h1 : 1 ≤ step) (h2 : step < size) (f0 : 0 ≤ far0) (f1 : far0 < size) : NI size step far0 1 step 1 (size - step) 0 far0 :=
  ⟨four_start h1 h2, Int.le_refl _, f0, f1, ⟨0, by omega⟩, .inl rfl, fun e _ _ => by omega⟩
theorem NI.ahead (I : NI size step far0 p n b k beat far) (hk : k < n) (hf : far < n) {t : Int} (ht : t = if (n - far + k - 1) / k < (n - 1) / k then (n - far + k - 1) / k else (n - 1) / k) :
    1 ≤ t ∧ t * k ≤ n ∧ NI size step far0 (p + t * b) (n - t * k) b k beat far := by
  have F := I.f
  have a1 := F.p1
  have a2 := F.n1
  have a3 := F.b1
  have a4 := F.k1
  have f0 := I.f0
  have x1 : 1 ≤ (n - 1) / k := (Int.le_ediv_iff_mul_le (by omega)).mpr (by omega)
  have x2 : 1 ≤ (n - far + k - 1) / k := (Int.le_ediv_iff_mul_le (by omega)).mpr (by omega)
  have t1 : 1 ≤ t := by rw [ht]; split <;> assumption
  have t2 : t ≤ (n - 1) / k := by rw [ht]; split <;> omega
  have t3 : t ≤ (n - far + k - 1) / k := by rw [ht]; split <;> omega
  have m2 := (Int.le_ediv_iff_mul_le (show 0 < k by omega)).mp t2
  have m3 := (Int.le_ediv_iff_mul_le (show 0 < k by omega)).mp t3
  have m4 := mul_ge t1 (show 0 ≤ b by omega)
  refine ⟨t1, by omega, F.grow1 (by omega) m2, I.b0, f0, I.fs, I.df, .inr ?_, I.best⟩
  rw [Int.ediv_eq_zero_of_lt (show 0 ≤ b - 1 by omega) (show b - 1 < p + t * b by omega), Int.zero_mul]
  omega
theorem NI.behind (I : NI size step far0 p n b k beat far) (L : Lap size step lap g) (hk : ¬ k < n) (hf : far < n) (hg : g ≤ far) {t : Int} (ht : t = (k - 1) / n) :
    1 ≤ t ∧ t * n ≤ k ∧ NI size step far0 p n (b + t * p) (k - t * n) beat far := by
  have F := I.f
  have a1 := F.p1
  have a2 := F.n1
  have a3 := F.b1
  have a4 := F.k1
  have ne : n ≠ k := fun e => by
    have := F.eq_g L e
    omega
  have t1 : 1 ≤ t := by
    rw [ht]
    exact (Int.le_ediv_iff_mul_le (by omega)).mpr (by omega)
  have m2 := (Int.le_ediv_iff_mul_le (show 0 < n by omega)).mp (show t ≤ (k - 1) / n by omega)
  refine ⟨t1, by omega, F.grow2 (by omega) m2, I.b0, I.f0, I.fs, I.df, ?_, I.best⟩
  rcases I.pap with c | c
  · exact .inl c
  · right
    rw [show b + t * p - 1 = b - 1 + t * p by omega, Int.add_mul_ediv_right _ _ (by omega), Int.add_mul]
    omega
/-! ### the rows -/
structure Row where
  beat : Int
  far : Int
  on : Int
  less : Int
  times : Int
inductive Chain (size step g far0 : Int) : Int → Int → List Row → Prop
  | nil {beat far : Int} : far < g → 0 ≤ beat → 0 ≤ far → far < size → size ∣ far0 - beat * step - far → (∀ e, 0 ≤ e → e < beat → far < Gh.dist size step far0 e) → Chain size step g far0 beat far []
  | cons {p n b k beat far : Int} {rows : List Row} : NI size step far0 p n b k beat far → n ≤ far → Chain size step g far0 (beat + far / n * p) (far - far / n * n) rows → Chain size step g far0 beat far (⟨beat, far, p, n, far / n⟩ :: rows)
theorem NI.same_step {p' n' b' k' : Int} (I : NI size step far0 p n b k beat far) (J : NI size step far0 p' n' b' k' beat far) (h : n ≤ far) (h' : n' ≤ far) : p = p' ∧ n = n' := by
  have a1 := I.f.p1
  have a2 := I.f.n1
  have c1 := J.f.p1
  have c2 := J.f.n1
  have I2 := I.next h
  have J2 := J.next h'
  have d1 := I2.here
  have d2 := J2.here
  have e : p = p' := by
    apply Decidable.byContradiction
    intro z
    by_cases c : p < p'
    · have := J.between (e := beat + p) (by omega) (by omega)
      omega
    · have := I.between (e := beat + p') (by omega) (by omega)
      omega
  subst e
  exact ⟨rfl, by omega⟩
theorem Chain.uniq (L : Lap size step lap g) : ∀ {beat far : Int} {rows rows' : List Row}, Chain size step g far0 beat far rows → Chain size step g far0 beat far rows' → rows = rows' := by
  intro beat far rows rows' A
  induction A generalizing rows' with
  | nil h =>
    intro B
    cases B with
    | nil => rfl
    | cons J h' => 
      have := (J.f.g_le L).1
      omega
  | cons I h _ ih =>
    intro B
    cases B with
    | nil h' => 
      have := (I.f.g_le L).1
      omega
    | cons J h' B2 =>
      obtain ⟨e1, e2⟩ := I.same_step J h h'
      subst e1 e2
      rw [ih B2]
end
end Gh

namespace Gh
/-! ## the beats that come nearer than all before -/
section
variable {size step lap g far0 p n b k beat far : Int}
def recB (size step far0 : Int) (m : Nat) : Bool := (List.range m).all fun z => decide (dist size step far0 (m : Int) < dist size step far0 (z : Int))
theorem recB_iff {m : Nat} : recB size step far0 m = true ↔ ∀ z : Nat, z < m → dist size step far0 (m : Int) < dist size step far0 (z : Int) := by
  unfold recB
  rw [List.all_eq_true]
  exact ⟨fun h z hz => of_decide_eq_true (h z (List.mem_range.mpr hz)), fun h z hz => decide_eq_true (h z (List.mem_range.mp hz))⟩
def walkW (size step far0 : Int) : Nat → List Int
  | 0 => []
  | m + 1 => if recB size step far0 m = true then walkW size step far0 m ++ [(m : Int)] else walkW size step far0 m
/-- no record from a to c: nothing new -/
theorem walkW_flat {a : Nat} : ∀ d : Nat, (∀ e : Nat, a ≤ e → e < a + d → recB size step far0 e = false) → walkW size step far0 (a + d) = walkW size step far0 a
  | 0, _ => rfl
  | d + 1, h => by
    show (if recB size step far0 (a + d) = true then _ else walkW size step far0 (a + d)) = _
    rw [h (a + d) (by omega) (by omega), if_neg (by decide)]
    exact walkW_flat d fun e h1 h2 => h e h1 (by omega)
theorem NI.not_rec (I : NI size step far0 p n b k beat far) {e : Nat} (h0 : beat < (e : Int)) (h1 : (e : Int) < beat + p) : recB size step far0 e = false := by
  rw [Bool.eq_false_iff]
  intro z
  have b0 := I.b0
  have := recB_iff.mp z beat.toNat (by omega)
  rw [show ((beat.toNat : Nat) : Int) = beat by omega, I.here] at this
  have := I.between h0 h1
  omega
theorem NI.is_rec (I : NI size step far0 p n b k beat far) : recB size step far0 beat.toNat = true := by
  have b0 := I.b0
  refine recB_iff.mpr fun z hz => ?_
  rw [show ((beat.toNat : Nat) : Int) = beat by omega, I.here]
  exact I.best z (by omega) (by omega)
theorem NI.walk_one (I : NI size step far0 p n b k beat far) (h : n ≤ far) : walkW size step far0 ((beat + p).toNat + 1) = walkW size step far0 (beat.toNat + 1) ++ [beat + p] := by
  have b0 := I.b0
  have a1 := I.f.p1
  have J := I.next h
  show (if recB size step far0 (beat + p).toNat = true then walkW size step far0 (beat + p).toNat ++ [(((beat + p).toNat : Nat) : Int)] else _) = _
  rw [J.is_rec, if_pos rfl, show (((beat + p).toNat : Nat) : Int) = beat + p by omega]
  congr 1
  have e : (beat + p).toNat = (beat.toNat + 1) + (p - 1).toNat := by omega
  rw [e]
  exact walkW_flat _ fun e h1 h2 => I.not_rec (by omega) (by omega)
def tick (beat p : Int) (t : Nat) : List Int := (List.range t).map fun (i : Nat) => beat + ((i : Int) + 1) * p
theorem NI.walk_many (I : NI size step far0 p n b k beat far) : ∀ t : Nat, (t : Int) * n ≤ far → walkW size step far0 ((beat + (t : Int) * p).toNat + 1) = walkW size step far0 (beat.toNat + 1) ++ tick beat p t
  | 0, _ => by
    have e : ((0 : Nat) : Int) * p = 0 := Int.zero_mul p
    rw [e, Int.add_zero]
    exact (List.append_nil _).symm
  | t + 1, h => by
    have a2 := I.f.n1
    have e : ∀ x : Int, ((t + 1 : Nat) : Int) * x = (t : Int) * x + x := fun x => by
      rw [show ((t + 1 : Nat) : Int) = (t : Int) + 1 from rfl, Int.add_mul, Int.one_mul]
    rw [e] at h
    have J := (I.steps t (by omega)).walk_one (by omega)
    rw [e, ← Int.add_assoc, J, NI.walk_many I t (by omega), List.append_assoc]
    congr 1
    unfold tick
    rw [List.range_succ, List.map_append, List.map_singleton]
    congr 2
    rw [Int.add_mul, Int.one_mul]
    omega
def beatsOf : List Row → List Int
  | [] => []
  | r :: rows => tick r.beat r.on r.times.toNat ++ beatsOf rows
theorem dist_lap (L : Lap size step lap g) (e : Int) : dist size step far0 (e - lap) = dist size step far0 e := by
  have hs := L.pos
  have d := dist_dvd (size := size) (step := step) (far0 := far0) e
  have i := dist_in (step := step) (far0 := far0) hs e
  refine dist_eq ?_ i.1 i.2
  obtain ⟨s, hs2⟩ := L.gs
  have e1 := L.e
  have : far0 - (e - lap) * step - dist size step far0 e = (far0 - e * step - dist size step far0 e) + size * s := by
    rw [← e1]
    have : lap * step = lap * g * s := by
      rw [hs2]
      grind
    grind
  rw [this]
  exact Int.dvd_add d (Int.dvd_mul_right ..)
theorem Chain.walk (L : Lap size step lap g) : ∀ {beat far : Int} {rows : List Row}, Chain size step g far0 beat far rows → walkW size step far0 lap.toNat = walkW size step far0 (beat.toNat + 1) ++ beatsOf rows := by
  intro beat far rows C
  induction C with
  | @nil beat far hg b0 f0 fs df best =>
    have hl := L.l1
    have hb : beat < lap := by
      apply Decidable.byContradiction
      intro z
      have h1 := best (beat - lap) (by omega) (by omega)
      rw [dist_lap L, dist_eq df f0 fs] at h1
      omega
    show _ = _ ++ []
    rw [List.append_nil, show lap.toNat = (beat.toNat + 1) + (lap - beat - 1).toNat by omega]
    refine walkW_flat _ fun e h1 h2 => ?_
    rw [Bool.eq_false_iff]
    intro z
    have h3 := recB_iff.mp z beat.toNat (by omega)
    rw [show ((beat.toNat : Nat) : Int) = beat by omega, dist_eq df f0 fs] at h3
    have d1 := dist_dvd (size := size) (step := step) (far0 := far0) (e : Int)
    have i1 := dist_in (step := step) (far0 := far0) L.pos (e : Int)
    generalize dist size step far0 (e : Int) = y at h3 d1 i1
    have d2 : size ∣ ((e : Int) - beat) * step - (far - y) := by
      have := Int.dvd_sub df d1
      rw [show far0 - beat * step - far - (far0 - (e : Int) * step - y) = ((e : Int) - beat) * step - (far - y) by grind] at this
      exact this
    have := Int.le_of_dvd (by omega) (L.dvd_n d2)
    omega
  | @cons p n b k beat far rows I h _ ih =>
    have a2 := I.f.n1
    have t0 : 0 ≤ far / n := Int.ediv_nonneg I.f0 (by omega)
    have em := Int.emod_add_mul_ediv far n
    have em0 := Int.emod_nonneg far (show n ≠ 0 by omega)
    have tc : far / n * n = n * (far / n) := Int.mul_comm _ _
    have w := I.walk_many (far / n).toNat (by rw [show (((far / n).toNat : Nat) : Int) = far / n by omega]; omega)
    rw [show (((far / n).toNat : Nat) : Int) = far / n by omega] at w
    rw [ih, w, List.append_assoc]
    rfl
/-- what holds of each row -/
theorem NI.on_lap (I : NI size step far0 p n b k beat far) (L : Lap size step lap g) : p < lap ∧ n < size ∧ p * step % size = n := by
  have h1 := I.f.lap_le L
  have h2 := I.f.lt
  have := I.f.b1
  have := I.f.n1
  refine ⟨by omega, h2.1, ?_⟩
  obtain ⟨c, hc⟩ := I.f.hp
  rw [show p * step = n + size * c by omega, Int.add_mul_emod_self_left, Int.emod_eq_of_lt (by omega) h2.1]
end
end Gh
namespace Gh
section
variable {size step lap g far0 p n b k beat far : Int}
theorem NI.beat_lap (I : NI size step far0 p n b k beat far) (L : Lap size step lap g) : beat < lap := by
  apply Decidable.byContradiction
  intro z
  have hl := L.l1
  have h1 := I.best (beat - lap) (by omega) (by omega)
  rw [dist_lap L, I.here] at h1
  omega
theorem beatsOf_snoc (r : Row) : ∀ rows : List Row, beatsOf (rows ++ [r]) = beatsOf rows ++ tick r.beat r.on r.times.toNat
  | [] => by
    show tick r.beat r.on r.times.toNat ++ [] = [] ++ _
    rw [List.append_nil, List.nil_append]
  | q :: rows => by
    show tick q.beat q.on q.times.toNat ++ beatsOf (rows ++ [r]) = tick q.beat q.on q.times.toNat ++ beatsOf rows ++ _
    rw [beatsOf_snoc r rows, List.append_assoc]
theorem tick_succ (beat p : Int) (t : Nat) : tick beat p (t + 1) = tick beat p t ++ [beat + ((t : Int) + 1) * p] := by
  unfold tick
  rw [List.range_succ, List.map_append]
  rfl
theorem tick_len (beat p : Int) (t : Nat) : (tick beat p t).length = t := by
  unfold tick
  rw [List.length_map, List.length_range]
theorem dist_raw {e : Int} : (far0 - e * step) % size = dist size (step % size) far0 e := by
  unfold dist
  have h2 := Int.emod_add_mul_ediv step size
  have : far0 - e * step = (far0 - e * (step % size)) + size * (-(e * (step / size))) := by grind
  rw [this, Int.add_mul_emod_self_left]
theorem walkW_len : ∀ m : Nat, (walkW size step far0 m).length ≤ m
  | 0 => Nat.le_refl _
  | m + 1 => by
    have := walkW_len m
    unfold walkW
    split
    · rw [List.length_append, List.length_singleton]
      omega
    · omega
end
end Gh

namespace Gh
/-! ## the first beat in a stretch, the nearest beat -/
section
variable {size step lap g far0 p n b k beat far : Int}
/-- what first_in tells: none, or the least beat no farther than width -/
def FirstAt (size step far0 width : Int) (r : Int) : Prop := 0 ≤ r ∧ dist size step far0 r ≤ width ∧ ∀ e, 0 ≤ e → e < r → width < dist size step far0 e
/-- in a row: the first of its beats that is no farther -/
theorem NI.first (I : NI size step far0 p n b k beat far) (hn : n ≤ far) {width w : Int} (w0 : 0 ≤ width) (hw : width < far) (ew : w = (far - width + n - 1) / n) :
    1 ≤ w ∧ (w ≤ far / n → FirstAt size step far0 width (beat + w * p)) ∧ (¬ w ≤ far / n → width < far - far / n * n) := by
  have a1 := I.f.p1
  have a2 := I.f.n1
  have e1 := Int.emod_add_mul_ediv (far - width + n - 1) n
  have r0 := Int.emod_nonneg (far - width + n - 1) (show n ≠ 0 by omega)
  have r1 := Int.emod_lt_of_pos (far - width + n - 1) (show 0 < n by omega)
  rw [← ew] at e1
  have e2 := Int.emod_add_mul_ediv far n
  have q0 := Int.emod_nonneg far (show n ≠ 0 by omega)
  have q1 := Int.emod_lt_of_pos far (show 0 < n by omega)
  have w1 : 1 ≤ w := by
    rw [ew]
    exact (Int.le_ediv_iff_mul_le (by omega)).mpr (by omega)
  have cw : w * n = n * w := Int.mul_comm _ _
  have ct : far / n * n = n * (far / n) := Int.mul_comm _ _
  refine ⟨w1, fun h => ?_, fun h => ?_⟩
  · have h1 : w * n ≤ far / n * n := Int.mul_le_mul_of_nonneg_right h (by omega)
    have J := I.jump (t := w) (by omega) (by omega)
    have J1 := I.jump (t := w - 1) (by omega) (by rw [Int.sub_mul, Int.one_mul]; omega)
    rw [Int.sub_mul, Int.one_mul, Int.sub_mul, Int.one_mul] at J1
    refine ⟨J.b0, by rw [J.here]; omega, fun e h0 h2 => ?_⟩
    have hJ1 : width < far - (w * n - n) := by omega
    by_cases c : e < beat + (w * p - p)
    · have := J1.best e h0 c
      omega
    · by_cases c2 : e = beat + (w * p - p)
      · rw [c2, J1.here]
        exact hJ1
      · have := J1.between (e := e) (by omega) (by omega)
        omega
  · have h1 : (far / n + 1) * n ≤ w * n := Int.mul_le_mul_of_nonneg_right (by omega) (by omega)
    rw [Int.add_mul, Int.one_mul] at h1
    omega
/-- beyond the last row none is nearer -/
theorem far_all (L : Lap size step lap g) (fg : far < g) (df : size ∣ far0 - beat * step - far) (e : Int) : far ≤ dist size step far0 e := by
  have d1 := dist_dvd (size := size) (step := step) (far0 := far0) e
  have i1 := dist_in (step := step) (far0 := far0) L.pos e
  generalize dist size step far0 e = y at d1 i1
  apply Decidable.byContradiction
  intro z
  have d2 : size ∣ (e - beat) * step - (far - y) := by
    have := Int.dvd_sub df d1
    rw [show far0 - beat * step - far - (far0 - e * step - y) = (e - beat) * step - (far - y) by grind] at this
    exact this
  have := Int.le_of_dvd (by omega) (L.dvd_n d2)
  omega
theorem far_mod (L : Lap size step lap g) (f0 : 0 ≤ far) (fg : far < g) (df : size ∣ far0 - beat * step - far) : far0 % g = far := by
  have gd : g ∣ size := ⟨lap, by have := L.e; rw [Int.mul_comm] at this; exact this.symm⟩
  have h1 : g ∣ far0 - far := by
    have h2 := Int.dvd_trans gd df
    have h3 : g ∣ beat * step := Int.dvd_mul_of_dvd_right L.gs
    have := Int.dvd_add h2 h3
    rw [show far0 - beat * step - far + beat * step = far0 - far by omega] at this
    exact this
  obtain ⟨c, hc⟩ := h1
  rw [show far0 = far + g * c by omega, Int.add_mul_emod_self_left, Int.emod_eq_of_lt f0 fg]
/-- the nearest of the first many: what the rows up to here tell -/
structure Nearest (size step far0 many r : Int) : Prop where
  r0 : 0 ≤ r
  r1 : r < many
  best : ∀ e, 0 ≤ e → e < many → dist size step far0 r ≤ dist size step far0 e
  first : ∀ e, 0 ≤ e → e < r → dist size step far0 r < dist size step far0 e
/-- a state whose next record is not below many -/
theorem NI.nearest (I : NI size step far0 p n b k beat far) {many : Int} (h0 : beat < many) (h1 : many ≤ beat + p) : Nearest size step far0 many beat := by
  refine ⟨I.b0, h0, fun e e0 e1 => ?_, fun e e0 e1 => ?_⟩
  · rw [I.here]
    by_cases c : e < beat
    · have := I.best e e0 c
      omega
    · by_cases c2 : e = beat
      · rw [c2, I.here]
        exact Int.le_refl _
      · exact I.between (by omega) (by omega)
  · rw [I.here]
    exact I.best e e0 e1
/-- what the row (beat, far, p, n, times) makes of it -/
theorem NI.near_row (I : NI size step far0 p n b k beat far) (hn : n ≤ far) {many t : Int} (h : beat < many) (ht : t = if (many - 1 - beat) / p < far / n then (many - 1 - beat) / p else far / n) :
    0 ≤ t ∧ beat + t * p < many ∧ (many ≤ beat + far / n * p → Nearest size step far0 many (beat + t * p)) ∧ (¬ many ≤ beat + far / n * p → t = far / n) := by
  have a1 := I.f.p1
  have a2 := I.f.n1
  have f0 := I.f0
  have x0 : 0 ≤ (many - 1 - beat) / p := Int.ediv_nonneg (by omega) (by omega)
  have x1 : 0 ≤ far / n := Int.ediv_nonneg (by omega) (by omega)
  have e1 := Int.emod_add_mul_ediv (many - 1 - beat) p
  have r0 := Int.emod_nonneg (many - 1 - beat) (show p ≠ 0 by omega)
  have r1 := Int.emod_lt_of_pos (many - 1 - beat) (show 0 < p by omega)
  have e2 := Int.emod_add_mul_ediv far n
  have q0 := Int.emod_nonneg far (show n ≠ 0 by omega)
  have t0 : 0 ≤ t := by rw [ht]; split <;> assumption
  have t1 : t ≤ far / n := by rw [ht]; split <;> omega
  have t2 : t ≤ (many - 1 - beat) / p := by rw [ht]; split <;> omega
  have m2 : t * p ≤ (many - 1 - beat) / p * p := Int.mul_le_mul_of_nonneg_right t2 (by omega)
  have c1 : (many - 1 - beat) / p * p = p * ((many - 1 - beat) / p) := Int.mul_comm _ _
  have m3 : t * n ≤ far / n * n := Int.mul_le_mul_of_nonneg_right t1 (by omega)
  have c2 : far / n * n = n * (far / n) := Int.mul_comm _ _
  have lt : beat + t * p < many := by omega
  refine ⟨t0, lt, fun hm => ?_, fun hm => ?_⟩
  · have J := I.jump (t := t) t0 (by omega)
    refine J.nearest lt ?_
    by_cases c : (many - 1 - beat) / p < far / n
    · rw [if_pos c] at ht
      rw [ht]
      omega
    · rw [if_neg c] at ht
      rw [ht]
      omega
  · rw [ht]
    split
    · rename_i c
      have : ((many - 1 - beat) / p + 1) * p ≤ far / n * p := Int.mul_le_mul_of_nonneg_right (by omega) (by omega)
      rw [Int.add_mul, Int.one_mul] at this
      omega
    · rfl
end
end Gh

namespace Gh
/-! ## the whole wheel parted -/
section
variable {size step lap g far0 start low high p0 p q : Int}
theorem sub_mod_le {u a c : Int} (hs : 0 < size) (u0 : 0 ≤ u) (u1 : u < size) (a0 : 0 ≤ a) (ac : a < c) (cs : c ≤ size) :
    (if u ≤ a - 1 then (1 : Int) else 0) + (if (u - a) % size ≤ c - a - 1 then 1 else 0) = if u ≤ c - 1 then 1 else 0 := by
  by_cases h : u < a
  · have e : (u - a) % size = u - a + size := by
      rw [show u - a = (u - a + size) + size * (-1) by omega, Int.add_mul_emod_self_left, Int.emod_eq_of_lt (by omega) (by omega)]
      omega
    rw [e, if_pos (by omega), if_neg (by omega), if_pos (by omega)]
    rfl
  · have e : (u - a) % size = u - a := Int.emod_eq_of_lt (by omega) (by omega)
    rw [e, if_neg (by omega)]
    by_cases h2 : u ≤ c - 1
    · rw [if_pos (by omega), if_pos h2]
      rfl
    · rw [if_neg (by omega), if_neg h2]
      rfl
theorem inS_if {begin width b : Int} : (if inS size step begin width b = true then (1 : Int) else 0) = if (begin + b * step) % size ≤ width then 1 else 0 := by
  unfold inS
  by_cases h : (begin + b * step) % size ≤ width
  · rw [decide_eq_true h, if_pos rfl, if_pos h]
  · rw [decide_eq_false h, if_neg (by decide), if_neg h]
/-- a stretch, and the one that begins behind it -/
theorem cntS_split (hs : 0 < size) (a0 : p0 ≤ p) (ac : p < q) (cs : q ≤ p0 + size) : ∀ n : Nat,
    cntS size step (start - p0) (p - p0 - 1) n + cntS size step (start - p) (q - p - 1) n = cntS size step (start - p0) (q - p0 - 1) n
  | 0 => rfl
  | n + 1 => by
    have ih := cntS_split hs a0 ac cs n
    show cntS size step (start - p0) (p - p0 - 1) n + (if inS size step (start - p0) (p - p0 - 1) (n : Int) = true then 1 else 0) +
      (cntS size step (start - p) (q - p - 1) n + (if inS size step (start - p) (q - p - 1) (n : Int) = true then 1 else 0)) =
      cntS size step (start - p0) (q - p0 - 1) n + (if inS size step (start - p0) (q - p0 - 1) (n : Int) = true then 1 else 0)
    rw [inS_if, inS_if, inS_if, ← ih]
    have e := Int.emod_add_mul_ediv (start - p0 + (n : Int) * step) size
    have u0 := Int.emod_nonneg (start - p0 + (n : Int) * step) (show size ≠ 0 by omega)
    have u1 := Int.emod_lt_of_pos (start - p0 + (n : Int) * step) hs
    generalize (start - p0 + (n : Int) * step) / size = k at e
    have e2 : (start - p + (n : Int) * step) % size = ((start - p0 + (n : Int) * step) % size - (p - p0)) % size := by
      rw [show start - p + (n : Int) * step = ((start - p0 + (n : Int) * step) % size - (p - p0)) + size * k by omega, Int.add_mul_emod_self_left]
    rw [e2]
    generalize (start - p0 + (n : Int) * step) % size = u at u0 u1
    have s := sub_mod_le (u := u) (a := p - p0) (c := q - p0) hs u0 u1 (by omega) (by omega) (by omega)
    rw [show q - p0 - (p - p0) - 1 = q - p - 1 by omega] at s
    omega
theorem cnt_void {begin width : Int} : ∀ m : Nat, (∀ e : Int, 0 ≤ e → e < (m : Int) → inS size step begin width e = false) → cntS size step begin width m = 0
  | 0, _ => rfl
  | m + 1, h => by
    show cntS size step begin width m + (if inS size step begin width (m : Int) = true then 1 else 0) = 0
    rw [cnt_void m fun e h0 h1 => h e h0 (by omega), h (m : Int) (by omega) (by omega)]
    rfl
theorem cnt_minus (hs : 0 < size) {begin width : Int} (hw : width < 0) (m : Nat) : cntS size step begin width m = 0 := cnt_void m fun e _ _ => by
  have := Int.emod_nonneg (begin + e * step) (show size ≠ 0 by omega)
  unfold inS
  exact decide_eq_false (by omega)
/-- one that is in makes the count above 0 -/
theorem cnt_in {begin width : Int} : ∀ (m : Nat) {e : Int}, 0 ≤ e → e < (m : Int) → inS size step begin width e = true → 1 ≤ cntS size step begin width m
  | 0, e, h0, h1, _ => by omega
  | m + 1, e, h0, h1, h => by
    show 1 ≤ cntS size step begin width m + (if inS size step begin width (m : Int) = true then 1 else 0)
    have b := (cntS_bd size step begin width m).1
    by_cases c : e = (m : Int)
    · rw [← c, h, if_pos rfl]
      omega
    · have := cnt_in m h0 (by omega) h
      split <;> omega
/-- in a stretch: no farther from its high place than it is wide -/
theorem inS_dist {e : Int} (hs : 1 ≤ size) : inS size step (start - low) ((high - low) % size) e = decide (dist size step ((high - start) % size) e ≤ (high - low) % size) := by
  have hd := dist_dvd (size := size) (step := step) (far0 := (high - start) % size) e
  have hi := dist_in (step := step) (far0 := (high - start) % size) (show 0 < size by omega) e
  have hh := Int.emod_add_mul_ediv (high - start) size
  have hw := Int.emod_add_mul_ediv (high - low) size
  have w0 := Int.emod_nonneg (high - low) (show size ≠ 0 by omega)
  have w1 := Int.emod_lt_of_pos (high - low) (show 0 < size by omega)
  have hu := Int.emod_add_mul_ediv (start - low + e * step) size
  have u0 := Int.emod_nonneg (start - low + e * step) (show size ≠ 0 by omega)
  have u1 := Int.emod_lt_of_pos (start - low + e * step) (show 0 < size by omega)
  unfold inS
  generalize dist size step ((high - start) % size) e = v at hd hi ⊢
  generalize (high - low) % size = width at hw w0 w1 ⊢
  generalize (start - low + e * step) % size = u at hu u0 u1 ⊢
  have key : size ∣ u + v - width := by
    obtain ⟨c, hc⟩ := hd
    refine ⟨(high - low) / size - (start - low + e * step) / size - (high - start) / size - c, ?_⟩
    grind
  obtain ⟨c, hc⟩ := key
  have c0 : c = 0 ∨ c = 1 := by
    have h1 : -1 < c := by
      apply Decidable.byContradiction
      intro z
      have := Int.mul_le_mul_of_nonneg_left (show c ≤ -1 by omega) (show 0 ≤ size by omega)
      omega
    have h2 : c < 2 := by
      apply Decidable.byContradiction
      intro z
      have := Int.mul_le_mul_of_nonneg_left (show 2 ≤ c by omega) (show 0 ≤ size by omega)
      omega
    omega
  rw [decide_eq_decide]
  rcases c0 with rfl | rfl
  · omega
  · omega
theorem FirstAt.one {width r s : Int} (A : FirstAt size step far0 width r) (B : FirstAt size step far0 width s) : r = s := by
  obtain ⟨a0, a1, a2⟩ := A
  obtain ⟨b0, b1, b2⟩ := B
  apply Decidable.byContradiction
  intro z
  by_cases c : r < s
  · have := b2 r a0 c
    omega
  · have := a2 s b0 (by omega)
    omega
theorem FirstAt.below {width r : Int} (A : FirstAt size step far0 width r) (L : Lap size step lap g) : r < lap := by
  obtain ⟨a0, a1, a2⟩ := A
  have := L.l1
  apply Decidable.byContradiction
  intro z
  have := a2 (r - lap) (by omega) (by omega)
  rw [dist_lap L] at this
  omega
theorem rest_le (L : Lap size step lap g) (e : Int) : far0 % g ≤ dist size step far0 e := by
  have d := dist_dvd (size := size) (step := step) (far0 := far0) e
  have i1 := dist_in (step := step) (far0 := far0) L.pos e
  generalize dist size step far0 e = y at d i1
  have gd : g ∣ size := ⟨lap, by have := L.e; rw [Int.mul_comm] at this; exact this.symm⟩
  have h1 : g ∣ far0 - y := by
    have h2 := Int.dvd_trans gd d
    have h3 : g ∣ e * step := Int.dvd_mul_of_dvd_right L.gs
    have := Int.dvd_add h2 h3
    rw [show far0 - e * step - y + e * step = far0 - y by omega] at this
    exact this
  obtain ⟨c, hc⟩ := h1
  have e1 : far0 % g = y % g := by
    rw [show far0 = y + g * c by omega, Int.add_mul_emod_self_left]
  have m : y % g ≤ y := by
    have e := Int.emod_add_mul_ediv y g
    have : 0 ≤ g * (y / g) := Int.mul_nonneg (by have := L.g1; omega) (Int.ediv_nonneg i1.1 (by have := L.g1; omega))
    omega
  omega
/-! ### the first beat in a stretch -/
theorem first_cnt (hs : 1 ≤ size) {r : Int} (F : FirstAt size step ((high - start) % size) ((high - low) % size) r) :
    cntS size step (start - low) ((high - low) % size) r.toNat = 0 ∧ cntS size step (start - low) ((high - low) % size) (r + 1).toNat = 1 ∧
      ∀ n : Int, 0 ≤ n → (0 < cntS size step (start - low) ((high - low) % size) n.toNat ↔ r < n) := by
  obtain ⟨r0, r1, r2⟩ := F
  have none_ : ∀ n : Int, n ≤ r → cntS size step (start - low) ((high - low) % size) n.toNat = 0 := fun n hn => cnt_void _ fun e h0 h1 => by
    rw [inS_dist hs]
    exact decide_eq_false (by have := r2 e h0 (by omega); omega)
  have hin : inS size step (start - low) ((high - low) % size) r = true := by
    rw [inS_dist hs]
    exact decide_eq_true r1
  refine ⟨none_ r (Int.le_refl _), ?_, fun n n0 => ⟨fun h => ?_, fun h => ?_⟩⟩
  · rw [show (r + 1).toNat = r.toNat + 1 by omega]
    show cntS size step (start - low) ((high - low) % size) r.toNat + (if inS size step (start - low) ((high - low) % size) ((r.toNat : Nat) : Int) = true then 1 else 0) = 1
    rw [none_ r (Int.le_refl _), show ((r.toNat : Nat) : Int) = r by omega, hin]
    rfl
  · apply Decidable.byContradiction
    intro z
    rw [none_ n (by omega)] at h
    omega
  · have := cnt_in (size := size) (step := step) (begin := start - low) (width := (high - low) % size) n.toNat (e := r) r0 (by omega) hin
    omega
theorem void_cnt (hs : 1 ≤ size) (L : Lap size step lap g) (h : (high - low) % size < (high - start) % size % g) (n : Nat) : cntS size step (start - low) ((high - low) % size) n = 0 := cnt_void _ fun e _ _ => by
  rw [inS_dist hs]
  exact decide_eq_false (by have := rest_le (far0 := (high - start) % size) L e; omega)
/-! ### the nearest beat -/
theorem near_cnt (hs : 1 ≤ size) {many r : Int} (N : Nearest size step ((high - start) % size) many r) :
    (dist size step ((high - start) % size) r ≤ (high - low) % size ↔ 0 < cntS size step (start - low) ((high - low) % size) many.toNat) := by
  have r0 := N.r0
  have r1 := N.r1
  constructor
  · intro h
    have := cnt_in (size := size) (step := step) (begin := start - low) (width := (high - low) % size) many.toNat (e := r) r0 (by omega) (by rw [inS_dist hs]; exact decide_eq_true h)
    omega
  · intro h
    apply Decidable.byContradiction
    intro z
    rw [cnt_void _ fun e h0 h1 => by
      rw [inS_dist hs]
      exact decide_eq_false (by have := N.best e h0 (by omega); omega)] at h
    omega
theorem near_void (hs : 1 ≤ size) {many r : Int} (N : Nearest size step ((high - start) % size) many r) (hp : 0 < dist size step ((high - start) % size) r) :
    cntS size step (start - (high - dist size step ((high - start) % size) r + 1) % size) ((high - (high - dist size step ((high - start) % size) r + 1) % size) % size) many.toNat = 0 := by
  have b := dist_in (step := step) (far0 := (high - start) % size) (show 0 < size by omega) r
  have best := N.best
  have r0 := N.r0
  have r1 := N.r1
  refine cnt_void _ fun e h0 h1 => ?_
  rw [inS_dist hs]
  refine decide_eq_false ?_
  have h2 := best e h0 (by omega)
  generalize dist size step ((high - start) % size) r = y at *
  have e1 := Int.emod_add_mul_ediv (high - y + 1) size
  have e2 : (high - (high - y + 1) % size) % size = y - 1 := by
    rw [show high - (high - y + 1) % size = (y - 1) + size * ((high - y + 1) / size) by omega, Int.add_mul_emod_self_left, Int.emod_eq_of_lt (by omega) (by omega)]
  rw [e2]
  omega
theorem dist_spot (hs : 1 ≤ size) {y : Int} (e : Int) : dist size step (((high - y) % size - start) % size) e = (dist size step ((high - start) % size) e - y) % size := by
  unfold dist
  have e1 := Int.emod_add_mul_ediv (high - y) size
  have e2 := Int.emod_add_mul_ediv ((high - y) % size - start) size
  have e3 := Int.emod_add_mul_ediv (high - start) size
  have e4 := Int.emod_add_mul_ediv ((high - start) % size - e * step) size
  generalize (high - y) % size = a at *
  generalize (a - start) % size = b at *
  generalize (high - start) % size = c at *
  generalize (c - e * step) % size = d at *
  generalize (high - y) / size = k1 at *
  generalize (a - start) / size = k2 at *
  generalize (high - start) / size = k3 at *
  generalize (c - e * step) / size = k4 at *
  have : b - e * step = (d - y) + size * (k3 + k4 - k1 - k2) := by grind
  rw [this, Int.add_mul_emod_self_left]
theorem near_first (hs : 1 ≤ size) {many r : Int} (N : Nearest size step ((high - start) % size) many r) :
    FirstAt size step (((high - dist size step ((high - start) % size) r) % size - start) % size) 0 r := by
  have b := fun e => dist_in (step := step) (far0 := (high - start) % size) (show 0 < size by omega) e
  have first := N.first
  refine ⟨N.r0, ?_, fun e h0 h1 => ?_⟩
  · rw [dist_spot hs, Int.sub_self, Int.zero_emod]
    exact Int.le_refl _
  · rw [dist_spot hs]
    have h2 := first e h0 h1
    have b1 := b e
    have b2 := b r
    generalize dist size step ((high - start) % size) r = y at *
    generalize dist size step ((high - start) % size) e = x at *
    rw [Int.emod_eq_of_lt (by omega) (by omega)]
    omega
/-! ### the places, one behind the other -/
def nextP (ns : List Int) (size : Int) (k : Nat) : Int := (ns[k]?).getD ((ns.headD 0) + size)
theorem asc_le : ∀ {ns : List Int}, ns.Pairwise (· < ·) → ∀ {i j : Nat} {x y : Int}, ns[i]? = some x → ns[j]? = some y → i < j → x < y := by
  intro ns h i j x y hx hy hij
  obtain ⟨h1, e1⟩ := List.getElem?_eq_some_iff.mp hx
  obtain ⟨h2, e2⟩ := List.getElem?_eq_some_iff.mp hy
  have := List.pairwise_iff_getElem.mp h i j h1 h2 hij
  rw [e1, e2] at this
  exact this
structure Part (ns : List Int) (size : Int) : Prop where
  asc : ns.Pairwise (· < ·)
  ne : ns ≠ []
  inn : ∀ z ∈ ns, 0 ≤ z ∧ z < size
theorem Part.head {ns : List Int} {size : Int} (P : Part ns size) : ns[0]? = some (ns.headD 0) := by
  cases ns with
  | nil => exact absurd rfl P.ne
  | cons a r => rfl
theorem Part.zero {ns : List Int} {size : Int} (P : Part ns size) : nextP ns size 0 = ns.headD 0 := by
  unfold nextP
  rw [P.head]
  rfl
theorem Part.last {ns : List Int} {size : Int} (P : Part ns size) : nextP ns size ns.length = ns.headD 0 + size := by
  unfold nextP
  rw [List.getElem?_eq_none (Nat.le_refl _)]
  rfl
/-- the k-th place, and the one behind it -/
theorem Part.turn {ns : List Int} {size : Int} (P : Part ns size) {k : Nat} (hk : k < ns.length) :
    ∃ q, ns[k]? = some (nextP ns size k) ∧ ns[(k + 1) % ns.length]? = some q ∧ (0 ≤ nextP ns size k ∧ nextP ns size k < size) ∧ (0 ≤ q ∧ q < size) ∧
      ns.headD 0 ≤ nextP ns size k ∧ nextP ns size k < nextP ns size (k + 1) ∧ nextP ns size (k + 1) ≤ ns.headD 0 + size ∧ (q = nextP ns size (k + 1) ∨ q = nextP ns size (k + 1) - size) := by
  have hd := P.head
  have hdm := P.inn _ (List.mem_of_getElem? hd)
  have ek : ns[k]? = some ns[k] := List.getElem?_eq_getElem hk
  have enk : nextP ns size k = ns[k] := by
    unfold nextP
    rw [ek]
    rfl
  have kin := P.inn _ (List.mem_of_getElem? ek)
  have hle : ns.headD 0 ≤ ns[k] := by
    by_cases c : k = 0
    · subst c
      rw [hd] at ek
      have := Option.some.inj ek
      omega
    · have := asc_le P.asc hd ek (by omega)
      omega
  rw [enk]
  by_cases c : k + 1 < ns.length
  · have e1 : ns[k + 1]? = some ns[k + 1] := List.getElem?_eq_getElem c
    have en1 : nextP ns size (k + 1) = ns[k + 1] := by
      unfold nextP
      rw [e1]
      rfl
    have in1 := P.inn _ (List.mem_of_getElem? e1)
    have lt := asc_le P.asc ek e1 (by omega)
    refine ⟨ns[k + 1], ek, by rw [Nat.mod_eq_of_lt c]; exact e1, kin, in1, hle, by omega, by omega, .inl en1.symm⟩
  · have e1 : k + 1 = ns.length := by omega
    have en1 : nextP ns size (k + 1) = ns.headD 0 + size := by
      rw [e1]
      exact P.last
    refine ⟨ns.headD 0, ek, by rw [e1, Nat.mod_self]; exact hd, kin, hdm, hle, by omega, by omega, .inr (by omega)⟩
/-- how wide the stretch from p to the place ahead of q is -/
theorem part_wide {p q n : Int} (hs : 1 ≤ size) (h1 : p < n) (h2 : n ≤ p + size) (hq : q = n ∨ q = n - size) : ((q - 1) % size - p) % size = n - p - 1 := by
  have e := Int.emod_add_mul_ediv (q - 1) size
  generalize (q - 1) % size = x at *
  generalize (q - 1) / size = k at *
  rcases hq with h | h
  · rw [show x - p = (n - p - 1) + size * (-k) by rw [Int.mul_neg]; omega, Int.add_mul_emod_self_left, Int.emod_eq_of_lt (by omega) (by omega)]
  · rw [show x - p = (n - p - 1) + size * (-k - 1) by rw [Int.mul_sub, Int.mul_neg]; omega, Int.add_mul_emod_self_left, Int.emod_eq_of_lt (by omega) (by omega)]
end
end Gh

namespace Gh
open PySem PySem.Spec PyProof.Rows L2
/-! ## great numbers -/
theorem lg_of {i : Int} (h : i.natAbs ≤ 10000000000000000000000000000000000000000000000000000000000000000000000000000000000000000000000000000000000000000000000000000000000000000000000000000000000000000000000000000000000000000000000000000000000000000000000000000000000000000000000000000000000000000000000000000000000000000000000000000000000000000000000000000000000000000000000000000000000000000000000000000000000000000000000000000000000000000) : i.natAbs.log2 < 4000000 :=
  Nat.lt_of_lt_of_le (PySem.Flt.log2_lt_of (k := 1400) (by decide) (Nat.lt_of_le_of_lt h (by decide +kernel))) (by decide)
def CMulB (i j : Int) : Prop := i.natAbs.log2 < 4000000 ∧ j.natAbs.log2 < 4000000
theorem CMulB.ok {i j : Int} (h : CMulB i j) : IntMulOk i j := by
  have b : ∀ x : Int, Builtin.Int.intBits x ≤ x.natAbs.log2 + 1 := fun x => by
    unfold Builtin.Int.intBits
    split <;> omega
  have h1 := b i
  have h2 := b j
  have h3 := h.1
  have h4 := h.2
  have e : bitsLine = 134217728 := by decide
  unfold IntMulOk
  intro z
  rw [Bool.and_eq_true] at z
  have z2 := z.2
  unfold Builtin.Int.intTooBig at z2
  have z3 := of_decide_eq_true z2
  rw [e] at z3
  omega
theorem op_mulB {X : Cx} : OpR X (binaryOp .Mult) (rI CMulB fun i j => .int (i * j)) := opI fun _ _ _ _ _ _ _ hc q => mul_int q hc.ok
theorem mulB {i j : Int} (h1 : i.natAbs ≤ 10000000000000000000000000000000000000000000000000000000000000000000000000000000000000000000000000000000000000000000000000000000000000000000000000000000000000000000000000000000000000000000000000000000000000000000000000000000000000000000000000000000000000000000000000000000000000000000000000000000000000000000000000000000000000000000000000000000000000000000000000000000000000000000000000000000000000000) (h2 : j.natAbs ≤ 10000000000000000000000000000000000000000000000000000000000000000000000000000000000000000000000000000000000000000000000000000000000000000000000000000000000000000000000000000000000000000000000000000000000000000000000000000000000000000000000000000000000000000000000000000000000000000000000000000000000000000000000000000000000000000000000000000000000000000000000000000000000000000000000000000000000000000) : CMulB i j := ⟨lg_of h1, lg_of h2⟩
theorem divW {i j : Int} (h0 : 0 < j) (h1 : j ≤ 10000000000000000000000000000000000000000000000000000000000000000000000000000000000000000000000000000000000000000000000000000000000000000000000000000000000000000000000000000000000000000000000000000000000000000000000000000000000000000000000000000000000000000000000000000000000000000000000000000000000000000000000000000000000000000000000000000000000000000000000000000000000000000000000000000000000000000) : CDivW i j :=
  ⟨h0, Nat.lt_of_lt_of_le (PySem.Flt.log2_lt_of (k := 1400) (by decide) (Nat.lt_of_le_of_lt (show j.natAbs ≤ 10000000000000000000000000000000000000000000000000000000000000000000000000000000000000000000000000000000000000000000000000000000000000000000000000000000000000000000000000000000000000000000000000000000000000000000000000000000000000000000000000000000000000000000000000000000000000000000000000000000000000000000000000000000000000000000000000000000000000000000000000000000000000000000000000000000000000000 by omega) (by decide +kernel))) (by decide)⟩
/-! ## constants reckoned -/
section
variable {X : Cx} {a b : Expr} {pos : Pos}
theorem pe_as {e : Expr} {t t' : TE} (h : PE X e t) (w : ∀ σ H Q, t' σ H Q → t σ H Q) : PE X e t' := ⟨fun pins s σ H Q I q => h.run pins s σ H Q I (w σ H Q q)⟩
theorem pe_lneg {i : Int} (ha : PE X a (tC (.int i))) : PE X (.UnaryOp .USub a pos) (tC (.int (-i))) := pe_as (pe_un un_neg ha) fun _ _ _ q => ⟨_, rfl, q⟩
theorem pe_lpow {i j v : Int} (ha : PE X a (tC (.int i))) (hb : PE X b (tC (.int j))) (c : 0 ≤ j ∧ j ≤ 1000000 ∧ i.natAbs < 2 ^ 64) (e : i ^ j.toNat = v) : PE X (.BinOp a .Pow b pos) (tC (.int v)) :=
  pe_as (pe_op op_pow ha hb) fun _ _ _ q => ⟨_, _, rfl, rfl, c, by subst e; exact q⟩
theorem pe_ladd {i j v : Int} (ha : PE X a (tC (.int i))) (hb : PE X b (tC (.int j))) (e : i + j = v) : PE X (.BinOp a .Add b pos) (tC (.int v)) :=
  pe_as (pe_op op_add ha hb) fun _ _ _ q => ⟨_, _, rfl, rfl, by subst e; exact q⟩
theorem pe_lsub {i j v : Int} (ha : PE X a (tC (.int i))) (hb : PE X b (tC (.int j))) (e : i - j = v) : PE X (.BinOp a .Sub b pos) (tC (.int v)) :=
  pe_as (pe_op op_sub ha hb) fun _ _ _ q => ⟨_, _, rfl, rfl, by subst e; exact q⟩
theorem pe_lmul {i j v : Int} (ha : PE X a (tC (.int i))) (hb : PE X b (tC (.int j))) (c : i.natAbs ≤ 1000 ∧ j.natAbs ≤ 10000000000000000000000000000000000000000000000000000000000000000000000000000000000000000000000000000000000000000000000000000000000000000000000000000000000000000000000000000000000000000000000000000000000000000000000000000000000000000000000000000000000000000000000000000000000000000000000000000000000000000000000000000000000000000000000000000000000000000000000000000000000000000000000000000000000000000) (e : i * j = v) : PE X (.BinOp a .Mult b pos) (tC (.int v)) :=
  pe_as (pe_op op_mulB ha hb) fun _ _ _ q => ⟨_, _, rfl, rfl, mulB (Nat.le_trans c.1 (by decide +kernel)) c.2, by subst e; exact q⟩
end
/-! ## readings, a step each -/
section
variable {K : PySem.W.Frag} {nx : L2.St → Hp → Prop} {rt : VK} {bk ct : L2.St → Hp → Prop} {σ : L2.St} {H : Hp} {Q : VK} {QB : Bool → Hp → Prop} {QA : List V → Hp → Prop} {t u : TS} {ta tb te : TE} {tt tu : TT} {tr : TA} {g : TG} {i j : Int} {n : Nat} {v x y : V} {r : R2}
theorem g_seq (h : t ⟨u ⟨nx, rt, bk, ct⟩, rt, bk, ct⟩ σ H) : tSeq t u ⟨nx, rt, bk, ct⟩ σ H := h
theorem g_next (h : nx σ H) : tNext ⟨nx, rt, bk, ct⟩ σ H := h
theorem g_asg (h : te σ H fun x H1 => g x σ H1 nx) : tAsg te g ⟨nx, rt, bk, ct⟩ σ H := h
theorem g_name {R : L2.St → Hp → Prop} (h : R (σ.set n (some v)) H) : gName n v σ H R := h
theorem g_var (e : σ[n]? = some (some v)) (h : Q v H) : tVar n σ H Q := ⟨v, e, h⟩
theorem g_c (h : Q v H) : tC v σ H Q := h
theorem g_op (h : ta σ H fun x H1 => tb σ H1 fun y H2 => r x y H2 Q) : tOp r ta tb σ H Q := h
theorem g_un {ru : V → Hp → VK → Prop} (h : ta σ H fun x H1 => ru x H1 Q) : tUn ru ta σ H Q := h
theorem g_rU {f : Int → V} (h : Q (f i) H) : rU f (.int i) H Q := ⟨_, rfl, h⟩
theorem g_rI0 {f : Int → Int → V} (h : Q (f i j) H) : rI0 f (.int i) (.int j) H Q := ⟨_, _, rfl, rfl, h⟩
theorem g_mul (c : CMulB i j) (h : Q (.int (i * j)) H) : rI CMulB (fun i j => .int (i * j)) (.int i) (.int j) H Q := ⟨_, _, rfl, rfl, c, h⟩
theorem g_div (c : CDivW i j) (h : Q (.int (i / j)) H) : rI CDivW (fun i j => .int (i / j)) (.int i) (.int j) H Q := ⟨_, _, rfl, rfl, c, h⟩
theorem g_mod (c : 0 < j) (h : Q (.int (i % j)) H) : rI (fun _ j => 0 < j) (fun i j => .int (i % j)) (.int i) (.int j) H Q := ⟨_, _, rfl, rfl, c, h⟩
theorem dec_int' : decide (V.int i = V.int j) = decide (i = j) := by
  by_cases h : i = j
  · subst h; simp
  · have h2 : ¬ V.int i = V.int j := fun z => h (V.int.inj z)
    rw [decide_eq_false h, decide_eq_false h2]
theorem g_eqI (h : Q (.bl (decide (i = j))) H) : rEq (.int i) (.int j) H Q := ⟨rfl, by rw [dec_int']; exact h⟩
theorem g_neI (h : Q (.bl (!decide (i = j))) H) : rNe (.int i) (.int j) H Q := ⟨rfl, by rw [dec_int']; exact h⟩
theorem g_ret (h : te σ H rt) : tRet te ⟨nx, rt, bk, ct⟩ σ H := h
theorem g_retN (h : rt .non H) : tRetN ⟨nx, rt, bk, ct⟩ σ H := h
theorem g_drop (h : te σ H fun _ H1 => nx σ H1) : tDrop te ⟨nx, rt, bk, ct⟩ σ H := h
theorem g_ifS (h : tt σ H fun b H1 => if b = true then t ⟨nx, rt, bk, ct⟩ σ H1 else u ⟨nx, rt, bk, ct⟩ σ H1) : tIfS tt t u ⟨nx, rt, bk, ct⟩ σ H := h
theorem g_B (h : te σ H fun x H1 => ∃ c, x = .bl c ∧ QB c H1) : tB te σ H QB := h
theorem g_test (h : te σ H fun x H1 => ∃ c, x = .bl c ∧ QB c H1) : tTest te σ H QB := h
theorem g_bl {b : Bool} {P : Bool → Prop} (h : P b) : ∃ c, V.bl b = V.bl c ∧ P c := ⟨_, rfl, h⟩
theorem g_and (h : tt σ H fun c H1 => if c = true then tu σ H1 QB else QB false H1) : tAnd tt tu σ H QB := h
theorem g_or (h : tt σ H fun c H1 => if c = true then QB true H1 else tu σ H1 QB) : tOr tt tu σ H QB := h
theorem g_not (h : tt σ H fun c H1 => QB (!c) H1) : tNot tt σ H QB := h
theorem g_andV (h : ta σ H fun x H1 => ∃ c, x = .bl c ∧ if c = true then tb σ H1 Q else Q (.bl false) H1) : tAndV ta tb σ H Q := h
theorem g_orV (h : ta σ H fun x H1 => ∃ c, x = .bl c ∧ if c = true then Q (.bl true) H1 else tb σ H1 Q) : tOrV ta tb σ H Q := h
theorem g_notV (h : ta σ H fun x H1 => ∃ c, x = .bl c ∧ Q (.bl (!c)) H1) : tNotV ta σ H Q := h
theorem g_cb {rc : List V → Hp → VK → Prop} (h : tr σ H fun vs H1 => rc vs H1 Q) : tCB rc tr σ H Q := h
theorem g_cons (h : te σ H fun x H1 => tr σ H1 fun xs H2 => QA (x :: xs) H2) : tCons te tr σ H QA := h
theorem g_nil (h : QA [] H) : tNil σ H QA := h
theorem g_call {sp : Sp} {dvs : List V} {E : XK} (h : tr σ H fun vs H1 => sp (vs ++ dvs) H1 Q E) : tCall sp dvs E tr σ H Q := h
theorem g_dec {p A B : Prop} [Decidable p] (h1 : p → A) (h2 : ¬ p → B) : if decide p = true then A else B := ite2 (fun e => h1 (of_decide_eq_true e)) (fun e => h2 fun z => e (decide_eq_true z))
theorem g_ndec {p A B : Prop} [Decidable p] (h1 : ¬ p → A) (h2 : p → B) : if (!decide p) = true then A else B := ite2 (fun e => h1 (of_decide_eq_false (by simpa using e))) (fun e => h2 (by simpa using e))
theorem g_decT {p A B : Prop} [Decidable p] (hp : p) (h : A) : if decide p = true then A else B := by rw [decide_eq_true hp]; exact h
theorem g_decF {p A B : Prop} [Decidable p] (hp : ¬ p) (h : B) : if decide p = true then A else B := by rw [decide_eq_false hp]; exact h
theorem g_nT {A B : Prop} (h : B) : if (!true) = true then A else B := h
theorem g_nF {A B : Prop} (h : A) : if (!false) = true then A else B := h
theorem g_intN {A B : Prop} (h : B) : if decide (V.int i = V.non) = true then A else B := by
  rw [decide_eq_false (fun z => V.noConfusion z)]
  exact h
theorem g_nonN {A B : Prop} (h : A) : if decide (V.non = V.non) = true then A else B := h
theorem g_par {a b : Nat} (h : tr σ H fun vs H1 => ∃ v w, vs = [v, w] ∧ nx ((σ.set a (some v)).set b (some w)) H1) : tPar a b tr ⟨nx, rt, bk, ct⟩ σ H := h
theorem g_two {v w : V} {P : V → V → Prop} (h : P v w) : ∃ v' w', [v, w] = [v', w'] ∧ P v' w' := ⟨_, _, rfl, h⟩
/-- a while by what holds between two turns, with a number that falls -/
theorem g_while (W : Nat → L2.St → Hp → Prop) (m0 : Nat) (h0 : W m0 σ H)
    (hs : ∀ m σ' H', W m σ' H' → tt σ' H' fun b H1 => if b = true then (∃ N : L2.St → Hp → Prop, (∀ σ2 H2, N σ2 H2 → ∃ m', m' < m ∧ W m' σ2 H2) ∧ t ⟨N, rt, nx, N⟩ σ' H1) else nx σ' H1) : tWhile tt t ⟨nx, rt, bk, ct⟩ σ H := ⟨W, ⟨m0, h0⟩, hs⟩
theorem g_body {W : Nat → L2.St → Hp → Prop} {m : Nat} (h : t ⟨fun σ2 H2 => ∃ m', m' < m ∧ W m' σ2 H2, rt, bk, fun σ2 H2 => ∃ m', m' < m ∧ W m' σ2 H2⟩ σ H) :
    ∃ N : L2.St → Hp → Prop, (∀ σ2 H2, N σ2 H2 → ∃ m', m' < m ∧ W m' σ2 H2) ∧ t ⟨N, rt, bk, N⟩ σ H := ⟨_, fun _ _ z => z, h⟩
theorem g_for {wi : TI} (h : wi σ H fun J H1 => ∃ W : Nat → Nat → L2.St → Hp → Prop, (∃ m, W 0 m σ H1) ∧ ∀ i m σ H, W i m σ H →
  (J.stop i H ∧ nx σ H) ∨ (J.go i H ∧ ∃ N : L2.St → Hp → Prop, (∀ σ' H', N σ' H' → ∃ m', m' < m ∧ W (i + 1) m' σ' H') ∧ ∀ x H', J.yld i H x H' → g x σ H' fun σ2 H2 => t ⟨N, rt, nx, N⟩ σ2 H2)) : tFor wi g t ⟨nx, rt, bk, ct⟩ σ H := h
theorem g_iL {R : It → Hp → Prop} (h : te σ H fun x H1 => ∃ a, x = .ref a ∧ (∃ xs, SqL K H1 a xs) ∧ R (Itl K a) H1) : iList K te σ H R := h
theorem g_iT {R : It → Hp → Prop} (h : te σ H fun x H1 => ∃ a, x = .ref a ∧ (∃ xs, SqT K H1 a xs) ∧ R (Itt K a) H1) : iTup K te σ H R := h
theorem g_isi {ty : Value} {n : String} {b : Bool} (h1 : TyX K H v ty) (h2 : PySem.W.kitOne K ty (.type n) = some b) (h : Q (.bl b) H) : rIsi K [v, .ty n] H Q := ⟨v, .ty n, ty, _, b, rfl, .ty n, h1, h2, h⟩
theorem g_sfld {f : Str} (h : te σ H fun y H1 => ta σ H1 fun x H2 => ∃ a C dx fs, x = .ref a ∧ H2 a = some (.ins C dx fs) ∧ Cls K C ∧ NoAttr K C f ∧ fs.length < 1000 ∧ nx σ (upd H2 a (.ins C dx (putF f y fs)))) : sFld K ta te f ⟨nx, rt, bk, ct⟩ σ H := h
theorem g_meth {C : Addr} {m : Str} {sp : Sp} {dvs : List V} {E : XK} (h : ta σ H fun x H1 => ∃ a dx fs, x = .ref a ∧ H1 a = some (.ins C dx fs) ∧ fs.lookup m = none ∧ tr σ H1 fun vs H2 => sp (x :: (vs ++ dvs)) H2 Q E) : tMeth C m sp dvs E ta tr σ H Q := h
theorem g_make {C : Addr} {sp : Sp} {dvs : List V} {E : XK} (h : tr σ H fun vs H1 => ∀ x dx, H1 x = none → H1 dx = none → dx ≠ x → sp (.ref x :: (vs ++ dvs)) (upd (upd H1 dx (.own x)) x (.ins C dx [])) (fun v H2 => v = .non ∧ Q (.ref x) H2) E) : tMake C sp dvs E tr σ H Q := h
theorem g_makeN {C : Addr} {n' m : Nat} {sp : Sp} {gV : List V → List V → List V} {E : XK} {tk : TA} (h : tr σ H fun vs H1 => tk σ H1 fun zs H2 => vs.length = n' ∧ zs.length = m ∧ ∀ x dx, H2 x = none → H2 dx = none → dx ≠ x → sp (gV (.ref x :: vs) zs) (upd (upd H2 dx (.own x)) x (.ins C dx [])) (fun v H3 => v = .non ∧ Q (.ref x) H3) E) : tMakeN C n' m sp gV E tr tk σ H Q := h
theorem g_sl {rs : V → Option Int → Option Int → Hp → VK → Prop} {tl th : TO} (h : te σ H fun x H1 => tl σ H1 fun l H2 => th σ H2 fun u H3 => rs x l u H3 Q) : tSl rs te tl th σ H Q := h
theorem g_part {QO : Option Int → Hp → Prop} (h : te σ H fun x H1 => ∃ i, x = .int i ∧ QO (some i) H1) : tPart te σ H QO := h
theorem g_nopart {QO : Option Int → Hp → Prop} (h : QO none H) : tNoPart σ H QO := h
theorem g_int {i : Int} {P : Int → Prop} (h : P i) : ∃ i', V.int i = V.int i' ∧ P i' := ⟨_, rfl, h⟩
theorem g_int1 {P : Int → Prop} (h : P i) : ∃ i', [V.int i] = [V.int i'] ∧ P i' := ⟨_, rfl, h⟩
theorem g_int2 {P : Int → Int → Prop} (h : P i j) : ∃ i' j', [V.int i, V.int j] = [V.int i', V.int j'] ∧ P i' j' := ⟨_, _, rfl, h⟩
theorem g_slL {a : Addr} {xs : List V} {lo hi : Option Int} (hx : SqL K H a xs) (h : ∀ p, H p = none → Q (.ref p) (upd H p (.lst (cutV xs lo hi)))) : rSlL K (.ref a) lo hi H Q := ⟨a, xs, rfl, hx, h⟩
theorem g_ixL {a : Addr} {xs : List V} (hx : SqL K H a xs) (e : atI xs i = some v) (h : Q v H) : rIxL K (.ref a) (.int i) H Q := ⟨a, xs, i, v, rfl, rfl, hx, e, h⟩
theorem g_ixT {a : Addr} {xs : List V} (hx : SqT K H a xs) (e : atI xs i = some v) (h : Q v H) : rIxT K (.ref a) (.int i) H Q := ⟨a, xs, i, v, rfl, rfl, hx, e, h⟩
theorem g_overL {a : Addr} {xs : List V} (hx : SqL K H a xs) (Pv : Nat → L2.St → Hp → Prop) (h0 : Pv 0 σ H) (hl : ∀ i σ' H', i ≤ xs.length → Pv i σ' H' → SqL K H' a xs)
    (hs : ∀ i x σ' H', xs[i]? = some x → Pv i σ' H' → g x σ' H' fun σ2 H2 => t ⟨Pv (i + 1), rt, nx, Pv (i + 1)⟩ σ2 H2) (hd : ∀ σ' H', Pv xs.length σ' H' → nx σ' H') :
    ∃ a', V.ref a = .ref a' ∧ (∃ xs, SqL K H a' xs) ∧ ∃ W : Nat → Nat → L2.St → Hp → Prop, (∃ m, W 0 m σ H) ∧ ∀ i m σ H, W i m σ H →
      ((Itl K a').stop i H ∧ nx σ H) ∨ ((Itl K a').go i H ∧ ∃ N : L2.St → Hp → Prop, (∀ σ' H', N σ' H' → ∃ m', m' < m ∧ W (i + 1) m' σ' H') ∧ ∀ x H', (Itl K a').yld i H x H' → g x σ H' fun σ2 H2 => t ⟨N, rt, nx, N⟩ σ2 H2) :=
  ⟨a, rfl, ⟨xs, hx⟩, for_list (D := ⟨nx, rt, fun _ _ => False, fun _ _ => False⟩) Pv h0 hl hs hd⟩
theorem g_overT {a : Addr} {xs : List V} (hx : SqT K H a xs) (Pv : Nat → L2.St → Hp → Prop) (h0 : Pv 0 σ H) (hl : ∀ i σ' H', i ≤ xs.length → Pv i σ' H' → SqT K H' a xs)
    (hs : ∀ i x σ' H', xs[i]? = some x → Pv i σ' H' → g x σ' H' fun σ2 H2 => t ⟨Pv (i + 1), rt, nx, Pv (i + 1)⟩ σ2 H2) (hd : ∀ σ' H', Pv xs.length σ' H' → nx σ' H') :
    ∃ a', V.ref a = .ref a' ∧ (∃ xs, SqT K H a' xs) ∧ ∃ W : Nat → Nat → L2.St → Hp → Prop, (∃ m, W 0 m σ H) ∧ ∀ i m σ H, W i m σ H →
      ((Itt K a').stop i H ∧ nx σ H) ∨ ((Itt K a').go i H ∧ ∃ N : L2.St → Hp → Prop, (∀ σ' H', N σ' H' → ∃ m', m' < m ∧ W (i + 1) m' σ' H') ∧ ∀ x H', (Itt K a').yld i H x H' → g x σ H' fun σ2 H2 => t ⟨N, rt, nx, N⟩ σ2 H2) :=
  ⟨a, rfl, ⟨xs, hx⟩, for_tup (D := ⟨nx, rt, fun _ _ => False, fun _ _ => False⟩) Pv h0 hl hs hd⟩
theorem g_cut {Mid : L2.St → Hp → Prop} (h : t ⟨Mid, rt, bk, ct⟩ σ H) (k : ∀ σ' H', Mid σ' H' → u ⟨nx, rt, bk, ct⟩ σ' H') : Evl.tCut t u ⟨nx, rt, bk, ct⟩ σ H := ⟨Mid, h, k⟩
theorem g_gtup {a : Addr} {xs : List V} {tgs : TGs} {R : L2.St → Hp → Prop} (h : SqT K H a xs) (hl : xs.length = n) (k : tgs xs σ H R) : gTup K n tgs (.ref a) σ H R := ⟨a, xs, rfl, h, hl, k⟩
theorem g_glst {a : Addr} {xs : List V} {tgs : TGs} {R : L2.St → Hp → Prop} (h : SqL K H a xs) (hl : xs.length = n) (k : tgs xs σ H R) : gLst K n tgs (.ref a) σ H R := ⟨a, xs, rfl, h, hl, k⟩
theorem g_gcons {tgs : TGs} {xs : List V} {R : L2.St → Hp → Prop} (h : g v σ H fun σ' H' => tgs xs σ' H' R) : gCons g tgs (v :: xs) σ H R := ⟨v, xs, rfl, h⟩
theorem g_gnil {R : L2.St → Hp → Prop} (h : R σ H) : gNil [] σ H R := ⟨rfl, h⟩
theorem g_iR1 {tr : TA} {R : It → Hp → Prop} (h : tr σ H fun vs H1 => ∃ j : Int, vs = [.int j] ∧ -(2 ^ 62) ≤ j ∧ j < 2 ^ 62 ∧ R (Itr 0 j.toNat) H1) : iRng1 tr σ H R := h
theorem g_iR2 {tr : TA} {R : It → Hp → Prop} (h : tr σ H fun vs H1 => ∃ i j : Int, vs = [.int i, .int j] ∧ (-(2 ^ 62) ≤ i ∧ i < 2 ^ 62 ∧ -(2 ^ 62) ≤ j ∧ j < 2 ^ 62) ∧ R (Itr i (j - i).toNat) H1) : iRng2 tr σ H R := h
theorem g_overR {lo : Int} {m : Nat} (Pv : Nat → L2.St → Hp → Prop) (h0 : Pv 0 σ H) (hs : ∀ i σ' H', i < m → Pv i σ' H' → g (.int (lo + (i : Int))) σ' H' fun σ2 H2 => t ⟨Pv (i + 1), rt, nx, Pv (i + 1)⟩ σ2 H2) (hd : ∀ σ' H', Pv m σ' H' → nx σ' H') :
    ∃ W : Nat → Nat → L2.St → Hp → Prop, (∃ m, W 0 m σ H) ∧ ∀ i m' σ H, W i m' σ H →
      ((Itr lo m).stop i H ∧ nx σ H) ∨ ((Itr lo m).go i H ∧ ∃ N : L2.St → Hp → Prop, (∀ σ' H', N σ' H' → ∃ m2, m2 < m' ∧ W (i + 1) m2 σ' H') ∧ ∀ x H', (Itr lo m).yld i H x H' → g x σ H' fun σ2 H2 => t ⟨N, rt, nx, N⟩ σ2 H2) :=
  for_range (D := ⟨nx, rt, fun _ _ => False, fun _ _ => False⟩) Pv h0 hs hd
theorem g_sum {a : Addr} {ns : List Int} (hx : SqL K H a (ns.map V.int)) (h : Q (.int ns.sum) H) : rSum K [.ref a] H Q := ⟨a, ns, rfl, hx, h⟩
theorem g_isN {B : Prop} (h : B) : V.non = V.non ∧ B := ⟨rfl, h⟩
theorem g_dnew (h : ∀ p, H p = none → Q (.ref p) (upd H p (.dK []))) : tDNewK σ H Q := h
theorem g_list_of {a : Addr} {xs : List V} (hx : SqL K H a xs) (h : ∀ l, H l = none → Q (.ref l) (upd H l (.lst xs))) : ∃ p ys, [V.ref a] = [V.ref p] ∧ (SqL K H p ys ∨ SqT K H p ys) ∧ ∀ l, H l = none → Q (.ref l) (upd H l (.lst ys)) := ⟨a, xs, rfl, .inl hx, h⟩
theorem g_gsub {to ti : TE} {ts : TSet} {R : L2.St → Hp → Prop} (h : to σ H fun o H1 => ti σ H1 fun i H2 => ts o i v H2 fun H3 => R σ H3) : gSub to ti ts v σ H R := h
theorem g_bm {T : String} {rm : V → List V → Hp → VK → Prop} (h : ta σ H fun x H1 => tyV K T x H1 ∧ tr σ H1 fun xs H2 => rm x xs H2 Q) : tBM K T rm ta tr σ H Q := h
theorem g_ty {a : Addr} {xs : List V} {P : Prop} (hx : H a = some (.lst xs)) (h : P) : tyV K "list" (.ref a) H ∧ P := ⟨.inl ⟨rfl, _, SqL.of hx⟩, h⟩
theorem g_app {a : Addr} {xs : List V} (hx : H a = some (.lst xs)) (hl : xs.length ≤ 1000) (h : Q .non (upd H a (.lst (xs ++ [y])))) : rAppend (.ref a) [y] H Q := ⟨a, xs, y, rfl, rfl, hx, small1000 hl, h⟩
theorem g_lenT {a : Addr} {xs : List V} (hx : SqT K H a xs) (h : Q (.int xs.length) H) : ∃ p ys, [V.ref a] = [V.ref p] ∧ (SqL K H p ys ∨ SqT K H p ys) ∧ Q (.int ys.length) H := ⟨a, xs, rfl, .inr hx, h⟩
theorem g_tup {tr : TA} (h : tr σ H fun xs H1 => xs.length ≤ sizeLine ∧ ∀ p, H1 p = none → Q (.ref p) (upd H1 p (.tup xs))) : tTup tr σ H Q := h
theorem g_lst {tr : TA} (h : tr σ H fun xs H1 => xs.length ≤ sizeLine ∧ ∀ p, H1 p = none → Q (.ref p) (upd H1 p (.lst xs))) : tLst tr σ H Q := h
theorem g_len {xs : List V} {P : Prop} (hl : xs.length ≤ 1000) (h : P) : xs.length ≤ sizeLine ∧ P := ⟨Nat.le_of_lt (small1000 hl), h⟩
theorem g_fldV {a C dx : Addr} {fs : List (Str × V)} {f : Str} (hv : σ[n]? = some (some (.ref a))) (h1 : H a = some (.ins C dx fs)) (h2 : Cls K C) (h3 : NoAttr K C f) (h4 : fs.lookup f = some v) (h : Q v H) : tFld K (tVar n) f σ H Q := ⟨.ref a, hv, a, C, dx, fs, v, rfl, h1, h2, h3, h4, h⟩
end
/-! ## what is a whole number -/
/-- b: whether v is an int and no bool -/
def Kind (K : PySem.W.Frag) (H : Hp) (v : V) (b : Bool) : Prop := ∃ t b1 b2, TyX K H v t ∧ PySem.W.kitOne K t (.type "int") = some b1 ∧ PySem.W.kitOne K t (.type "bool") = some b2 ∧ b = (b1 && !b2)
section
variable {K : PySem.W.Frag} {H : Hp}
theorem kind_int {i : Int} : Kind K H (.int i) true := ⟨_, true, false, .base (.int i), kit_ty (by decide +kernel), kit_ty (by decide +kernel), rfl⟩
theorem kind_bl {b : Bool} : Kind K H (.bl b) false := ⟨_, true, true, .base (.bl b), kit_ty (by decide +kernel), kit_ty (by decide +kernel), rfl⟩
theorem kind_non : Kind K H .non false := ⟨_, false, false, .base .non, kit_ty (by decide +kernel), kit_ty (by decide +kernel), rfl⟩
theorem kind_str {x : Str} : Kind K H (.str x) false := ⟨_, false, false, .base (.str x), kit_ty (by decide +kernel), kit_ty (by decide +kernel), rfl⟩
theorem kind_lst {p : Addr} {xs : List V} (h : H p = some (.lst xs)) : Kind K H (.ref p) false := ⟨_, false, false, .base (.lst h), kit_ty (by decide +kernel), kit_ty (by decide +kernel), rfl⟩
theorem kind_tup {p : Addr} {xs : List V} (h : H p = some (.tup xs)) : Kind K H (.ref p) false := ⟨_, false, false, .base (.tup h), kit_ty (by decide +kernel), kit_ty (by decide +kernel), rfl⟩
theorem kind_dK {p : Addr} {kvs : List (Key × V)} (h : H p = some (.dK kvs)) : Kind K H (.ref p) false := ⟨_, false, false, .base (.dK h), kit_ty (by decide +kernel), kit_ty (by decide +kernel), rfl⟩
end
/-! ## heaps, kinds -/
theorem same_upd {H : Hp} {p : Addr} {o : HO} (h : H p = none) : Same H (upd H p o) := fun b x e => by
  rw [upd_ne (ne_of_none e h)]
  exact e
theorem Rd.same {H H' : Hp} {a : Addr} {u : HO} (e : Same H H') (h : Rd H a u) : Rd H' a u := h.elim (fun z => .inl (e _ _ z)) fun ⟨o, z⟩ => .inr ⟨o, e _ _ z⟩
theorem Same.tup {K : PySem.W.Frag} {H H' : Hp} {a : Addr} {xs : List V} (e : Same H H') (h : SqT K H a xs) : SqT K H' a xs := h.elim (fun z => .inl (Rd.same e z)) .inr
theorem TyOf.same {K : PySem.W.Frag} {H H' : Hp} (e : Same H H') {v : V} {t : Value} (h : TyOf K H v t) : TyOf K H' v t := by
  cases h with
  | non => exact .non
  | bl x => exact .bl x
  | int i => exact .int i
  | str x => exact .str x
  | flt x => exact .flt x
  | lst z => exact .lst (e _ _ z)
  | frz z => exact .frz (e _ _ z)
  | tup z => exact .tup (e _ _ z)
  | dK z => exact .dK (e _ _ z)
  | dT z => exact .dT (e _ _ z)
  | ins z a b c d f => exact .ins (e _ _ z) a b c d f
theorem TyX.same {K : PySem.W.Frag} {H H' : Hp} (e : Same H H') {v : V} {t : Value} (h : TyX K H v t) : TyX K H' v t := by
  cases h with
  | base z => exact .base (TyOf.same e z)
  | byt b => exact .byt b
  | set z => exact .set (e _ _ z)
  | kList a b => exact .kList a b
  | kTuple a b => exact .kTuple a b
  | kDict a b => exact .kDict a b
  | fTuple z => exact .fTuple (e _ _ z)
  | fDict z => exact .fDict (e _ _ z)
theorem Kind.same {K : PySem.W.Frag} {H H' : Hp} (e : Same H H') {v : V} {b : Bool} (h : Kind K H v b) : Kind K H' v b := by
  obtain ⟨t, b1, b2, ty, r⟩ := h
  exact ⟨t, b1, b2, TyX.same e ty, r⟩
/-- what is no whole number from lo to hi -/
def Bad (K : PySem.W.Frag) (H : Hp) (v : V) (lo hi : Int) : Prop := Kind K H v false ∨ ∃ i, v = .int i ∧ ¬ (lo ≤ i ∧ i ≤ hi)
theorem Bad.same {K : PySem.W.Frag} {H H' : Hp} (e : Same H H') {v : V} {lo hi : Int} (h : Bad K H v lo hi) : Bad K H' v lo hi := h.elim (fun z => .inl (Kind.same e z)) .inr
/-- a list of our own is written: nothing changes its kind -/
theorem TyOf.put {K : PySem.W.Frag} {H : Hp} {p : Addr} {xs ys : List V} (hp : H p = some (.lst xs)) {v : V} {t : Value} (h : TyOf K H v t) : TyOf K (upd H p (.lst ys)) v t := by
  have go : ∀ {a : Addr} {o : HO}, H a = some o → (∀ zs, o ≠ .lst zs) → (upd H p (.lst ys)) a = some o := fun {a o} e ne => by
    have hne : a ≠ p := fun z => by
      subst z
      rw [hp] at e
      exact ne xs (Option.some.inj e).symm
    rw [upd_ne hne]
    exact e
  cases h with
  | non => exact .non
  | bl x => exact .bl x
  | int i => exact .int i
  | str x => exact .str x
  | flt x => exact .flt x
  | @lst a zs z =>
    by_cases e : a = p
    · subst e
      exact .lst upd_same
    · exact .lst (by rw [upd_ne e]; exact z)
  | frz z => exact .frz (go z (fun _ q => HO.noConfusion q))
  | tup z => exact .tup (go z (fun _ q => HO.noConfusion q))
  | dK z => exact .dK (go z (fun _ q => HO.noConfusion q))
  | dT z => exact .dT (go z (fun _ q => HO.noConfusion q))
  | ins z a b c d f => exact .ins (go z (fun _ q => HO.noConfusion q)) a b c d f
theorem TyX.put {K : PySem.W.Frag} {H : Hp} {p : Addr} {xs ys : List V} (hp : H p = some (.lst xs)) {v : V} {t : Value} (h : TyX K H v t) : TyX K (upd H p (.lst ys)) v t := by
  have go : ∀ {a : Addr} {o : HO}, H a = some o → (∀ zs, o ≠ .lst zs) → (upd H p (.lst ys)) a = some o := fun {a o} e ne => by
    have hne : a ≠ p := fun z => by
      subst z
      rw [hp] at e
      exact ne xs (Option.some.inj e).symm
    rw [upd_ne hne]
    exact e
  cases h with
  | base z => exact .base (TyOf.put hp z)
  | byt b => exact .byt b
  | set z => exact .set (go z (fun _ q => HO.noConfusion q))
  | kList a b => exact .kList a b
  | kTuple a b => exact .kTuple a b
  | kDict a b => exact .kDict a b
  | fTuple z => exact .fTuple (go z (fun _ q => HO.noConfusion q))
  | fDict z => exact .fDict (go z (fun _ q => HO.noConfusion q))
theorem Bad.put {K : PySem.W.Frag} {H : Hp} {p : Addr} {xs ys : List V} (hp : H p = some (.lst xs)) {v : V} {lo hi : Int} (h : Bad K H v lo hi) : Bad K (upd H p (.lst ys)) v lo hi := by
  rcases h with ⟨t, b1, b2, ty, r⟩ | h
  · exact .inl ⟨t, b1, b2, TyX.put hp ty, r⟩
  · exact .inr h
theorem same_mut {H H' : Hp} {p : Addr} {o : HO} (h : H p = none) (e : Same H H') : Same H (upd H' p o) := fun b x z => by
  rw [upd_ne (ne_of_none z h)]
  exact e _ _ z
/-! ## cells -/
def cellAt (ns : List Int) (k : Int) : Int := (ns[k.toNat]?).getD 0
def BitsOk (ns : List Int) : Prop := ∀ z ∈ ns, Builtin.Int.intBits z ≤ 1048576
theorem cell_log {ns : List Int} (h : BitsOk ns) (k : Int) : (cellAt ns k).natAbs.log2 ≤ 1048576 := by
  unfold cellAt
  cases e : ns[k.toNat]? with
  | none => exact Nat.zero_le _
  | some z =>
    have hz := h z (List.mem_of_getElem? e)
    show z.natAbs.log2 ≤ 1048576
    unfold Builtin.Int.intBits at hz
    by_cases c : z = 0
    · subst c
      exact Nat.zero_le _
    · rw [if_neg (by simpa using c)] at hz
      omega
theorem cell_mul {ns : List Int} (h : BitsOk ns) {k j : Int} (hj : j.natAbs ≤ 10000000000000000000000000000000000000000000000000000000000000000000000000000000000000000000000000000000000000000000000000000000000000000000000000000000000000000000000000000000000000000000000000000000000000000000000000000000000000000000000000000000000000000000000000000000000000000000000000000000000000000000000000000000000000000000000000000000000000000000000000000000000000000000000000000000000000000) : CMulB (cellAt ns k) j := ⟨Nat.lt_of_le_of_lt (cell_log h k) (by decide), lg_of hj⟩
theorem pickV {xs : List V} {i : Int} (h0 : 0 ≤ i) (h1 : i < xs.length) : ∃ v ∈ xs, atI xs i = some v := by
  obtain ⟨k, rfl⟩ : ∃ k : Nat, i = (k : Int) := ⟨i.toNat, by omega⟩
  have hl : k < xs.length := by omega
  exact ⟨xs[k], List.getElem_mem hl, atI_nat (List.getElem?_eq_getElem hl)⟩
theorem pick {xs : List Int} {i : Int} (h0 : 0 ≤ i) (h1 : i < xs.length) : ∃ m ∈ xs, atI (xs.map V.int) i = some (.int m) := by
  obtain ⟨k, rfl⟩ : ∃ k : Nat, i = (k : Int) := ⟨i.toNat, by omega⟩
  have hl : k < xs.length := by omega
  exact ⟨xs[k], List.getElem_mem hl, atI_nat (by rw [List.getElem?_map, List.getElem?_eq_getElem hl]; rfl)⟩
def cutN (ns : List Int) (lo hi : Option Int) : List Int := (ns.drop (HT.sIx ns.length 0 lo)).take (HT.sIx ns.length ns.length hi - HT.sIx ns.length 0 lo)
theorem cut_map (ns : List Int) (lo hi : Option Int) : cutV (ns.map V.int) lo hi = (cutN ns lo hi).map V.int := by
  unfold cutV cutN
  rw [List.length_map, List.map_take, List.map_drop]
theorem cut_len (ns : List Int) (lo hi : Option Int) : (cutN ns lo hi).length ≤ ns.length := by
  unfold cutN
  rw [List.length_take, List.length_drop]
  omega
theorem cut_sub {ns : List Int} {lo hi : Option Int} {z : Int} (h : z ∈ cutN ns lo hi) : z ∈ ns := List.mem_of_mem_drop (List.mem_of_mem_take h)
theorem map_at {α : Type} {f : α → V} {xs : List α} {i : Nat} {x : V} (h : (xs.map f)[i]? = some x) : ∃ z, xs[i]? = some z ∧ x = f z := by
  rw [List.getElem?_map] at h
  cases e : xs[i]? with
  | none =>
    rw [e] at h
    cases h
  | some z =>
    rw [e] at h
    exact ⟨z, rfl, (Option.some.inj h).symm⟩
/-! ## list comprehensions over ints -/
/-- what a comprehension asks of what it walks -/
def LcP (J : It) (g : TG) (tt : TT) (te : TE) (vs : List Nat) (σ : L2.St) (H1 : Hp) (Q : VK) : Prop := ∀ D, H1 D = none → ∃ W : Nat → Nat → Hp → Prop, (∃ m, W 0 m (upd H1 D (.lst []))) ∧ ∀ i m H, W i m H →
  (J.stop i H ∧ Q (.ref D) H) ∨ (J.go i H ∧ ∃ Nx : Hp → Prop, (∀ H', Nx H' → ∃ m', m' < m ∧ W (i + 1) m' H') ∧ ∀ x H', J.yld i H x H' → g x (wipe σ vs) H' fun σ2 H2 => wipe σ2 vs = wipe σ vs ∧ tt σ2 H2 fun b H3 =>
    if b = true then te σ2 H3 fun y H4 => ∃ acc, H4 D = some (.lst acc) ∧ acc.length < sizeLine ∧ Nx (upd H4 D (.lst (acc ++ [y]))) else Nx H3)
theorem g_lc {wi : TI} {g : TG} {tt : TT} {te : TE} {vs : List Nat} {σ : L2.St} {H : Hp} {Q : VK} (h : wi σ H fun J H1 => LcP J g tt te vs σ H1 Q) : tLc wi g tt te vs σ H Q := h
theorem take_succ' {α : Type} {l : List α} {i : Nat} {x : α} (h : l[i]? = some x) : l.take (i + 1) = l.take i ++ [x] := by
  rw [List.take_add_one, h]
  rfl
/-- [f(x) for x in a list of ints] -/
theorem g_compMap {K : PySem.W.Frag} {te : TE} {vs : List Nat} {σ : L2.St} {H : Hp} {Q : VK} {a : Addr} {j : Nat} {ns : List Int} (f : Int → Int) (hx : SqL K H a (ns.map V.int)) (hl : ns.length ≤ 1000) (hw : ∀ x, wipe ((wipe σ vs).set j (some x)) vs = wipe σ vs)
    (he : ∀ z ∈ ns, ∀ (H' : Hp) (Q' : VK), Same H H' → (∀ H4, Same H' H4 → Q' (.int (f z)) H4) → te ((wipe σ vs).set j (some (.int z))) H' Q')
    (h : ∀ D, H D = none → ∀ H', Same H H' → H' D = some (.lst ((ns.map f).map V.int)) → Q (.ref D) H') :
    ∃ a', V.ref a = .ref a' ∧ (∃ xs, SqL K H a' xs) ∧ LcP (Itl K a') (gName j) tYes te vs σ H Q := by
  refine ⟨a, rfl, ⟨_, hx⟩, fun D hD => ?_⟩
  have s0 : Same H (upd H D (.lst [])) := same_upd hD
  refine lc_list (K := K) (xs := ns.map V.int) (Qd := Q (.ref D)) (fun i H' => Same H H' ∧ H' D = some (.lst (((ns.take i).map f).map V.int))) ⟨s0, upd_same⟩ (fun i H' _ p => p.1.seq hx) (fun i x H' hi p => ?_) (fun H' p => ?_)
  · rw [List.getElem?_map] at hi
    cases e : ns[i]? with
    | none =>
      rw [e] at hi
      cases hi
    | some z =>
      rw [e] at hi
      cases hi
      refine ⟨hw _, ?_⟩
      unfold tYes
      dsimp only
      rw [if_pos rfl]
      refine he z (List.mem_of_getElem? e) H' _ p.1 (fun H4 s4 => ?_)
      refine ⟨_, s4 _ _ p.2, ?_, fun b o eb => ?_, ?_⟩
      · rw [List.length_map, List.length_map, List.length_take]
        exact small1000 (Nat.le_trans (Nat.min_le_right _ _) hl)
      · rw [upd_ne (ne_of_none eb hD)]
        exact s4 _ _ (p.1 _ _ eb)
      · rw [upd_same, take_succ' e, List.map_append, List.map_append]
        rfl
  · rw [List.length_map] at p
    rw [List.take_length] at p
    exact h D hD H' p.1 p.2
theorem g_compRange {te : TE} {vs : List Nat} {σ : L2.St} {H : Hp} {Q : VK} {j m : Nat} (f : Int → Int) (hl : m ≤ 1000) (hw : ∀ x, wipe ((wipe σ vs).set j (some x)) vs = wipe σ vs)
    (he : ∀ (i : Nat), i < m → ∀ (H' : Hp) (Q' : VK), Same H H' → (∀ H4, Same H' H4 → Q' (.int (f i)) H4) → te ((wipe σ vs).set j (some (.int (0 + (i : Int))))) H' Q')
    (h : ∀ D, H D = none → ∀ H', Same H H' → H' D = some (.lst (((List.range m).map fun (i : Nat) => f (i : Int)).map V.int)) → Q (.ref D) H') :
    LcP (Itr 0 m) (gName j) tYes te vs σ H Q := by
  intro D hD
  have s0 : Same H (upd H D (.lst [])) := same_upd hD
  refine lc_range (lo := 0) (n := m) (Qd := Q (.ref D)) (fun i H' => Same H H' ∧ H' D = some (.lst (((List.range i).map fun (i : Nat) => f (i : Int)).map V.int))) ⟨s0, upd_same⟩ (fun i H' hi p => ?_) (fun H' p => h D hD H' p.1 p.2)
  refine ⟨hw _, ?_⟩
  unfold tYes
  dsimp only
  rw [if_pos rfl]
  refine he i hi H' _ p.1 (fun H4 s4 => ?_)
  refine ⟨_, s4 _ _ p.2, ?_, fun b o eb => ?_, ?_⟩
  · rw [List.length_map, List.length_map, List.length_range]
    exact small1000 (by omega)
  · rw [upd_ne (ne_of_none eb hD)]
    exact s4 _ _ (p.1 _ _ eb)
  · rw [upd_same, List.range_succ, List.map_append, List.map_append]
    rfl
/-- [f(x) for x in a list] -/
theorem g_compV {K : PySem.W.Frag} {te : TE} {vs : List Nat} {σ : L2.St} {H : Hp} {Q : VK} {a : Addr} {j : Nat} {xs : List V} (f : V → V) (hx : SqL K H a xs) (hl : xs.length ≤ 1000) (hw : ∀ x, wipe ((wipe σ vs).set j (some x)) vs = wipe σ vs)
    (he : ∀ z ∈ xs, ∀ (H' : Hp) (Q' : VK), Same H H' → (∀ H4, Same H' H4 → Q' (f z) H4) → te ((wipe σ vs).set j (some z)) H' Q')
    (h : ∀ D, H D = none → ∀ H', Same H H' → H' D = some (.lst (xs.map f)) → Q (.ref D) H') :
    ∃ a', V.ref a = .ref a' ∧ (∃ xs, SqL K H a' xs) ∧ LcP (Itl K a') (gName j) tYes te vs σ H Q := by
  refine ⟨a, rfl, ⟨_, hx⟩, fun D hD => ?_⟩
  refine lc_list (K := K) (xs := xs) (Qd := Q (.ref D)) (fun i H' => Same H H' ∧ H' D = some (.lst ((xs.take i).map f))) ⟨same_upd hD, upd_same⟩ (fun i H' _ p => p.1.seq hx) (fun i x H' hi p => ?_) (fun H' p => ?_)
  · refine ⟨hw _, ?_⟩
    unfold tYes
    dsimp only
    rw [if_pos rfl]
    refine he x (List.mem_of_getElem? hi) H' _ p.1 (fun H4 s4 => ?_)
    refine ⟨_, s4 _ _ p.2, ?_, same_mut hD (p.1.trans s4), ?_⟩
    · rw [List.length_map, List.length_take]
      exact small1000 (Nat.le_trans (Nat.min_le_right _ _) hl)
    · rw [upd_same, take_succ' hi, List.map_append]
      rfl
  · rw [List.take_length] at p
    exact h D hD H' p.1 p.2
/-- [(f(i), ..) for i in range(m)]: a new tuple each -/
theorem g_compRangeT {te : TE} {vs : List Nat} {σ : L2.St} {H : Hp} {Q : VK} {j m : Nat} (f : Nat → List V) (hl : m ≤ 1000) (hw : ∀ x, wipe ((wipe σ vs).set j (some x)) vs = wipe σ vs)
    (he : ∀ (i : Nat), i < m → ∀ (H' : Hp) (Q' : VK), Same H H' → (∀ t H4, H' t = none → Same H' H4 → H4 t = some (.tup (f i)) → Q' (.ref t) H4) → te ((wipe σ vs).set j (some (.int (0 + (i : Int))))) H' Q')
    (h : ∀ D, H D = none → ∀ (H' : Hp) (ts : List Addr), Same H H' → H' D = some (.lst (ts.map V.ref)) → ts.length = m → (∀ (i : Nat), i < m → ∃ t, ts[i]? = some t ∧ H' t = some (.tup (f i))) → Q (.ref D) H') :
    LcP (Itr 0 m) (gName j) tYes te vs σ H Q := by
  intro D hD
  refine lc_range (lo := 0) (n := m) (Qd := Q (.ref D)) (fun i H' => Same H H' ∧ ∃ ts : List Addr, H' D = some (.lst (ts.map V.ref)) ∧ ts.length = i ∧ ∀ (l : Nat), l < i → ∃ t, ts[l]? = some t ∧ H' t = some (.tup (f l)))
    ⟨same_upd hD, [], upd_same, rfl, fun _ z => absurd z (Nat.not_lt_zero _)⟩ (fun i H' hi p => ?_) (fun H' p => ?_)
  · obtain ⟨s1, ts, e1, e2, e3⟩ := p
    refine ⟨hw _, ?_⟩
    unfold tYes
    dsimp only
    rw [if_pos rfl]
    refine he i hi H' _ s1 (fun t H4 nt s4 et => ?_)
    refine ⟨_, s4 _ _ e1, ?_, same_mut hD (s1.trans s4), ts ++ [t], ?_, by rw [List.length_append, e2]; rfl, fun l hl2 => ?_⟩
    · rw [List.length_map]
      exact small1000 (by omega)
    · rw [upd_same, List.map_append]
      rfl
    · have ndt : ∀ {u : Addr} {zs : List V}, H4 u = some (.tup zs) → (upd H4 D (.lst (ts.map V.ref ++ [.ref t]))) u = some (.tup zs) := fun {u zs} z => by
        have hne : u ≠ D := fun w => by
          subst w
          rw [s4 _ _ e1] at z
          cases z
        rw [upd_ne hne]
        exact z
      by_cases c : l < i
      · obtain ⟨u, hu, hH⟩ := e3 l c
        exact ⟨u, by rw [List.getElem?_append_left (by omega)]; exact hu, ndt (s4 _ _ hH)⟩
      · have e : l = i := by omega
        subst e
        exact ⟨t, by rw [List.getElem?_append_right (by omega), e2, Nat.sub_self]; rfl, ndt et⟩
  · obtain ⟨s1, ts, e1, e2, e3⟩ := p
    exact h D hD H' ts s1 e1 e2 e3
theorem divP {i j : Int} (h0 : 0 < j) (h1 : j ≤ 10000000000000000000000000000000000000000000000000000000000000000000000000000000000000000000000000000000000000000000000000000000000000000000000000000000000000000000000000000000000000000000000000000000000000000000000000000000000000000000000000000000000000000000000000000000000000000000000000000000000000000000000000000000000000000000000000000000000000000000000000000000000000000000000000000000000000000) : CDivP i j :=
  ⟨h0, PyProof.noPylong_of_log2 (divW (i := i) h0 h1).2⟩
theorem mul_bd {a b A B : Int} (a0 : 0 ≤ a) (a1 : a ≤ A) (b0 : 0 ≤ b) (b1 : b ≤ B) : 0 ≤ a * b ∧ a * b ≤ A * B := ⟨Int.mul_nonneg a0 b0, Int.mul_le_mul a1 b1 b0 (by omega)⟩
theorem ediv_bd {a s B : Int} (hs : 1 ≤ s) (h0 : -B ≤ a) (h1 : a ≤ B) (hB : 0 ≤ B) : -B ≤ a / s ∧ a / s ≤ B := by
  constructor
  · refine (Int.le_ediv_iff_mul_le (by omega)).mpr ?_
    have := Int.mul_le_mul_of_nonneg_left hs hB
    have e : -B * s = -(B * s) := Int.neg_mul ..
    omega
  · have h2 : a < (B + 1) * s := by
      have := Int.mul_le_mul_of_nonneg_left hs (show 0 ≤ B + 1 by omega)
      omega
    have := Int.ediv_lt_of_lt_mul (show 0 < s by omega) h2
    omega
theorem abs_bd {i B : Int} (h0 : -B ≤ i) (h1 : i ≤ B) (hB : B ≤ 10000000000000000000000000000000000000000000000000000000000000000000000000000000000000000000000000000000000000000000000000000000000000000000000000000000000000000000000000000000000000000000000000000000000000000000000000000000000000000000000000000000000000000000000000000000000000000000000000000000000000000000000000000000000000000000000000000000000000000000000000000000000000000000000000000000000000000) : i.natAbs ≤ 10000000000000000000000000000000000000000000000000000000000000000000000000000000000000000000000000000000000000000000000000000000000000000000000000000000000000000000000000000000000000000000000000000000000000000000000000000000000000000000000000000000000000000000000000000000000000000000000000000000000000000000000000000000000000000000000000000000000000000000000000000000000000000000000000000000000000000 := by omega
theorem small6 {n : Nat} (h : n ≤ 100) : n < 1000 := by omega
end Gh
/-! ## errors that are caught -/
namespace Gh
open PySem PySem.Spec PyProof.Rows L2
section
variable {X : Cx} {CX : CXT} {k : Nat} {f C : Addr} {fd : FuncData} {ps : List Str} {sp : Sp} {dvs : List V} {ds : List Value} {x m : Str} {p pos apos : Pos} {e o : Expr} {es : List Expr} {ta : TE} {t : TA}
/-- C(..) in a try: what is wished of an error hangs on the slots -/
def tMakeS (C : Addr) (sp : Sp) (dvs : List V) (E : L2.St → XK) (t : TA) : TE := fun σ H Q => t σ H fun vs H1 => ∀ x dx, H1 x = none → H1 dx = none → dx ≠ x →
  sp (.ref x :: (vs ++ dvs)) (upd (upd H1 dx (.own x)) x (.ins C dx [])) (fun v H2 => v = .non ∧ Q (.ref x) H2) (E σ)
def tMethS (C : Addr) (m : Str) (sp : Sp) (dvs : List V) (E : L2.St → XK) (ta : TE) (t : TA) : TE := fun σ H Q => ta σ H fun x H1 => ∃ a dx fs, x = .ref a ∧ H1 a = some (.ins C dx fs) ∧ fs.lookup m = none ∧
  t σ H1 fun vs H2 => sp (x :: (vs ++ dvs)) H2 Q (E σ)
theorem run_makeS {pins : List (Addr × Obj)} {σ : L2.St} {H : Hp} {s : Shared} {Q : VK} {E : XK} {us : List Value} {vs : List V} (M : Mk X.K C f) (F : FnOk X.prog X.w X.K X.mg X.base CX k f fd ps sp) (hr : Room (k + 1) X.A) (hb : Binds X.K fd ps ds) (hd : Vals dvs ds)
    (hx : PassesAt CX X σ E) (I : Inv X pins σ H s) (r : Vals vs us)
    (h : ∀ x dx, H x = none → H dx = none → dx ≠ x → sp (.ref x :: (vs ++ dvs)) (upd (upd H dx (.own x)) x (.ins C dx [])) (fun v H2 => v = .non ∧ Q (.ref x) H2) E) :
    wpAny (model X.prog X.w) X.A (call (.ref C) us) (EP X pins σ Q) X.xe s := by
  have fr1 : H (s.heap.objs.size + 1) = none := I.hok.fresh (Nat.le_succ _)
  have fr0 : H s.heap.objs.size = none := I.hok.fresh (Nat.le_refl _)
  have q0 := h _ _ fr1 fr0 (Nat.ne_of_lt (Nat.lt_succ_self _))
  have J := I.made (C := C)
  have ra : Vals (V.ref (s.heap.objs.size + 1) :: (vs ++ dvs)) (Value.ref (s.heap.objs.size + 1) :: (us ++ ds)) := .cons rfl (r.append hd)
  have la : (Value.ref (s.heap.objs.size + 1) :: us ++ ds).length = ps.length := ra.length.symm.trans (F.len _ _ _ _ q0)
  have run := F.run _ X.stack _ _ ⟨Value.ref (s.heap.objs.size + 1) :: us, []⟩ (Value.ref (s.heap.objs.size + 1) :: (us ++ ds)) _ _ E (hr.make C us []) (J.env0.make C us [])
    (hb _ (Value.ref (s.heap.objs.size + 1) :: us) J.kIn la) ra q0
  refine wpAny_call (make_map (f := f) I.kIn M.makes M.init (beq_iff_eq.mp M.fn) (codeAny_mono run fun z s' hz => ?_))
  rcases z with er | fl
  · exact hx pins _ _ er s' J hz
  · rcases fl with u | _ | _ | _
    · exact hz.elim
    · exact hz.elim
    · exact hz.elim
    · rename_i u
      obtain ⟨v, H', I3, rv, ev, q3⟩ := J.after hz
      subst ev
      exact ⟨rv, V.ref (s.heap.objs.size + 1), H', I3, rfl, q3⟩
theorem pe_makeS {E : L2.St → XK} (M : Mk X.K C f) (F : FnOk X.prog X.w X.K X.mg X.base CX k f fd ps sp) (hr : Room (k + 1) X.A) (hg : Gl X x) (hm : X.mg x = some (.ref C)) (hb : Binds X.K fd ps ds) (hd : Vals dvs ds) (hx : ∀ σ, PassesAt CX X σ (E σ))
    (ha : PA X (e :: es) t) (hdb : (x == ("__debug__" : Str)) = false := by decide) (he : starEach (e :: es) X.env = (false, eval e X.env) :: starEach es X.env := by rfl) (hpl : (backTo pos (starEach es X.env)).any (·.1) = false := by rfl) :
    PE X (.Call (.Name x p) (e :: es) [] pos) (tMakeS C sp dvs E t) := ⟨fun pins s σ H Q I h =>
  wpAny_Call_Name_kw (ld_glob I hg hm (PySem.W.callWith_K (h₀ := X.base) I.ok.mod.kin M.kp (thn (ha.run pos pins s σ H _ I h) fun _ _ ⟨_, _, I1, r, q⟩ => ⟨I1.kIn, run_makeS M F hr hb hd (hx σ) I1 r q⟩) he hpl) hdb)⟩
theorem pe_methE {E : L2.St → XK} {pl : Sem Bool} (he : PE X o ta) (c : Cls X.K C) (hm : Meth X.K C m f) (F : FnOk X.prog X.w X.K X.mg X.base CX k f fd ps sp) (hr : Room k X.A) (hb : Binds X.K fd ps []) (hx : ∀ σ, PassesAt CX X σ (E σ)) (ha : PA X (e :: es) t)
    (hst : starEach (e :: es) X.env = (false, eval e X.env) :: starEach es X.env := by rfl) (hpl : (backTo pos (starEach es X.env)).any (·.1) = false := by rfl)
    (ht : eval (.Call (.Attribute o m apos) (e :: es) [] pos) X.env = (do
      let ov ← eval o X.env
      standAt apos.atName
      let (f, first) ← holding [ov] (getMethod ov m pl)
      callWith pos f first (backTo pos (starEach (e :: es) X.env)) (backToKw pos (keywordEach [] X.env))) := by rfl) :
    PE X (.Call (.Attribute o m apos) (e :: es) [] pos) (tMethS C m sp [] E ta t) := by
  refine ⟨fun pins s σ H Q I h => PySem.W.methodCall_KW (pl := pl) (thn (he.run pins s σ H _ I h) fun u s1 hh => ?_) ht⟩
  obtain ⟨x, H1, I1, rx, a, dx, fs, ex, ea, l, q⟩ := hh
  subst ex
  cases rx
  refine getmeth_ok I1 ea c hm l (PySem.W.callWith_K (first := [.ref a]) (h₀ := X.base) I.ok.mod.kin hm.kp (thn (ha.run pos pins s1 σ H1 _ I1 q) fun us s2 hh2 => ?_) hst hpl)
  obtain ⟨vs, H2, I2, r, q2⟩ := hh2
  rw [List.append_nil] at q2
  exact ⟨I2.kIn, run_fnS (us := .ref a :: us) (vs := .ref a :: vs) F hr hb (hx σ) I2 (.cons rfl r) q2⟩
/-- isinstance(e, c), e the error at hand, of whatever own class -/
theorem call_isE' {a : Addr} {oe : Obj} {cls : Value} {d : Option Addr} {pn : List (Addr × Obj)} (hz : Zc cls d oe) (hf : ∃ vs, oe.data = .fields vs) :
    CallR (X.suite a ((a, oe) :: pn)) (.builtin "isinstance") (fun xs H Q => ∃ D, cls = .ref D ∧ d = none ∧ ExcC X.K D ∧ rIsE X.K D a xs H Q) := by
  intro pins s σ H xs us Q I r h
  obtain ⟨D, e1, e2, c, h⟩ := h
  subst e1
  subst e2
  exact call_isE c hz hf pins s σ H xs us Q I r h
end
section
variable {K : PySem.W.Frag} {D H : Addr} {b : Bool}
theorem kit_ref (h1 : PySem.W.hasDictIn K H = true) (h2 : PySem.W.typeIn K (.ref H) = some (.type "type")) (hs : PySem.W.subIn K (.ref D) (.ref H) = some b) (hr : PySem.W.subIn K (.ref D) (.ref D) = some true) : PySem.W.kitOne K (.ref D) (.ref H) = some b := by
  unfold PySem.W.kitOne
  by_cases e : D = H
  · subst e
    rw [hs] at hr
    cases hr
    rw [if_pos (by simp)]
  · have ne : ¬ ((Value.ref D == Value.ref H) = true) := by
      intro z
      have z2 := eq_of_beq z
      cases z2
      exact e rfl
    obtain ⟨cd, hc, _⟩ := PySem.W.any_some h1
    have e2 : ((PySem.W.clsIn K H).isSome && PySem.W.typeIn K (.ref H) == some (.type "type")) = true := by
      rw [hc, h2]
      rfl
    rw [if_neg ne]
    show (if ((PySem.W.clsIn K H).isSome && PySem.W.typeIn K (.ref H) == some (.type "type")) = true then PySem.W.subIn K (.ref D) (.ref H) else none) = some b
    rw [if_pos e2]
    exact hs
theorem kit_typ {n : String} (hm : PySem.W.kitMeta n = true) (hs : PySem.W.subIn K (.ref D) (.type n) = some b) : PySem.W.kitOne K (.ref D) (.type n) = some b := by
  unfold PySem.W.kitOne
  rw [if_neg (show ¬ ((Value.ref D == Value.type n) = true) from fun z => by have z2 := eq_of_beq z; cases z2)]
  show (if PySem.W.kitMeta n = true then PySem.W.subIn K (.ref D) (.type n) else none) = some b
  rw [if_pos hm]
  exact hs
end
section
variable {K : PySem.W.Frag} {D : Ends} {σ : L2.St} {H : Hp} {Q : VK} {tr : TA} {ta : TE}
theorem g_makeS {C : Addr} {sp : Sp} {dvs : List V} {E : L2.St → XK} (h : tr σ H fun vs H1 => ∀ x dx, H1 x = none → H1 dx = none → dx ≠ x → sp (.ref x :: (vs ++ dvs)) (upd (upd H1 dx (.own x)) x (.ins C dx [])) (fun v H2 => v = .non ∧ Q (.ref x) H2) (E σ)) : tMakeS C sp dvs E tr σ H Q := h
theorem g_methS {C : Addr} {m : Str} {sp : Sp} {dvs : List V} {E : L2.St → XK} (h : ta σ H fun x H1 => ∃ a dx fs, x = .ref a ∧ H1 a = some (.ins C dx fs) ∧ fs.lookup m = none ∧ tr σ H1 fun vs H2 => sp (x :: (vs ++ dvs)) H2 Q (E σ)) : tMethS C m sp dvs E ta tr σ H Q := h
theorem g_callS {sp : Sp} {E : L2.St → XK} (h : tr σ H fun vs H1 => sp vs H1 Q (E σ)) : tCallS sp E tr σ H Q := h
theorem g_isE {cls : Value} {d : Option Addr} {C a c : Addr} {b : Bool} (e : ExcC K C) (k : PySem.W.kitOne K (.ref C) (.ref c) = some b) (h : Q (.bl b) H) (h1 : cls = .ref C) (h2 : d = none) :
    ∃ D, cls = .ref D ∧ d = none ∧ ExcC K D ∧ rIsE K D a [.ref a, .ref c] H Q := ⟨C, h1, h2, e, .ref c, .ref c, b, rfl, fun _ z => z, k, h⟩
theorem g_isET {cls : Value} {d : Option Addr} {C a : Addr} {n : String} {b : Bool} (e : ExcC K C) (k : PySem.W.kitOne K (.ref C) (.type n) = some b) (h : Q (.bl b) H) (h1 : cls = .ref C) (h2 : d = none) :
    ∃ D, cls = .ref D ∧ d = none ∧ ExcC K D ∧ rIsE K D a [.ref a, .ty n] H Q := ⟨C, h1, h2, e, .ty n, .type n, b, rfl, fun _ z => z, k, h⟩
end
end Gh
/-! ## lists of tuples -/
namespace Gh
open PySem PySem.Spec PyProof.Rows L2
def TupsAt (H : Hp) (l : Addr) (xss : List (List V)) : Prop := ∃ ts : List Addr, H l = some (.lst (ts.map V.ref)) ∧ ts.length = xss.length ∧ ∀ (i : Nat) (xs : List V), xss[i]? = some xs → ∃ t, ts[i]? = some t ∧ H t = some (.tup xs)
theorem TupsAt.same {H H' : Hp} {l : Addr} {xss : List (List V)} (h : TupsAt H l xss) (e : Same H H') : TupsAt H' l xss := by
  obtain ⟨ts, e1, e2, e3⟩ := h
  refine ⟨ts, e _ _ e1, e2, fun i q hq => ?_⟩
  obtain ⟨t, h1, h2⟩ := e3 i q hq
  exact ⟨t, h1, e _ _ h2⟩
theorem TupsAt.nil {H : Hp} {l : Addr} (h : H l = some (.lst [])) : TupsAt H l [] := ⟨[], h, rfl, fun i xs h => by simp at h⟩
/-- one more at the end -/
theorem TupsAt.snoc {H : Hp} {l t : Addr} {ts : List Addr} {xss : List (List V)} {xs : List V} (e : H l = some (.lst (ts.map V.ref))) (hl : ts.length = xss.length) (hr : ∀ (i : Nat) (xs : List V), xss[i]? = some xs → ∃ t, ts[i]? = some t ∧ H t = some (.tup xs)) (et : H t = some (.tup xs)) :
    TupsAt (upd H l (.lst (ts.map V.ref ++ [.ref t]))) l (xss ++ [xs]) := by
  have tp : ∀ {u : Addr} {ys : List V}, H u = some (.tup ys) → (upd H l (.lst (ts.map V.ref ++ [.ref t]))) u = some (.tup ys) := fun {u ys} h => by
    rw [upd_ne (fun z => by rw [z, e] at h; cases h)]
    exact h
  refine ⟨ts ++ [t], by rw [upd_same, List.map_append]; rfl, by rw [List.length_append, List.length_append, hl]; rfl, fun i q hq => ?_⟩
  by_cases c : i < xss.length
  · rw [List.getElem?_append_left c] at hq
    obtain ⟨u, h1, h2⟩ := hr i q hq
    exact ⟨u, by rw [List.getElem?_append_left (by omega)]; exact h1, tp h2⟩
  · rw [List.getElem?_append_right (by omega)] at hq
    by_cases c2 : i = xss.length
    · subst c2
      rw [Nat.sub_self] at hq
      cases hq
      exact ⟨t, by rw [List.getElem?_append_right (by omega), hl, Nat.sub_self]; rfl, tp et⟩
    · obtain ⟨d, hd⟩ : ∃ d, i - xss.length = d + 1 := ⟨i - xss.length - 1, by omega⟩
      rw [hd] at hq
      cases hq
def Row.vs (r : Row) : List V := [.int r.beat, .int r.far, .int r.on, .int r.less, .int r.times]
def Row.dat (r : Row) : PyData := .tuple [.int r.beat, .int r.far, .int r.on, .int r.less, .int r.times]
def dRows5 (rows : List Row) : PyData := .list (rows.map Row.dat)
theorem dp_rows5 {K : PySem.W.Frag} {H : Hp} : ∀ {ts : List Addr} {rows : List Row}, ts.length = rows.length → (∀ (i : Nat) (xs : List V), (rows.map Row.vs)[i]? = some xs → ∃ t, ts[i]? = some t ∧ H t = some (.tup xs)) → DpAll K H (ts.map V.ref) (rows.map Row.dat)
  | [], [], _, _ => .nil
  | t :: ts, q :: qs, hl, h => by
    obtain ⟨t', h1, h2⟩ := h 0 _ rfl
    have e : t = t' := Option.some.inj h1
    subst e
    exact .cons (.tup (SqT.of h2) (.cons (.int _) (.cons (.int _) (.cons (.int _) (.cons (.int _) (.cons (.int _) .nil)))))) (dp_rows5 (by simpa using hl) fun i q' hq => h (i + 1) q' (by simpa using hq))
  | [], _ :: _, hl, _ => by simp at hl
  | _ :: _, [], hl, _ => by simp at hl
theorem TupsAt.dp {K : PySem.W.Frag} {H : Hp} {l : Addr} {rows : List Row} (h : TupsAt H l (rows.map Row.vs)) : Dp K H (.ref l) (dRows5 rows) := by
  obtain ⟨ts, e1, e2, e3⟩ := h
  exact .lst (SqL.of e1) (dp_rows5 (by rw [e2, List.length_map]) e3)
theorem rows5_lay : ∀ qs : List Row, PyData.canLayAll0 (qs.map Row.dat) = true
  | [] => rfl
  | q :: qs => by
    rw [List.map_cons, PyData.canLayAll0, rows5_lay qs]
    rfl
theorem rows5_depth : ∀ qs : List Row, PyData.depthAll (qs.map Row.dat) ≤ 5
  | [] => by decide
  | q :: qs => by
    have := rows5_depth qs
    simp only [List.map_cons, PyData.depthAll, Row.dat, PyData.depth]
    omega
theorem rows5_shaped (qs : List Row) : SeqAt.shaped (dRows5 qs) = true := by
  unfold SeqAt.shaped dRows5
  rw [PyData.canLay0, rows5_lay, PyData.depth]
  have := rows5_depth qs
  simp
  omega
theorem rows5_eqv (qs : List Row) : PyData.eqv (dRows5 qs) (dRows5 qs) = true := SeqAt.eqv_refl _ (by rw [dRows5, PyData.canLay0]; exact rows5_lay qs)
section
variable {K : PySem.W.Frag} {H : Hp} {Q : VK} {a b : Addr} {qs : List Row}
theorem g_items2 {T : String} {ta : TE} {σ : L2.St} {r : V → List V → Hp → VK → Prop} (h : ta σ H fun x H1 => tyV K T x H1 ∧ r x [] H1 Q) : tBM0 K T r ta σ H Q := h
theorem g_clr {xs : List V} (e : H a = some (.lst xs)) (h : Q .non (upd H a (.lst []))) : tyV K "list" (.ref a) H ∧ rClear (.ref a) [] H Q := ⟨.inl ⟨rfl, _, SqL.of e⟩, a, xs, rfl, rfl, e, h⟩
theorem g_eqR5 (h1 : TupsAt H a (qs.map Row.vs)) (h2 : TupsAt H b (qs.map Row.vs)) (h : Q (.bl true) H) : rEqD K (.ref a) (.ref b) H Q := ⟨_, _, h1.dp, h2.dp, rows5_shaped _, rows5_shaped _, by rw [rows5_eqv]; exact h⟩
theorem g_neR5 (h1 : TupsAt H a (qs.map Row.vs)) (h2 : TupsAt H b (qs.map Row.vs)) (h : Q (.bl false) H) : rNeD K (.ref a) (.ref b) H Q := ⟨_, _, h1.dp, h2.dp, rows5_shaped _, rows5_shaped _, by rw [rows5_eqv]; exact h⟩
end
end Gh
/-! ## set(xs), xs a list of ints -/
namespace Gh
open PySem PySem.Spec PyProof.Rows L2
abbrev noneYet (w : World) : Obj := { cls := .type "set", dict := none, data := .set #[] 0 (.fresh 0 0 (!w.params.followText "set-order")) }
/-- the set of ns has been made behind all that stood -/
def MadeSet (w : World) (s : Shared) (ns : List Int) (s' : Shared) : Prop := ∃ (h' : Heap) (tk c : Nat), s' = { s with heap := h', toks := tk } ∧ SetR w h' s.heap.objs.size (fun j => decide (j ∈ ns)) c ∧ c ≤ ns.length ∧ ∀ b o, s.heap.get? b = some o → h'.get? b = some o
section
variable {prog : Program} {w : World} {A : Around} {E : Value → Shared → Prop} {s : Shared} {l : Addr} {items : Array Value} {ns : List Int}
theorem item_int (hit : IntsAre items.toList ns) (i : Nat) (v : Value) (hv : items[i]? = some v) : ∃ k t, ns[i]? = some k ∧ v = .int k t := by
  have hl := IntsAre.length hit
  rw [Array.length_toList] at hl
  have hi : i < items.size := (Array.getElem?_eq_some_iff.mp hv).1
  obtain ⟨t, e⟩ := IntsAre.int_at hit i v ((Array.getElem?_toList ..).trans hv)
  have hn : ns[i]? = some ns[i] := List.getElem?_eq_getElem (by omega)
  exact ⟨ns[i], t, hn, by rw [e, List.getD_eq_getElem?_getD, hn]; rfl⟩
set_option maxHeartbeats 3200000 in
theorem set_of_list {Q : Value → Shared → Prop} (hh : A.handled = none) (hl : s.heap.IsList l items) (hit : IntsAre items.toList ns) (hb : ns.length + 1 < scanBound)
    (h : ∀ s', MadeSet w s ns s' → Q (.ref s.heap.objs.size) s') : wpAny (model prog w) A (call (.type "set") [.ref l]) Q E s := by
  have len := IntsAre.length hit
  rw [Array.length_toList] at len
  obtain ⟨c, tl, hmro⟩ := PySem.F.called_set.mro
  have f1 := PySem.F.called_set.made
  have f2 := PySem.F.called_set.sub
  have f3 := PySem.F.called_set.notType
  have f4 := PySem.F.called_set.canCreate
  have f5 := PySem.F.typeCall_set_1 (.ref l)
  refine wpAny_call (codeAny_of_tree (wpAny_pure ⟨Code.quiet_builtin _ (by decide +kernel), codeAny_builtin PySem.F.entry_type_call ?_⟩))
  rw [Around.under_plain (weight_type_call_type "set" [.ref l] []) rfl]
  repeat (any_goals (first | assumption | wp_step))
  have made : (s.heap.push (noneYet w)).get? s.heap.objs.size = some (noneYet w) := Heap.get?_push_size _ rfl
  refine codeAny_mono (code_set_led1 (.ref l) (E := E) (Q₁ := fun v s1 => v = .ref s.heap.objs.size ∧ s1 = { s with heap := s.heap.push (noneYet w) }) ⟨rfl, rfl⟩) fun r s1 hr => ?_
  match r, hr with
  | .error _, hr => exact hr
  | .ok (.ret v), ⟨e1, e2⟩ =>
    subst e1
    subst e2
    have g1 : Shared.TypeIs { s with heap := s.heap.push (noneYet w) } (.ref s.heap.objs.size) "set" := ⟨_, made, rfl⟩
    have g2 := PySem.F.called_set.init.lookup
    have g3 := PySem.F.called_set.init.bind (.ref s.heap.objs.size)
    repeat (any_goals (first | assumption | wp_step))
    refine codeAny_mono (codeAny_call_builtin (R := wants (fun v s2 => v = .none ∧ MadeSet w s ns s2) E) PySem.F.called_set.init.plain PySem.F.entry_set_init (check_set_init_1 g1 ?_)) fun r2 s2 hr2 => ?_
    · have lst : (s.heap.push (noneYet w)).IsList l items := hl.push _
      obtain ⟨⟨_, od, _, os⟩, at0, rfl, nl, rfl⟩ := hl
      have at1 := Heap.get?_push_of_some (noneYet w) at0
      have below : l < s.heap.objs.size := Heap.lt_size at0
      have n1 := PySem.F.sub_list_set
      have n2 := PySem.F.sub_list_frozenset
      have n3 : (Value.type "list" == Value.type "dict") = false := by decide
      have top : (s.heap.push (noneYet w)).objs.size = s.heap.objs.size + 1 := Heap.size_push ..
      unfold Builtin.«set.__init__» noKeywords Builtin.Frozenset.updateFrom
      generalize walk : pyIter = PI
      wp_walk
      subst walk
      refine wpAny_pyIter_list lst (wpAny_bind (wpAny_runValue ?_))
      have apart : l ≠ (s.heap.push (noneYet w)).objs.size := fun z => Nat.ne_of_lt (Nat.lt_succ_of_lt below) (z.trans top)
      have away : s.heap.objs.size ∉ [(s.heap.push (noneYet w)).objs.size, l] := fun z => by
        rcases List.mem_cons.mp z with z | z
        · exact Nat.ne_of_lt (Nat.lt_succ_self _) (z.trans top)
        · exact Nat.ne_of_gt below (List.mem_singleton.mp z)
      have calm : A.in1.in1.in1.handled = none := by simp [hh]
      refine set_update_ints ((Walks.list calm _ l apart items).toS) s.heap.objs.size away ns len hb (fun i v hv => item_int hit i v hv) (items.size - 0) 0 _ (by omega) (Nat.zero_le _) ⟨⟨_, Heap.get?_push_size _ rfl, rfl, rfl⟩, lst.push _⟩
        ⟨0, Nat.le_refl 0, setR_new_at (Heap.get?_push_of_some _ made)⟩ (fun s2 n hm hn hS => ?_)
      have m1 := hm.gens
      have m2 := hm.drawn
      have m3 := hm.os
      have m4 := hm.heap
      clear hm
      obtain ⟨h2, _, _, tk, _⟩ := s2
      subst m1
      subst m2
      subst m3
      refine wpAny_pure (wpAny_pure ⟨rfl, h2, tk, n, rfl, hS, by omega, fun b o e => ?_⟩)
      have lt : b < s.heap.objs.size := Heap.lt_size e
      refine m4 b o (fun z => ?_) (Heap.get?_push_of_some _ (Heap.get?_push_of_some _ e))
      rcases List.mem_cons.mp z with z | z
      · exact Nat.ne_of_lt lt z
      · exact Nat.ne_of_lt (Nat.lt_succ_of_lt lt) ((List.mem_singleton.mp z).trans top)
    · match r2, hr2 with
      | .error _, hr2 => exact hr2
      | .ok (.ret u), ⟨e3, m⟩ =>
        subst e3
        have q := h _ m
        repeat (any_goals (first | assumption | wp_step))
end
/-- set(xs), xs a list of ints -/
def rSetI (K : PySem.W.Frag) (w : World) : List V → Hp → VK → Prop := fun vs H Q => ∃ (l : Addr) (ns : List Int), vs = [V.ref l] ∧ SqL K H l (ns.map V.int) ∧ ns.length < 64 ∧
  ∀ (p : Addr) (c : Nat), H p = none → c ≤ ns.length → Q (.ref p) (upd H p (SetO w p (fun j => decide (j ∈ ns)) c))
theorem cr_setI {X : Cx} (hc : X.calm = true) : CallR X (.type "set") (rSetI X.K X.w) := by
  intro pins s σ H vs us Q I r h
  obtain ⟨l, ns, rfl, hS, hl, q⟩ := h
  obtain ⟨its, rv, pl, _⟩ := I.list hS
  rw [Vals.ref1 r]
  refine set_of_list (I.ok.hd hc) pl.isList (ns := ns) (ints_of_vals (by simpa using rv)) (by unfold scanBound; omega) fun s' m => ?_
  obtain ⟨h2, tk, c, rfl, hR, hcl, keep⟩ := m
  exact ⟨.ref s.heap.objs.size, upd H s.heap.objs.size (SetO X.w s.heap.objs.size (fun j => decide (j ∈ ns)) c), I.laid (t' := tk) keep (Nat.le_refl _) (setO_new hR), rfl, q _ _ (I.hok.fresh (Nat.le_refl _)) hcl⟩
theorem g_setI {K : PySem.W.Frag} {w : World} {H : Hp} {Q : VK} {l : Addr} {ns : List Int} (hS : SqL K H l (ns.map V.int)) (hl : ns.length < 64)
    (h : ∀ (p : Addr) (c : Nat) (so : HO), H p = none → c ≤ ns.length → so = SetO w p (fun j => decide (j ∈ ns)) c → Q (.ref p) (upd H p so)) : rSetI K w [V.ref l] H Q := ⟨l, ns, rfl, hS, hl, fun p c hp hc => h p c _ hp hc rfl⟩
end Gh
namespace Gh
open PySem PySem.Spec PyProof.Rows L2
def topS (i : Nat) : Stmt := PySem.Challenge.pw_gaphand_k10_whole_wheel_parted.main.body.getD i (.Pass ⟨0, 0, 0, 0⟩)
abbrev s_is_whole : Stmt := topS 6
abbrev N_is_whole : List Str := ["thing"]
theorem sc_is_whole : FnScope N_is_whole ["thing"] (defScope s_is_whole) := ⟨rfl, rfl, rfl, by decide +kernel, rfl, by decide +kernel, by decide +kernel⟩
abbrev s_common : Stmt := topS 7
abbrev N_common : List Str := ["one", "other"]
theorem sc_common : FnScope N_common ["one", "other"] (defScope s_common) := ⟨rfl, rfl, rfl, by decide +kernel, rfl, by decide +kernel, by decide +kernel⟩
abbrev s_need_beats : Stmt := topS 8
abbrev N_need_beats : List Str := ["many", "least"]
theorem sc_need_beats : FnScope N_need_beats ["many", "least"] (defScope s_need_beats) := ⟨rfl, rfl, rfl, by decide +kernel, rfl, by decide +kernel, by decide +kernel⟩
abbrev s_need_place : Stmt := topS 9
abbrev N_need_place : List Str := ["wheel", "place"]
theorem sc_need_place : FnScope N_need_place ["wheel", "place"] (defScope s_need_place) := ⟨rfl, rfl, rfl, by decide +kernel, rfl, by decide +kernel, by decide +kernel⟩
abbrev s_Wheel_init : Stmt := inClass (topS 10) 0
abbrev N_Wheel_init : List Str := ["self", "size", "step", "start", "number"]
theorem sc_Wheel_init : FnScope N_Wheel_init ["self", "size", "step", "start"] (defScope s_Wheel_init) := ⟨rfl, rfl, rfl, by decide +kernel, rfl, by decide +kernel, by decide +kernel⟩
abbrev s_Wheel_reached : Stmt := inClass (topS 10) 1
abbrev N_Wheel_reached : List Str := ["self", "beat"]
theorem sc_Wheel_reached : FnScope N_Wheel_reached ["self", "beat"] (defScope s_Wheel_reached) := ⟨rfl, rfl, rfl, by decide +kernel, rfl, by decide +kernel, by decide +kernel⟩
abbrev s_Wheel_place : Stmt := inClass (topS 10) 2
abbrev N_Wheel_place : List Str := ["self", "beat"]
theorem sc_Wheel_place : FnScope N_Wheel_place ["self", "beat"] (defScope s_Wheel_place) := ⟨rfl, rfl, rfl, by decide +kernel, rfl, by decide +kernel, by decide +kernel⟩
abbrev s_Wheel_turns : Stmt := inClass (topS 10) 3
abbrev N_Wheel_turns : List Str := ["self", "beat"]
theorem sc_Wheel_turns : FnScope N_Wheel_turns ["self", "beat"] (defScope s_Wheel_turns) := ⟨rfl, rfl, rfl, by decide +kernel, rfl, by decide +kernel, by decide +kernel⟩
abbrev s_grown : Stmt := topS 12
abbrev N_grown : List Str := ["sides", "far", "ahead", "near", "behind", "back", "times"]
theorem sc_grown : FnScope N_grown ["sides", "far"] (defScope s_grown) := ⟨rfl, rfl, rfl, by decide +kernel, rfl, by decide +kernel, by decide +kernel⟩
abbrev s_nearing : Stmt := topS 13
abbrev N_nearing : List Str := ["wheel", "place", "least", "sides", "beat", "far", "rows", "on", "less", "times"]
theorem sc_nearing : FnScope N_nearing ["wheel", "place"] (defScope s_nearing) := ⟨rfl, rfl, rfl, by decide +kernel, rfl, by decide +kernel, by decide +kernel⟩
abbrev s_nearest : Stmt := topS 14
abbrev N_nearest : List Str := ["wheel", "many", "place", "beat", "first", "far", "on", "less", "times"]
theorem sc_nearest : FnScope N_nearest ["wheel", "many", "place"] (defScope s_nearest) := ⟨rfl, rfl, rfl, by decide +kernel, rfl, by decide +kernel, by decide +kernel⟩
abbrev s_first_in : Stmt := topS 15
abbrev N_first_in : List Str := ["wheel", "low", "high", "width", "first", "far", "on", "less", "times", "wanted"]
theorem sc_first_in : FnScope N_first_in ["wheel", "low", "high"] (defScope s_first_in) := ⟨rfl, rfl, rfl, by decide +kernel, rfl, by decide +kernel, by decide +kernel⟩
abbrev s_slanted : Stmt := topS 17
abbrev N_slanted : List Str := ["many", "step", "start", "size", "total", "whole"]
theorem sc_slanted : FnScope N_slanted ["many", "step", "start", "size"] (defScope s_slanted) := ⟨rfl, rfl, rfl, by decide +kernel, rfl, by decide +kernel, by decide +kernel⟩
abbrev s_count_in : Stmt := topS 18
abbrev N_count_in : List Str := ["wheel", "many", "low", "high", "width", "begin", "upper"]
theorem sc_count_in : FnScope N_count_in ["wheel", "many", "low", "high"] (defScope s_count_in) := ⟨rfl, rfl, rfl, by decide +kernel, rfl, by decide +kernel, by decide +kernel⟩
abbrev s_law_cell_at : Stmt := topS 20
abbrev N_law_cell_at : List Str := ["_law_script", "_law_k"]
theorem sc_law_cell_at : FnScope N_law_cell_at ["_law_script", "_law_k"] (defScope s_law_cell_at) := ⟨rfl, rfl, rfl, by decide +kernel, rfl, by decide +kernel, by decide +kernel⟩
abbrev s_law_whole : Stmt := topS 21
abbrev N_law_whole : List Str := ["_law_found"]
theorem sc_law_whole : FnScope N_law_whole ["_law_found"] (defScope s_law_whole) := ⟨rfl, rfl, rfl, by decide +kernel, rfl, by decide +kernel, by decide +kernel⟩
abbrev s_law_divisor : Stmt := topS 22
abbrev N_law_divisor : List Str := ["_law_one", "_law_other", "_law_rest"]
theorem sc_law_divisor : FnScope N_law_divisor ["_law_one", "_law_other"] (defScope s_law_divisor) := ⟨rfl, rfl, rfl, by decide +kernel, rfl, by decide +kernel, by decide +kernel⟩
abbrev s_law_wheel : Stmt := topS 23
abbrev N_law_wheel : List Str := ["_law_script", "_law_cell", "_law_times", "_law_size", "_law_step", "_law_start"]
theorem sc_law_wheel : FnScope N_law_wheel ["_law_script"] (defScope s_law_wheel) := ⟨rfl, rfl, rfl, by decide +kernel, rfl, by decide +kernel, by decide +kernel⟩
abbrev s_law_most : Stmt := topS 24
abbrev N_law_most : List Str := ["_law_lap", "_law_some"]
theorem sc_law_most : FnScope N_law_most ["_law_lap", "_law_some"] (defScope s_law_most) := ⟨rfl, rfl, rfl, by decide +kernel, rfl, by decide +kernel, by decide +kernel⟩
abbrev s_law_far : Stmt := topS 25
abbrev N_law_far : List Str := ["_law_numbers", "_law_beat", "_law_place", "_law_size", "_law_step", "_law_start"]
theorem sc_law_far : FnScope N_law_far ["_law_numbers", "_law_beat", "_law_place"] (defScope s_law_far) := ⟨rfl, rfl, rfl, by decide +kernel, rfl, by decide +kernel, by decide +kernel⟩
abbrev s_law_near : Stmt := topS 26
abbrev N_law_near : List Str := ["_law_wheel_here", "_law_numbers", "_law_many", "_law_low", "_law_high", "_law_count", "_law_size", "_law_beat", "_law_far_here", "_law_spot"]
theorem sc_law_near : FnScope N_law_near ["_law_wheel_here", "_law_numbers", "_law_many", "_law_low", "_law_high", "_law_count"] (defScope s_law_near) := ⟨rfl, rfl, rfl, by decide +kernel, rfl, by decide +kernel, by decide +kernel⟩
abbrev s_law_first : Stmt := topS 27
abbrev N_law_first : List Str := ["_law_wheel_here", "_law_many", "_law_low", "_law_high", "_law_count", "_law_beat"]
theorem sc_law_first : FnScope N_law_first ["_law_wheel_here", "_law_many", "_law_low", "_law_high", "_law_count"] (defScope s_law_first) := ⟨rfl, rfl, rfl, by decide +kernel, rfl, by decide +kernel, by decide +kernel⟩
abbrev s_law : Stmt := topS 28
abbrev N_law : List Str := ["_law_script", "_law_size", "_law_step", "_law_start", "_law_lap", "_law_wheel_here", "_law_numbers", "_law_many", "_law_places", "_law_total", "_law_k", "_law_low", "_law_high", "_law_count", "_law_cell"]
theorem sc_law : FnScope N_law ["_law_script"] (defScope s_law) := ⟨rfl, rfl, rfl, by decide +kernel, rfl, by decide +kernel, by decide +kernel⟩
structure Txt (K : PySem.W.Frag) (mg : Str → Option Value) where
  C_HandError : Addr
  g_HandError : mg "HandError" = some (.ref C_HandError)
  C_NoWheel : Addr
  g_NoWheel : mg "NoWheel" = some (.ref C_NoWheel)
  x_NoWheel : PySem.W.excIn K C_NoWheel [.type "ValueError", .type "Exception", .type "BaseException", .type "object"] "ValueError.__new__" = true
  k_NoWheel : PySem.W.keepIn K (.ref C_NoWheel) = true
  eb_NoWheel : PySem.W.subIn K (.ref C_NoWheel) (.type "BaseException") = some true
  et_NoWheel : PySem.W.typeIn K (.ref C_NoWheel) = some (.type "type")
  C_NoBeats : Addr
  g_NoBeats : mg "NoBeats" = some (.ref C_NoBeats)
  x_NoBeats : PySem.W.excIn K C_NoBeats [.type "ValueError", .type "Exception", .type "BaseException", .type "object"] "ValueError.__new__" = true
  k_NoBeats : PySem.W.keepIn K (.ref C_NoBeats) = true
  eb_NoBeats : PySem.W.subIn K (.ref C_NoBeats) (.type "BaseException") = some true
  et_NoBeats : PySem.W.typeIn K (.ref C_NoBeats) = some (.type "type")
  C_NoPlace : Addr
  g_NoPlace : mg "NoPlace" = some (.ref C_NoPlace)
  x_NoPlace : PySem.W.excIn K C_NoPlace [.type "ValueError", .type "Exception", .type "BaseException", .type "object"] "ValueError.__new__" = true
  k_NoPlace : PySem.W.keepIn K (.ref C_NoPlace) = true
  eb_NoPlace : PySem.W.subIn K (.ref C_NoPlace) (.type "BaseException") = some true
  et_NoPlace : PySem.W.typeIn K (.ref C_NoPlace) = some (.type "type")
  C_Wheel : Addr
  g_Wheel : mg "Wheel" = some (.ref C_Wheel)
  c_Wheel : Cls K C_Wheel
  n_size : NoAttr K C_Wheel "size"
  n_step : NoAttr K C_Wheel "step"
  n_start : NoAttr K C_Wheel "start"
  n_lap : NoAttr K C_Wheel "lap"
  a_is_whole : Addr
  fd_is_whole : FuncData
  F_is_whole : Fun K "is_whole" "is_whole" s_is_whole a_is_whole fd_is_whole
  b_is_whole : Binds K fd_is_whole ["thing"] []
  g_is_whole : mg "is_whole" = some (.ref a_is_whole)
  a_common : Addr
  fd_common : FuncData
  F_common : Fun K "common" "common" s_common a_common fd_common
  b_common : Binds K fd_common ["one", "other"] []
  g_common : mg "common" = some (.ref a_common)
  a_need_beats : Addr
  fd_need_beats : FuncData
  F_need_beats : Fun K "need_beats" "need_beats" s_need_beats a_need_beats fd_need_beats
  b_need_beats : Binds K fd_need_beats ["many", "least"] []
  g_need_beats : mg "need_beats" = some (.ref a_need_beats)
  a_need_place : Addr
  fd_need_place : FuncData
  F_need_place : Fun K "need_place" "need_place" s_need_place a_need_place fd_need_place
  b_need_place : Binds K fd_need_place ["wheel", "place"] []
  g_need_place : mg "need_place" = some (.ref a_need_place)
  a_Wheel_init : Addr
  fd_Wheel_init : FuncData
  F_Wheel_init : FunD K "__init__" "Wheel.__init__" (defArgs s_Wheel_init) (defBody s_Wheel_init) (defScope s_Wheel_init) [.int 0] [] a_Wheel_init fd_Wheel_init
  d3_Wheel_init : List Value
  v3_Wheel_init : Vals [] d3_Wheel_init
  b3_Wheel_init : Binds K fd_Wheel_init ["self", "size", "step", "start"] d3_Wheel_init
  d2_Wheel_init : List Value
  v2_Wheel_init : Vals [.int 0] d2_Wheel_init
  b2_Wheel_init : Binds K fd_Wheel_init ["self", "size", "step", "start"] d2_Wheel_init
  m_Wheel_init : Meth K C_Wheel "__init__" a_Wheel_init
  M_Wheel : Mk K C_Wheel a_Wheel_init
  a_Wheel_reached : Addr
  fd_Wheel_reached : FuncData
  F_Wheel_reached : Fun K "reached" "Wheel.reached" s_Wheel_reached a_Wheel_reached fd_Wheel_reached
  b_Wheel_reached : Binds K fd_Wheel_reached ["self", "beat"] []
  m_Wheel_reached : Meth K C_Wheel "reached" a_Wheel_reached
  a_Wheel_place : Addr
  fd_Wheel_place : FuncData
  F_Wheel_place : Fun K "place" "Wheel.place" s_Wheel_place a_Wheel_place fd_Wheel_place
  b_Wheel_place : Binds K fd_Wheel_place ["self", "beat"] []
  m_Wheel_place : Meth K C_Wheel "place" a_Wheel_place
  a_Wheel_turns : Addr
  fd_Wheel_turns : FuncData
  F_Wheel_turns : Fun K "turns" "Wheel.turns" s_Wheel_turns a_Wheel_turns fd_Wheel_turns
  b_Wheel_turns : Binds K fd_Wheel_turns ["self", "beat"] []
  m_Wheel_turns : Meth K C_Wheel "turns" a_Wheel_turns
  a_grown : Addr
  fd_grown : FuncData
  F_grown : Fun K "grown" "grown" s_grown a_grown fd_grown
  b_grown : Binds K fd_grown ["sides", "far"] []
  g_grown : mg "grown" = some (.ref a_grown)
  a_nearing : Addr
  fd_nearing : FuncData
  F_nearing : Fun K "nearing" "nearing" s_nearing a_nearing fd_nearing
  b_nearing : Binds K fd_nearing ["wheel", "place"] []
  g_nearing : mg "nearing" = some (.ref a_nearing)
  a_nearest : Addr
  fd_nearest : FuncData
  F_nearest : Fun K "nearest" "nearest" s_nearest a_nearest fd_nearest
  b_nearest : Binds K fd_nearest ["wheel", "many", "place"] []
  g_nearest : mg "nearest" = some (.ref a_nearest)
  a_first_in : Addr
  fd_first_in : FuncData
  F_first_in : Fun K "first_in" "first_in" s_first_in a_first_in fd_first_in
  b_first_in : Binds K fd_first_in ["wheel", "low", "high"] []
  g_first_in : mg "first_in" = some (.ref a_first_in)
  a_slanted : Addr
  fd_slanted : FuncData
  F_slanted : Fun K "slanted" "slanted" s_slanted a_slanted fd_slanted
  b_slanted : Binds K fd_slanted ["many", "step", "start", "size"] []
  g_slanted : mg "slanted" = some (.ref a_slanted)
  a_count_in : Addr
  fd_count_in : FuncData
  F_count_in : Fun K "count_in" "count_in" s_count_in a_count_in fd_count_in
  b_count_in : Binds K fd_count_in ["wheel", "many", "low", "high"] []
  g_count_in : mg "count_in" = some (.ref a_count_in)
  a_law_cell_at : Addr
  fd_law_cell_at : FuncData
  F_law_cell_at : Fun K "_law_cell_at" "_law_cell_at" s_law_cell_at a_law_cell_at fd_law_cell_at
  b_law_cell_at : Binds K fd_law_cell_at ["_law_script", "_law_k"] []
  g_law_cell_at : mg "_law_cell_at" = some (.ref a_law_cell_at)
  a_law_whole : Addr
  fd_law_whole : FuncData
  F_law_whole : Fun K "_law_whole" "_law_whole" s_law_whole a_law_whole fd_law_whole
  b_law_whole : Binds K fd_law_whole ["_law_found"] []
  g_law_whole : mg "_law_whole" = some (.ref a_law_whole)
  a_law_divisor : Addr
  fd_law_divisor : FuncData
  F_law_divisor : Fun K "_law_divisor" "_law_divisor" s_law_divisor a_law_divisor fd_law_divisor
  b_law_divisor : Binds K fd_law_divisor ["_law_one", "_law_other"] []
  g_law_divisor : mg "_law_divisor" = some (.ref a_law_divisor)
  a_law_wheel : Addr
  fd_law_wheel : FuncData
  F_law_wheel : Fun K "_law_wheel" "_law_wheel" s_law_wheel a_law_wheel fd_law_wheel
  b_law_wheel : Binds K fd_law_wheel ["_law_script"] []
  g_law_wheel : mg "_law_wheel" = some (.ref a_law_wheel)
  a_law_most : Addr
  fd_law_most : FuncData
  F_law_most : Fun K "_law_most" "_law_most" s_law_most a_law_most fd_law_most
  b_law_most : Binds K fd_law_most ["_law_lap", "_law_some"] []
  g_law_most : mg "_law_most" = some (.ref a_law_most)
  a_law_far : Addr
  fd_law_far : FuncData
  F_law_far : Fun K "_law_far" "_law_far" s_law_far a_law_far fd_law_far
  b_law_far : Binds K fd_law_far ["_law_numbers", "_law_beat", "_law_place"] []
  g_law_far : mg "_law_far" = some (.ref a_law_far)
  a_law_near : Addr
  fd_law_near : FuncData
  F_law_near : Fun K "_law_near" "_law_near" s_law_near a_law_near fd_law_near
  b_law_near : Binds K fd_law_near ["_law_wheel_here", "_law_numbers", "_law_many", "_law_low", "_law_high", "_law_count"] []
  g_law_near : mg "_law_near" = some (.ref a_law_near)
  a_law_first : Addr
  fd_law_first : FuncData
  F_law_first : Fun K "_law_first" "_law_first" s_law_first a_law_first fd_law_first
  b_law_first : Binds K fd_law_first ["_law_wheel_here", "_law_many", "_law_low", "_law_high", "_law_count"] []
  g_law_first : mg "_law_first" = some (.ref a_law_first)
  a_law : Addr
  fd_law : FuncData
  F_law : Fun K "law" "law" s_law a_law fd_law
  b_law : Binds K fd_law ["_law_script"] []
  g_law : mg "law" = some (.ref a_law)
  z_ValueError : mg "ValueError" = none
  z_sorted : mg "sorted" = none
  z_range : mg "range" = none
  z_isinstance : mg "isinstance" = none
  z_int : mg "int" = none
  z_min : mg "min" = none
  z_divmod : mg "divmod" = none
  z_len : mg "len" = none
  z_set : mg "set" = none
  z_bool : mg "bool" = none
  z_abs : mg "abs" = none
def sp_law (K : PySem.W.Frag) : Sp := fun vs H Q _ => ∃ (a : Addr) (ns : List Int), vs = [.ref a] ∧ SqL K H a (ns.map V.int) ∧ ns.length ≤ 63 ∧ (∀ z ∈ ns, Builtin.Int.intBits z ≤ 1048576) ∧ ∀ H', Q (.bl true) H'
section
variable {P : Program} {w : World} {K : PySem.W.Frag} {mg : Str → Option Value} {base : Heap}
local macro_rules | `(tactic| walk_at "go") => `(tactic| repeat (first
  | (with_reducible first
    | refine g_seq ?_ | refine g_next ?_ | refine g_asg ?_ | refine g_name ?_ | refine g_c ?_ | refine g_op ?_ | refine g_un ?_ | refine g_rU ?_ | refine g_rI0 ?_ | refine g_eqI ?_ | refine g_neI ?_
    | refine g_ret ?_ | refine g_retN ?_ | refine g_drop ?_ | refine g_ifS ?_ | refine g_B ?_ | refine g_test ?_ | refine g_bl ?_ | refine g_and ?_ | refine g_or ?_ | refine g_not ?_ | refine g_andV ?_ | refine g_orV ?_ | refine g_notV ?_
    | refine g_cb ?_ | refine g_cons ?_ | refine g_nil ?_ | refine g_call ?_ | refine g_par ?_ | refine g_two ?_ | refine g_for ?_ | refine g_iL ?_ | refine g_iT ?_ | refine g_tup ?_ | refine g_lst ?_ | refine g_sfld ?_ | refine g_meth ?_ | refine g_make ?_ | refine g_sl ?_ | refine g_part ?_ | refine g_nopart ?_ | refine g_int ?_ | refine g_int1 ?_ | refine g_int2 ?_ | refine g_lc ?_ | refine g_gcons ?_ | refine g_gnil ?_ | refine g_iR1 ?_ | refine g_iR2 ?_ | refine g_isN ?_ | refine g_makeS ?_ | refine g_methS ?_ | refine g_callS ?_ | refine g_dnew ?_ | refine g_gsub ?_ | refine g_bm ?_ | refine g_makeN ?_)
  | ((with_reducible refine' g_var ?e1 ?_); (case e1 => exact rfl))
  | ((with_reducible refine g_mod ?e2 ?_); (case e2 => first | decide | omega))
  | ((with_reducible refine g_intN ?_))
  | ((with_reducible refine g_nT ?_))
  | ((with_reducible refine g_nF ?_))
  | ((with_reducible refine iteT ?_))
  | ((with_reducible refine iteF ?_))))
def sp_is_whole (_ : Txt K mg) : Sp := fun vs H Q _ => ∃ (v : V) (b : Bool), vs = [v] ∧ Kind K H v b ∧ Q (.bl b) H
theorem ok_is_whole (T : Txt K mg) : FnOk P w K mg base CX0 1 T.a_is_whole T.fd_is_whole ["thing"] (sp_is_whole T) := by
  refine T.F_is_whole.ok sc_is_whole (fun vs H Q E h => ?_) (fun cdv A outer s H vs Q E hr h => ?_)
  · obtain ⟨v, b, rfl, _⟩ := h
    rfl
  · obtain ⟨v, b, rfl, h⟩ := h
    refine ⟨_, pss_one (ps_ret (pe_and (pe_callB call_isi (by rfl) T.z_isinstance (by decide +kernel) (pa_cons (pv 0) (pa_cons (pe_bltn (v := .ty "int") (by rfl) T.z_int (by decide +kernel) rfl) pa_nil))) (pe_one (pe_not (pe_callB call_isi (by rfl) T.z_isinstance (by decide +kernel) (pa_cons (pv 0) (pa_cons (pe_bltn (v := .ty "bool") (by rfl) T.z_bool (by decide +kernel) rfl) pa_nil))))))), ?_⟩
    obtain ⟨⟨t, b1, b2, ty, k1, k2, rfl⟩, q⟩ := h
    walk_at "go"
    refine g_isi ty k1 ?_
    walk_at "go"
    cases b1 with
    | false => exact iteF q
    | true =>
      walk_at "go"
      refine g_isi ty k2 ?_
      walk_at "go"
      exact q
def sp_common (_ : Txt K mg) : Sp := fun vs H Q _ => ∃ a b : Int, vs = [.int a, .int b] ∧ 0 ≤ a ∧ 0 ≤ b ∧ Q (.int (Int.gcd a b)) H
theorem ok_common (T : Txt K mg) : FnOk P w K mg base CX0 1 T.a_common T.fd_common ["one", "other"] (sp_common T) := by
  refine T.F_common.ok sc_common (fun vs H Q E h => ?_) (fun cdv A outer s H vs Q E hr h => ?_)
  · obtain ⟨a, b, rfl, _⟩ := h
    rfl
  · obtain ⟨a, b, rfl, h⟩ := h
    refine ⟨_, pss_cons (ps_while PassesOwn.never (pt_cmpR op_gt (pv 1) pe_int (nomark _)) (pss_one (ps_par (i := 0) (j := 1) (by rfl) sc_common.nd rfl rfl (by decide) rfl rfl (pa_cons (pv 1) (pa_cons (pe_op op_mod (pv 0) (pv 1)) pa_nil)) (by rfl))))
 (pss_one (ps_ret (pv 0))), ?_⟩
    obtain ⟨ha, hb, q⟩ := h
    walk_at "go"
    refine g_while (fun m σ H' => ∃ x y : Int, σ = [some (.int x), some (.int y)] ∧ H' = H ∧ 0 ≤ x ∧ 0 ≤ y ∧ Int.gcd x y = Int.gcd a b ∧ m = y.toNat) _ ⟨a, b, rfl, rfl, ha, hb, rfl, rfl⟩ ?_
    rintro m σ H' ⟨x, y, rfl, rfl, hx, hy, hg, rfl⟩
    walk_at "go"
    refine g_dec (fun h => ?_) (fun h => ?_)
    · refine g_body ?_
      walk_at "go"
      exact ⟨_, Nat.lt_of_le_of_lt (Nat.le_of_eq rfl) (by have := Int.emod_lt_of_pos x h; have := Int.emod_nonneg x (show y ≠ 0 by omega); omega), y, x % y, rfl, rfl, hy, Int.emod_nonneg x (by omega), by rw [gcd_step hx h, hg], rfl⟩
    · walk_at "go"
      have e : y = 0 := by omega
      subst e
      rw [Int.gcd_zero_right] at hg
      have e2 : ((Int.gcd a b : Nat) : Int) = x := by omega
      rw [e2] at q
      exact q
def sp_need_beats (T : Txt K mg) : Sp := fun vs H Q E => ∃ (v : V) (least : Int), vs = [v, .int least] ∧ ((∃ i, v = .int i ∧ least ≤ i ∧ i ≤ 1000000000000000000000000000000000000000000000000000000000000 ∧ Q .non H) ∨ (Bad K H v least 1000000000000000000000000000000000000000000000000000000000000 ∧ E (.ref T.C_NoBeats) none H))
theorem ok_need_beats (T : Txt K mg) : FnOk P w K mg base (L2.CX P w) 2 T.a_need_beats T.fd_need_beats ["many", "least"] (sp_need_beats T) := by
  refine T.F_need_beats.okX sc_need_beats (fun vs H Q E h => ?_) (fun cdv A outer s H vs Q E hr h => ?_)
  · obtain ⟨v, least, rfl, _⟩ := h
    rfl
  · obtain ⟨v, least, rfl, h⟩ := h
    refine ⟨_, pss_one (ps_if (PW.pt (pw_or (pt_not (pt_val (pe_call (ok_is_whole T) (hr.mono (by decide)) (by rfl) T.g_is_whole T.F_is_whole.kp T.b_is_whole .nil pass0 (pa_cons (pv 0) pa_nil)))) (pw_or (pt_cmpR op_lt (pv 0) (pv 1) (nomark _)) (pw_or1 (pt_cmpR op_gt (pv 0) (pe_lpow (v := 1000000000000000000000000000000000000000000000000000000000000) (pe_int) (pe_int) (by decide) (by decide +kernel)) (nomark _))))))
  (pss_one (ps_raise rfl (takes_of rfl rfl rfl rfl) (pmk_own PySem.F.excBase_ValueError T.x_NoBeats T.g_NoBeats T.k_NoBeats (raises_own T.eb_NoBeats T.et_NoBeats) rfl)))
  (pss_nil)), ?_⟩
    rcases h with ⟨i, rfl, h1, h2, q⟩ | ⟨hk, q⟩
    · walk_at "go"
      refine ⟨_, true, rfl, kind_int, ?_⟩
      walk_at "go"
      refine g_decF (by omega) ?_
      walk_at "go"
      refine g_decF (by omega) ?_
      walk_at "go"
      exact q
    · rcases hk with hk | ⟨i, rfl, hi⟩
      · walk_at "go"
        refine ⟨_, false, rfl, hk, ?_⟩
        walk_at "go"
        exact q
      · walk_at "go"
        refine ⟨_, true, rfl, kind_int, ?_⟩
        walk_at "go"
        refine g_dec (fun _ => ?_) (fun _ => ?_)
        · walk_at "go"
          exact q
        · walk_at "go"
          refine g_decT (by omega) ?_
          exact q
/-! ### a wheel -/
def wflds (size step start lap : Int) : List (Str × V) := putF "lap" (.int lap) (putF "start" (.int start) (putF "step" (.int step) (putF "size" (.int size) [])))
theorem ne_st : ¬ (("size" : Str) = "lap") ∧ ¬ (("step" : Str) = "lap") ∧ ¬ (("start" : Str) = "lap") ∧ ¬ (("size" : Str) = "start") ∧ ¬ (("step" : Str) = "start") ∧ ¬ (("size" : Str) = "step") := by decide +kernel
theorem wf_lap (a b c d : Int) : (wflds a b c d).lookup ("lap" : Str) = some (V.int d) := by
  unfold wflds
  rw [lookup_putF, if_pos rfl]
theorem wf_start (a b c d : Int) : (wflds a b c d).lookup ("start" : Str) = some (V.int c) := by
  unfold wflds
  rw [lookup_putF, if_neg ne_st.2.2.1, lookup_putF, if_pos rfl]
theorem wf_step (a b c d : Int) : (wflds a b c d).lookup ("step" : Str) = some (V.int b) := by
  unfold wflds
  rw [lookup_putF, if_neg ne_st.2.1, lookup_putF, if_neg ne_st.2.2.2.2.1, lookup_putF, if_pos rfl]
theorem wf_size (a b c d : Int) : (wflds a b c d).lookup ("size" : Str) = some (V.int a) := by
  unfold wflds
  rw [lookup_putF, if_neg ne_st.1, lookup_putF, if_neg ne_st.2.2.2.1, lookup_putF, if_neg ne_st.2.2.2.2.2, lookup_putF, if_pos rfl]
theorem wf_none (a b c d : Int) {m : Str} (h : ¬ (m = ("lap" : Str)) ∧ ¬ (m = ("start" : Str)) ∧ ¬ (m = ("step" : Str)) ∧ ¬ (m = ("size" : Str))) : (wflds a b c d).lookup m = none := by
  unfold wflds
  rw [lookup_putF, if_neg h.1, lookup_putF, if_neg h.2.1, lookup_putF, if_neg h.2.2.1, lookup_putF, if_neg h.2.2.2]
  rfl
theorem fl1 {a : Str} {x : V} : (putF a x []).length < 1000 := by
  have h := length_putF a x []
  exact Nat.lt_of_le_of_lt h (by decide)
theorem fl2 {a b : Str} {x y : V} : (putF a x (putF b y [])).length < 1000 := by
  have h := length_putF a x (putF b y [])
  have h2 := length_putF b y []
  have e : ([] : List (Str × V)).length = 0 := rfl
  omega
theorem fl3 {a b c : Str} {x y z : V} : (putF a x (putF b y (putF c z []))).length < 1000 := by
  have h := length_putF a x (putF b y (putF c z []))
  have h2 := length_putF b y (putF c z [])
  have h3 := length_putF c z []
  have e : ([] : List (Str × V)).length = 0 := rfl
  omega
theorem lk_step {x y z : V} : (putF "start" x (putF "step" y (putF "size" z []))).lookup ("step" : Str) = some y := by
  rw [lookup_putF, if_neg ne_st.2.2.2.2.1, lookup_putF, if_pos rfl]
structure Whl (C : Addr) (H : Hp) (p : Addr) (size step start : Int) : Prop where
  ob : ∃ dx, H p = some (.ins C dx (wflds size step start (size / (Int.gcd size step : Int))))
  s1 : 1 ≤ size
  s2 : size ≤ 1000000000000000000000000000000000000000000000000000000000000
  t0 : 0 ≤ step
  t1 : step < size
  a0 : 0 ≤ start
  a1 : start < size
theorem Whl.same {C : Addr} {H H' : Hp} {p : Addr} {size step start : Int} (e : Same H H') (W : Whl C H p size step start) : Whl C H' p size step start := by
  obtain ⟨dx, h⟩ := W.ob
  exact ⟨⟨dx, e _ _ h⟩, W.s1, W.s2, W.t0, W.t1, W.a0, W.a1⟩
section
variable {T : Txt K mg} {σ : L2.St} {H : Hp} {Q : VK} {n : Nat} {p : Addr} {size step start : Int}
theorem g_size (W : Whl T.C_Wheel H p size step start) (hv : σ[n]? = some (some (.ref p))) (h : Q (.int size) H) : tFld K (tVar n) "size" σ H Q := by
  obtain ⟨dx, hp⟩ := W.ob
  exact g_fldV hv hp T.c_Wheel T.n_size (wf_size ..) h
theorem g_step (W : Whl T.C_Wheel H p size step start) (hv : σ[n]? = some (some (.ref p))) (h : Q (.int step) H) : tFld K (tVar n) "step" σ H Q := by
  obtain ⟨dx, hp⟩ := W.ob
  exact g_fldV hv hp T.c_Wheel T.n_step (wf_step ..) h
theorem g_start (W : Whl T.C_Wheel H p size step start) (hv : σ[n]? = some (some (.ref p))) (h : Q (.int start) H) : tFld K (tVar n) "start" σ H Q := by
  obtain ⟨dx, hp⟩ := W.ob
  exact g_fldV hv hp T.c_Wheel T.n_start (wf_start ..) h
theorem g_lap (W : Whl T.C_Wheel H p size step start) (hv : σ[n]? = some (some (.ref p))) (h : Q (.int (size / (Int.gcd size step : Int))) H) : tFld K (tVar n) "lap" σ H Q := by
  obtain ⟨dx, hp⟩ := W.ob
  exact g_fldV hv hp T.c_Wheel T.n_lap (wf_lap ..) h
end
local macro_rules | `(tactic| walk_at "gw") => `(tactic| repeat (first
  | (with_reducible first
    | refine g_seq ?_ | refine g_next ?_ | refine g_asg ?_ | refine g_name ?_ | refine g_c ?_ | refine g_op ?_ | refine g_un ?_ | refine g_rU ?_ | refine g_rI0 ?_ | refine g_eqI ?_ | refine g_neI ?_
    | refine g_ret ?_ | refine g_retN ?_ | refine g_drop ?_ | refine g_ifS ?_ | refine g_B ?_ | refine g_test ?_ | refine g_bl ?_ | refine g_and ?_ | refine g_or ?_ | refine g_not ?_ | refine g_andV ?_ | refine g_orV ?_ | refine g_notV ?_
    | refine g_cb ?_ | refine g_cons ?_ | refine g_nil ?_ | refine g_call ?_ | refine g_par ?_ | refine g_two ?_ | refine g_for ?_ | refine g_iL ?_ | refine g_iT ?_ | refine g_tup ?_ | refine g_lst ?_ | refine g_sfld ?_ | refine g_meth ?_ | refine g_make ?_ | refine g_sl ?_ | refine g_part ?_ | refine g_nopart ?_ | refine g_int ?_ | refine g_int1 ?_ | refine g_int2 ?_ | refine g_lc ?_ | refine g_gcons ?_ | refine g_gnil ?_ | refine g_iR1 ?_ | refine g_iR2 ?_ | refine g_isN ?_ | refine g_makeS ?_ | refine g_methS ?_ | refine g_callS ?_ | refine g_dnew ?_ | refine g_gsub ?_ | refine g_bm ?_ | refine g_makeN ?_)
  | ((with_reducible refine' g_var ?e1 ?_); (case e1 => exact rfl))
  | ((with_reducible refine g_mod ?e2 ?_); (case e2 => first | decide | omega))
  | ((with_reducible refine' g_size ?e4 ?e5 ?_); (case e5 => exact rfl); (case e4 => assumption))
  | ((with_reducible refine' g_step ?e4 ?e5 ?_); (case e5 => exact rfl); (case e4 => assumption))
  | ((with_reducible refine' g_start ?e4 ?e5 ?_); (case e5 => exact rfl); (case e4 => assumption))
  | ((with_reducible refine' g_lap ?e4 ?e5 ?_); (case e5 => exact rfl); (case e4 => assumption))
  | ((with_reducible refine g_intN ?_))
  | ((with_reducible refine g_nT ?_))
  | ((with_reducible refine g_nF ?_))
  | ((with_reducible refine iteT ?_))
  | ((with_reducible refine iteF ?_))))
def sp_need_place (T : Txt K mg) : Sp := fun vs H Q E => ∃ (p : Addr) (v : V) (size step start : Int), vs = [.ref p, v] ∧ Whl T.C_Wheel H p size step start ∧
  ((∃ i, v = .int i ∧ 0 ≤ i ∧ i < size ∧ Q .non H) ∨ (Bad K H v 0 (size - 1) ∧ E (.ref T.C_NoPlace) none H))
theorem ok_need_place (T : Txt K mg) : FnOk P w K mg base (L2.CX P w) 2 T.a_need_place T.fd_need_place ["wheel", "place"] (sp_need_place T) := by
  refine T.F_need_place.okX sc_need_place (fun vs H Q E h => ?_) (fun cdv A outer s H vs Q E hr h => ?_)
  · obtain ⟨p, v, size, step, start, rfl, _⟩ := h
    rfl
  · obtain ⟨p, v, size, step, start, rfl, h⟩ := h
    refine ⟨_, pss_one (ps_if (PW.pt (pw_or (pt_not (pt_val (pe_call (ok_is_whole T) (hr.mono (by decide)) (by rfl) T.g_is_whole T.F_is_whole.kp T.b_is_whole .nil pass0 (pa_cons (pv 1) pa_nil)))) (pw_or (pt_cmpR op_lt (pv 1) pe_int (nomark _)) (pw_or1 (pt_cmpR op_ge (pv 1) (pe_fld (pv 0) rfl) (nomark _))))))
  (pss_one (ps_raise rfl (takes_of rfl rfl rfl rfl) (pmk_own PySem.F.excBase_ValueError T.x_NoPlace T.g_NoPlace T.k_NoPlace (raises_own T.eb_NoPlace T.et_NoPlace) rfl)))
  (pss_nil)), ?_⟩
    obtain ⟨W, h⟩ := h
    rcases h with ⟨i, rfl, h1, h2, q⟩ | ⟨hk, q⟩
    · walk_at "gw"
      refine ⟨_, true, rfl, kind_int, ?_⟩
      walk_at "gw"
      refine g_decF (by omega) ?_
      walk_at "gw"
      refine g_decF (by omega) ?_
      walk_at "gw"
      exact q
    · rcases hk with hk | ⟨i, rfl, hi⟩
      · walk_at "gw"
        refine ⟨_, false, rfl, hk, ?_⟩
        walk_at "gw"
        exact q
      · walk_at "gw"
        refine ⟨_, true, rfl, kind_int, ?_⟩
        walk_at "gw"
        refine g_dec (fun _ => ?_) (fun _ => ?_)
        · walk_at "gw"
          exact q
        · walk_at "gw"
          refine g_decT (by omega) ?_
          exact q
def sp_Wheel_init (T : Txt K mg) : Sp := fun vs H Q E => ∃ (p : Addr) (v1 v2 v3 : V), vs = [.ref p, v1, v2, v3] ∧ (∃ dx, H p = some (.ins T.C_Wheel dx [])) ∧
  ((∃ size step start : Int, v1 = .int size ∧ v2 = .int step ∧ v3 = .int start ∧ (1 ≤ size ∧ size ≤ 1000000000000000000000000000000000000000000000000000000000000) ∧ (-1000000000000000000000000000000000000000000000000000000000000 ≤ step ∧ step ≤ 1000000000000000000000000000000000000000000000000000000000000) ∧ (-1000000000000000000000000000000000000000000000000000000000000 ≤ start ∧ start ≤ 1000000000000000000000000000000000000000000000000000000000000) ∧
      ∀ H', (∀ b o, H b = some o → b ≠ p → H' b = some o) → Whl T.C_Wheel H' p size (step % size) (start % size) → Q .non H') ∨
    ((Bad K H v1 1 1000000000000000000000000000000000000000000000000000000000000 ∨ ((∃ i, v1 = .int i ∧ 1 ≤ i ∧ i ≤ 1000000000000000000000000000000000000000000000000000000000000) ∧ (Bad K H v2 (-1000000000000000000000000000000000000000000000000000000000000) 1000000000000000000000000000000000000000000000000000000000000 ∨ ((∃ i, v2 = .int i ∧ -1000000000000000000000000000000000000000000000000000000000000 ≤ i ∧ i ≤ 1000000000000000000000000000000000000000000000000000000000000) ∧ Bad K H v3 (-1000000000000000000000000000000000000000000000000000000000000) 1000000000000000000000000000000000000000000000000000000000000)))) ∧ ∀ H', Same H H' → E (.ref T.C_NoWheel) none H'))
/-- what the loop over step and start asks of each -/
theorem init_bad {K : PySem.W.Frag} {H : Hp} {i : Int} (h : Bad K H (.int i) (-1000000000000000000000000000000000000000000000000000000000000) 1000000000000000000000000000000000000000000000000000000000000) : ¬ (-1000000000000000000000000000000000000000000000000000000000000 ≤ i ∧ i ≤ 1000000000000000000000000000000000000000000000000000000000000) := by
  rcases h with ⟨t, b1, b2, ty, k1, k2, e⟩ | ⟨j, e, h⟩
  · cases ty with
    | base z =>
      cases z with
      | int i =>
        rw [kit_ty (r := true) (by decide +kernel)] at k1
        rw [kit_ty (r := false) (by decide +kernel)] at k2
        cases k1
        cases k2
        cases e
  · cases e
    exact h
theorem ok_Wheel_init (T : Txt K mg) : FnOk P w K mg base (L2.CX P w) 2 T.a_Wheel_init T.fd_Wheel_init ["self", "size", "step", "start"] (sp_Wheel_init T) := by
  refine T.F_Wheel_init.ok sc_Wheel_init (fun vs H Q E h => ?_) (fun cdv A outer s H vs Q E hr h => ?_)
  · obtain ⟨p, v1, v2, v3, rfl, _⟩ := h
    rfl
  · obtain ⟨p, v1, v2, v3, rfl, h⟩ := h
    refine ⟨_, pss_cons (ps_if (PW.pt (pw_or (pt_not (pt_val (pe_call (ok_is_whole T) (hr.mono (by decide)) (by rfl) T.g_is_whole T.F_is_whole.kp T.b_is_whole .nil pass0 (pa_cons (pv 1) pa_nil)))) (pw_or (pt_cmpR op_lt (pv 1) pe_int (nomark _)) (pw_or1 (pt_cmpR op_gt (pv 1) (pe_lpow (v := 1000000000000000000000000000000000000000000000000000000000000) (pe_int) (pe_int) (by decide) (by decide +kernel)) (nomark _))))))
  (pss_one (ps_raise rfl (takes_of rfl rfl rfl rfl) (pmk_own PySem.F.excBase_ValueError T.x_NoWheel T.g_NoWheel T.k_NoWheel (raises_own T.eb_NoWheel T.et_NoWheel) rfl)))
  (pss_nil))
 (pss_cons (ps_for (passes_of rfl) rfl (pi_tup (pe_tup (pa_cons (pv 2) (pa_cons (pv 3) pa_nil)))) (pg_name (i := 4) sc_Wheel_init.nd rfl (.inl rfl)) (pss_one (ps_if (PW.pt (pw_or (pt_not (pt_val (pe_call (ok_is_whole T) (hr.mono (by decide)) (by rfl) T.g_is_whole T.F_is_whole.kp T.b_is_whole .nil pass0 (pa_cons (pv 4) pa_nil)))) (pw_or1 (pt_cmpR op_gt (pe_callB call_abs (by rfl) T.z_abs (by decide +kernel) (pa_cons (pv 4) pa_nil)) (pe_lpow (v := 1000000000000000000000000000000000000000000000000000000000000) (pe_int) (pe_int) (by decide) (by decide +kernel)) (nomark _)))))
  (pss_one (ps_raise rfl (takes_of rfl rfl rfl rfl) (pmk_own PySem.F.excBase_ValueError T.x_NoWheel T.g_NoWheel T.k_NoWheel (raises_own T.eb_NoWheel T.et_NoWheel) rfl)))
  (pss_nil))))
 (pss_cons (ps_fld (pv 0) (pv 1) rfl)
 (pss_cons (ps_fld (pv 0) (pe_op op_mod (pv 2) (pv 1)) rfl)
 (pss_cons (ps_fld (pv 0) (pe_op op_mod (pv 3) (pv 1)) rfl)
 (pss_one (ps_fld (pv 0) (pe_op op_fdivW (pv 1) (pe_call (ok_common T) (hr.mono (by decide)) (by rfl) T.g_common T.F_common.kp T.b_common .nil pass0 (pa_cons (pv 1) (pa_cons (pe_fld (pv 0) rfl) pa_nil)))) rfl)))))), ?_⟩
    obtain ⟨⟨dx, hp⟩, h⟩ := h
    rcases h with ⟨size, step, start, rfl, rfl, rfl, hs, ht, ha, q⟩ | ⟨h, q⟩
    · walk_at "go"
      refine ⟨_, true, rfl, kind_int, ?_⟩
      walk_at "go"
      refine g_decF (by omega) ?_
      walk_at "go"
      refine g_decF (by omega) ?_
      walk_at "go"
      refine g_len (by simp) fun pt npt => ?_
      have s1 : Same H (upd H pt (.tup [.int step, .int start])) := same_upd npt
      have npp : p ≠ pt := ne_of_none hp npt
      refine g_overT (SqT.of upd_same) (fun i σ H' => ∃ y, σ = [some (.ref p), some (.int size), some (.int step), some (.int start), y] ∧ H' = upd H pt (.tup [.int step, .int start])) ⟨_, rfl, rfl⟩ (fun i σ' H' _ h => ?_) ?_ ?_
      · obtain ⟨_, _, rfl⟩ := h
        exact SqT.of upd_same
      · rintro i x σ' H' hx ⟨y, rfl, rfl⟩
        obtain ⟨z, rfl, hz⟩ : ∃ z : Int, x = .int z ∧ -1000000000000000000000000000000000000000000000000000000000000 ≤ z ∧ z ≤ 1000000000000000000000000000000000000000000000000000000000000 := by
          match i, hx with
          | 0, hx => exact ⟨step, (Option.some.inj hx).symm, ht⟩
          | 1, hx => exact ⟨start, (Option.some.inj hx).symm, ha⟩
        walk_at "go"
        refine ⟨_, true, rfl, kind_int, ?_⟩
        walk_at "go"
        refine g_decF (by split <;> omega) ?_
        walk_at "go"
        exact ⟨_, rfl, rfl⟩
      · rintro σ' H' ⟨y, rfl, rfl⟩
        walk_at "go"
        refine ⟨p, T.C_Wheel, dx, [], rfl, s1 _ _ hp, T.c_Wheel, T.n_size, small6 (by simp), ?_⟩
        walk_at "go"
        refine ⟨p, T.C_Wheel, dx, _, rfl, upd_same, T.c_Wheel, T.n_step, fl1, ?_⟩
        walk_at "go"
        refine ⟨p, T.C_Wheel, dx, _, rfl, upd_same, T.c_Wheel, T.n_start, fl2, ?_⟩
        walk_at "go"
        refine g_fldV rfl upd_same T.c_Wheel T.n_step lk_step ?_
        walk_at "go"
        have t0 := Int.emod_nonneg step (show size ≠ 0 by omega)
        have t1 := Int.emod_lt_of_pos step (show 0 < size by omega)
        have a0 := Int.emod_nonneg start (show size ≠ 0 by omega)
        have a1 := Int.emod_lt_of_pos start (show 0 < size by omega)
        refine ⟨_, _, rfl, by omega, t0, ?_⟩
        have g0 : 0 < Int.gcd size (step % size) := Int.gcd_pos_of_ne_zero_left _ (by omega)
        have g1 : ((Int.gcd size (step % size) : Nat) : Int) ≤ size := Int.le_of_dvd (by omega) (Int.gcd_dvd_left ..)
        refine g_div (divW (by omega) (by omega)) ?_
        walk_at "go"
        refine ⟨p, T.C_Wheel, dx, _, rfl, upd_same, T.c_Wheel, T.n_lap, fl3, ?_⟩
        refine q _ (fun b o e hb => ?_) ⟨⟨dx, upd_same⟩, hs.1, hs.2, t0, t1, a0, a1⟩
        rw [upd_ne hb, upd_ne hb, upd_ne hb, upd_ne hb]
        exact s1 _ _ e
    · rcases h with h | ⟨⟨size, rfl, hs⟩, h⟩
      · rcases h with hk | ⟨i, rfl, hi⟩
        · walk_at "go"
          refine ⟨_, false, rfl, hk, ?_⟩
          walk_at "go"
          exact q H (Same.refl H)
        · walk_at "go"
          refine ⟨_, true, rfl, kind_int, ?_⟩
          walk_at "go"
          refine g_dec (fun _ => ?_) (fun _ => ?_)
          · walk_at "go"
            exact q H (Same.refl H)
          · walk_at "go"
            refine g_decT (by omega) ?_
            exact q H (Same.refl H)
      · walk_at "go"
        refine ⟨_, true, rfl, kind_int, ?_⟩
        walk_at "go"
        refine g_decF (by omega) ?_
        walk_at "go"
        refine g_decF (by omega) ?_
        walk_at "go"
        refine g_len (by simp) fun pt npt => ?_
        have s1 : Same H (upd H pt (.tup [v2, v3])) := same_upd npt
        refine g_overT (SqT.of upd_same) (fun i σ H' => (i = 0 ∨ (i = 1 ∧ (∃ z, v2 = .int z ∧ -1000000000000000000000000000000000000000000000000000000000000 ≤ z ∧ z ≤ 1000000000000000000000000000000000000000000000000000000000000) ∧ Bad K H v3 (-1000000000000000000000000000000000000000000000000000000000000) 1000000000000000000000000000000000000000000000000000000000000)) ∧ ∃ y, σ = [some (.ref p), some (.int size), some v2, some v3, y] ∧ H' = upd H pt (.tup [v2, v3])) ⟨.inl rfl, _, rfl, rfl⟩ (fun i σ' H' _ h => ?_) ?_ ?_
        · obtain ⟨_, _, _, rfl⟩ := h
          exact SqT.of upd_same
        · rintro i x σ' H' hx ⟨hi, y, rfl, rfl⟩
          -- one of the two: it is fine and the other one bad, or it is bad
          have hx2 : (∃ z, x = .int z ∧ (-1000000000000000000000000000000000000000000000000000000000000 ≤ z ∧ z ≤ 1000000000000000000000000000000000000000000000000000000000000) ∧ i = 0 ∧ v2 = .int z ∧ Bad K H v3 (-1000000000000000000000000000000000000000000000000000000000000) 1000000000000000000000000000000000000000000000000000000000000) ∨ Bad K H x (-1000000000000000000000000000000000000000000000000000000000000) 1000000000000000000000000000000000000000000000000000000000000 := by
            rcases hi with rfl | ⟨rfl, _, hb⟩
            · have e : v2 = x := Option.some.inj hx
              subst e
              rcases h with h | ⟨⟨z, rfl, hz⟩, hb⟩
              · exact .inr h
              · exact .inl ⟨z, rfl, hz, rfl, rfl, hb⟩
            · have e : v3 = x := Option.some.inj hx
              subst e
              exact .inr hb
          rcases hx2 with ⟨z, rfl, hz, rfl, rfl, hb⟩ | hb
          · walk_at "go"
            refine ⟨_, true, rfl, kind_int, ?_⟩
            walk_at "go"
            refine g_decF (by split <;> omega) ?_
            walk_at "go"
            exact ⟨.inr ⟨rfl, ⟨z, rfl, hz⟩, hb⟩, _, rfl, rfl⟩
          · rcases hb with hk | ⟨z, rfl, hz⟩
            · walk_at "go"
              refine ⟨_, false, rfl, Kind.same s1 hk, ?_⟩
              walk_at "go"
              exact q _ s1
            · walk_at "go"
              refine ⟨_, true, rfl, kind_int, ?_⟩
              walk_at "go"
              refine g_decT (by split <;> omega) ?_
              exact q _ s1
        · rintro σ' H' ⟨hi, _⟩
          rcases hi with hi | ⟨hi, _⟩ <;> simp at hi
/-- a beat that is one, or what is none -/
def sp_Wheel_reached (T : Txt K mg) : Sp := fun vs H Q E => ∃ (p : Addr) (v : V) (size step start : Int), vs = [.ref p, v] ∧ Whl T.C_Wheel H p size step start ∧
  ((∃ i, v = .int i ∧ 0 ≤ i ∧ i ≤ 1000000000000000000000000000000000000000000000000000000000000 ∧ Q (.int (start + i * step)) H) ∨ (Bad K H v 0 1000000000000000000000000000000000000000000000000000000000000 ∧ E (.ref T.C_NoBeats) none H))
theorem ok_Wheel_reached (T : Txt K mg) : FnOk P w K mg base (L2.CX P w) 3 T.a_Wheel_reached T.fd_Wheel_reached ["self", "beat"] (sp_Wheel_reached T) := by
  refine T.F_Wheel_reached.okX sc_Wheel_reached (fun vs H Q E h => ?_) (fun cdv A outer s H vs Q E hr h => ?_)
  · obtain ⟨p, v, size, step, start, rfl, _⟩ := h
    rfl
  · obtain ⟨p, v, size, step, start, rfl, h⟩ := h
    refine ⟨_, pss_cons (ps_expr (pe_call (ok_need_beats T) (hr.mono (by decide)) (by rfl) T.g_need_beats T.F_need_beats.kp T.b_need_beats .nil (passes_call (takes_of rfl rfl rfl rfl) (fun _ _ _ _ h => h)) (pa_cons (pv 1) (pa_cons pe_int pa_nil))))
 (pss_one (ps_ret (pe_op op_add (pe_fld (pv 0) rfl) (pe_op op_mulB (pv 1) (pe_fld (pv 0) rfl))))), ?_⟩
    obtain ⟨W, h⟩ := h
    walk_at "gw"
    rcases h with ⟨i, rfl, h0, h1, q⟩ | ⟨hb, q⟩
    · refine ⟨_, 0, rfl, .inl ⟨i, rfl, h0, h1, ?_⟩⟩
      walk_at "gw"
      have := W.s2
      have := W.t0
      have := W.t1
      refine g_mul (mulB (by omega) (by omega)) ?_
      walk_at "gw"
      exact q
    · exact ⟨_, 0, rfl, .inr ⟨hb, q⟩⟩
def sp_Wheel_place (T : Txt K mg) : Sp := fun vs H Q E => ∃ (p : Addr) (v : V) (size step start : Int), vs = [.ref p, v] ∧ Whl T.C_Wheel H p size step start ∧
  ((∃ i, v = .int i ∧ 0 ≤ i ∧ i ≤ 1000000000000000000000000000000000000000000000000000000000000 ∧ Q (.int ((start + i * step) % size)) H) ∨ (Bad K H v 0 1000000000000000000000000000000000000000000000000000000000000 ∧ E (.ref T.C_NoBeats) none H))
theorem ok_Wheel_place (T : Txt K mg) : FnOk P w K mg base (L2.CX P w) 4 T.a_Wheel_place T.fd_Wheel_place ["self", "beat"] (sp_Wheel_place T) := by
  refine T.F_Wheel_place.okX sc_Wheel_place (fun vs H Q E h => ?_) (fun cdv A outer s H vs Q E hr h => ?_)
  · obtain ⟨p, v, size, step, start, rfl, _⟩ := h
    rfl
  · obtain ⟨p, v, size, step, start, rfl, h⟩ := h
    refine ⟨_, pss_one (ps_ret (pe_op op_mod (pe_meth (pv 0) T.c_Wheel T.m_Wheel_reached (ok_Wheel_reached T) (hr.mono (by decide)) T.b_Wheel_reached .nil (passes_call (takes_of rfl rfl rfl rfl) (fun _ _ _ _ h => h)) (pa_cons (pv 1) pa_nil)) (pe_fld (pv 0) rfl))), ?_⟩
    obtain ⟨W, h⟩ := h
    walk_at "gw"
    obtain ⟨dx, hp⟩ := id W.ob
    refine ⟨p, dx, _, rfl, hp, wf_none _ _ _ _ (by decide +kernel), ?_⟩
    walk_at "gw"
    rcases h with ⟨i, rfl, h0, h1, q⟩ | ⟨hb, q⟩
    · refine ⟨_, _, _, _, _, rfl, W, .inl ⟨i, rfl, h0, h1, ?_⟩⟩
      walk_at "gw"
      refine g_mod (by have := W.s1; omega) ?_
      exact q
    · exact ⟨_, _, _, _, _, rfl, W, .inr ⟨hb, q⟩⟩
def sp_Wheel_turns (T : Txt K mg) : Sp := fun vs H Q E => ∃ (p : Addr) (v : V) (size step start : Int), vs = [.ref p, v] ∧ Whl T.C_Wheel H p size step start ∧
  ((∃ i, v = .int i ∧ 0 ≤ i ∧ i ≤ 1000000000000000000000000000000000000000000000000000000000000 ∧ Q (.int ((start + i * step) / size)) H) ∨ (Bad K H v 0 1000000000000000000000000000000000000000000000000000000000000 ∧ E (.ref T.C_NoBeats) none H))
theorem ok_Wheel_turns (T : Txt K mg) : FnOk P w K mg base (L2.CX P w) 4 T.a_Wheel_turns T.fd_Wheel_turns ["self", "beat"] (sp_Wheel_turns T) := by
  refine T.F_Wheel_turns.okX sc_Wheel_turns (fun vs H Q E h => ?_) (fun cdv A outer s H vs Q E hr h => ?_)
  · obtain ⟨p, v, size, step, start, rfl, _⟩ := h
    rfl
  · obtain ⟨p, v, size, step, start, rfl, h⟩ := h
    refine ⟨_, pss_one (ps_ret (pe_op op_fdivW (pe_meth (pv 0) T.c_Wheel T.m_Wheel_reached (ok_Wheel_reached T) (hr.mono (by decide)) T.b_Wheel_reached .nil (passes_call (takes_of rfl rfl rfl rfl) (fun _ _ _ _ h => h)) (pa_cons (pv 1) pa_nil)) (pe_fld (pv 0) rfl))), ?_⟩
    obtain ⟨W, h⟩ := h
    walk_at "gw"
    obtain ⟨dx, hp⟩ := id W.ob
    refine ⟨p, dx, _, rfl, hp, wf_none _ _ _ _ (by decide +kernel), ?_⟩
    walk_at "gw"
    rcases h with ⟨i, rfl, h0, h1, q⟩ | ⟨hb, q⟩
    · refine ⟨_, _, _, _, _, rfl, W, .inl ⟨i, rfl, h0, h1, ?_⟩⟩
      walk_at "gw"
      have := W.s1
      have := W.s2
      refine g_div (divW (by omega) (by omega)) ?_
      exact q
    · exact ⟨_, _, _, _, _, rfl, W, .inr ⟨hb, q⟩⟩
def sp_grown (_ : Txt K mg) : Sp := fun vs H Q _ => ∃ (s4 : Addr) (far size step far0 p n b k beat lap g : Int), vs = [.ref s4, .int far] ∧ H s4 = some (.tup [.int p, .int n, .int b, .int k]) ∧ NI size step far0 p n b k beat far ∧ Lap size step lap g ∧ size ≤ 1000000000000000000000000000000000000000000000000000000000000 ∧ far < n ∧ g ≤ far ∧
  ∀ (q4 : Addr) (H' : Hp) (p' n' b' k' : Int), Same H H' → H' q4 = some (.tup [.int p', .int n', .int b', .int k']) → NI size step far0 p' n' b' k' beat far → n' + k' < n + k → Q (.ref q4) H'
theorem ok_grown (T : Txt K mg) : FnOk P w K mg base CX0 1 T.a_grown T.fd_grown ["sides", "far"] (sp_grown T) := by
  refine T.F_grown.ok sc_grown (fun vs H Q E h => ?_) (fun cdv A outer s H vs Q E hr h => ?_)
  · obtain ⟨s4, far, size, step, far0, p, n, b, k, beat, lap, g, rfl, _⟩ := h
    rfl
  · obtain ⟨s4, far, size, step, far0, p, n, b, k, beat, lap, g, rfl, h⟩ := h
    refine ⟨_, pss_cons (ps_asg (pv 0) (pg_tup (by rfl) (pgs_cons (pg_name (i := 2) sc_grown.nd rfl (.inl rfl)) (pgs_cons (pg_name (i := 3) sc_grown.nd rfl (.inl rfl)) (pgs_cons (pg_name (i := 4) sc_grown.nd rfl (.inl rfl)) (pgs_cons (pg_name (i := 5) sc_grown.nd rfl (.inl rfl)) (pgs_nil)))))))
 (pss_cons (ps_if (pt_cmpR op_gt (pv 3) (pv 5) (nomark _))
  (pss_cons (ps_set (i := 6) sc_grown.nd rfl (.inl rfl) (pe_callB (call_min2 (by rfl)) (by rfl) T.z_min (by decide +kernel) (pa_cons (pe_op op_fdivW (pe_op op_sub (pv 3) pe_int) (pv 5)) (pa_cons (pe_op op_fdivW (pe_op op_sub (pe_op op_add (pe_op op_sub (pv 3) (pv 1)) (pv 5)) pe_int) (pv 5)) pa_nil))))
 (pss_one (ps_ret (pe_tup (pa_cons (pe_op op_add (pv 2) (pe_op op_mulB (pv 6) (pv 4))) (pa_cons (pe_op op_sub (pv 3) (pe_op op_mulB (pv 6) (pv 5))) (pa_cons (pv 4) (pa_cons (pv 5) pa_nil))))))))
  (pss_nil))
 (pss_cons (ps_set (i := 6) sc_grown.nd rfl (.inl rfl) (pe_op op_fdivW (pe_op op_sub (pv 5) pe_int) (pv 3)))
 (pss_one (ps_ret (pe_tup (pa_cons (pv 2) (pa_cons (pv 3) (pa_cons (pe_op op_add (pv 4) (pe_op op_mulB (pv 6) (pv 2))) (pa_cons (pe_op op_sub (pv 5) (pe_op op_mulB (pv 6) (pv 3))) pa_nil))))))))), ?_⟩
    obtain ⟨e4, I, L, hs, hf, hg, q⟩ := h
    have F := I.f
    have a1 := F.p1
    have a2 := F.n1
    have a3 := F.b1
    have a4 := F.k1
    have fl := F.lt
    have f0 := I.f0
    walk_at "go"
    refine g_gtup (SqT.of e4) rfl ?_
    walk_at "go"
    refine g_dec (fun hk => ?_) (fun hk => ?_)
    · obtain ⟨t, ht⟩ : ∃ t, t = if (n - far + k - 1) / k < (n - 1) / k then (n - far + k - 1) / k else (n - 1) / k := ⟨_, rfl⟩
      obtain ⟨t1, tk, J⟩ := I.ahead hk hf ht
      have fl2 := J.f.lt
      have tn : t ≤ n := by
        have := mul_ge a4 (show 0 ≤ t by omega)
        rw [Int.mul_comm] at this
        omega
      have t2 := mul_ge t1 (show 0 ≤ k by omega)
      walk_at "go"
      refine g_div (divW (by omega) (by omega)) ?_
      walk_at "go"
      refine g_div (divW (by omega) (by omega)) ?_
      walk_at "go"
      rw [← ht]
      walk_at "go"
      refine g_mul (mulB (by omega) (by omega)) ?_
      walk_at "go"
      refine g_mul (mulB (by omega) (by omega)) ?_
      walk_at "go"
      refine g_len (by simp) fun pq nq => ?_
      exact q pq _ _ _ _ _ (same_upd nq) upd_same J (by omega)
    · obtain ⟨t, ht⟩ : ∃ t, t = (k - 1) / n := ⟨_, rfl⟩
      obtain ⟨t1, tk, J⟩ := I.behind L hk hf hg ht
      have fl2 := J.f.lt
      have tn : t ≤ k := by
        have := mul_ge a2 (show 0 ≤ t by omega)
        rw [Int.mul_comm] at this
        omega
      have t2 := mul_ge t1 (show 0 ≤ n by omega)
      walk_at "go"
      refine g_div (divW (by omega) (by omega)) ?_
      rw [← ht]
      walk_at "go"
      refine g_mul (mulB (by omega) (by omega)) ?_
      walk_at "go"
      refine g_mul (mulB (by omega) (by omega)) ?_
      walk_at "go"
      refine g_len (by simp) fun pq nq => ?_
      exact q pq _ _ _ _ _ (same_upd nq) upd_same J (by omega)
theorem rows_few {far : Int} {j : Nat} (h : (2 : Int) ^ j * far ≤ 1000000000000000000000000000000000000000000000000000000000000) (hf : 1 ≤ far) : j ≤ 200 := by
  apply Decidable.byContradiction
  intro z
  have h1 : (2 : Int) ^ 201 ≤ (2 : Int) ^ j := by
    obtain ⟨d, rfl⟩ : ∃ d, j = 201 + d := ⟨j - 201, by omega⟩
    have hd : (0 : Int) < 2 ^ d := Int.pow_pos (by decide)
    have := Int.mul_le_mul_of_nonneg_left (show (1 : Int) ≤ 2 ^ d by omega) (show (0 : Int) ≤ 2 ^ 201 by decide +kernel)
    rw [Int.pow_add]
    generalize (2 : Int) ^ 201 * 2 ^ d = z at *
    omega
  have h2 : (2 : Int) ^ j * 1 ≤ (2 : Int) ^ j * far := Int.mul_le_mul_of_nonneg_left hf (by have : (0 : Int) < 2 ^ j := Int.pow_pos (by decide); omega)
  have h3 : (2 : Int) ^ 201 > 1000000000000000000000000000000000000000000000000000000000000 := by decide +kernel
  omega
def sp_nearing (T : Txt K mg) : Sp := fun vs H Q E => ∃ (p : Addr) (v : V) (size step start : Int), vs = [.ref p, v] ∧ Whl T.C_Wheel H p size step start ∧
  ((∃ place, v = .int place ∧ 0 ≤ place ∧ place < size ∧ ∀ (l : Addr) (H' : Hp) (rows : List Row), Same H H' → H l = none → TupsAt H' l (rows.map Row.vs) → Chain size step (Int.gcd size step : Int) ((place - start) % size) 0 ((place - start) % size) rows → rows.length ≤ 201 → Q (.ref l) H') ∨
   (Bad K H v 0 (size - 1) ∧ E (.ref T.C_NoPlace) none H))
theorem ok_nearing (T : Txt K mg) : FnOk P w K mg base (L2.CX P w) 3 T.a_nearing T.fd_nearing ["wheel", "place"] (sp_nearing T) := by
  refine T.F_nearing.okX sc_nearing (fun vs H Q E h => ?_) (fun cdv A outer s H vs Q E hr h => ?_)
  · obtain ⟨p, v, size, step, start, rfl, _⟩ := h
    rfl
  · obtain ⟨p, v, size, step, start, rfl, h⟩ := h
    refine ⟨_, pss_cons (ps_expr (pe_call (ok_need_place T) (hr.mono (by decide)) (by rfl) T.g_need_place T.F_need_place.kp T.b_need_place .nil (passes_call (takes_of rfl rfl rfl rfl) (fun _ _ _ _ h => h)) (pa_cons (pv 0) (pa_cons (pv 1) pa_nil))))
 (pss_cons (ps_set (i := 2) sc_nearing.nd rfl (.inl rfl) (pe_call (ok_common T) (hr.mono (by decide)) (by rfl) T.g_common T.F_common.kp T.b_common .nil pass0 (pa_cons (pe_fld (pv 0) rfl) (pa_cons (pe_fld (pv 0) rfl) pa_nil))))
 (pss_cons (ps_set (i := 3) sc_nearing.nd rfl (.inl rfl) (pe_tup (pa_cons pe_int (pa_cons (pe_fld (pv 0) rfl) (pa_cons pe_int (pa_cons (pe_op op_sub (pe_fld (pv 0) rfl) (pe_fld (pv 0) rfl)) pa_nil))))))
 (pss_cons (ps_set (i := 4) sc_nearing.nd rfl (.inl rfl) pe_int)
 (pss_cons (ps_set (i := 5) sc_nearing.nd rfl (.inl rfl) (pe_op op_mod (pe_op op_sub (pv 1) (pe_fld (pv 0) rfl)) (pe_fld (pv 0) rfl)))
 (pss_cons (ps_set (i := 6) sc_nearing.nd rfl (.inl rfl) (pe_lst (pa_nil)))
 (pss_cons (ps_while (passes_of rfl) (pt_cmpR op_ge (pv 5) (pv 2) (nomark _)) (pss_cons (ps_set (i := 7) sc_nearing.nd rfl (.inl rfl) (pe_ix ix_tup (pv 3) pe_int (fun _ _ => rfl)))
 (pss_cons (ps_set (i := 8) sc_nearing.nd rfl (.inl rfl) (pe_ix ix_tup (pv 3) pe_int (fun _ _ => rfl)))
 (pss_one (ps_if (pt_cmpR op_gt (pv 8) (pv 5) (nomark _))
  (pss_one (ps_set (i := 3) sc_nearing.nd rfl (.inl rfl) (pe_call (ok_grown T) (hr.mono (by decide)) (by rfl) T.g_grown T.F_grown.kp T.b_grown .nil pass0 (pa_cons (pv 3) (pa_cons (pv 5) pa_nil)))))
  (pss_cons (ps_set (i := 9) sc_nearing.nd rfl (.inl rfl) (pe_op op_fdivW (pv 5) (pv 8)))
 (pss_cons (ps_expr (pe_bm PySem.F.plainAttrs_list PySem.F.slot_list_append PySem.F.type_list_append mt_append (pv 6) (pa_cons (pe_tup (pa_cons (pv 4) (pa_cons (pv 5) (pa_cons (pv 7) (pa_cons (pv 8) (pa_cons (pv 9) pa_nil)))))) pa_nil)))
 (pss_cons (ps_set (i := 4) sc_nearing.nd rfl (.inl rfl) (pe_op op_add (pv 4) (pe_op op_mulB (pv 9) (pv 7))))
 (pss_one (ps_set (i := 5) sc_nearing.nd rfl (.inl rfl) (pe_op op_sub (pv 5) (pe_op op_mulB (pv 9) (pv 8)))))))))))))
 (pss_one (ps_ret (pv 6))))))))), ?_⟩
    obtain ⟨W, h⟩ := h
    have w1 := W.s1
    have w2 := W.s2
    have w3 := W.t0
    have w4 := W.t1
    walk_at "gw"
    rcases h with ⟨place, rfl, h1, h2, q⟩ | ⟨hk, q⟩
    · refine ⟨p, _, size, step, start, rfl, W, .inl ⟨place, rfl, h1, h2, ?_⟩⟩
      walk_at "gw"
      refine ⟨_, _, rfl, by omega, w3, ?_⟩
      have L : Lap size step (size / (Int.gcd size step : Int)) (Int.gcd size step : Int) := Lap.mk' (by omega)
      have x0 := Int.emod_nonneg (place - start) (show size ≠ 0 by omega)
      have x1 := Int.emod_lt_of_pos (place - start) (show 0 < size by omega)
      have gz : step = 0 → (Int.gcd size step : Int) = size := fun z => by
        subst z
        rw [Int.gcd_zero_right]
        omega
      have g1 := L.g1
      generalize (Int.gcd size step : Int) = g at L gz g1 q ⊢
      generalize size / g = lap at L
      walk_at "gw"
      refine g_len (by simp) fun ps nps => ?_
      have s1 : Same H (upd H ps (.tup [.int 1, .int step, .int 1, .int (size - step)])) := same_upd nps
      have e1 : (upd H ps (.tup [.int 1, .int step, .int 1, .int (size - step)])) ps = some (.tup [.int 1, .int step, .int 1, .int (size - step)]) := upd_same
      generalize upd H ps (.tup [.int 1, .int step, .int 1, .int (size - step)]) = H1 at s1 e1
      have W1 := W.same s1
      walk_at "gw"
      generalize (place - start) % size = far0 at x0 x1 q ⊢
      refine g_len (by simp) fun pr npr => ?_
      have nr := s1.free npr
      have s2 : Same H (upd H1 pr (.lst [])) := s1.trans (same_upd npr)
      have e2 := same_upd (o := .lst []) npr _ _ e1
      have r2 : (upd H1 pr (.lst [])) pr = some (.lst []) := upd_same
      generalize upd H1 pr (.lst []) = H2 at s2 e2 r2
      refine g_while (fun m σ H' => ∃ (s4 : Addr) (a n b k beat far : Int) (acc : List Row) (v7 v8 v9 : Option V), σ = [some (.ref p), some (.int place), some (.int g), some (.ref s4), some (.int beat), some (.int far), some (.ref pr), v7, v8, v9] ∧ Same H H' ∧ H' s4 = some (.tup [.int a, .int n, .int b, .int k]) ∧
          TupsAt H' pr (acc.map Row.vs) ∧ (g ≤ far → NI size step far0 a n b k beat far) ∧ (0 ≤ beat ∧ 0 ≤ far ∧ far < size ∧ size ∣ far0 - beat * step - far ∧ ∀ e, 0 ≤ e → e < beat → far < dist size step far0 e) ∧
          (∀ rest, Chain size step g far0 beat far rest → Chain size step g far0 0 far0 (acc ++ rest)) ∧ (2 : Int) ^ acc.length * far ≤ 1000000000000000000000000000000000000000000000000000000000000 ∧ acc.length ≤ 201 ∧ m = (n + k + far).toNat) _
        ⟨ps, 1, step, 1, size - step, 0, far0, [], _, _, _, rfl, s2, e2, TupsAt.nil r2, fun hg => ni_start (by omega) (by
            apply Decidable.byContradiction
            intro c
            have := gz (by omega)
            omega) w4 x0 x1, ⟨Int.le_refl _, x0, x1, ⟨0, by omega⟩, fun e _ _ => by omega⟩, fun rest h => h, by show (1 : Int) * far0 ≤ _; omega, by decide, rfl⟩ ?_
      rintro m σ H' ⟨s4, a, n, b, k, beat, far, acc, v7, v8, v9, rfl, sx, e4, R, hNI, hb, hC, hp, hlen, rfl⟩
      have W2 := W.same sx
      walk_at "gw"
      refine g_dec (fun hm => ?_) (fun hm => ?_)
      · have I := hNI hm
        have F := I.f
        have a1 := F.p1
        have a2 := F.n1
        have a3 := F.b1
        have a4 := F.k1
        have fl := F.lt
        refine g_body ?_
        walk_at "gw"
        refine g_ixT (SqT.of e4) (v := .int a) rfl ?_
        walk_at "gw"
        refine g_ixT (SqT.of e4) (v := .int n) rfl ?_
        walk_at "gw"
        refine g_dec (fun hc => ?_) (fun hc => ?_)
        · walk_at "gw"
          refine ⟨s4, far, size, step, far0, a, n, b, k, beat, lap, g, rfl, e4, I, L, w2, hc, hm, fun q4 H3 a' n' b' k' s3 e3 J hlt => ?_⟩
          walk_at "gw"
          have := J.f.n1
          have := J.f.k1
          exact ⟨_, by omega, q4, a', n', b', k', beat, far, acc, _, _, _, rfl, sx.trans s3, e3, R.same s3, fun _ => J, hb, hC, hp, hlen, rfl⟩
        · walk_at "gw"
          refine g_div (divW (by omega) (by omega)) ?_
          have t1 : 1 ≤ far / n := (Int.le_ediv_iff_mul_le (by omega)).mpr (by omega)
          have em := Int.emod_add_mul_ediv far n
          have em0 := Int.emod_nonneg far (show n ≠ 0 by omega)
          have em1 := Int.emod_lt_of_pos far (show 0 < n by omega)
          have tc : far / n * n = n * (far / n) := Int.mul_comm _ _
          have J := I.jump (t := far / n) (by omega) (by omega)
          have hC2 : ∀ rest, Chain size step g far0 (beat + far / n * a) (far - far / n * n) rest → Chain size step g far0 0 far0 ((acc ++ [⟨beat, far, a, n, far / n⟩]) ++ rest) := fun rest h => by
            rw [List.append_assoc]
            exact hC _ (.cons I (by omega) h)
          have tle : far / n ≤ far := Int.ediv_le_self _ (by omega)
          have few := rows_few hp (by omega)
          walk_at "gw"
          obtain ⟨ts, l1, l2, l3⟩ := R
          refine g_ty l1 ?_
          walk_at "gw"
          refine g_len (by simp) fun pt nt => ?_
          have s3 : Same H' (upd H' pt (.tup [.int beat, .int far, .int a, .int n, .int (far / n)])) := same_upd nt
          have et : (upd H' pt (.tup [.int beat, .int far, .int a, .int n, .int (far / n)])) pt = some (.tup [.int beat, .int far, .int a, .int n, .int (far / n)]) := upd_same
          generalize upd H' pt (.tup [.int beat, .int far, .int a, .int n, .int (far / n)]) = H3 at s3 et
          walk_at "gw"
          refine g_app (s3 _ _ l1) (by rw [List.length_map, l2, List.length_map]; omega) ?_
          have R3 := TupsAt.snoc (s3 _ _ l1) l2 (fun i xs h => by
            obtain ⟨t, u1, u2⟩ := l3 i xs h
            exact ⟨t, u1, s3 _ _ u2⟩) et
          have e43 : (upd H3 pr (.lst (ts.map V.ref ++ [.ref pt]))) s4 = some (.tup [.int a, .int n, .int b, .int k]) := by
            have h := s3 _ _ e4
            rw [upd_ne (fun z => by rw [z, s3 _ _ l1] at h; cases h)]
            exact h
          have s4' : Same H (upd H3 pr (.lst (ts.map V.ref ++ [.ref pt]))) := same_mut nr (sx.trans s3)
          generalize upd H3 pr (.lst (ts.map V.ref ++ [.ref pt])) = H4 at R3 e43 s4'
          walk_at "gw"
          have J2 := J
          have bnd : far / n * a ≤ 1000000000000000000000000000000000000000000000000000000000000 * 1000000000000000000000000000000000000000000000000000000000000 := (mul_bd (show 0 ≤ far / n by omega) (show far / n ≤ 1000000000000000000000000000000000000000000000000000000000000 by omega) (show 0 ≤ a by omega) (show a ≤ 1000000000000000000000000000000000000000000000000000000000000 by omega)).2
          refine g_mul (mulB (by omega) (by omega)) ?_
          walk_at "gw"
          refine g_mul (mulB (by omega) (by omega)) ?_
          walk_at "gw"
          have tn1 := mul_ge t1 (show 0 ≤ n by omega)
          refine ⟨_, by omega, s4, a, n, b, k, beat + far / n * a, far - far / n * n, acc ++ [⟨beat, far, a, n, far / n⟩], _, _, _, rfl, s4', e43, ?_, fun _ => J, ⟨J.b0, J.f0, J.fs, J.df, J.best⟩, hC2, ?_, ?_, rfl⟩
          · rw [List.map_append]
            exact R3
          · rw [List.length_append]
            show (2 : Int) ^ (acc.length + 1) * (far - far / n * n) ≤ _
            rw [Int.pow_succ, Int.mul_assoc]
            have : (2 : Int) ^ acc.length * (2 * (far - far / n * n)) ≤ 2 ^ acc.length * far := Int.mul_le_mul_of_nonneg_left (by omega) (by have : (0 : Int) < 2 ^ acc.length := Int.pow_pos (by decide); omega)
            omega
          · rw [List.length_append]
            show acc.length + 1 ≤ 201
            omega
      · walk_at "gw"
        have fin := hC [] (.nil (by omega) hb.1 hb.2.1 hb.2.2.1 hb.2.2.2.1 hb.2.2.2.2)
        rw [List.append_nil] at fin
        exact q pr H' acc sx nr R fin hlen
    · exact ⟨p, _, size, step, start, rfl, W, .inr ⟨hk, q⟩⟩
def sp_nearest (T : Txt K mg) : Sp := fun vs H Q E => ∃ (p : Addr) (v w : V) (size step start : Int), vs = [.ref p, v, w] ∧ Whl T.C_Wheel H p size step start ∧
  ((∃ many place, v = .int many ∧ w = .int place ∧ (1 ≤ many ∧ many ≤ 1000000000000000000000000000000000000000000000000000000000000) ∧ (0 ≤ place ∧ place < size) ∧ ∀ r H', Same H H' → Nearest size step ((place - start) % size) many r → Q (.int r) H') ∨
   (Bad K H v 1 1000000000000000000000000000000000000000000000000000000000000 ∧ E (.ref T.C_NoBeats) none H) ∨
   ((∃ many, v = .int many ∧ 1 ≤ many ∧ many ≤ 1000000000000000000000000000000000000000000000000000000000000) ∧ Bad K H w 0 (size - 1) ∧ E (.ref T.C_NoPlace) none H))
theorem ok_nearest (T : Txt K mg) : FnOk P w K mg base (L2.CX P w) 4 T.a_nearest T.fd_nearest ["wheel", "many", "place"] (sp_nearest T) := by
  refine T.F_nearest.okX sc_nearest (fun vs H Q E h => ?_) (fun cdv A outer s H vs Q E hr h => ?_)
  · obtain ⟨p, v, w, size, step, start, rfl, _⟩ := h
    rfl
  · obtain ⟨p, v, w, size, step, start, rfl, h⟩ := h
    refine ⟨_, pss_cons (ps_expr (pe_call (ok_need_beats T) (hr.mono (by decide)) (by rfl) T.g_need_beats T.F_need_beats.kp T.b_need_beats .nil (passes_call (takes_of rfl rfl rfl rfl) (fun _ _ _ _ h => h)) (pa_cons (pv 1) (pa_cons pe_int pa_nil))))
 (pss_cons (ps_set (i := 3) sc_nearest.nd rfl (.inl rfl) pe_int)
 (pss_cons (ps_for (passes_of rfl) rfl (pi_list (pe_call (ok_nearing T) (hr.mono (by decide)) (by rfl) T.g_nearing T.F_nearing.kp T.b_nearing .nil (passes_call (takes_of rfl rfl rfl rfl) (fun _ _ _ _ h => h)) (pa_cons (pv 0) (pa_cons (pv 2) pa_nil)))) (pg_tup (by rfl) (pgs_cons (pg_name (i := 4) sc_nearest.nd rfl (.inl rfl)) (pgs_cons (pg_name (i := 5) sc_nearest.nd rfl (.inl rfl)) (pgs_cons (pg_name (i := 6) sc_nearest.nd rfl (.inl rfl)) (pgs_cons (pg_name (i := 7) sc_nearest.nd rfl (.inl rfl)) (pgs_cons (pg_name (i := 8) sc_nearest.nd rfl (.inl rfl)) (pgs_nil))))))) (pss_one (ps_if (pt_cmpR op_lt (pv 4) (pv 1) (nomark _))
  (pss_one (ps_set (i := 3) sc_nearest.nd rfl (.inl rfl) (pe_op op_add (pv 4) (pe_op op_mulB (pe_callB (call_min2 (by rfl)) (by rfl) T.z_min (by decide +kernel) (pa_cons (pv 8) (pa_cons (pe_op op_fdivW (pe_op op_sub (pe_op op_sub (pv 1) pe_int) (pv 4)) (pv 6)) pa_nil))) (pv 6)))))
  (pss_nil))))
 (pss_one (ps_ret (pv 3))))), ?_⟩
    obtain ⟨W, h⟩ := h
    have w1 := W.s1
    have w2 := W.s2
    walk_at "gw"
    rcases h with ⟨many, place, rfl, rfl, hm, hp, q⟩ | ⟨hk, q⟩ | ⟨⟨many, rfl, hm⟩, hb, q⟩
    · refine ⟨_, 1, rfl, .inl ⟨many, rfl, hm.1, hm.2, ?_⟩⟩
      walk_at "gw"
      refine ⟨p, _, size, step, start, rfl, W, .inl ⟨place, rfl, hp.1, hp.2, fun l H1 rows s1 nl R C hlen => ?_⟩⟩
      have L : Lap size step (size / (Int.gcd size step : Int)) (Int.gcd size step : Int) := Lap.mk' (by omega)
      have x0 := Int.emod_nonneg (place - start) (show size ≠ 0 by omega)
      have x1 := Int.emod_lt_of_pos (place - start) (show 0 < size by omega)
      generalize (place - start) % size = far0 at C x0 x1 q
      obtain ⟨ts, el, hl, hr⟩ := R
      rw [List.length_map] at hl
      refine g_overL (SqL.of el) (fun i σ' H' => ∃ (r beat far : Int) (v4 v5 v6 v7 v8 : Option V), σ' = [some (.ref p), some (.int many), some (.int place), some (.int r), v4, v5, v6, v7, v8] ∧ H' = H1 ∧ Chain size step (Int.gcd size step : Int) far0 beat far (rows.drop i) ∧ ((r = beat ∧ beat < many) ∨ (many ≤ beat ∧ Nearest size step far0 many r)))
        ⟨0, 0, far0, _, _, _, _, _, rfl, rfl, C, .inl ⟨rfl, by omega⟩⟩ (fun i σ' H' _ h => ?_) ?_ ?_
      · obtain ⟨_, _, _, _, _, _, _, _, _, rfl, _⟩ := h
        exact SqL.of el
      · rintro i x σ' H' hx ⟨r, beat, far, v4, v5, v6, v7, v8, rfl, rfl, Ci, hr2⟩
        obtain ⟨t, ht, rfl⟩ := map_at hx
        have hi : i < rows.length := by
          have := (List.getElem?_eq_some_iff.mp ht).1
          omega
        have hq : rows[i]? = some rows[i] := List.getElem?_eq_getElem hi
        rw [List.drop_eq_getElem_cons hi] at Ci
        obtain ⟨t', ht', et⟩ := hr i rows[i].vs (by rw [List.getElem?_map, hq]; rfl)
        rw [ht] at ht'
        cases ht'
        generalize rows[i] = rw_ at *
        cases Ci with
        | @cons a n b k _ _ _ I hn Cr =>
        have a1 := I.f.p1
        have a2 := I.f.n1
        have f0 := I.f0
        have fs := I.fs
        have fl := I.f.lt
        have b0 := I.b0
        have q0 : 0 ≤ far / n := Int.ediv_nonneg (by omega) (by omega)
        have q1 : 0 ≤ far / n * a := Int.mul_nonneg q0 (by omega)
        refine g_gtup (SqT.of (xs := [.int beat, .int far, .int a, .int n, .int (far / n)]) et) rfl ?_
        walk_at "gw"
        refine g_dec (fun hc => ?_) (fun hc => ?_)
        · have hrb : r = beat := by
            rcases hr2 with h | h
            · exact h.1
            · omega
          subst hrb
          obtain ⟨u, hu⟩ : ∃ u, u = if (many - 1 - r) / a < far / n then (many - 1 - r) / a else far / n := ⟨_, rfl⟩
          obtain ⟨u0, u1, u2, u3⟩ := I.near_row hn hc hu
          have ub : u ≤ far / n := by
            rw [hu]
            split <;> omega
          have ule := Int.ediv_le_self n f0
          walk_at "gw"
          refine g_div (divW (by omega) (by omega)) ?_
          walk_at "gw"
          rw [← hu]
          refine g_mul (mulB (by omega) (by omega)) ?_
          walk_at "gw"
          refine ⟨r + u * a, _, _, _, _, _, _, _, rfl, rfl, Cr, ?_⟩
          by_cases c : many ≤ r + far / n * a
          · exact .inr ⟨c, u2 c⟩
          · left
            rw [u3 c] at u1 ⊢
            exact ⟨rfl, u1⟩
        · walk_at "gw"
          refine ⟨r, _, _, _, _, _, _, _, rfl, rfl, Cr, .inr ⟨by omega, ?_⟩⟩
          rcases hr2 with h | h
          · omega
          · exact h.2
      · rintro σ' H' ⟨r, beat, far, v4, v5, v6, v7, v8, rfl, rfl, Ci, hr2⟩
        rw [List.length_map, hl, List.drop_length] at Ci
        walk_at "gw"
        refine q r H' s1 ?_
        rcases hr2 with ⟨rfl, h⟩ | h
        · cases Ci with
          | nil fg b0 f0 fs df best =>
            refine ⟨b0, h, fun e _ _ => ?_, fun e e0 e1 => ?_⟩
            · rw [dist_eq df f0 fs]
              exact far_all L fg df e
            · rw [dist_eq df f0 fs]
              exact best e e0 e1
        · exact h.2
    · exact ⟨_, 1, rfl, .inr ⟨hk, q⟩⟩
    · refine ⟨_, 1, rfl, .inl ⟨many, rfl, hm.1, hm.2, ?_⟩⟩
      walk_at "gw"
      exact ⟨p, _, size, step, start, rfl, W, .inr ⟨hb, q⟩⟩
theorem mod_le {x g : Int} (h0 : 0 ≤ x) (h1 : 1 ≤ g) : x % g ≤ x := by
  have e := Int.emod_add_mul_ediv x g
  have : 0 ≤ g * (x / g) := Int.mul_nonneg (by omega) (Int.ediv_nonneg h0 (by omega))
  omega
def sp_first_in (T : Txt K mg) : Sp := fun vs H Q E => ∃ (p : Addr) (v w : V) (size step start : Int), vs = [.ref p, v, w] ∧ Whl T.C_Wheel H p size step start ∧
  ((∃ low high, v = .int low ∧ w = .int high ∧ (0 ≤ low ∧ low < size) ∧ (0 ≤ high ∧ high < size) ∧
      (((high - start) % size % (Int.gcd size step : Int) ≤ (high - low) % size → ∀ r H', Same H H' → FirstAt size step ((high - start) % size) ((high - low) % size) r → Q (.int r) H') ∧
       ((high - low) % size < (high - start) % size % (Int.gcd size step : Int) → ∀ H', Same H H' → Q .non H'))) ∨
   ((Bad K H v 0 (size - 1) ∨ ((∃ low, v = .int low ∧ 0 ≤ low ∧ low < size) ∧ Bad K H w 0 (size - 1))) ∧ E (.ref T.C_NoPlace) none H))
theorem ok_first_in (T : Txt K mg) : FnOk P w K mg base (L2.CX P w) 4 T.a_first_in T.fd_first_in ["wheel", "low", "high"] (sp_first_in T) := by
  refine T.F_first_in.okX sc_first_in (fun vs H Q E h => ?_) (fun cdv A outer s H vs Q E hr h => ?_)
  · obtain ⟨p, v, w, size, step, start, rfl, _⟩ := h
    rfl
  · obtain ⟨p, v, w, size, step, start, rfl, h⟩ := h
    refine ⟨_, pss_cons (ps_expr (pe_call (ok_need_place T) (hr.mono (by decide)) (by rfl) T.g_need_place T.F_need_place.kp T.b_need_place .nil (passes_call (takes_of rfl rfl rfl rfl) (fun _ _ _ _ h => h)) (pa_cons (pv 0) (pa_cons (pv 1) pa_nil))))
 (pss_cons (ps_expr (pe_call (ok_need_place T) (hr.mono (by decide)) (by rfl) T.g_need_place T.F_need_place.kp T.b_need_place .nil (passes_call (takes_of rfl rfl rfl rfl) (fun _ _ _ _ h => h)) (pa_cons (pv 0) (pa_cons (pv 2) pa_nil))))
 (pss_cons (ps_set (i := 3) sc_first_in.nd rfl (.inl rfl) (pe_op op_mod (pe_op op_sub (pv 2) (pv 1)) (pe_fld (pv 0) rfl)))
 (pss_cons (ps_if (pt_cmpR op_le (pe_op op_mod (pe_op op_sub (pv 2) (pe_fld (pv 0) rfl)) (pe_fld (pv 0) rfl)) (pv 3) (nomark _))
  (pss_one (ps_ret pe_int))
  (pss_nil))
 (pss_cons (ps_for (passes_of rfl) rfl (pi_list (pe_call (ok_nearing T) (hr.mono (by decide)) (by rfl) T.g_nearing T.F_nearing.kp T.b_nearing .nil (passes_call (takes_of rfl rfl rfl rfl) (fun _ _ _ _ h => h)) (pa_cons (pv 0) (pa_cons (pv 2) pa_nil)))) (pg_tup (by rfl) (pgs_cons (pg_name (i := 4) sc_first_in.nd rfl (.inl rfl)) (pgs_cons (pg_name (i := 5) sc_first_in.nd rfl (.inl rfl)) (pgs_cons (pg_name (i := 6) sc_first_in.nd rfl (.inl rfl)) (pgs_cons (pg_name (i := 7) sc_first_in.nd rfl (.inl rfl)) (pgs_cons (pg_name (i := 8) sc_first_in.nd rfl (.inl rfl)) (pgs_nil))))))) (pss_cons (ps_set (i := 9) sc_first_in.nd rfl (.inl rfl) (pe_op op_fdivW (pe_op op_sub (pe_op op_add (pe_op op_sub (pv 5) (pv 3)) (pv 7)) pe_int) (pv 7)))
 (pss_one (ps_if (pt_cmpR op_le (pv 9) (pv 8) (nomark _))
  (pss_one (ps_ret (pe_op op_add (pv 4) (pe_op op_mulB (pv 9) (pv 6)))))
  (pss_nil)))))
 (pss_one (ps_ret pe_non)))))), ?_⟩
    obtain ⟨W, h⟩ := h
    have w1 := W.s1
    have w2 := W.s2
    walk_at "gw"
    rcases h with ⟨low, high, rfl, rfl, hlo, hhi, q1, q2⟩ | ⟨hb, q⟩
    · refine ⟨p, _, size, step, start, rfl, W, .inl ⟨low, rfl, hlo.1, hlo.2, ?_⟩⟩
      walk_at "gw"
      refine ⟨p, _, size, step, start, rfl, W, .inl ⟨high, rfl, hhi.1, hhi.2, ?_⟩⟩
      walk_at "gw"
      have L : Lap size step (size / (Int.gcd size step : Int)) (Int.gcd size step : Int) := Lap.mk' (by omega)
      have x0 := Int.emod_nonneg (high - start) (show size ≠ 0 by omega)
      have x1 := Int.emod_lt_of_pos (high - start) (show 0 < size by omega)
      have y0 := Int.emod_nonneg (high - low) (show size ≠ 0 by omega)
      have y1 := Int.emod_lt_of_pos (high - low) (show 0 < size by omega)
      generalize (high - low) % size = width at y0 y1 q1 q2 ⊢
      generalize hf0 : (high - start) % size = far0 at x0 x1 q1 q2 ⊢
      have g1 := L.g1
      have mle : far0 % (Int.gcd size step : Int) ≤ far0 := mod_le x0 g1
      refine g_dec (fun hc => ?_) (fun hc => ?_)
      · walk_at "gw"
        refine q1 (by omega) 0 H (Same.refl _) ⟨Int.le_refl _, ?_, fun e _ _ => by omega⟩
        rw [dist_eq (x := far0) ⟨0, by omega⟩ x0 x1]
        exact hc
      · walk_at "gw"
        refine ⟨p, _, size, step, start, rfl, W, .inl ⟨high, rfl, hhi.1, hhi.2, fun l H1 rows s1 nl R C hlen => ?_⟩⟩
        rw [hf0] at C
        obtain ⟨ts, el, hl, hr⟩ := R
        rw [List.length_map] at hl
        refine g_overL (SqL.of el) (fun i σ' H' => ∃ (beat far : Int) (v4 v5 v6 v7 v8 v9 : Option V), σ' = [some (.ref p), some (.int low), some (.int high), some (.int width), v4, v5, v6, v7, v8, v9] ∧ H' = H1 ∧ Chain size step (Int.gcd size step : Int) far0 beat far (rows.drop i) ∧ width < far)
          ⟨0, far0, _, _, _, _, _, _, rfl, rfl, C, by omega⟩ (fun i σ' H' _ h => ?_) ?_ ?_
        · obtain ⟨_, _, _, _, _, _, _, _, _, rfl, _⟩ := h
          exact SqL.of el
        · rintro i x σ' H' hx ⟨beat, far, v4, v5, v6, v7, v8, v9, rfl, rfl, Ci, hwf⟩
          obtain ⟨t, ht, rfl⟩ := map_at hx
          have hi : i < rows.length := by
            have := (List.getElem?_eq_some_iff.mp ht).1
            omega
          have hq : rows[i]? = some rows[i] := List.getElem?_eq_getElem hi
          rw [List.drop_eq_getElem_cons hi] at Ci
          obtain ⟨t', ht', et⟩ := hr i rows[i].vs (by rw [List.getElem?_map, hq]; rfl)
          rw [ht] at ht'
          cases ht'
          generalize rows[i] = rw_ at *
          cases Ci with
          | @cons a n b k _ _ _ I hn Cr =>
          have a1 := I.f.p1
          have a2 := I.f.n1
          have f0 := I.f0
          have fs := I.fs
          have fl := I.f.lt
          obtain ⟨w_, hw⟩ : ∃ w_, w_ = (far - width + n - 1) / n := ⟨_, rfl⟩
          obtain ⟨u0, u1, u2⟩ := I.first hn y0 hwf hw
          have ule := Int.ediv_le_self n f0
          refine g_gtup (SqT.of (xs := [.int beat, .int far, .int a, .int n, .int (far / n)]) et) rfl ?_
          walk_at "gw"
          refine g_div (divW (by omega) (by omega)) ?_
          rw [← hw]
          walk_at "gw"
          refine g_dec (fun hc => ?_) (fun hc => ?_)
          · walk_at "gw"
            refine g_mul (mulB (by omega) (by omega)) ?_
            walk_at "gw"
            have F := u1 hc
            have gle : far0 % (Int.gcd size step : Int) ≤ width := by
              have d := dist_dvd (size := size) (step := step) (far0 := far0) (beat + w_ * a)
              have i1 := dist_in (step := step) (far0 := far0) L.pos (beat + w_ * a)
              have hd := F.2.1
              generalize dist size step far0 (beat + w_ * a) = y at d i1 hd
              have gd : (Int.gcd size step : Int) ∣ size := Int.gcd_dvd_left ..
              have h1 : (Int.gcd size step : Int) ∣ far0 - y := by
                have h2 := Int.dvd_trans gd d
                have h3 : (Int.gcd size step : Int) ∣ (beat + w_ * a) * step := Int.dvd_mul_of_dvd_right L.gs
                have := Int.dvd_add h2 h3
                rw [show far0 - (beat + w_ * a) * step - y + (beat + w_ * a) * step = far0 - y by omega] at this
                exact this
              obtain ⟨c, hc2⟩ := h1
              have : far0 % (Int.gcd size step : Int) = y % (Int.gcd size step : Int) := by
                rw [show far0 = y + (Int.gcd size step : Int) * c by omega, Int.add_mul_emod_self_left]
              have := mod_le i1.1 g1
              omega
            exact q1 gle _ H' s1 F
          · walk_at "gw"
            exact ⟨_, _, _, _, _, _, _, _, rfl, rfl, Cr, u2 hc⟩
        · rintro σ' H' ⟨beat, far, v4, v5, v6, v7, v8, v9, rfl, rfl, Ci, hwf⟩
          rw [List.length_map, hl, List.drop_length] at Ci
          walk_at "gw"
          cases Ci with
          | nil fg b0 f0 fs df best =>
            refine q2 ?_ H' s1
            rw [far_mod L f0 fg df]
            exact hwf
    · rcases hb with hb | ⟨⟨low, rfl, hlo⟩, hb⟩
      · exact ⟨p, _, size, step, start, rfl, W, .inr ⟨hb, q⟩⟩
      · refine ⟨p, _, size, step, start, rfl, W, .inl ⟨low, rfl, hlo.1, hlo.2, ?_⟩⟩
        walk_at "gw"
        exact ⟨p, _, size, step, start, rfl, W, .inr ⟨hb, q⟩⟩
theorem slant_bd {n a b s B : Int} (hn : 0 < n) (n1 : n ≤ B) (hs : 1 ≤ s) (s1 : s ≤ B) : 0 ≤ b % s ∧ b % s < s ∧ 0 ≤ a % s ∧ a % s < s ∧ 0 ≤ n * (a % s) ∧ n * (a % s) ≤ B * B := by
  have r0 := Int.emod_nonneg b (show s ≠ 0 by omega)
  have r1 := Int.emod_lt_of_pos b (show 0 < s by omega)
  have q0 := Int.emod_nonneg a (show s ≠ 0 by omega)
  have q1 := Int.emod_lt_of_pos a (show 0 < s by omega)
  have h := mul_bd (show 0 ≤ n by omega) n1 q0 (show a % s ≤ B by omega)
  exact ⟨r0, r1, q0, q1, h.1, h.2⟩
def sp_slanted (_ : Txt K mg) : Sp := fun vs H Q _ => ∃ many step start size : Int, vs = [.int many, .int step, .int start, .int size] ∧ (0 ≤ many ∧ many ≤ 10000000000000000000000000000000000000000000000000000000000000000000000000000000000000000000000000000000000000000000000000000000000) ∧ (-10000000000000000000000000000000000000000000000000000000000000000000000000000000000000000000000000000000000000000000000000000000000 ≤ step ∧ step ≤ 10000000000000000000000000000000000000000000000000000000000000000000000000000000000000000000000000000000000000000000000000000000000) ∧ (-10000000000000000000000000000000000000000000000000000000000000000000000000000000000000000000000000000000000000000000000000000000000 ≤ start ∧ start ≤ 10000000000000000000000000000000000000000000000000000000000000000000000000000000000000000000000000000000000000000000000000000000000) ∧ (1 ≤ size ∧ size ≤ 10000000000000000000000000000000000000000000000000000000000000000000000000000000000000000000000000000000000000000000000000000000000) ∧
  ∀ H', Same H H' → Q (.int (S many.toNat step start size)) H'
theorem ok_slanted (T : Txt K mg) : FnOk P w K mg base CX0 1 T.a_slanted T.fd_slanted ["many", "step", "start", "size"] (sp_slanted T) := by
  refine T.F_slanted.ok sc_slanted (fun vs H Q E h => ?_) (fun cdv A outer s H vs Q E hr h => ?_)
  · obtain ⟨many, step, start, size, rfl, _⟩ := h
    rfl
  · obtain ⟨many, step, start, size, rfl, h⟩ := h
    refine ⟨_, pss_cons (ps_set (i := 4) sc_slanted.nd rfl (.inl rfl) pe_int)
 (pss_cons (ps_while PassesOwn.never (pt_cmpR op_gt (pv 0) pe_int (nomark _)) (pss_cons (ps_asg (pe_callB call_divmodW (by rfl) T.z_divmod (by decide +kernel) (pa_cons (pv 1) (pa_cons (pv 3) pa_nil))) (pg_tup (by rfl) (pgs_cons (pg_name (i := 5) sc_slanted.nd rfl (.inl rfl)) (pgs_cons (pg_name (i := 1) sc_slanted.nd rfl (.inl rfl)) (pgs_nil)))))
 (pss_cons (ps_set (i := 4) sc_slanted.nd rfl (.inl rfl) (pe_op op_add (pv 4) (pe_op op_mulB (pv 5) (pe_op op_fdivW (pe_op op_mulB (pv 0) (pe_op op_sub (pv 0) pe_int)) pe_int))))
 (pss_cons (ps_asg (pe_callB call_divmodW (by rfl) T.z_divmod (by decide +kernel) (pa_cons (pv 2) (pa_cons (pv 3) pa_nil))) (pg_tup (by rfl) (pgs_cons (pg_name (i := 5) sc_slanted.nd rfl (.inl rfl)) (pgs_cons (pg_name (i := 2) sc_slanted.nd rfl (.inl rfl)) (pgs_nil)))))
 (pss_cons (ps_set (i := 4) sc_slanted.nd rfl (.inl rfl) (pe_op op_add (pv 4) (pe_op op_mulB (pv 5) (pv 0))))
 (pss_cons (ps_asg (pe_callB call_divmodW (by rfl) T.z_divmod (by decide +kernel) (pa_cons (pe_op op_add (pv 2) (pe_op op_mulB (pv 0) (pv 1))) (pa_cons (pv 3) pa_nil))) (pg_tup (by rfl) (pgs_cons (pg_name (i := 0) sc_slanted.nd rfl (.inl rfl)) (pgs_cons (pg_name (i := 2) sc_slanted.nd rfl (.inl rfl)) (pgs_nil)))))
 (pss_one (ps_par (i := 1) (j := 3) (by rfl) sc_slanted.nd rfl rfl (by decide) rfl rfl (pa_cons (pv 3) (pa_cons (pv 1) pa_nil)) (by rfl)))))))))
 (pss_one (ps_ret (pv 4)))), ?_⟩
    obtain ⟨hm, ht, ha, hs, q⟩ := h
    walk_at "go"
    refine g_while (fun m σ H' => ∃ (n a b s t : Int) (w : Option V), σ = [some (.int n), some (.int a), some (.int b), some (.int s), some (.int t), w] ∧ Same H H' ∧ t + S n.toNat a b s = S many.toNat step start size ∧ (0 ≤ n ∧ n ≤ 10000000000000000000000000000000000000000000000000000000000000000000000000000000000000000000000000000000000000000000000000000000000) ∧ (-10000000000000000000000000000000000000000000000000000000000000000000000000000000000000000000000000000000000000000000000000000000000 ≤ a ∧ a ≤ 10000000000000000000000000000000000000000000000000000000000000000000000000000000000000000000000000000000000000000000000000000000000) ∧ (-10000000000000000000000000000000000000000000000000000000000000000000000000000000000000000000000000000000000000000000000000000000000 ≤ b ∧ b ≤ 10000000000000000000000000000000000000000000000000000000000000000000000000000000000000000000000000000000000000000000000000000000000) ∧ (0 ≤ s ∧ s ≤ 10000000000000000000000000000000000000000000000000000000000000000000000000000000000000000000000000000000000000000000000000000000000) ∧ (0 < n → 1 ≤ s) ∧ m = s.toNat) _
      ⟨many, step, start, size, 0, none, rfl, Same.refl H, by omega, hm, ht, ha, ⟨by omega, hs.2⟩, fun _ => hs.1, rfl⟩ ?_
    rintro m σ H1 ⟨n, a, b, s, t, w, rfl, s1, hS, hn, hta, htb, hts, hp, rfl⟩
    walk_at "go"
    refine g_dec (fun h => ?_) (fun h => ?_)
    · refine g_body ?_
      have hs1 := hp h
      obtain ⟨r0, r1, q0, q1, x0, x1⟩ := slant_bd (a := a) (b := b) h hn.2 hs1 hts.2
      have d1 := ediv_bd hs1 hta.1 hta.2 (by decide)
      have d2 := ediv_bd hs1 htb.1 htb.2 (by decide)
      have y := mul_bd (show 0 ≤ n by omega) hn.2 (show 0 ≤ n - 1 by omega) (show n - 1 ≤ 10000000000000000000000000000000000000000000000000000000000000000000000000000000000000000000000000000000000000000000000000000000000 by omega)
      have y2 := ediv_bd (a := n * (n - 1)) (s := 2) (B := 10000000000000000000000000000000000000000000000000000000000000000000000000000000000000000000000000000000000000000000000000000000000 * 10000000000000000000000000000000000000000000000000000000000000000000000000000000000000000000000000000000000000000000000000000000000) (by decide) (by omega) y.2 (by decide)
      have tm := turn_many (a := a) (b := b) h (show 0 < s by omega)
      have ts := S_turn (a := a) (b := b) h (show 0 < s by omega)
      walk_at "go"
      refine ⟨divP (by omega) (by omega), fun p1 np1 => ?_⟩
      have s2 := s1.trans (same_upd (o := .tup [.int (a / s), .int (a % s)]) np1)
      refine g_gtup (SqT.of upd_same) rfl ?_
      walk_at "go"
      refine g_mul (mulB (by omega) (by omega)) ?_
      walk_at "go"
      refine g_div (divW (by decide) (by decide)) ?_
      walk_at "go"
      refine g_mul (mulB (by omega) (by omega)) ?_
      walk_at "go"
      refine ⟨divP (by omega) (by omega), fun p2 np2 => ?_⟩
      have s3 := s2.trans (same_upd (o := .tup [.int (b / s), .int (b % s)]) np2)
      refine g_gtup (SqT.of upd_same) rfl ?_
      walk_at "go"
      refine g_mul (mulB (by omega) (by omega)) ?_
      walk_at "go"
      refine g_mul (mulB (by omega) (by omega)) ?_
      walk_at "go"
      refine ⟨divP (by omega) (by omega), fun p3 np3 => ?_⟩
      have s4 := s3.trans (same_upd (o := .tup [.int ((b % s + n * (a % s)) / s), .int ((b % s + n * (a % s)) % s)]) np3)
      refine g_gtup (SqT.of upd_same) rfl ?_
      walk_at "go"
      have z0 := Int.emod_nonneg (b % s + n * (a % s)) (show s ≠ 0 by omega)
      have z1 := Int.emod_lt_of_pos (b % s + n * (a % s)) (show 0 < s by omega)
      refine ⟨_, by omega, (b % s + n * (a % s)) / s, s, (b % s + n * (a % s)) % s, a % s, t + a / s * (n * (n - 1) / 2) + b / s * n, _, rfl, s4, ?_, ⟨tm.1, by omega⟩, ⟨by omega, by omega⟩, ⟨by omega, by omega⟩, ⟨q0, by omega⟩, fun z => ?_, rfl⟩
      · rw [← hS, ts]
        omega
      · apply Decidable.byContradiction
        intro c
        have := tm.2.2 (by omega)
        omega
    · walk_at "go"
      have e : n.toNat = 0 := by omega
      rw [e] at hS
      have e2 : t = S many.toNat step start size := by
        have : S 0 a b s = 0 := rfl
        omega
      rw [e2]
      exact q _ s1
/-- what is refused: a many that is none, first; then a place -/
def sp_count_in (T : Txt K mg) : Sp := fun vs H Q E => ∃ (p : Addr) (v lo hi : V) (size step start : Int), vs = [.ref p, v, lo, hi] ∧ Whl T.C_Wheel H p size step start ∧
  ((∃ many low high, v = .int many ∧ lo = .int low ∧ hi = .int high ∧ (0 ≤ many ∧ many ≤ 1000000000000000000000000000000000000000000000000000000000000) ∧ (0 ≤ low ∧ low < size) ∧ (0 ≤ high ∧ high < size) ∧ ∀ H', Same H H' → Q (.int (cntS size step (start - low) ((high - low) % size) many.toNat)) H') ∨
   (Bad K H v 0 1000000000000000000000000000000000000000000000000000000000000 ∧ E (.ref T.C_NoBeats) none H) ∨
   ((∃ many, v = .int many ∧ 0 ≤ many ∧ many ≤ 1000000000000000000000000000000000000000000000000000000000000) ∧ (Bad K H lo 0 (size - 1) ∨ ((∃ low, lo = .int low ∧ 0 ≤ low ∧ low < size) ∧ Bad K H hi 0 (size - 1))) ∧ E (.ref T.C_NoPlace) none H))
theorem ok_count_in (T : Txt K mg) : FnOk P w K mg base (L2.CX P w) 3 T.a_count_in T.fd_count_in ["wheel", "many", "low", "high"] (sp_count_in T) := by
  refine T.F_count_in.okX sc_count_in (fun vs H Q E h => ?_) (fun cdv A outer s H vs Q E hr h => ?_)
  · obtain ⟨p, v, lo, hi, size, step, start, rfl, _⟩ := h
    rfl
  · obtain ⟨p, v, lo, hi, size, step, start, rfl, h⟩ := h
    refine ⟨_, pss_cons (ps_expr (pe_call (ok_need_beats T) (hr.mono (by decide)) (by rfl) T.g_need_beats T.F_need_beats.kp T.b_need_beats .nil (passes_call (takes_of rfl rfl rfl rfl) (fun _ _ _ _ h => h)) (pa_cons (pv 1) (pa_cons pe_int pa_nil))))
 (pss_cons (ps_expr (pe_call (ok_need_place T) (hr.mono (by decide)) (by rfl) T.g_need_place T.F_need_place.kp T.b_need_place .nil (passes_call (takes_of rfl rfl rfl rfl) (fun _ _ _ _ h => h)) (pa_cons (pv 0) (pa_cons (pv 2) pa_nil))))
 (pss_cons (ps_expr (pe_call (ok_need_place T) (hr.mono (by decide)) (by rfl) T.g_need_place T.F_need_place.kp T.b_need_place .nil (passes_call (takes_of rfl rfl rfl rfl) (fun _ _ _ _ h => h)) (pa_cons (pv 0) (pa_cons (pv 3) pa_nil))))
 (pss_cons (ps_set (i := 4) sc_count_in.nd rfl (.inl rfl) (pe_op op_mod (pe_op op_sub (pv 3) (pv 2)) (pe_fld (pv 0) rfl)))
 (pss_cons (ps_set (i := 5) sc_count_in.nd rfl (.inl rfl) (pe_op op_sub (pe_fld (pv 0) rfl) (pv 2)))
 (pss_cons (ps_set (i := 6) sc_count_in.nd rfl (.inl rfl) (pe_call (ok_slanted T) (hr.mono (by decide)) (by rfl) T.g_slanted T.F_slanted.kp T.b_slanted .nil pass0 (pa_cons (pv 1) (pa_cons (pe_fld (pv 0) rfl) (pa_cons (pv 5) (pa_cons (pe_fld (pv 0) rfl) pa_nil))))))
 (pss_one (ps_ret (pe_op op_sub (pv 6) (pe_call (ok_slanted T) (hr.mono (by decide)) (by rfl) T.g_slanted T.F_slanted.kp T.b_slanted .nil pass0 (pa_cons (pv 1) (pa_cons (pe_fld (pv 0) rfl) (pa_cons (pe_op op_sub (pe_op op_sub (pv 5) (pv 4)) pe_int) (pa_cons (pe_fld (pv 0) rfl) pa_nil))))))))))))), ?_⟩
    obtain ⟨W, h⟩ := h
    have w1 := W.s1
    have w2 := W.s2
    have w3 := W.t0
    have w4 := W.t1
    have w5 := W.a0
    have w6 := W.a1
    walk_at "gw"
    rcases h with ⟨many, low, high, rfl, rfl, rfl, hm, hlo, hhi, q⟩ | ⟨hk, q⟩ | ⟨⟨many, rfl, hm⟩, hp, q⟩
    · refine ⟨_, 0, rfl, .inl ⟨many, rfl, hm.1, hm.2, ?_⟩⟩
      walk_at "gw"
      refine ⟨p, _, size, step, start, rfl, W, .inl ⟨low, rfl, hlo.1, hlo.2, ?_⟩⟩
      walk_at "gw"
      refine ⟨p, _, size, step, start, rfl, W, .inl ⟨high, rfl, hhi.1, hhi.2, ?_⟩⟩
      walk_at "gw"
      have x0 := Int.emod_nonneg (high - low) (show size ≠ 0 by omega)
      have x1 := Int.emod_lt_of_pos (high - low) (show 0 < size by omega)
      have sc := S_cnt (size := size) (step := step) (begin := start - low) (by omega) x0 x1 many.toNat
      generalize (high - low) % size = width at x0 x1 sc q ⊢
      refine ⟨many, step, start - low, size, rfl, ⟨by omega, by omega⟩, ⟨by omega, by omega⟩, ⟨by omega, by omega⟩, ⟨by omega, by omega⟩, fun H1 s1 => ?_⟩
      have W1 := W.same s1
      walk_at "gw"
      refine ⟨many, step, start - low - width - 1, size, rfl, ⟨by omega, by omega⟩, ⟨by omega, by omega⟩, ⟨by omega, by omega⟩, ⟨by omega, by omega⟩, fun H2 s2 => ?_⟩
      walk_at "gw"
      rw [sc]
      exact q _ (s1.trans s2)
    · exact ⟨_, 0, rfl, .inr ⟨hk, q⟩⟩
    · refine ⟨_, 0, rfl, .inl ⟨many, rfl, hm.1, hm.2, ?_⟩⟩
      walk_at "gw"
      rcases hp with hb | ⟨⟨low, rfl, hlo⟩, hb⟩
      · exact ⟨p, _, size, step, start, rfl, W, .inr ⟨hb, q⟩⟩
      · refine ⟨p, _, size, step, start, rfl, W, .inl ⟨low, rfl, hlo.1, hlo.2, ?_⟩⟩
        walk_at "gw"
        exact ⟨p, _, size, step, start, rfl, W, .inr ⟨hb, q⟩⟩
def sp_law_cell_at (_ : Txt K mg) : Sp := fun vs H Q _ => ∃ (a : Addr) (ns : List Int) (k : Int), vs = [.ref a, .int k] ∧ SqL K H a (ns.map V.int) ∧ 0 ≤ k ∧ Q (.int (cellAt ns k)) H
theorem ok_law_cell_at (T : Txt K mg) : FnOk P w K mg base CX0 1 T.a_law_cell_at T.fd_law_cell_at ["_law_script", "_law_k"] (sp_law_cell_at T) := by
  refine T.F_law_cell_at.ok sc_law_cell_at (fun vs H Q E h => ?_) (fun cdv A outer s H vs Q E hr h => ?_)
  · obtain ⟨a, ns, k, rfl, _⟩ := h
    rfl
  · obtain ⟨a, ns, k, rfl, h⟩ := h
    refine ⟨_, pss_cons (ps_if (pt_cmpR op_lt (pv 1) (pe_callB call_len_seq (by rfl) T.z_len (by decide +kernel) (pa_cons (pv 0) pa_nil)) (nomark _))
  (pss_one (ps_ret (pe_ix ix_list (pv 0) (pv 1) (fun _ _ => rfl))))
  (pss_nil))
 (pss_one (ps_ret pe_int)), ?_⟩
    obtain ⟨hS, h0, q⟩ := h
    walk_at "go"
    refine ⟨a, _, rfl, .inl hS, ?_⟩
    walk_at "go"
    rw [List.length_map]
    refine g_dec (fun hk => ?_) (fun hk => ?_)
    · walk_at "go"
      have hl : k.toNat < ns.length := by omega
      have e : k = ((k.toNat : Nat) : Int) := by omega
      have e2 : atI (ns.map V.int) k = some (.int (cellAt ns k)) := by
        rw [e]
        refine atI_nat ?_
        unfold cellAt
        rw [List.getElem?_map, show ((k.toNat : Nat) : Int).toNat = k.toNat from by omega, List.getElem?_eq_getElem hl]
        rfl
      refine g_ixL hS e2 ?_
      exact q
    · walk_at "go"
      have e2 : cellAt ns k = 0 := by
        unfold cellAt
        rw [List.getElem?_eq_none (by omega)]
        rfl
      rw [e2] at q
      exact q
def sp_law_whole (_ : Txt K mg) : Sp := fun vs H Q _ => ∃ (v : V) (b : Bool), vs = [v] ∧ Kind K H v b ∧ Q (.bl b) H
theorem ok_law_whole (T : Txt K mg) : FnOk P w K mg base CX0 1 T.a_law_whole T.fd_law_whole ["_law_found"] (sp_law_whole T) := by
  refine T.F_law_whole.ok sc_law_whole (fun vs H Q E h => ?_) (fun cdv A outer s H vs Q E hr h => ?_)
  · obtain ⟨v, b, rfl, _⟩ := h
    rfl
  · obtain ⟨v, b, rfl, h⟩ := h
    refine ⟨_, pss_one (ps_ret (pe_and (pe_callB call_isi (by rfl) T.z_isinstance (by decide +kernel) (pa_cons (pv 0) (pa_cons (pe_bltn (v := .ty "int") (by rfl) T.z_int (by decide +kernel) rfl) pa_nil))) (pe_one (pe_not (pe_callB call_isi (by rfl) T.z_isinstance (by decide +kernel) (pa_cons (pv 0) (pa_cons (pe_bltn (v := .ty "bool") (by rfl) T.z_bool (by decide +kernel) rfl) pa_nil))))))), ?_⟩
    obtain ⟨⟨t, b1, b2, ty, k1, k2, rfl⟩, q⟩ := h
    walk_at "go"
    refine g_isi ty k1 ?_
    walk_at "go"
    cases b1 with
    | false => exact iteF q
    | true =>
      walk_at "go"
      refine g_isi ty k2 ?_
      walk_at "go"
      exact q
def sp_law_divisor (_ : Txt K mg) : Sp := fun vs H Q _ => ∃ a b : Int, vs = [.int a, .int b] ∧ 0 ≤ a ∧ 0 ≤ b ∧ Q (.int (Int.gcd a b)) H
theorem ok_law_divisor (T : Txt K mg) : FnOk P w K mg base CX0 1 T.a_law_divisor T.fd_law_divisor ["_law_one", "_law_other"] (sp_law_divisor T) := by
  refine T.F_law_divisor.ok sc_law_divisor (fun vs H Q E h => ?_) (fun cdv A outer s H vs Q E hr h => ?_)
  · obtain ⟨a, b, rfl, _⟩ := h
    rfl
  · obtain ⟨a, b, rfl, h⟩ := h
    refine ⟨_, pss_cons (ps_while PassesOwn.never (pt_cmpR op_gt (pv 1) pe_int (nomark _)) (pss_cons (ps_set (i := 2) sc_law_divisor.nd rfl (.inl rfl) (pe_op op_mod (pv 0) (pv 1)))
 (pss_cons (ps_set (i := 0) sc_law_divisor.nd rfl (.inl rfl) (pv 1))
 (pss_one (ps_set (i := 1) sc_law_divisor.nd rfl (.inl rfl) (pv 2))))))
 (pss_one (ps_ret (pv 0))), ?_⟩
    obtain ⟨ha, hb, q⟩ := h
    walk_at "go"
    refine g_while (fun m σ H' => ∃ (x y : Int) (w : Option V), σ = [some (.int x), some (.int y), w] ∧ H' = H ∧ 0 ≤ x ∧ 0 ≤ y ∧ Int.gcd x y = Int.gcd a b ∧ m = y.toNat) _ ⟨a, b, none, rfl, rfl, ha, hb, rfl, rfl⟩ ?_
    rintro m σ H' ⟨x, y, w, rfl, rfl, hx, hy, hg, rfl⟩
    walk_at "go"
    refine g_dec (fun h => ?_) (fun h => ?_)
    · refine g_body ?_
      walk_at "go"
      exact ⟨_, Nat.lt_of_le_of_lt (Nat.le_of_eq rfl) (by have := Int.emod_lt_of_pos x h; have := Int.emod_nonneg x (show y ≠ 0 by omega); omega), y, x % y, _, rfl, rfl, hy, Int.emod_nonneg x (by omega), by rw [gcd_step hx h, hg], rfl⟩
    · walk_at "go"
      have e : y = 0 := by omega
      subst e
      rw [Int.gcd_zero_right] at hg
      have e2 : ((Int.gcd a b : Nat) : Int) = x := by omega
      rw [e2] at q
      exact q
def sp_law_wheel (_ : Txt K mg) : Sp := fun vs H Q _ => ∃ (a : Addr) (ns : List Int), vs = [.ref a] ∧ SqL K H a (ns.map V.int) ∧
  ∀ (p : Addr) (H' : Hp) (size step start : Int), Same H H' → H' p = some (.lst [.int size, .int step, .int start]) → H p = none → (1 ≤ size ∧ size ≤ 1000000000000000000000000000000000000000000000000000000000000) → (-1000000000000000000000000000000000000000000000000000000000000 ≤ step ∧ step ≤ 1000000000000000000000000000000000000000000000000000000000000) → (-1000000000000000000000000000000000000000000000000000000000000 ≤ start ∧ start ≤ 1000000000000000000000000000000000000000000000000000000000000) → Q (.ref p) H'
theorem ok_law_wheel (T : Txt K mg) : FnOk P w K mg base CX0 2 T.a_law_wheel T.fd_law_wheel ["_law_script"] (sp_law_wheel T) := by
  refine T.F_law_wheel.ok sc_law_wheel (fun vs H Q E h => ?_) (fun cdv A outer s H vs Q E hr h => ?_)
  · obtain ⟨a, ns, rfl, _⟩ := h
    rfl
  · obtain ⟨a, ns, rfl, h⟩ := h
    refine ⟨_, pss_cons (ps_set (i := 1) sc_law_wheel.nd rfl (.inl rfl) (pe_call (ok_law_cell_at T) (hr.mono (by decide)) (by rfl) T.g_law_cell_at T.F_law_cell_at.kp T.b_law_cell_at .nil pass0 (pa_cons (pv 0) (pa_cons pe_int pa_nil))))
 (pss_cons (ps_set (i := 2) sc_law_wheel.nd rfl (.inl rfl) pe_int)
 (Evl.pss_cut (ps_if (pt_cmpR op_eq (pe_op op_mod (pe_call (ok_law_cell_at T) (hr.mono (by decide)) (by rfl) T.g_law_cell_at T.F_law_cell_at.kp T.b_law_cell_at .nil pass0 (pa_cons (pv 0) (pa_cons pe_int pa_nil))) pe_int) pe_int (nomark _))
  (pss_one (ps_set (i := 2) sc_law_wheel.nd rfl (.inl rfl) (pe_op op_add pe_int (pe_op op_mod (pe_op op_fdivW (pe_call (ok_law_cell_at T) (hr.mono (by decide)) (by rfl) T.g_law_cell_at T.F_law_cell_at.kp T.b_law_cell_at .nil pass0 (pa_cons (pv 0) (pa_cons pe_int pa_nil))) pe_int) pe_int))))
  (pss_nil))
 (pss_cons (ps_set (i := 3) sc_law_wheel.nd rfl (.inl rfl) (pe_op op_add pe_int (pe_op op_mod (pe_op op_fdivW (pv 1) pe_int) pe_int)))
 (Evl.pss_cut (ps_if (pt_cmpR op_gt (pe_op op_mod (pv 1) pe_int) pe_int (nomark _))
  (pss_one (ps_set (i := 3) sc_law_wheel.nd rfl (.inl rfl) (pe_op op_add pe_int (pe_op op_mod (pe_op op_fdivW (pv 1) pe_int) (pe_ix ix_list (pe_lst (pa_cons (pe_lpow (v := 1000000) (pe_int) (pe_int) (by decide) (by decide +kernel)) (pa_cons (pe_lpow (v := 1000000000000000000) (pe_int) (pe_int) (by decide) (by decide +kernel)) (pa_cons (pe_lpow (v := 1000000000000000000000000000000000000000000000000000000000) (pe_int) (pe_int) (by decide) (by decide +kernel)) pa_nil)))) (pe_op op_sub (pe_op op_mod (pv 1) pe_int) pe_int) (fun _ _ => rfl))))))
  (pss_nil))
 (pss_cons (ps_set (i := 4) sc_law_wheel.nd rfl (.inl rfl) (pe_op op_sub (pe_op op_mod (pe_call (ok_law_cell_at T) (hr.mono (by decide)) (by rfl) T.g_law_cell_at T.F_law_cell_at.kp T.b_law_cell_at .nil pass0 (pa_cons (pv 0) (pa_cons pe_int pa_nil))) (pe_ladd (pe_lmul (pe_int) (pe_lpow (v := 1000000000000000000000000000000000000000000000000000000000) (pe_int) (pe_int) (by decide) (by decide +kernel)) (by decide) (v := 2000000000000000000000000000000000000000000000000000000000) (by decide +kernel)) (pe_int) (v := 2000000000000000000000000000000000000000000000000000000001) (by decide +kernel))) (pe_lpow (v := 1000000000000000000000000000000000000000000000000000000000) (pe_int) (pe_int) (by decide) (by decide +kernel))))
 (pss_cons (ps_set (i := 5) sc_law_wheel.nd rfl (.inl rfl) (pe_op op_sub (pe_op op_mod (pe_call (ok_law_cell_at T) (hr.mono (by decide)) (by rfl) T.g_law_cell_at T.F_law_cell_at.kp T.b_law_cell_at .nil pass0 (pa_cons (pv 0) (pa_cons pe_int pa_nil))) (pe_ladd (pe_lmul (pe_int) (pe_lpow (v := 1000000000000000000000000000000000000000000000000000000000000) (pe_int) (pe_int) (by decide) (by decide +kernel)) (by decide) (v := 2000000000000000000000000000000000000000000000000000000000000) (by decide +kernel)) (pe_int) (v := 2000000000000000000000000000000000000000000000000000000000001) (by decide +kernel))) (pe_lpow (v := 1000000000000000000000000000000000000000000000000000000000000) (pe_int) (pe_int) (by decide) (by decide +kernel))))
 (pss_one (ps_ret (pe_lst (pa_cons (pe_op op_mulB (pv 3) (pv 2)) (pa_cons (pe_op op_mulB (pv 4) (pv 2)) (pa_cons (pv 5) pa_nil)))))))))))), ?_⟩
    obtain ⟨hS, q⟩ := h
    walk_at "go"
    refine ⟨a, ns, 0, rfl, hS, by decide, ?_⟩
    walk_at "go"
    generalize cellAt ns 0 = c0
    refine g_cut (Mid := fun σ' H' => ∃ t : Int, σ' = [some (.ref a), some (.int c0), some (.int t), none, none, none] ∧ H' = H ∧ 1 ≤ t ∧ t ≤ 1000) ?_ ?_
    · walk_at "go"
      refine ⟨a, ns, 3, rfl, hS, by decide, ?_⟩
      walk_at "go"
      refine g_dec (fun _ => ?_) (fun _ => ?_)
      · walk_at "go"
        refine ⟨a, ns, 3, rfl, hS, by decide, ?_⟩
        walk_at "go"
        refine g_div (divW (by decide) (by decide)) ?_
        walk_at "go"
        have z0 := Int.emod_nonneg (cellAt ns 3 / 3) (show (1000 : Int) ≠ 0 by decide)
        have z1 := Int.emod_lt_of_pos (cellAt ns 3 / 3) (show (0 : Int) < 1000 by decide)
        exact ⟨_, rfl, rfl, by omega, by omega⟩
      · walk_at "go"
        exact ⟨1, rfl, rfl, by decide, by decide⟩
    · rintro σ' H' ⟨t, rfl, rfl, t1, t2⟩
      walk_at "go"
      refine g_div (divW (by decide) (by decide)) ?_
      walk_at "go"
      have y0 := Int.emod_nonneg (c0 / 4) (show (39 : Int) ≠ 0 by decide)
      have y1 := Int.emod_lt_of_pos (c0 / 4) (show (0 : Int) < 39 by decide)
      refine g_cut (Mid := fun σ' H1 => ∃ s : Int, σ' = [some (.ref a), some (.int c0), some (.int t), some (.int s), none, none] ∧ Same H' H1 ∧ 1 ≤ s ∧ s ≤ 1000000000000000000000000000000000000000000000000000000000) ?_ ?_
      · walk_at "go"
        have x0 := Int.emod_nonneg c0 (show (4 : Int) ≠ 0 by decide)
        have x1 := Int.emod_lt_of_pos c0 (show (0 : Int) < 4 by decide)
        refine g_dec (fun hc => ?_) (fun _ => ?_)
        · walk_at "go"
          refine g_div (divW (by decide) (by decide)) ?_
          walk_at "go"
          refine g_len (by simp) fun pl nl => ?_
          walk_at "go"
          obtain ⟨m, em, hm⟩ : ∃ m, atI ([1000000, 1000000000000000000, 1000000000000000000000000000000000000000000000000000000000].map V.int) (c0 % 4 - 1) = some (.int m) ∧ 1 ≤ m ∧ m ≤ 1000000000000000000000000000000000000000000000000000000000 := by
            have hw : c0 % 4 = 1 ∨ c0 % 4 = 2 ∨ c0 % 4 = 3 := by omega
            rcases hw with e | e | e <;> rw [e]
            · exact ⟨1000000, rfl, by decide⟩
            · exact ⟨1000000000000000000, rfl, by decide⟩
            · exact ⟨1000000000000000000000000000000000000000000000000000000000, rfl, by decide⟩
          refine g_ixL (SqL.of upd_same) em ?_
          refine g_mod (by omega) ?_
          have z0 := Int.emod_nonneg (c0 / 4) (show m ≠ 0 by omega)
          have z1 := Int.emod_lt_of_pos (c0 / 4) (show 0 < m by omega)
          walk_at "go"
          exact ⟨_, rfl, same_upd nl, by omega, by omega⟩
        · walk_at "go"
          exact ⟨_, rfl, Same.refl _, by omega, by omega⟩
      · rintro σ' H1 ⟨s, rfl, s1, hs1, hs2⟩
        walk_at "go"
        refine ⟨a, ns, 1, rfl, s1.seq hS, by decide, ?_⟩
        walk_at "go"
        refine ⟨a, ns, 2, rfl, s1.seq hS, by decide, ?_⟩
        walk_at "go"
        obtain ⟨u, hu⟩ : ∃ u, u = cellAt ns 1 % 2000000000000000000000000000000000000000000000000000000001 := ⟨_, rfl⟩
        have u0 := Int.emod_nonneg (cellAt ns 1) (show (2000000000000000000000000000000000000000000000000000000001 : Int) ≠ 0 by decide)
        have u1 := Int.emod_lt_of_pos (cellAt ns 1) (show (0 : Int) < 2000000000000000000000000000000000000000000000000000000001 by decide)
        have v0 := Int.emod_nonneg (cellAt ns 2) (show (2000000000000000000000000000000000000000000000000000000000001 : Int) ≠ 0 by decide)
        have v1 := Int.emod_lt_of_pos (cellAt ns 2) (show (0 : Int) < 2000000000000000000000000000000000000000000000000000000000001 by decide)
        have b0 := mul_bd (show 0 ≤ s by omega) hs2 (show 0 ≤ t by omega) t2
        have b1 : 1 * 1 ≤ s * t := Int.mul_le_mul hs1 t1 (by decide) (by omega)
        refine g_mul (mulB (by omega) (by omega)) ?_
        walk_at "go"
        refine g_mul (mulB (by omega) (by omega)) ?_
        walk_at "go"
        generalize cellAt ns 1 % 2000000000000000000000000000000000000000000000000000000001 = u1' at *
        have b2 : (u1' - 1000000000000000000000000000000000000000000000000000000000) * t ≤ 1000000000000000000000000000000000000000000000000000000000 * 1000 := by
          have h1 := Int.mul_le_mul_of_nonneg_right (show u1' - 1000000000000000000000000000000000000000000000000000000000 ≤ 1000000000000000000000000000000000000000000000000000000000 by omega) (show 0 ≤ t by omega)
          have h2 := Int.mul_le_mul_of_nonneg_left t2 (show (0 : Int) ≤ 1000000000000000000000000000000000000000000000000000000000 by decide)
          omega
        have b3 : -(1000000000000000000000000000000000000000000000000000000000 * 1000) ≤ (u1' - 1000000000000000000000000000000000000000000000000000000000) * t := by
          have h1 := Int.mul_le_mul_of_nonneg_right (show -1000000000000000000000000000000000000000000000000000000000 ≤ u1' - 1000000000000000000000000000000000000000000000000000000000 by omega) (show 0 ≤ t by omega)
          have h2 := Int.mul_le_mul_of_nonneg_left t2 (show (0 : Int) ≤ 1000000000000000000000000000000000000000000000000000000000 by decide)
          omega
        refine g_len (by simp) fun pr nr => ?_
        exact q pr _ _ _ _ (s1.trans (same_upd nr)) upd_same (s1.free nr) ⟨by omega, by omega⟩ ⟨by omega, by omega⟩ ⟨by omega, by omega⟩
def sp_law_most (_ : Txt K mg) : Sp := fun vs H Q _ => ∃ (l : Addr) (lap x0 x1 x2 x3 : Int), vs = [.int lap, .ref l] ∧ H l = some (.lst [.int x0, .int x1, .int x2, .int x3]) ∧ ∀ r, (r = x0 ∨ r = x1 ∨ r = x2 ∨ r = x3) → Q (.int r) H
theorem ok_law_most (T : Txt K mg) : FnOk P w K mg base CX0 1 T.a_law_most T.fd_law_most ["_law_lap", "_law_some"] (sp_law_most T) := by
  refine T.F_law_most.ok sc_law_most (fun vs H Q E h => ?_) (fun cdv A outer s H vs Q E hr h => ?_)
  · obtain ⟨l, lap, x0, x1, x2, x3, rfl, _⟩ := h
    rfl
  · obtain ⟨l, lap, x0, x1, x2, x3, rfl, h⟩ := h
    refine ⟨_, pss_cons (ps_if (pt_cmpR op_le (pv 0) pe_int (nomark _))
  (pss_one (ps_ret (pe_ix ix_list (pv 1) pe_int (fun _ _ => rfl))))
  (pss_nil))
 (pss_cons (ps_if (pt_cmpR op_le (pv 0) (pe_lpow (v := 1000000) (pe_int) (pe_int) (by decide) (by decide +kernel)) (nomark _))
  (pss_one (ps_ret (pe_ix ix_list (pv 1) pe_int (fun _ _ => rfl))))
  (pss_nil))
 (pss_cons (ps_if (pt_cmpR op_le (pv 0) (pe_lpow (v := 1000000000000000000) (pe_int) (pe_int) (by decide) (by decide +kernel)) (nomark _))
  (pss_one (ps_ret (pe_ix ix_list (pv 1) pe_int (fun _ _ => rfl))))
  (pss_nil))
 (pss_one (ps_ret (pe_ix ix_list (pv 1) pe_int (fun _ _ => rfl)))))), ?_⟩
    obtain ⟨e, q⟩ := h
    walk_at "go"
    refine g_dec (fun _ => ?_) (fun _ => ?_)
    · walk_at "go"
      refine g_ixL (SqL.of e) (v := .int x0) rfl ?_
      exact q _ (.inl rfl)
    · walk_at "go"
      refine g_dec (fun _ => ?_) (fun _ => ?_)
      · walk_at "go"
        refine g_ixL (SqL.of e) (v := .int x1) rfl ?_
        exact q _ (.inr (.inl rfl))
      · walk_at "go"
        refine g_dec (fun _ => ?_) (fun _ => ?_)
        · walk_at "go"
          refine g_ixL (SqL.of e) (v := .int x2) rfl ?_
          exact q _ (.inr (.inr (.inl rfl)))
        · walk_at "go"
          refine g_ixL (SqL.of e) (v := .int x3) rfl ?_
          exact q _ (.inr (.inr (.inr rfl)))
theorem far_raw {size step start place beat : Int} : (place - start - beat * step) % size = dist size (step % size) ((place - start) % size) beat := by
  unfold dist
  have h1 := Int.emod_add_mul_ediv (place - start) size
  have h2 := Int.emod_add_mul_ediv step size
  have : place - start - beat * step = ((place - start) % size - beat * (step % size)) + size * ((place - start) / size - beat * (step / size)) := by grind
  rw [this, Int.add_mul_emod_self_left]
theorem start_raw {size place start : Int} : (place - start % size) % size = (place - start) % size := by
  have h := Int.emod_add_mul_ediv start size
  have : place - start % size = place - start + size * (start / size) := by omega
  rw [this, Int.add_mul_emod_self_left]
def sp_law_far (_ : Txt K mg) : Sp := fun vs H Q _ => ∃ (ln : Addr) (size step start beat place : Int), vs = [.ref ln, .int beat, .int place] ∧ H ln = some (.lst [.int size, .int step, .int start]) ∧ 1 ≤ size ∧ (-1000000000000000000000000000000000000000000000000000000000000 ≤ step ∧ step ≤ 1000000000000000000000000000000000000000000000000000000000000) ∧ (0 ≤ beat ∧ beat ≤ 1000000000000000000000000000000000000000000000000000000000000) ∧
  Q (.int (dist size (step % size) ((place - start) % size) beat)) H
theorem ok_law_far (T : Txt K mg) : FnOk P w K mg base CX0 1 T.a_law_far T.fd_law_far ["_law_numbers", "_law_beat", "_law_place"] (sp_law_far T) := by
  refine T.F_law_far.ok sc_law_far (fun vs H Q E h => ?_) (fun cdv A outer s H vs Q E hr h => ?_)
  · obtain ⟨ln, size, step, start, beat, place, rfl, _⟩ := h
    rfl
  · obtain ⟨ln, size, step, start, beat, place, rfl, h⟩ := h
    refine ⟨_, pss_cons (ps_asg (pv 0) (pg_lst (by rfl) (pgs_cons (pg_name (i := 3) sc_law_far.nd rfl (.inl rfl)) (pgs_cons (pg_name (i := 4) sc_law_far.nd rfl (.inl rfl)) (pgs_cons (pg_name (i := 5) sc_law_far.nd rfl (.inl rfl)) (pgs_nil))))))
 (pss_one (ps_ret (pe_op op_mod (pe_op op_sub (pe_op op_sub (pv 2) (pv 5)) (pe_op op_mulB (pv 1) (pv 4))) (pv 3)))), ?_⟩
    obtain ⟨en, hs, ht, hb, q⟩ := h
    walk_at "go"
    refine g_glst (SqL.of en) rfl ?_
    walk_at "go"
    refine g_mul (mulB (by omega) (by omega)) ?_
    walk_at "go"
    rw [far_raw]
    exact q
theorem g_neBl {x y : Bool} {H : Hp} {Q : VK} (h : Q (.bl (!decide (x = y))) H) : rNe (.bl x) (.bl y) H Q := by
  refine ⟨rfl, ?_⟩
  have e : decide (V.bl x = V.bl y) = decide (x = y) := by cases x <;> cases y <;> rfl
  rw [e]
  exact h
theorem iff_same {p q : Prop} [Decidable p] [Decidable q] (h : p ↔ q) : (!decide (decide p = decide q)) = false := by
  rw [decide_eq_true (decide_eq_decide.mpr h)]
  rfl
def sp_law_near (T : Txt K mg) : Sp := fun vs H Q _ => ∃ (p ln : Addr) (size step start many low high : Int), vs = [.ref p, .ref ln, .int many, .int low, .int high, .int (cntS size (step % size) (start % size - low) ((high - low) % size) many.toNat)] ∧
  Whl T.C_Wheel H p size (step % size) (start % size) ∧ H ln = some (.lst [.int size, .int step, .int start]) ∧ (-1000000000000000000000000000000000000000000000000000000000000 ≤ step ∧ step ≤ 1000000000000000000000000000000000000000000000000000000000000) ∧ (1 ≤ many ∧ many ≤ 1000000000000000000000000000000000000000000000000000000000000) ∧ (0 ≤ low ∧ low < size) ∧ (0 ≤ high ∧ high < size) ∧ ∀ H', Same H H' → Q (.bl true) H'
theorem ok_law_near (T : Txt K mg) : FnOk P w K mg base CX0 5 T.a_law_near T.fd_law_near ["_law_wheel_here", "_law_numbers", "_law_many", "_law_low", "_law_high", "_law_count"] (sp_law_near T) := by
  refine T.F_law_near.ok sc_law_near (fun vs H Q E h => ?_) (fun cdv A outer s H vs Q E hr h => ?_)
  · obtain ⟨p, ln, size, step, start, many, low, high, rfl, _⟩ := h
    rfl
  · obtain ⟨p, ln, size, step, start, many, low, high, rfl, h⟩ := h
    refine ⟨_, pss_cons (ps_set (i := 6) sc_law_near.nd rfl (.inl rfl) (pe_ix ix_list (pv 1) pe_int (fun _ _ => rfl)))
 (pss_cons (ps_set (i := 7) sc_law_near.nd rfl (.inl rfl) (pe_call (ok_nearest T) (hr.mono (by decide)) (by rfl) T.g_nearest T.F_nearest.kp T.b_nearest .nil passL (pa_cons (pv 0) (pa_cons (pv 2) (pa_cons (pv 4) pa_nil)))))
 (pss_cons (ps_if (PW.pt (pw_or (pt_not (pt_val (pe_call (ok_law_whole T) (hr.mono (by decide)) (by rfl) T.g_law_whole T.F_law_whole.kp T.b_law_whole .nil pass0 (pa_cons (pv 7) pa_nil)))) (pw_or (pt_cmpR op_lt (pv 7) pe_int (nomark _)) (pw_or1 (pt_cmpR op_ge (pv 7) (pv 2) (nomark _))))))
  (pss_one (ps_ret pe_bl))
  (pss_nil))
 (pss_cons (ps_set (i := 8) sc_law_near.nd rfl (.inl rfl) (pe_call (ok_law_far T) (hr.mono (by decide)) (by rfl) T.g_law_far T.F_law_far.kp T.b_law_far .nil pass0 (pa_cons (pv 1) (pa_cons (pv 7) (pa_cons (pv 4) pa_nil)))))
 (pss_cons (ps_if (pt_cmpR op_ne (pe_cmpR op_le (pv 8) (pe_op op_mod (pe_op op_sub (pv 4) (pv 3)) (pv 6)) (nomark _)) (pe_cmpR op_gt (pv 5) pe_int (nomark _)) (nomark _))
  (pss_one (ps_ret pe_bl))
  (pss_nil))
 (pss_cons (ps_if (PW.pt (pw_and (pt_cmpR op_gt (pv 8) pe_int (nomark _)) (pw_and1 (pt_cmpR op_ne (pe_call (ok_count_in T) (hr.mono (by decide)) (by rfl) T.g_count_in T.F_count_in.kp T.b_count_in .nil passL (pa_cons (pv 0) (pa_cons (pv 2) (pa_cons (pe_op op_mod (pe_op op_add (pe_op op_sub (pv 4) (pv 8)) pe_int) (pv 6)) (pa_cons (pv 4) pa_nil))))) pe_int (nomark _)))))
  (pss_one (ps_ret pe_bl))
  (pss_nil))
 (pss_cons (ps_set (i := 9) sc_law_near.nd rfl (.inl rfl) (pe_op op_mod (pe_op op_sub (pv 4) (pv 8)) (pv 6)))
 (pss_one (ps_ret (pe_cmpR op_eq (pe_call (ok_first_in T) (hr.mono (by decide)) (by rfl) T.g_first_in T.F_first_in.kp T.b_first_in .nil passL (pa_cons (pv 0) (pa_cons (pv 9) (pa_cons (pv 9) pa_nil)))) (pv 7) (nomark _)))))))))), ?_⟩
    obtain ⟨W, en, ht, hm, hlo, hhi, q⟩ := h
    have w1 := W.s1
    have w2 := W.s2
    have L : Lap size (step % size) (size / (Int.gcd size (step % size) : Int)) (Int.gcd size (step % size) : Int) := Lap.mk' (by omega)
    walk_at "gw"
    refine g_ixL (SqL.of en) (v := .int size) rfl ?_
    walk_at "gw"
    refine ⟨p, _, _, size, _, _, rfl, W, .inl ⟨many, high, rfl, rfl, hm, hhi, fun r H1 s1 N => ?_⟩⟩
    have r0 := N.r0
    have r1 := N.r1
    have en1 := s1 _ _ en
    have W1 := W.same s1
    walk_at "gw"
    refine ⟨_, true, rfl, kind_int, ?_⟩
    walk_at "gw"
    refine g_decF (by omega) ?_
    walk_at "gw"
    refine g_decF (by omega) ?_
    walk_at "gw"
    refine ⟨ln, size, step, start, r, high, rfl, en1, w1, ht, ⟨by omega, by omega⟩, ?_⟩
    rw [show (high - start) % size = (high - start % size) % size from start_raw.symm]
    have n1 := near_cnt (low := low) w1 N
    have n2 := near_void w1 N
    have n3 := near_first w1 N
    have b := dist_in (step := step % size) (far0 := (high - start % size) % size) (show 0 < size by omega) r
    generalize dist size (step % size) ((high - start % size) % size) r = far at n1 n2 n3 b ⊢
    walk_at "gw"
    refine g_neBl ?_
    rw [iff_same n1]
    walk_at "gw"
    have z0 := Int.emod_nonneg (high - far + 1) (show size ≠ 0 by omega)
    have z1 := Int.emod_lt_of_pos (high - far + 1) (show 0 < size by omega)
    have y0 := Int.emod_nonneg (high - far) (show size ≠ 0 by omega)
    have y1 := Int.emod_lt_of_pos (high - far) (show 0 < size by omega)
    have tail : ∀ H2, Same H1 H2 → ∀ (R : VK) (E : XK), (∀ H', Same H H' → R (.int r) H') → sp_first_in T [.ref p, .int ((high - far) % size), .int ((high - far) % size)] H2 R E := fun H2 s2 R E k => by
      refine ⟨p, _, _, size, _, _, rfl, W1.same s2, .inl ⟨_, _, rfl, rfl, ⟨y0, y1⟩, ⟨y0, y1⟩, ?_, ?_⟩⟩
      · rw [Int.sub_self, Int.zero_emod]
        intro _ r2 H3 s3 F
        have e := F.one n3
        subst e
        exact k _ ((s1.trans s2).trans s3)
      · rw [Int.sub_self, Int.zero_emod]
        intro h
        have h2 := rest_le (far0 := ((high - far) % size - start % size) % size) L r
        have h3 := n3.2.1
        omega
    refine g_dec (fun hp => ?_) (fun _ => ?_)
    · walk_at "gw"
      refine ⟨p, _, _, _, size, _, _, rfl, W1, .inl ⟨many, _, high, rfl, rfl, rfl, ⟨by omega, by omega⟩, ⟨z0, z1⟩, hhi, fun H2 s2 => ?_⟩⟩
      rw [n2 hp]
      walk_at "gw"
      refine g_ndec (fun z => absurd rfl z) (fun _ => ?_)
      walk_at "gw"
      refine tail H2 s2 _ _ fun H' s' => ?_
      walk_at "gw"
      rw [decide_eq_true rfl]
      exact q _ s'
    · walk_at "gw"
      refine tail H1 (Same.refl _) _ _ fun H' s' => ?_
      walk_at "gw"
      rw [decide_eq_true rfl]
      exact q _ s'
def sp_law_first (T : Txt K mg) : Sp := fun vs H Q _ => ∃ (p : Addr) (size step start many low high : Int), vs = [.ref p, .int many, .int low, .int high, .int (cntS size step (start - low) ((high - low) % size) many.toNat)] ∧
  Whl T.C_Wheel H p size step start ∧ (1 ≤ many ∧ many ≤ 1000000000000000000000000000000000000000000000000000000000000) ∧ (0 ≤ low ∧ low < size) ∧ (0 ≤ high ∧ high < size) ∧ ∀ H', Same H H' → Q (.bl true) H'
theorem ok_law_first (T : Txt K mg) : FnOk P w K mg base CX0 5 T.a_law_first T.fd_law_first ["_law_wheel_here", "_law_many", "_law_low", "_law_high", "_law_count"] (sp_law_first T) := by
  refine T.F_law_first.ok sc_law_first (fun vs H Q E h => ?_) (fun cdv A outer s H vs Q E hr h => ?_)
  · obtain ⟨p, size, step, start, many, low, high, rfl, _⟩ := h
    rfl
  · obtain ⟨p, size, step, start, many, low, high, rfl, h⟩ := h
    refine ⟨_, pss_cons (ps_set (i := 5) sc_law_first.nd rfl (.inl rfl) (pe_call (ok_first_in T) (hr.mono (by decide)) (by rfl) T.g_first_in T.F_first_in.kp T.b_first_in .nil passL (pa_cons (pv 0) (pa_cons (pv 2) (pa_cons (pv 3) pa_nil)))))
 (pss_cons (ps_if (pt_cmpR op_isN (pv 5) pe_non (nomark _))
  (pss_one (ps_ret (pe_cmpR op_eq (pv 4) pe_int (nomark _))))
  (pss_nil))
 (pss_cons (ps_if (PW.pt (pw_or (pt_not (pt_val (pe_call (ok_law_whole T) (hr.mono (by decide)) (by rfl) T.g_law_whole T.F_law_whole.kp T.b_law_whole .nil pass0 (pa_cons (pv 5) pa_nil)))) (pw_or (pt_cmpR op_lt (pv 5) pe_int (nomark _)) (pw_or1 (pt_cmpR op_ne (pe_cmpR op_lt (pv 5) (pv 1) (nomark _)) (pe_cmpR op_gt (pv 4) pe_int (nomark _)) (nomark _))))))
  (pss_one (ps_ret pe_bl))
  (pss_nil))
 (pss_one (ps_ret (pe_and (pe_cmpR op_eq (pe_call (ok_count_in T) (hr.mono (by decide)) (by rfl) T.g_count_in T.F_count_in.kp T.b_count_in .nil passL (pa_cons (pv 0) (pa_cons (pv 5) (pa_cons (pv 2) (pa_cons (pv 3) pa_nil))))) pe_int (nomark _)) (pe_one (pe_cmpR op_eq (pe_call (ok_count_in T) (hr.mono (by decide)) (by rfl) T.g_count_in T.F_count_in.kp T.b_count_in .nil passL (pa_cons (pv 0) (pa_cons (pe_op op_add (pv 5) pe_int) (pa_cons (pv 2) (pa_cons (pv 3) pa_nil))))) pe_int (nomark _)))))))), ?_⟩
    obtain ⟨W, hm, hlo, hhi, q⟩ := h
    have w1 := W.s1
    have w2 := W.s2
    have L : Lap size step (size / (Int.gcd size step : Int)) (Int.gcd size step : Int) := Lap.mk' (by omega)
    have lapS : size / (Int.gcd size step : Int) ≤ size := Int.ediv_le_self _ (by omega)
    walk_at "gw"
    refine ⟨p, _, _, size, _, _, rfl, W, .inl ⟨low, high, rfl, rfl, hlo, hhi, fun _ r H1 s1 F => ?_, fun hlt H1 s1 => ?_⟩⟩
    · have r0 := F.1
      have r1 := F.below L
      obtain ⟨c1, c2, c3⟩ := first_cnt w1 F
      have W1 := W.same s1
      walk_at "gw"
      refine ⟨_, true, rfl, kind_int, ?_⟩
      walk_at "gw"
      refine g_decF (by omega) ?_
      walk_at "gw"
      refine g_neBl ?_
      rw [iff_same (c3 many (by omega)).symm]
      walk_at "gw"
      refine ⟨p, _, _, _, size, _, _, rfl, W1, .inl ⟨r, low, high, rfl, rfl, rfl, ⟨r0, by omega⟩, hlo, hhi, fun H2 s2 => ?_⟩⟩
      rw [c1]
      walk_at "gw"
      refine g_decT rfl ?_
      walk_at "gw"
      refine ⟨p, _, _, _, size, _, _, rfl, W1.same s2, .inl ⟨r + 1, low, high, rfl, rfl, rfl, ⟨by omega, by omega⟩, hlo, hhi, fun H3 s3 => ?_⟩⟩
      rw [c2]
      walk_at "gw"
      exact q _ ((s1.trans s2).trans s3)
    · walk_at "gw"
      rw [void_cnt w1 L hlt]
      refine g_nonN ?_
      walk_at "gw"
      exact q _ s1
theorem ints_lay : ∀ ns : List Int, PyData.canLayAll0 (ns.map PyData.int) = true
  | [] => rfl
  | _ :: r => by simp [PyData.canLayAll0, PyData.canLay0, ints_lay r]
theorem ints_depth : ∀ ns : List Int, PyData.depthAll (ns.map PyData.int) = 0
  | [] => rfl
  | _ :: r => by simp [PyData.depthAll, PyData.depth, ints_depth r]
theorem ints_shaped (ns : List Int) : SeqAt.shaped (.list (ns.map PyData.int)) = true := by
  simp [SeqAt.shaped, PyData.canLay0, PyData.depth, ints_lay, ints_depth]
theorem dp_all {H : Hp} : ∀ ns : List Int, DpAll K H (ns.map V.int) (ns.map PyData.int)
  | [] => .nil
  | _ :: r => .cons (.int _) (dp_all r)
theorem dp_ints {H : Hp} {a : Addr} {ns : List Int} (h : H a = some (.lst (ns.map V.int))) : Dp K H (.ref a) (.list (ns.map PyData.int)) := .lst (SqL.of h) (dp_all ns)
theorem places_eq {H : Hp} {Q : VK} {a b : Addr} {ns : List Int} (h1 : H a = some (.lst (ns.map V.int))) (h2 : H b = some (.lst [])) (h : ∀ c : Bool, (c = true ∨ ns ≠ []) → Q (.bl c) H) : rEqD K (.ref a) (.ref b) H Q := by
  refine ⟨_, .list [], dp_ints h1, .lst (SqL.of h2) .nil, ints_shaped _, ints_shaped [], h _ ?_⟩
  cases ns with
  | nil => exact .inl (SeqAt.eqv_refl (.list []) rfl)
  | cons x xs => exact .inr (List.cons_ne_nil _ _)
theorem ok_law (T : Txt K mg) : FnOk P w K mg base CX0 6 T.a_law T.fd_law ["_law_script"] (sp_law K) := by
  refine T.F_law.ok sc_law (fun vs H Q E h => ?_) (fun cdv A outer s H vs Q E hr h => ?_)
  · obtain ⟨a, ns, rfl, _⟩ := h
    rfl
  · obtain ⟨a, ns, rfl, h⟩ := h
    refine ⟨_, pss_cons (ps_asg (pe_call (ok_law_wheel T) (hr.mono (by decide)) (by rfl) T.g_law_wheel T.F_law_wheel.kp T.b_law_wheel .nil pass0 (pa_cons (pv 0) pa_nil)) (pg_lst (by rfl) (pgs_cons (pg_name (i := 1) sc_law.nd rfl (.inr rfl)) (pgs_cons (pg_name (i := 2) sc_law.nd rfl (.inl rfl)) (pgs_cons (pg_name (i := 3) sc_law.nd rfl (.inl rfl)) (pgs_nil))))))
 (pss_cons (ps_set (i := 4) sc_law.nd rfl (.inl rfl) (pe_op op_fdivW (pv 1) (pe_call (ok_law_divisor T) (hr.mono (by decide)) (by rfl) T.g_law_divisor T.F_law_divisor.kp T.b_law_divisor .nil pass0 (pa_cons (pv 1) (pa_cons (pe_op op_mod (pv 2) (pv 1)) pa_nil)))))
 (pss_cons (ps_set (i := 5) sc_law.nd rfl (.inl rfl) (pe_make T.M_Wheel (ok_Wheel_init T) (hr.mono (by decide)) (by rfl) T.g_Wheel T.b3_Wheel_init T.v3_Wheel_init passL (pa_cons (pv 1) (pa_cons (pv 2) (pa_cons (pv 3) pa_nil)))))
 (pss_cons (ps_set (i := 6) sc_law.nd rfl (.inl rfl) (pe_lst (pa_cons (pv 1) (pa_cons (pv 2) (pa_cons (pv 3) pa_nil)))))
 (pss_cons (ps_set (i := 7) sc_law.nd rfl (.inl rfl) (pe_op op_add pe_int (pe_op op_mod (pe_call (ok_law_cell_at T) (hr.mono (by decide)) (by rfl) T.g_law_cell_at T.F_law_cell_at.kp T.b_law_cell_at .nil pass0 (pa_cons (pv 0) (pa_cons pe_int pa_nil))) (pe_ix ix_list (pe_lst (pa_cons (pe_lpow (v := 1000000000000000000000000000000000000000000000000000000000000) (pe_int) (pe_int) (by decide) (by decide +kernel)) (pa_cons (pe_callB (call_min2 (by rfl)) (by rfl) T.z_min (by decide +kernel) (pa_cons (pe_lpow (v := 1000000000000000000000000000000000000000000000000000000000000) (pe_int) (pe_int) (by decide) (by decide +kernel)) (pa_cons (pe_op op_mulB pe_int (pv 4)) pa_nil))) pa_nil))) (pe_op op_mod (pe_call (ok_law_cell_at T) (hr.mono (by decide)) (by rfl) T.g_law_cell_at T.F_law_cell_at.kp T.b_law_cell_at .nil pass0 (pa_cons (pv 0) (pa_cons pe_int pa_nil))) pe_int) (fun _ _ => rfl)))))
 (pss_cons (ps_set (i := 8) sc_law.nd rfl (.inl rfl) (pe_callB (cr_sortedSet (by rfl)) (by rfl) T.z_sorted (by decide +kernel) (pa_cons (pe_callTy (cr_setI (by rfl)) (by rfl) T.z_set (by decide +kernel) (pa_cons (pe_lc (own := [("_law_cell", 14)]) rfl sc_law.nd (pi_list (pe_slice sl_list (pv 0) (po_some pe_int) (po_some (pe_op op_add pe_int (pe_call (ok_law_most T) (hr.mono (by decide)) (by rfl) T.g_law_most T.F_law_most.kp T.b_law_most .nil pass0 (pa_cons (pv 4) (pa_cons (pe_lst (pa_cons pe_int (pa_cons pe_int (pa_cons pe_int (pa_cons pe_int pa_nil))))) pa_nil))))))) (blkOk_by (N := N_law) (sc := defScope s_law) (by decide +kernel)) (fun _ _ _ _ _ => pg_name (i := 14) sc_law.nd rfl (.inl rfl)) (fun _ _ _ _ _ => pts_nil) (fun _ _ _ _ _ => (pe_op op_mod (pv 14) (pv 1)))) pa_nil)) pa_nil)))
 (Evl.pss_cut (ps_if (pt_cmpR (op_eqD hr.units) (pv 8) (pe_lst (pa_nil)) (nomark _))
  (pss_one (ps_set (i := 8) sc_law.nd rfl (.inl rfl) (pe_lst (pa_cons pe_int pa_nil))))
  (pss_nil))
 (pss_cons (ps_set (i := 9) sc_law.nd rfl (.inl rfl) pe_int)
 (pss_cons (ps_for PassesOwn.never rfl (pi_range1 (by rfl) T.z_range (pa_cons (pe_callB call_len_seq (by rfl) T.z_len (by decide +kernel) (pa_cons (pv 8) pa_nil)) pa_nil)) (pg_name (i := 10) sc_law.nd rfl (.inl rfl)) (pss_cons (ps_set (i := 11) sc_law.nd rfl (.inl rfl) (pe_ix ix_list (pv 8) (pv 10) (fun _ _ => rfl)))
 (pss_cons (ps_set (i := 12) sc_law.nd rfl (.inl rfl) (pe_op op_mod (pe_op op_sub (pe_ix ix_list (pv 8) (pe_op op_mod (pe_op op_add (pv 10) pe_int) (pe_callB call_len_seq (by rfl) T.z_len (by decide +kernel) (pa_cons (pv 8) pa_nil))) (fun _ _ => rfl)) pe_int) (pv 1)))
 (pss_cons (ps_set (i := 13) sc_law.nd rfl (.inl rfl) (pe_call (ok_count_in T) (hr.mono (by decide)) (by rfl) T.g_count_in T.F_count_in.kp T.b_count_in .nil passL (pa_cons (pv 5) (pa_cons (pv 7) (pa_cons (pv 11) (pa_cons (pv 12) pa_nil))))))
 (pss_cons (ps_if (PW.pt (pw_or (pt_not (pt_val (pe_call (ok_law_whole T) (hr.mono (by decide)) (by rfl) T.g_law_whole T.F_law_whole.kp T.b_law_whole .nil pass0 (pa_cons (pv 13) pa_nil)))) (pw_or1 (pt_cmpR op_lt (pv 13) pe_int (nomark _)))))
  (pss_one (ps_ret pe_bl))
  (pss_nil))
 (pss_cons (ps_set (i := 9) sc_law.nd rfl (.inl rfl) (pe_op op_add (pv 9) (pv 13)))
 (pss_one (ps_if (PW.pt (pw_or (pt_not (pt_val (pe_call (ok_law_first T) (hr.mono (by decide)) (by rfl) T.g_law_first T.F_law_first.kp T.b_law_first .nil pass0 (pa_cons (pv 5) (pa_cons (pv 7) (pa_cons (pv 11) (pa_cons (pv 12) (pa_cons (pv 13) pa_nil)))))))) (pw_or1 (pt_not (pt_val (pe_call (ok_law_near T) (hr.mono (by decide)) (by rfl) T.g_law_near T.F_law_near.kp T.b_law_near .nil pass0 (pa_cons (pv 5) (pa_cons (pv 6) (pa_cons (pv 7) (pa_cons (pv 11) (pa_cons (pv 12) (pa_cons (pv 13) pa_nil))))))))))))
  (pss_one (ps_ret pe_bl))
  (pss_nil)))))))))
 (pss_one (ps_ret (pe_cmpR op_eq (pv 9) (pv 7) (nomark _)))))))))))), ?_⟩
    obtain ⟨hS, hl, hb, q⟩ := h
    walk_at "gw"
    refine ⟨a, ns, rfl, hS, fun pl H1 size step start s1 e1 nl hs ht ha => ?_⟩
    refine g_glst (SqL.of e1) rfl ?_
    have gb : ((Int.gcd size (step % size) : Nat) : Int) ≤ size := Int.le_of_dvd (by omega) (Int.gcd_dvd_left ..)
    have L : Lap size (step % size) (size / (Int.gcd size (step % size) : Int)) (Int.gcd size (step % size) : Int) := Lap.mk' (by omega)
    have g1 := L.g1
    have l1 := L.l1
    have lapS : size / (Int.gcd size (step % size) : Int) ≤ size := Int.ediv_le_self _ (by omega)
    have x0 := Int.emod_nonneg step (show size ≠ 0 by omega)
    walk_at "gw"
    refine ⟨_, _, rfl, by omega, x0, ?_⟩
    refine g_div (divW (by omega) (by omega)) ?_
    walk_at "gw"
    intro p dx np nd nep
    refine ⟨p, _, _, _, rfl, ⟨dx, upd_same⟩, .inl ⟨size, step, start, rfl, rfl, rfl, hs, ht, ha, fun H2 k2 W => ⟨rfl, ?_⟩⟩⟩
    have s2 := s1.trans (Same.made np nd k2)
    walk_at "gw"
    refine g_len (by simp) fun pn nn => ?_
    have s3 := s2.trans (same_upd (o := .lst [.int size, .int step, .int start]) nn)
    have W3 := W.same (same_upd (o := .lst [.int size, .int step, .int start]) nn)
    have e3 : (upd H2 pn (.lst [.int size, .int step, .int start])) pn = some (.lst [.int size, .int step, .int start]) := upd_same
    generalize upd H2 pn (.lst [.int size, .int step, .int start]) = H3 at s3 W3 e3
    generalize size / (Int.gcd size (step % size) : Int) = lap at l1 lapS L
    walk_at "gw"
    refine ⟨a, ns, 4, rfl, s3.seq hS, by decide, ?_⟩
    walk_at "gw"
    refine g_mul (mulB (by decide) (by omega)) ?_
    walk_at "gw"
    have mb : 1 ≤ (if 2 * lap < 1000000000000000000000000000000000000000000000000000000000000 then 2 * lap else 1000000000000000000000000000000000000000000000000000000000000) ∧ (if 2 * lap < 1000000000000000000000000000000000000000000000000000000000000 then 2 * lap else 1000000000000000000000000000000000000000000000000000000000000) ≤ 1000000000000000000000000000000000000000000000000000000000000 := by split <;> omega
    generalize (if 2 * lap < 1000000000000000000000000000000000000000000000000000000000000 then 2 * lap else 1000000000000000000000000000000000000000000000000000000000000) = mo at mb ⊢
    refine g_len (by simp) fun pm nm => ?_
    have s4 := s3.trans (same_upd (o := .lst [.int 1000000000000000000000000000000000000000000000000000000000000, .int mo]) nm)
    have W4 := W3.same (same_upd (o := .lst [.int 1000000000000000000000000000000000000000000000000000000000000, .int mo]) nm)
    have en4 := same_upd (o := .lst [.int 1000000000000000000000000000000000000000000000000000000000000, .int mo]) nm _ _ e3
    have e4 : (upd H3 pm (.lst [.int 1000000000000000000000000000000000000000000000000000000000000, .int mo])) pm = some (.lst [.int 1000000000000000000000000000000000000000000000000000000000000, .int mo]) := upd_same
    generalize upd H3 pm (.lst [.int 1000000000000000000000000000000000000000000000000000000000000, .int mo]) = H4 at s4 W4 en4 e4
    walk_at "gw"
    refine ⟨a, ns, 5, rfl, s4.seq hS, by decide, ?_⟩
    walk_at "gw"
    obtain ⟨m2, em2, hm2⟩ : ∃ m2, atI ([1000000000000000000000000000000000000000000000000000000000000, mo].map V.int) (cellAt ns 5 % 2) = some (.int m2) ∧ 1 ≤ m2 ∧ m2 ≤ 1000000000000000000000000000000000000000000000000000000000000 := by
      have hw : cellAt ns 5 % 2 = 0 ∨ cellAt ns 5 % 2 = 1 := by omega
      rcases hw with e | e <;> rw [e]
      · exact ⟨1000000000000000000000000000000000000000000000000000000000000, rfl, by decide⟩
      · exact ⟨mo, rfl, mb⟩
    refine g_ixL (SqL.of e4) em2 ?_
    refine g_mod (by omega) ?_
    walk_at "gw"
    have z0 := Int.emod_nonneg (cellAt ns 4) (show m2 ≠ 0 by omega)
    have z1 := Int.emod_lt_of_pos (cellAt ns 4) (show 0 < m2 by omega)
    obtain ⟨many, hmany⟩ : ∃ many, many = 1 + cellAt ns 4 % m2 := ⟨_, rfl⟩
    rw [← hmany]
    have hm : 1 ≤ many ∧ many ≤ 1000000000000000000000000000000000000000000000000000000000000 := by omega
    refine g_len (by simp) fun pq nq => ?_
    have s5 := s4.trans (same_upd (o := .lst [.int 30, .int 10, .int 5, .int 3]) nq)
    have W5 := W4.same (same_upd (o := .lst [.int 30, .int 10, .int 5, .int 3]) nq)
    have en5 := same_upd (o := .lst [.int 30, .int 10, .int 5, .int 3]) nq _ _ en4
    have e5 : (upd H4 pq (.lst [.int 30, .int 10, .int 5, .int 3])) pq = some (.lst [.int 30, .int 10, .int 5, .int 3]) := upd_same
    generalize upd H4 pq (.lst [.int 30, .int 10, .int 5, .int 3]) = H5 at s5 W5 en5 e5
    walk_at "gw"
    refine ⟨pq, lap, 30, 10, 5, 3, rfl, e5, fun r hr => ?_⟩
    walk_at "gw"
    refine g_slL (s5.seq hS) fun pc nc => ?_
    rw [cut_map]
    have hcl := cut_len ns (some 6) (some (6 + r))
    generalize cutN ns (some 6) (some (6 + r)) = cs at hcl
    have s6 := s5.trans (same_upd (o := .lst (cs.map V.int)) nc)
    have W6 := W5.same (same_upd (o := .lst (cs.map V.int)) nc)
    have en6 := same_upd (o := .lst (cs.map V.int)) nc _ _ en5
    have hc6 : SqL K (upd H5 pc (.lst (cs.map V.int))) pc (cs.map V.int) := SqL.of upd_same
    generalize upd H5 pc (.lst (cs.map V.int)) = H6 at s6 W6 en6 hc6
    refine g_compMap (fun c => c % size) hc6 (by omega) ?_ (fun c hc H' Q' _ k => ?_) (fun D nD H7 s7 hD => ?_)
    · intro x
      rfl
    · walk_at "gw"
      exact k H' (Same.refl H')
    · have hcm : (cs.map fun c => c % size).length = cs.length := List.length_map ..
      have hin : ∀ z ∈ cs.map fun c => c % size, 0 ≤ z ∧ z < size := fun z hz => by
        obtain ⟨c, _, rfl⟩ := List.mem_map.mp hz
        exact ⟨Int.emod_nonneg _ (by omega), Int.emod_lt_of_pos _ (by omega)⟩
      generalize (cs.map fun c => c % size) = ds at hD hcm hin
      walk_at "gw"
      refine g_setI (SqL.of hD) (by omega) fun ps c so nps hc hso => ?_
      walk_at "gw"
      refine ⟨ps, (fun j => decide (j ∈ ds)), c, rfl, by rw [upd_same, hso], by omega, fun ys pt asc mem hy npt => ?_⟩
      walk_at "gw"
      have s9 : Same H (upd (upd H7 ps so) pt (.lst (ys.map V.int))) := ((s6.trans s7).trans (same_upd nps)).trans (same_upd npt)
      have k9 : Same H6 (upd (upd H7 ps so) pt (.lst (ys.map V.int))) := (s7.trans (same_upd nps)).trans (same_upd npt)
      have e9 : (upd (upd H7 ps so) pt (.lst (ys.map V.int))) pt = some (.lst (ys.map V.int)) := upd_same
      have W9 := W6.same k9
      have en9 := k9 _ _ en6
      have hyin : ∀ z ∈ ys, 0 ≤ z ∧ z < size := fun z hz => hin z (of_decide_eq_true ((mem z).mp hz))
      generalize upd (upd H7 ps so) pt (.lst (ys.map V.int)) = H9 at s9 k9 e9 W9 en9 ⊢
      refine g_cut (Mid := fun σ' H' => ∃ (pp : Addr) (zs : List Int), σ' = [some (.ref a), some (.int size), some (.int step), some (.int start), some (.int lap), some (.ref p), some (.ref pn), some (.int many), some (.ref pp), none, none, none, none, none, none] ∧
        Same H9 H' ∧ H' pp = some (.lst (zs.map V.int)) ∧ Part zs size ∧ zs.length ≤ 63) ?_ ?_
      · walk_at "gw"
        refine g_len (by simp) fun pe ne => ?_
        refine places_eq (same_upd ne _ _ e9) upd_same fun b hb' => ?_
        walk_at "gw"
        cases b with
        | true =>
          walk_at "gw"
          refine g_len (by simp) fun pz nz => ?_
          walk_at "gw"
          exact ⟨pz, [0], rfl, (same_upd ne).trans (same_upd nz), upd_same, ⟨List.pairwise_singleton .., List.cons_ne_nil _ _, fun z hz => by rw [List.mem_singleton] at hz; omega⟩, by decide⟩
        | false =>
          walk_at "gw"
          exact ⟨pt, ys, rfl, same_upd ne, same_upd ne _ _ e9, ⟨asc, hb'.resolve_left Bool.noConfusion, hyin⟩, by omega⟩
      · rintro σ' H' ⟨pp, zs, rfl, s10, e10, P', zl⟩
        have W10 := W9.same s10
        have en10 := s10 _ _ en9
        walk_at "gw"
        refine ⟨pp, _, rfl, .inl (SqL.of e10), ?_⟩
        rw [List.length_map]
        walk_at "gw"
        refine ⟨by omega, by omega, ?_⟩
        rw [show ((zs.length : Nat) : Int).toNat = zs.length by omega]
        refine g_overR (fun i σ' H'' => ∃ (tot : Int) (v10 v11 v12 v13 : Option V), σ' = [some (.ref a), some (.int size), some (.int step), some (.int start), some (.int lap), some (.ref p), some (.ref pn), some (.int many), some (.ref pp), some (.int tot), v10, v11, v12, v13, none] ∧
          tot = cntS size (step % size) (start % size - zs.headD 0) (nextP zs size i - zs.headD 0 - 1) many.toNat ∧ Same H' H'') ⟨0, _, _, _, _, rfl, ?_, Same.refl _⟩ ?_ ?_
        · rw [P'.zero]
          exact (cnt_minus (by omega) (by omega) _).symm
        · rintro i σ' H2' hi ⟨tot, v10, v11, v12, v13, rfl, et, sx⟩
          have e0 : 0 + (i : Int) = (i : Int) := by omega
          rw [e0]
          obtain ⟨q2, k1, k2', k3, k4, k5, k6, k7, k8⟩ := P'.turn hi
          have W11 := W10.same sx
          have en11 := sx _ _ en10
          have e11 := sx _ _ e10
          walk_at "gw"
          refine g_ixL (SqL.of e11) (v := .int (nextP zs size i)) (atI_nat (by rw [List.getElem?_map, k1]; rfl)) ?_
          walk_at "gw"
          refine ⟨pp, _, rfl, .inl (SqL.of e11), ?_⟩
          rw [List.length_map]
          refine g_mod (by omega) ?_
          rw [show ((i : Int) + 1) % ((zs.length : Nat) : Int) = (((i + 1) % zs.length : Nat) : Int) from (Int.natCast_emod (i + 1) zs.length).symm]
          refine g_ixL (SqL.of e11) (v := .int q2) (atI_nat (by rw [List.getElem?_map, k2']; rfl)) ?_
          walk_at "gw"
          have h0 := Int.emod_nonneg (q2 - 1) (show size ≠ 0 by omega)
          have h1 := Int.emod_lt_of_pos (q2 - 1) (show 0 < size by omega)
          have pw := part_wide hs.1 k6 (by omega) k8
          have sp := cntS_split (size := size) (step := step % size) (start := start % size) (by omega) k5 k6 k7 many.toNat
          generalize (q2 - 1) % size = high at h0 h1 pw ⊢
          refine ⟨p, _, _, _, size, _, _, rfl, W11, .inl ⟨many, _, high, rfl, rfl, rfl, ⟨by omega, by omega⟩, k3, ⟨h0, h1⟩, fun H3' s3' => ?_⟩⟩
          have cb := (cntS_bd size (step % size) (start % size - nextP zs size i) ((high - nextP zs size i) % size) many.toNat).1
          walk_at "gw"
          refine ⟨_, true, rfl, kind_int, ?_⟩
          walk_at "gw"
          refine g_decF (by omega) ?_
          walk_at "gw"
          refine ⟨p, size, _, _, many, _, high, rfl, W11.same s3', hm, k3, ⟨h0, h1⟩, fun H4' s4' => ?_⟩
          walk_at "gw"
          refine ⟨p, pn, size, step, start, many, _, high, rfl, W11.same (s3'.trans s4'), (s3'.trans s4') _ _ en11, ht, hm, k3, ⟨h0, h1⟩, fun H5' s5' => ?_⟩
          walk_at "gw"
          refine ⟨_, _, _, _, _, rfl, ?_, sx.trans ((s3'.trans s4').trans s5')⟩
          rw [pw, et, sp]
        · rintro σ' H2' ⟨tot, v10, v11, v12, v13, rfl, et, sx⟩
          rw [P'.last, show zs.headD 0 + size - zs.headD 0 - 1 = size - 1 by omega, cntS_full (by omega)] at et
          walk_at "gw"
          rw [decide_eq_true (show tot = many by omega)]
          exact q _
end
theorem all_mk {l : PySem.W.OpenLaw} {w : World} {K : PySem.W.Frag} {h : Heap} {mg : Str → Option Value} {fa : Addr} (X : K.In h) (G : h.Ns mainGlobals mg) (hfa : mg "law" = some (.ref fa))
    {p_HandError : Addr}
    {p_NoWheel : Addr}
    {p_NoBeats : Addr}
    {p_NoPlace : Addr}
    {p_Wheel : Addr}
    {p_is_whole : Addr} {od_is_whole an_is_whole : Option Addr} {sl_is_whole : Array (Option Value)} {oc_is_whole kV_is_whole dc_is_whole pm_is_whole cd_is_whole ct_is_whole : Value}
    {p_common : Addr} {od_common an_common : Option Addr} {sl_common : Array (Option Value)} {oc_common kV_common dc_common pm_common cd_common ct_common : Value}
    {p_need_beats : Addr} {od_need_beats an_need_beats : Option Addr} {sl_need_beats : Array (Option Value)} {oc_need_beats kV_need_beats dc_need_beats pm_need_beats cd_need_beats ct_need_beats : Value}
    {p_need_place : Addr} {od_need_place an_need_place : Option Addr} {sl_need_place : Array (Option Value)} {oc_need_place kV_need_place dc_need_place pm_need_place cd_need_place ct_need_place : Value}
    {p_Wheel_init : Addr} {od_Wheel_init an_Wheel_init : Option Addr} {sl_Wheel_init : Array (Option Value)} {oc_Wheel_init kV_Wheel_init dc_Wheel_init pm_Wheel_init cd_Wheel_init ct_Wheel_init : Value}
    {pt_Wheel_init : Addr} {otd_Wheel_init : Option Addr} {otn_Wheel_init : Nat} {ots_Wheel_init : Array (Option Value)} {ott_Wheel_init : Tok}
    {p_Wheel_reached : Addr} {od_Wheel_reached an_Wheel_reached : Option Addr} {sl_Wheel_reached : Array (Option Value)} {oc_Wheel_reached kV_Wheel_reached dc_Wheel_reached pm_Wheel_reached cd_Wheel_reached ct_Wheel_reached : Value}
    {p_Wheel_place : Addr} {od_Wheel_place an_Wheel_place : Option Addr} {sl_Wheel_place : Array (Option Value)} {oc_Wheel_place kV_Wheel_place dc_Wheel_place pm_Wheel_place cd_Wheel_place ct_Wheel_place : Value}
    {p_Wheel_turns : Addr} {od_Wheel_turns an_Wheel_turns : Option Addr} {sl_Wheel_turns : Array (Option Value)} {oc_Wheel_turns kV_Wheel_turns dc_Wheel_turns pm_Wheel_turns cd_Wheel_turns ct_Wheel_turns : Value}
    {p_grown : Addr} {od_grown an_grown : Option Addr} {sl_grown : Array (Option Value)} {oc_grown kV_grown dc_grown pm_grown cd_grown ct_grown : Value}
    {p_nearing : Addr} {od_nearing an_nearing : Option Addr} {sl_nearing : Array (Option Value)} {oc_nearing kV_nearing dc_nearing pm_nearing cd_nearing ct_nearing : Value}
    {p_nearest : Addr} {od_nearest an_nearest : Option Addr} {sl_nearest : Array (Option Value)} {oc_nearest kV_nearest dc_nearest pm_nearest cd_nearest ct_nearest : Value}
    {p_first_in : Addr} {od_first_in an_first_in : Option Addr} {sl_first_in : Array (Option Value)} {oc_first_in kV_first_in dc_first_in pm_first_in cd_first_in ct_first_in : Value}
    {p_slanted : Addr} {od_slanted an_slanted : Option Addr} {sl_slanted : Array (Option Value)} {oc_slanted kV_slanted dc_slanted pm_slanted cd_slanted ct_slanted : Value}
    {p_count_in : Addr} {od_count_in an_count_in : Option Addr} {sl_count_in : Array (Option Value)} {oc_count_in kV_count_in dc_count_in pm_count_in cd_count_in ct_count_in : Value}
    {p_law_cell_at : Addr} {od_law_cell_at an_law_cell_at : Option Addr} {sl_law_cell_at : Array (Option Value)} {oc_law_cell_at kV_law_cell_at dc_law_cell_at pm_law_cell_at cd_law_cell_at ct_law_cell_at : Value}
    {p_law_whole : Addr} {od_law_whole an_law_whole : Option Addr} {sl_law_whole : Array (Option Value)} {oc_law_whole kV_law_whole dc_law_whole pm_law_whole cd_law_whole ct_law_whole : Value}
    {p_law_divisor : Addr} {od_law_divisor an_law_divisor : Option Addr} {sl_law_divisor : Array (Option Value)} {oc_law_divisor kV_law_divisor dc_law_divisor pm_law_divisor cd_law_divisor ct_law_divisor : Value}
    {p_law_wheel : Addr} {od_law_wheel an_law_wheel : Option Addr} {sl_law_wheel : Array (Option Value)} {oc_law_wheel kV_law_wheel dc_law_wheel pm_law_wheel cd_law_wheel ct_law_wheel : Value}
    {p_law_most : Addr} {od_law_most an_law_most : Option Addr} {sl_law_most : Array (Option Value)} {oc_law_most kV_law_most dc_law_most pm_law_most cd_law_most ct_law_most : Value}
    {p_law_far : Addr} {od_law_far an_law_far : Option Addr} {sl_law_far : Array (Option Value)} {oc_law_far kV_law_far dc_law_far pm_law_far cd_law_far ct_law_far : Value}
    {p_law_near : Addr} {od_law_near an_law_near : Option Addr} {sl_law_near : Array (Option Value)} {oc_law_near kV_law_near dc_law_near pm_law_near cd_law_near ct_law_near : Value}
    {p_law_first : Addr} {od_law_first an_law_first : Option Addr} {sl_law_first : Array (Option Value)} {oc_law_first kV_law_first dc_law_first pm_law_first cd_law_first ct_law_first : Value}
    {p_law : Addr} {od_law an_law : Option Addr} {sl_law : Array (Option Value)} {oc_law kV_law dc_law pm_law cd_law ct_law : Value}
    (a_HandError : PySem.W.nsIn K mainGlobals "HandError" = some (some (.ref p_HandError)))
    (a_NoWheel : PySem.W.nsIn K mainGlobals "NoWheel" = some (some (.ref p_NoWheel)))
    (x_NoWheel : PySem.W.excIn K p_NoWheel [.type "ValueError", .type "Exception", .type "BaseException", .type "object"] "ValueError.__new__" = true)
    (k_NoWheel : PySem.W.keepIn K (.ref p_NoWheel) = true)
    (eb_NoWheel : PySem.W.subIn K (.ref p_NoWheel) (.type "BaseException") = some true)
    (et_NoWheel : PySem.W.typeIn K (.ref p_NoWheel) = some (.type "type"))
    (a_NoBeats : PySem.W.nsIn K mainGlobals "NoBeats" = some (some (.ref p_NoBeats)))
    (x_NoBeats : PySem.W.excIn K p_NoBeats [.type "ValueError", .type "Exception", .type "BaseException", .type "object"] "ValueError.__new__" = true)
    (k_NoBeats : PySem.W.keepIn K (.ref p_NoBeats) = true)
    (eb_NoBeats : PySem.W.subIn K (.ref p_NoBeats) (.type "BaseException") = some true)
    (et_NoBeats : PySem.W.typeIn K (.ref p_NoBeats) = some (.type "type"))
    (a_NoPlace : PySem.W.nsIn K mainGlobals "NoPlace" = some (some (.ref p_NoPlace)))
    (x_NoPlace : PySem.W.excIn K p_NoPlace [.type "ValueError", .type "Exception", .type "BaseException", .type "object"] "ValueError.__new__" = true)
    (k_NoPlace : PySem.W.keepIn K (.ref p_NoPlace) = true)
    (eb_NoPlace : PySem.W.subIn K (.ref p_NoPlace) (.type "BaseException") = some true)
    (et_NoPlace : PySem.W.typeIn K (.ref p_NoPlace) = some (.type "type"))
    (a_Wheel : PySem.W.nsIn K mainGlobals "Wheel" = some (some (.ref p_Wheel)))
    (w_pg : PySem.W.plainGet K p_Wheel Str.empty = true)
    (w_hd : PySem.W.hasDictIn K p_Wheel = true)
    (w_po : PySem.W.plainOver K p_Wheel = true)
    (w_sa : PySem.W.findIn K (.ref p_Wheel) "__setattr__" = some (some (.builtin "object.__setattr__")))
    (w_mk : PySem.W.makesIn K p_Wheel = true)
    (w_kc : PySem.W.keepIn K (.ref p_Wheel) = true)
    (n_size : PySem.W.findIn K (.ref p_Wheel) "size" = some none)
    (n_step : PySem.W.findIn K (.ref p_Wheel) "step" = some none)
    (n_start : PySem.W.findIn K (.ref p_Wheel) "start" = some none)
    (n_lap : PySem.W.findIn K (.ref p_Wheel) "lap" = some none)
    (a_is_whole : PySem.W.nsIn K mainGlobals "is_whole" = some (some (.ref p_is_whole)))
    (l_is_whole : K.lookup p_is_whole = some ⟨oc_is_whole, od_is_whole, .func (PySem.W.fnOf "is_whole" "is_whole" (defArgs s_is_whole) (defBody s_is_whole) (defScope s_is_whole) .none kV_is_whole dc_is_whole pm_is_whole an_is_whole cd_is_whole ct_is_whole), sl_is_whole⟩)
    (c_is_whole : PySem.W.codeIn K cd_is_whole "is_whole" = true)
    (k_is_whole : PySem.W.keepIn K (.ref p_is_whole) = true)
    (a_common : PySem.W.nsIn K mainGlobals "common" = some (some (.ref p_common)))
    (l_common : K.lookup p_common = some ⟨oc_common, od_common, .func (PySem.W.fnOf "common" "common" (defArgs s_common) (defBody s_common) (defScope s_common) .none kV_common dc_common pm_common an_common cd_common ct_common), sl_common⟩)
    (c_common : PySem.W.codeIn K cd_common "common" = true)
    (k_common : PySem.W.keepIn K (.ref p_common) = true)
    (a_need_beats : PySem.W.nsIn K mainGlobals "need_beats" = some (some (.ref p_need_beats)))
    (l_need_beats : K.lookup p_need_beats = some ⟨oc_need_beats, od_need_beats, .func (PySem.W.fnOf "need_beats" "need_beats" (defArgs s_need_beats) (defBody s_need_beats) (defScope s_need_beats) .none kV_need_beats dc_need_beats pm_need_beats an_need_beats cd_need_beats ct_need_beats), sl_need_beats⟩)
    (c_need_beats : PySem.W.codeIn K cd_need_beats "need_beats" = true)
    (k_need_beats : PySem.W.keepIn K (.ref p_need_beats) = true)
    (a_need_place : PySem.W.nsIn K mainGlobals "need_place" = some (some (.ref p_need_place)))
    (l_need_place : K.lookup p_need_place = some ⟨oc_need_place, od_need_place, .func (PySem.W.fnOf "need_place" "need_place" (defArgs s_need_place) (defBody s_need_place) (defScope s_need_place) .none kV_need_place dc_need_place pm_need_place an_need_place cd_need_place ct_need_place), sl_need_place⟩)
    (c_need_place : PySem.W.codeIn K cd_need_place "need_place" = true)
    (k_need_place : PySem.W.keepIn K (.ref p_need_place) = true)
    (a_Wheel_init : PySem.W.findIn K (.ref p_Wheel) "__init__" = some (some (.ref p_Wheel_init)))
    (l_Wheel_init : K.lookup p_Wheel_init = some ⟨oc_Wheel_init, od_Wheel_init, .func (PySem.W.fnOf "__init__" "Wheel.__init__" (defArgs s_Wheel_init) (defBody s_Wheel_init) (defScope s_Wheel_init) (.ref pt_Wheel_init) kV_Wheel_init dc_Wheel_init pm_Wheel_init an_Wheel_init cd_Wheel_init ct_Wheel_init), sl_Wheel_init⟩)
    (c_Wheel_init : PySem.W.codeIn K cd_Wheel_init "Wheel.__init__" = true)
    (k_Wheel_init : PySem.W.keepIn K (.ref p_Wheel_init) = true)
    (i_Wheel_init : PySem.W.isFn K (.ref p_Wheel_init) = true)
    (t_Wheel_init : K.lookup pt_Wheel_init = some ⟨.type "tuple", otd_Wheel_init, .seq [.int 0 ott_Wheel_init].toArray otn_Wheel_init, ots_Wheel_init⟩)
    (a_Wheel_reached : PySem.W.findIn K (.ref p_Wheel) "reached" = some (some (.ref p_Wheel_reached)))
    (l_Wheel_reached : K.lookup p_Wheel_reached = some ⟨oc_Wheel_reached, od_Wheel_reached, .func (PySem.W.fnOf "reached" "Wheel.reached" (defArgs s_Wheel_reached) (defBody s_Wheel_reached) (defScope s_Wheel_reached) .none kV_Wheel_reached dc_Wheel_reached pm_Wheel_reached an_Wheel_reached cd_Wheel_reached ct_Wheel_reached), sl_Wheel_reached⟩)
    (c_Wheel_reached : PySem.W.codeIn K cd_Wheel_reached "Wheel.reached" = true)
    (k_Wheel_reached : PySem.W.keepIn K (.ref p_Wheel_reached) = true)
    (i_Wheel_reached : PySem.W.isFn K (.ref p_Wheel_reached) = true)
    (a_Wheel_place : PySem.W.findIn K (.ref p_Wheel) "place" = some (some (.ref p_Wheel_place)))
    (l_Wheel_place : K.lookup p_Wheel_place = some ⟨oc_Wheel_place, od_Wheel_place, .func (PySem.W.fnOf "place" "Wheel.place" (defArgs s_Wheel_place) (defBody s_Wheel_place) (defScope s_Wheel_place) .none kV_Wheel_place dc_Wheel_place pm_Wheel_place an_Wheel_place cd_Wheel_place ct_Wheel_place), sl_Wheel_place⟩)
    (c_Wheel_place : PySem.W.codeIn K cd_Wheel_place "Wheel.place" = true)
    (k_Wheel_place : PySem.W.keepIn K (.ref p_Wheel_place) = true)
    (i_Wheel_place : PySem.W.isFn K (.ref p_Wheel_place) = true)
    (a_Wheel_turns : PySem.W.findIn K (.ref p_Wheel) "turns" = some (some (.ref p_Wheel_turns)))
    (l_Wheel_turns : K.lookup p_Wheel_turns = some ⟨oc_Wheel_turns, od_Wheel_turns, .func (PySem.W.fnOf "turns" "Wheel.turns" (defArgs s_Wheel_turns) (defBody s_Wheel_turns) (defScope s_Wheel_turns) .none kV_Wheel_turns dc_Wheel_turns pm_Wheel_turns an_Wheel_turns cd_Wheel_turns ct_Wheel_turns), sl_Wheel_turns⟩)
    (c_Wheel_turns : PySem.W.codeIn K cd_Wheel_turns "Wheel.turns" = true)
    (k_Wheel_turns : PySem.W.keepIn K (.ref p_Wheel_turns) = true)
    (i_Wheel_turns : PySem.W.isFn K (.ref p_Wheel_turns) = true)
    (a_grown : PySem.W.nsIn K mainGlobals "grown" = some (some (.ref p_grown)))
    (l_grown : K.lookup p_grown = some ⟨oc_grown, od_grown, .func (PySem.W.fnOf "grown" "grown" (defArgs s_grown) (defBody s_grown) (defScope s_grown) .none kV_grown dc_grown pm_grown an_grown cd_grown ct_grown), sl_grown⟩)
    (c_grown : PySem.W.codeIn K cd_grown "grown" = true)
    (k_grown : PySem.W.keepIn K (.ref p_grown) = true)
    (a_nearing : PySem.W.nsIn K mainGlobals "nearing" = some (some (.ref p_nearing)))
    (l_nearing : K.lookup p_nearing = some ⟨oc_nearing, od_nearing, .func (PySem.W.fnOf "nearing" "nearing" (defArgs s_nearing) (defBody s_nearing) (defScope s_nearing) .none kV_nearing dc_nearing pm_nearing an_nearing cd_nearing ct_nearing), sl_nearing⟩)
    (c_nearing : PySem.W.codeIn K cd_nearing "nearing" = true)
    (k_nearing : PySem.W.keepIn K (.ref p_nearing) = true)
    (a_nearest : PySem.W.nsIn K mainGlobals "nearest" = some (some (.ref p_nearest)))
    (l_nearest : K.lookup p_nearest = some ⟨oc_nearest, od_nearest, .func (PySem.W.fnOf "nearest" "nearest" (defArgs s_nearest) (defBody s_nearest) (defScope s_nearest) .none kV_nearest dc_nearest pm_nearest an_nearest cd_nearest ct_nearest), sl_nearest⟩)
    (c_nearest : PySem.W.codeIn K cd_nearest "nearest" = true)
    (k_nearest : PySem.W.keepIn K (.ref p_nearest) = true)
    (a_first_in : PySem.W.nsIn K mainGlobals "first_in" = some (some (.ref p_first_in)))
    (l_first_in : K.lookup p_first_in = some ⟨oc_first_in, od_first_in, .func (PySem.W.fnOf "first_in" "first_in" (defArgs s_first_in) (defBody s_first_in) (defScope s_first_in) .none kV_first_in dc_first_in pm_first_in an_first_in cd_first_in ct_first_in), sl_first_in⟩)
    (c_first_in : PySem.W.codeIn K cd_first_in "first_in" = true)
    (k_first_in : PySem.W.keepIn K (.ref p_first_in) = true)
    (a_slanted : PySem.W.nsIn K mainGlobals "slanted" = some (some (.ref p_slanted)))
    (l_slanted : K.lookup p_slanted = some ⟨oc_slanted, od_slanted, .func (PySem.W.fnOf "slanted" "slanted" (defArgs s_slanted) (defBody s_slanted) (defScope s_slanted) .none kV_slanted dc_slanted pm_slanted an_slanted cd_slanted ct_slanted), sl_slanted⟩)
    (c_slanted : PySem.W.codeIn K cd_slanted "slanted" = true)
    (k_slanted : PySem.W.keepIn K (.ref p_slanted) = true)
    (a_count_in : PySem.W.nsIn K mainGlobals "count_in" = some (some (.ref p_count_in)))
    (l_count_in : K.lookup p_count_in = some ⟨oc_count_in, od_count_in, .func (PySem.W.fnOf "count_in" "count_in" (defArgs s_count_in) (defBody s_count_in) (defScope s_count_in) .none kV_count_in dc_count_in pm_count_in an_count_in cd_count_in ct_count_in), sl_count_in⟩)
    (c_count_in : PySem.W.codeIn K cd_count_in "count_in" = true)
    (k_count_in : PySem.W.keepIn K (.ref p_count_in) = true)
    (a_law_cell_at : PySem.W.nsIn K mainGlobals "_law_cell_at" = some (some (.ref p_law_cell_at)))
    (l_law_cell_at : K.lookup p_law_cell_at = some ⟨oc_law_cell_at, od_law_cell_at, .func (PySem.W.fnOf "_law_cell_at" "_law_cell_at" (defArgs s_law_cell_at) (defBody s_law_cell_at) (defScope s_law_cell_at) .none kV_law_cell_at dc_law_cell_at pm_law_cell_at an_law_cell_at cd_law_cell_at ct_law_cell_at), sl_law_cell_at⟩)
    (c_law_cell_at : PySem.W.codeIn K cd_law_cell_at "_law_cell_at" = true)
    (k_law_cell_at : PySem.W.keepIn K (.ref p_law_cell_at) = true)
    (a_law_whole : PySem.W.nsIn K mainGlobals "_law_whole" = some (some (.ref p_law_whole)))
    (l_law_whole : K.lookup p_law_whole = some ⟨oc_law_whole, od_law_whole, .func (PySem.W.fnOf "_law_whole" "_law_whole" (defArgs s_law_whole) (defBody s_law_whole) (defScope s_law_whole) .none kV_law_whole dc_law_whole pm_law_whole an_law_whole cd_law_whole ct_law_whole), sl_law_whole⟩)
    (c_law_whole : PySem.W.codeIn K cd_law_whole "_law_whole" = true)
    (k_law_whole : PySem.W.keepIn K (.ref p_law_whole) = true)
    (a_law_divisor : PySem.W.nsIn K mainGlobals "_law_divisor" = some (some (.ref p_law_divisor)))
    (l_law_divisor : K.lookup p_law_divisor = some ⟨oc_law_divisor, od_law_divisor, .func (PySem.W.fnOf "_law_divisor" "_law_divisor" (defArgs s_law_divisor) (defBody s_law_divisor) (defScope s_law_divisor) .none kV_law_divisor dc_law_divisor pm_law_divisor an_law_divisor cd_law_divisor ct_law_divisor), sl_law_divisor⟩)
    (c_law_divisor : PySem.W.codeIn K cd_law_divisor "_law_divisor" = true)
    (k_law_divisor : PySem.W.keepIn K (.ref p_law_divisor) = true)
    (a_law_wheel : PySem.W.nsIn K mainGlobals "_law_wheel" = some (some (.ref p_law_wheel)))
    (l_law_wheel : K.lookup p_law_wheel = some ⟨oc_law_wheel, od_law_wheel, .func (PySem.W.fnOf "_law_wheel" "_law_wheel" (defArgs s_law_wheel) (defBody s_law_wheel) (defScope s_law_wheel) .none kV_law_wheel dc_law_wheel pm_law_wheel an_law_wheel cd_law_wheel ct_law_wheel), sl_law_wheel⟩)
    (c_law_wheel : PySem.W.codeIn K cd_law_wheel "_law_wheel" = true)
    (k_law_wheel : PySem.W.keepIn K (.ref p_law_wheel) = true)
    (a_law_most : PySem.W.nsIn K mainGlobals "_law_most" = some (some (.ref p_law_most)))
    (l_law_most : K.lookup p_law_most = some ⟨oc_law_most, od_law_most, .func (PySem.W.fnOf "_law_most" "_law_most" (defArgs s_law_most) (defBody s_law_most) (defScope s_law_most) .none kV_law_most dc_law_most pm_law_most an_law_most cd_law_most ct_law_most), sl_law_most⟩)
    (c_law_most : PySem.W.codeIn K cd_law_most "_law_most" = true)
    (k_law_most : PySem.W.keepIn K (.ref p_law_most) = true)
    (a_law_far : PySem.W.nsIn K mainGlobals "_law_far" = some (some (.ref p_law_far)))
    (l_law_far : K.lookup p_law_far = some ⟨oc_law_far, od_law_far, .func (PySem.W.fnOf "_law_far" "_law_far" (defArgs s_law_far) (defBody s_law_far) (defScope s_law_far) .none kV_law_far dc_law_far pm_law_far an_law_far cd_law_far ct_law_far), sl_law_far⟩)
    (c_law_far : PySem.W.codeIn K cd_law_far "_law_far" = true)
    (k_law_far : PySem.W.keepIn K (.ref p_law_far) = true)
    (a_law_near : PySem.W.nsIn K mainGlobals "_law_near" = some (some (.ref p_law_near)))
    (l_law_near : K.lookup p_law_near = some ⟨oc_law_near, od_law_near, .func (PySem.W.fnOf "_law_near" "_law_near" (defArgs s_law_near) (defBody s_law_near) (defScope s_law_near) .none kV_law_near dc_law_near pm_law_near an_law_near cd_law_near ct_law_near), sl_law_near⟩)
    (c_law_near : PySem.W.codeIn K cd_law_near "_law_near" = true)
    (k_law_near : PySem.W.keepIn K (.ref p_law_near) = true)
    (a_law_first : PySem.W.nsIn K mainGlobals "_law_first" = some (some (.ref p_law_first)))
    (l_law_first : K.lookup p_law_first = some ⟨oc_law_first, od_law_first, .func (PySem.W.fnOf "_law_first" "_law_first" (defArgs s_law_first) (defBody s_law_first) (defScope s_law_first) .none kV_law_first dc_law_first pm_law_first an_law_first cd_law_first ct_law_first), sl_law_first⟩)
    (c_law_first : PySem.W.codeIn K cd_law_first "_law_first" = true)
    (k_law_first : PySem.W.keepIn K (.ref p_law_first) = true)
    (a_law : PySem.W.nsIn K mainGlobals "law" = some (some (.ref p_law)))
    (l_law : K.lookup p_law = some ⟨oc_law, od_law, .func (PySem.W.fnOf "law" "law" (defArgs s_law) (defBody s_law) (defScope s_law) .none kV_law dc_law pm_law an_law cd_law ct_law), sl_law⟩)
    (c_law : PySem.W.codeIn K cd_law "law" = true)
    (k_law : PySem.W.keepIn K (.ref p_law) = true)
    (z_ValueError : PySem.W.nsIn K mainGlobals "ValueError" = some none)
    (z_sorted : PySem.W.nsIn K mainGlobals "sorted" = some none)
    (z_range : PySem.W.nsIn K mainGlobals "range" = some none)
    (z_isinstance : PySem.W.nsIn K mainGlobals "isinstance" = some none)
    (z_int : PySem.W.nsIn K mainGlobals "int" = some none)
    (z_min : PySem.W.nsIn K mainGlobals "min" = some none)
    (z_divmod : PySem.W.nsIn K mainGlobals "divmod" = some none)
    (z_len : PySem.W.nsIn K mainGlobals "len" = some none)
    (z_set : PySem.W.nsIn K mainGlobals "set" = some none)
    (z_bool : PySem.W.nsIn K mainGlobals "bool" = some none)
    (z_abs : PySem.W.nsIn K mainGlobals "abs" = some none)
    : ∃ fd : FuncData, (∀ (s : Shared) (v : Value), BindsTo s fd ⟨[v], []⟩ [("_law_script", v)]) ∧ ∀ base : Heap, K.In base → base.Ns mainGlobals mg → FnOk l.prog w K mg base CX0 6 fa fd ["_law_script"] (sp_law K) := by
  have e := hfa.symm.trans (PySem.W.mg_of X G a_law)
  cases e
  have F_is_whole := fun_mk (st := s_is_whole) l_is_whole c_is_whole k_is_whole
  have b_is_whole := F_is_whole.binds (ps := ["thing"]) fun _ _ _ _ _ _ us hl => match us, hl with | [_], _ => rfl
  have F_common := fun_mk (st := s_common) l_common c_common k_common
  have b_common := F_common.binds (ps := ["one", "other"]) fun _ _ _ _ _ _ us hl => match us, hl with | [_, _], _ => rfl
  have F_need_beats := fun_mk (st := s_need_beats) l_need_beats c_need_beats k_need_beats
  have b_need_beats := F_need_beats.binds (ps := ["many", "least"]) fun _ _ _ _ _ _ us hl => match us, hl with | [_, _], _ => rfl
  have F_need_place := fun_mk (st := s_need_place) l_need_place c_need_place k_need_place
  have b_need_place := F_need_place.binds (ps := ["wheel", "place"]) fun _ _ _ _ _ _ us hl => match us, hl with | [_, _], _ => rfl
  have F_Wheel_init : FunD K "__init__" "Wheel.__init__" (defArgs s_Wheel_init) (defBody s_Wheel_init) (defScope s_Wheel_init) [.int 0] [] p_Wheel_init (PySem.W.fnOf "__init__" "Wheel.__init__" (defArgs s_Wheel_init) (defBody s_Wheel_init) (defScope s_Wheel_init) (.ref pt_Wheel_init) kV_Wheel_init dc_Wheel_init pm_Wheel_init an_Wheel_init cd_Wheel_init ct_Wheel_init) := ⟨⟨_, _, _, _, _, _, _, _, _, _, rfl, l_Wheel_init, c_Wheel_init, .inr ⟨List.cons_ne_nil _ _, pt_Wheel_init, _, [.int 0 ott_Wheel_init], otn_Wheel_init, rfl, t_Wheel_init, rfl, .cons ⟨_, rfl⟩ .nil⟩, .inl rfl⟩, k_Wheel_init⟩
  obtain ⟨d3_Wheel_init, v3_Wheel_init, b3_Wheel_init⟩ := F_Wheel_init.binds1 (ps := ["self", "size", "step", "start"]) 4 1 (by decide) rfl fun _ _ _ _ _ _ _ us its hu hi => match us, its, hu, hi with | [_, _, _, _], [_], _, _ => ⟨_, rfl, rfl⟩
  obtain ⟨d2_Wheel_init, v2_Wheel_init, b2_Wheel_init⟩ := F_Wheel_init.binds1 (ps := ["self", "size", "step", "start"]) 3 0 (by decide) rfl fun _ _ _ _ _ _ _ us its hu hi => match us, its, hu, hi with | [_, _, _], [_], _, _ => ⟨_, rfl, rfl⟩
  have F_Wheel_reached := fun_mk (st := s_Wheel_reached) l_Wheel_reached c_Wheel_reached k_Wheel_reached
  have b_Wheel_reached := F_Wheel_reached.binds (ps := ["self", "beat"]) fun _ _ _ _ _ _ us hl => match us, hl with | [_, _], _ => rfl
  have F_Wheel_place := fun_mk (st := s_Wheel_place) l_Wheel_place c_Wheel_place k_Wheel_place
  have b_Wheel_place := F_Wheel_place.binds (ps := ["self", "beat"]) fun _ _ _ _ _ _ us hl => match us, hl with | [_, _], _ => rfl
  have F_Wheel_turns := fun_mk (st := s_Wheel_turns) l_Wheel_turns c_Wheel_turns k_Wheel_turns
  have b_Wheel_turns := F_Wheel_turns.binds (ps := ["self", "beat"]) fun _ _ _ _ _ _ us hl => match us, hl with | [_, _], _ => rfl
  have F_grown := fun_mk (st := s_grown) l_grown c_grown k_grown
  have b_grown := F_grown.binds (ps := ["sides", "far"]) fun _ _ _ _ _ _ us hl => match us, hl with | [_, _], _ => rfl
  have F_nearing := fun_mk (st := s_nearing) l_nearing c_nearing k_nearing
  have b_nearing := F_nearing.binds (ps := ["wheel", "place"]) fun _ _ _ _ _ _ us hl => match us, hl with | [_, _], _ => rfl
  have F_nearest := fun_mk (st := s_nearest) l_nearest c_nearest k_nearest
  have b_nearest := F_nearest.binds (ps := ["wheel", "many", "place"]) fun _ _ _ _ _ _ us hl => match us, hl with | [_, _, _], _ => rfl
  have F_first_in := fun_mk (st := s_first_in) l_first_in c_first_in k_first_in
  have b_first_in := F_first_in.binds (ps := ["wheel", "low", "high"]) fun _ _ _ _ _ _ us hl => match us, hl with | [_, _, _], _ => rfl
  have F_slanted := fun_mk (st := s_slanted) l_slanted c_slanted k_slanted
  have b_slanted := F_slanted.binds (ps := ["many", "step", "start", "size"]) fun _ _ _ _ _ _ us hl => match us, hl with | [_, _, _, _], _ => rfl
  have F_count_in := fun_mk (st := s_count_in) l_count_in c_count_in k_count_in
  have b_count_in := F_count_in.binds (ps := ["wheel", "many", "low", "high"]) fun _ _ _ _ _ _ us hl => match us, hl with | [_, _, _, _], _ => rfl
  have F_law_cell_at := fun_mk (st := s_law_cell_at) l_law_cell_at c_law_cell_at k_law_cell_at
  have b_law_cell_at := F_law_cell_at.binds (ps := ["_law_script", "_law_k"]) fun _ _ _ _ _ _ us hl => match us, hl with | [_, _], _ => rfl
  have F_law_whole := fun_mk (st := s_law_whole) l_law_whole c_law_whole k_law_whole
  have b_law_whole := F_law_whole.binds (ps := ["_law_found"]) fun _ _ _ _ _ _ us hl => match us, hl with | [_], _ => rfl
  have F_law_divisor := fun_mk (st := s_law_divisor) l_law_divisor c_law_divisor k_law_divisor
  have b_law_divisor := F_law_divisor.binds (ps := ["_law_one", "_law_other"]) fun _ _ _ _ _ _ us hl => match us, hl with | [_, _], _ => rfl
  have F_law_wheel := fun_mk (st := s_law_wheel) l_law_wheel c_law_wheel k_law_wheel
  have b_law_wheel := F_law_wheel.binds (ps := ["_law_script"]) fun _ _ _ _ _ _ us hl => match us, hl with | [_], _ => rfl
  have F_law_most := fun_mk (st := s_law_most) l_law_most c_law_most k_law_most
  have b_law_most := F_law_most.binds (ps := ["_law_lap", "_law_some"]) fun _ _ _ _ _ _ us hl => match us, hl with | [_, _], _ => rfl
  have F_law_far := fun_mk (st := s_law_far) l_law_far c_law_far k_law_far
  have b_law_far := F_law_far.binds (ps := ["_law_numbers", "_law_beat", "_law_place"]) fun _ _ _ _ _ _ us hl => match us, hl with | [_, _, _], _ => rfl
  have F_law_near := fun_mk (st := s_law_near) l_law_near c_law_near k_law_near
  have b_law_near := F_law_near.binds (ps := ["_law_wheel_here", "_law_numbers", "_law_many", "_law_low", "_law_high", "_law_count"]) fun _ _ _ _ _ _ us hl => match us, hl with | [_, _, _, _, _, _], _ => rfl
  have F_law_first := fun_mk (st := s_law_first) l_law_first c_law_first k_law_first
  have b_law_first := F_law_first.binds (ps := ["_law_wheel_here", "_law_many", "_law_low", "_law_high", "_law_count"]) fun _ _ _ _ _ _ us hl => match us, hl with | [_, _, _, _, _], _ => rfl
  have F_law := fun_mk (st := s_law) l_law c_law k_law
  have b_law := F_law.binds (ps := ["_law_script"]) fun _ _ _ _ _ _ us hl => match us, hl with | [_], _ => rfl
  let T : Txt K mg := {
    C_HandError := p_HandError,
    g_HandError := PySem.W.mg_of X G a_HandError,
    C_NoWheel := p_NoWheel,
    g_NoWheel := PySem.W.mg_of X G a_NoWheel,
    x_NoWheel := x_NoWheel,
    k_NoWheel := k_NoWheel,
    eb_NoWheel := eb_NoWheel,
    et_NoWheel := et_NoWheel,
    C_NoBeats := p_NoBeats,
    g_NoBeats := PySem.W.mg_of X G a_NoBeats,
    x_NoBeats := x_NoBeats,
    k_NoBeats := k_NoBeats,
    eb_NoBeats := eb_NoBeats,
    et_NoBeats := et_NoBeats,
    C_NoPlace := p_NoPlace,
    g_NoPlace := PySem.W.mg_of X G a_NoPlace,
    x_NoPlace := x_NoPlace,
    k_NoPlace := k_NoPlace,
    eb_NoPlace := eb_NoPlace,
    et_NoPlace := et_NoPlace,
    C_Wheel := p_Wheel,
    g_Wheel := PySem.W.mg_of X G a_Wheel,
    c_Wheel := ⟨w_pg, w_hd, w_po, w_sa⟩,
    n_size := n_size,
    n_step := n_step,
    n_start := n_start,
    n_lap := n_lap,
    a_is_whole := p_is_whole,
    fd_is_whole := PySem.W.fnOf "is_whole" "is_whole" (defArgs s_is_whole) (defBody s_is_whole) (defScope s_is_whole) .none kV_is_whole dc_is_whole pm_is_whole an_is_whole cd_is_whole ct_is_whole,
    F_is_whole := F_is_whole,
    b_is_whole := b_is_whole,
    g_is_whole := PySem.W.mg_of X G a_is_whole,
    a_common := p_common,
    fd_common := PySem.W.fnOf "common" "common" (defArgs s_common) (defBody s_common) (defScope s_common) .none kV_common dc_common pm_common an_common cd_common ct_common,
    F_common := F_common,
    b_common := b_common,
    g_common := PySem.W.mg_of X G a_common,
    a_need_beats := p_need_beats,
    fd_need_beats := PySem.W.fnOf "need_beats" "need_beats" (defArgs s_need_beats) (defBody s_need_beats) (defScope s_need_beats) .none kV_need_beats dc_need_beats pm_need_beats an_need_beats cd_need_beats ct_need_beats,
    F_need_beats := F_need_beats,
    b_need_beats := b_need_beats,
    g_need_beats := PySem.W.mg_of X G a_need_beats,
    a_need_place := p_need_place,
    fd_need_place := PySem.W.fnOf "need_place" "need_place" (defArgs s_need_place) (defBody s_need_place) (defScope s_need_place) .none kV_need_place dc_need_place pm_need_place an_need_place cd_need_place ct_need_place,
    F_need_place := F_need_place,
    b_need_place := b_need_place,
    g_need_place := PySem.W.mg_of X G a_need_place,
    a_Wheel_init := p_Wheel_init,
    fd_Wheel_init := PySem.W.fnOf "__init__" "Wheel.__init__" (defArgs s_Wheel_init) (defBody s_Wheel_init) (defScope s_Wheel_init) (.ref pt_Wheel_init) kV_Wheel_init dc_Wheel_init pm_Wheel_init an_Wheel_init cd_Wheel_init ct_Wheel_init,
    F_Wheel_init := F_Wheel_init,
    d3_Wheel_init := d3_Wheel_init,
    v3_Wheel_init := v3_Wheel_init,
    b3_Wheel_init := b3_Wheel_init,
    d2_Wheel_init := d2_Wheel_init,
    v2_Wheel_init := v2_Wheel_init,
    b2_Wheel_init := b2_Wheel_init,
    m_Wheel_init := ⟨a_Wheel_init, i_Wheel_init, k_Wheel_init⟩,
    M_Wheel := ⟨w_mk, a_Wheel_init, i_Wheel_init, w_kc⟩,
    a_Wheel_reached := p_Wheel_reached,
    fd_Wheel_reached := PySem.W.fnOf "reached" "Wheel.reached" (defArgs s_Wheel_reached) (defBody s_Wheel_reached) (defScope s_Wheel_reached) .none kV_Wheel_reached dc_Wheel_reached pm_Wheel_reached an_Wheel_reached cd_Wheel_reached ct_Wheel_reached,
    F_Wheel_reached := F_Wheel_reached,
    b_Wheel_reached := b_Wheel_reached,
    m_Wheel_reached := ⟨a_Wheel_reached, i_Wheel_reached, k_Wheel_reached⟩,
    a_Wheel_place := p_Wheel_place,
    fd_Wheel_place := PySem.W.fnOf "place" "Wheel.place" (defArgs s_Wheel_place) (defBody s_Wheel_place) (defScope s_Wheel_place) .none kV_Wheel_place dc_Wheel_place pm_Wheel_place an_Wheel_place cd_Wheel_place ct_Wheel_place,
    F_Wheel_place := F_Wheel_place,
    b_Wheel_place := b_Wheel_place,
    m_Wheel_place := ⟨a_Wheel_place, i_Wheel_place, k_Wheel_place⟩,
    a_Wheel_turns := p_Wheel_turns,
    fd_Wheel_turns := PySem.W.fnOf "turns" "Wheel.turns" (defArgs s_Wheel_turns) (defBody s_Wheel_turns) (defScope s_Wheel_turns) .none kV_Wheel_turns dc_Wheel_turns pm_Wheel_turns an_Wheel_turns cd_Wheel_turns ct_Wheel_turns,
    F_Wheel_turns := F_Wheel_turns,
    b_Wheel_turns := b_Wheel_turns,
    m_Wheel_turns := ⟨a_Wheel_turns, i_Wheel_turns, k_Wheel_turns⟩,
    a_grown := p_grown,
    fd_grown := PySem.W.fnOf "grown" "grown" (defArgs s_grown) (defBody s_grown) (defScope s_grown) .none kV_grown dc_grown pm_grown an_grown cd_grown ct_grown,
    F_grown := F_grown,
    b_grown := b_grown,
    g_grown := PySem.W.mg_of X G a_grown,
    a_nearing := p_nearing,
    fd_nearing := PySem.W.fnOf "nearing" "nearing" (defArgs s_nearing) (defBody s_nearing) (defScope s_nearing) .none kV_nearing dc_nearing pm_nearing an_nearing cd_nearing ct_nearing,
    F_nearing := F_nearing,
    b_nearing := b_nearing,
    g_nearing := PySem.W.mg_of X G a_nearing,
    a_nearest := p_nearest,
    fd_nearest := PySem.W.fnOf "nearest" "nearest" (defArgs s_nearest) (defBody s_nearest) (defScope s_nearest) .none kV_nearest dc_nearest pm_nearest an_nearest cd_nearest ct_nearest,
    F_nearest := F_nearest,
    b_nearest := b_nearest,
    g_nearest := PySem.W.mg_of X G a_nearest,
    a_first_in := p_first_in,
    fd_first_in := PySem.W.fnOf "first_in" "first_in" (defArgs s_first_in) (defBody s_first_in) (defScope s_first_in) .none kV_first_in dc_first_in pm_first_in an_first_in cd_first_in ct_first_in,
    F_first_in := F_first_in,
    b_first_in := b_first_in,
    g_first_in := PySem.W.mg_of X G a_first_in,
    a_slanted := p_slanted,
    fd_slanted := PySem.W.fnOf "slanted" "slanted" (defArgs s_slanted) (defBody s_slanted) (defScope s_slanted) .none kV_slanted dc_slanted pm_slanted an_slanted cd_slanted ct_slanted,
    F_slanted := F_slanted,
    b_slanted := b_slanted,
    g_slanted := PySem.W.mg_of X G a_slanted,
    a_count_in := p_count_in,
    fd_count_in := PySem.W.fnOf "count_in" "count_in" (defArgs s_count_in) (defBody s_count_in) (defScope s_count_in) .none kV_count_in dc_count_in pm_count_in an_count_in cd_count_in ct_count_in,
    F_count_in := F_count_in,
    b_count_in := b_count_in,
    g_count_in := PySem.W.mg_of X G a_count_in,
    a_law_cell_at := p_law_cell_at,
    fd_law_cell_at := PySem.W.fnOf "_law_cell_at" "_law_cell_at" (defArgs s_law_cell_at) (defBody s_law_cell_at) (defScope s_law_cell_at) .none kV_law_cell_at dc_law_cell_at pm_law_cell_at an_law_cell_at cd_law_cell_at ct_law_cell_at,
    F_law_cell_at := F_law_cell_at,
    b_law_cell_at := b_law_cell_at,
    g_law_cell_at := PySem.W.mg_of X G a_law_cell_at,
    a_law_whole := p_law_whole,
    fd_law_whole := PySem.W.fnOf "_law_whole" "_law_whole" (defArgs s_law_whole) (defBody s_law_whole) (defScope s_law_whole) .none kV_law_whole dc_law_whole pm_law_whole an_law_whole cd_law_whole ct_law_whole,
    F_law_whole := F_law_whole,
    b_law_whole := b_law_whole,
    g_law_whole := PySem.W.mg_of X G a_law_whole,
    a_law_divisor := p_law_divisor,
    fd_law_divisor := PySem.W.fnOf "_law_divisor" "_law_divisor" (defArgs s_law_divisor) (defBody s_law_divisor) (defScope s_law_divisor) .none kV_law_divisor dc_law_divisor pm_law_divisor an_law_divisor cd_law_divisor ct_law_divisor,
    F_law_divisor := F_law_divisor,
    b_law_divisor := b_law_divisor,
    g_law_divisor := PySem.W.mg_of X G a_law_divisor,
    a_law_wheel := p_law_wheel,
    fd_law_wheel := PySem.W.fnOf "_law_wheel" "_law_wheel" (defArgs s_law_wheel) (defBody s_law_wheel) (defScope s_law_wheel) .none kV_law_wheel dc_law_wheel pm_law_wheel an_law_wheel cd_law_wheel ct_law_wheel,
    F_law_wheel := F_law_wheel,
    b_law_wheel := b_law_wheel,
    g_law_wheel := PySem.W.mg_of X G a_law_wheel,
    a_law_most := p_law_most,
    fd_law_most := PySem.W.fnOf "_law_most" "_law_most" (defArgs s_law_most) (defBody s_law_most) (defScope s_law_most) .none kV_law_most dc_law_most pm_law_most an_law_most cd_law_most ct_law_most,
    F_law_most := F_law_most,
    b_law_most := b_law_most,
    g_law_most := PySem.W.mg_of X G a_law_most,
    a_law_far := p_law_far,
    fd_law_far := PySem.W.fnOf "_law_far" "_law_far" (defArgs s_law_far) (defBody s_law_far) (defScope s_law_far) .none kV_law_far dc_law_far pm_law_far an_law_far cd_law_far ct_law_far,
    F_law_far := F_law_far,
    b_law_far := b_law_far,
    g_law_far := PySem.W.mg_of X G a_law_far,
    a_law_near := p_law_near,
    fd_law_near := PySem.W.fnOf "_law_near" "_law_near" (defArgs s_law_near) (defBody s_law_near) (defScope s_law_near) .none kV_law_near dc_law_near pm_law_near an_law_near cd_law_near ct_law_near,
    F_law_near := F_law_near,
    b_law_near := b_law_near,
    g_law_near := PySem.W.mg_of X G a_law_near,
    a_law_first := p_law_first,
    fd_law_first := PySem.W.fnOf "_law_first" "_law_first" (defArgs s_law_first) (defBody s_law_first) (defScope s_law_first) .none kV_law_first dc_law_first pm_law_first an_law_first cd_law_first ct_law_first,
    F_law_first := F_law_first,
    b_law_first := b_law_first,
    g_law_first := PySem.W.mg_of X G a_law_first,
    a_law := fa,
    fd_law := PySem.W.fnOf "law" "law" (defArgs s_law) (defBody s_law) (defScope s_law) .none kV_law dc_law pm_law an_law cd_law ct_law,
    F_law := F_law,
    b_law := b_law,
    g_law := PySem.W.mg_of X G a_law,
    z_ValueError := PySem.W.mg_none_of X G z_ValueError,
    z_sorted := PySem.W.mg_none_of X G z_sorted,
    z_range := PySem.W.mg_none_of X G z_range,
    z_isinstance := PySem.W.mg_none_of X G z_isinstance,
    z_int := PySem.W.mg_none_of X G z_int,
    z_min := PySem.W.mg_none_of X G z_min,
    z_divmod := PySem.W.mg_none_of X G z_divmod,
    z_len := PySem.W.mg_none_of X G z_len,
    z_set := PySem.W.mg_none_of X G z_set,
    z_bool := PySem.W.mg_none_of X G z_bool,
    z_abs := PySem.W.mg_none_of X G z_abs }
  exact ⟨T.fd_law, fun s v => .of_eq rfl, fun base _ _ => ok_law T⟩
end Gh
open PySem PySem.W PyProof.Rows
set_option maxRecDepth 100000 in
set_option maxHeartbeats 0 in
theorem PySem.Challenge.cw_gaphand_k10_whole_wheel_parted_holds : PySem.Challenge.rw_gaphand_k10_whole_wheel_parted.Holds := by
  w_on; o_law; k_head; (case hw => w_witness2)
  k_fill
  refine L2.walk_ofB (l := PySem.Challenge.rw_gaphand_k10_whole_wheel_parted) (n := 63) (k := 6) (x := "_law_script") (CX := fun _ => L2.CX0) (sp := fun w => Gh.sp_law _) rfl (by decide) rfl ⟨rfl, by decide, by decide⟩ (fun w h Y => PySem.W.kIn_of Y) ?F (fun _ _ a ns hl hb _ hS => ⟨a, ns, rfl, hS, hl, hb, fun _ => rfl⟩) (fun _ _ _ _ _ h => h)
  case F =>
    intro w mg fa h KX G hmg
    refine' Gh.all_mk KX G hmg ?a_HandError ?a_NoWheel ?x_NoWheel ?k_NoWheel ?eb_NoWheel ?et_NoWheel ?a_NoBeats ?x_NoBeats ?k_NoBeats ?eb_NoBeats ?et_NoBeats ?a_NoPlace ?x_NoPlace ?k_NoPlace ?eb_NoPlace ?et_NoPlace ?a_Wheel ?w_pg ?w_hd ?w_po ?w_sa ?w_mk ?w_kc ?n_size ?n_step ?n_start ?n_lap ?a_is_whole ?l_is_whole ?c_is_whole ?k_is_whole ?a_common ?l_common ?c_common ?k_common ?a_need_beats ?l_need_beats ?c_need_beats ?k_need_beats ?a_need_place ?l_need_place ?c_need_place ?k_need_place ?a_Wheel_init ?l_Wheel_init ?c_Wheel_init ?k_Wheel_init ?i_Wheel_init ?t_Wheel_init ?a_Wheel_reached ?l_Wheel_reached ?c_Wheel_reached ?k_Wheel_reached ?i_Wheel_reached ?a_Wheel_place ?l_Wheel_place ?c_Wheel_place ?k_Wheel_place ?i_Wheel_place ?a_Wheel_turns ?l_Wheel_turns ?c_Wheel_turns ?k_Wheel_turns ?i_Wheel_turns ?a_grown ?l_grown ?c_grown ?k_grown ?a_nearing ?l_nearing ?c_nearing ?k_nearing ?a_nearest ?l_nearest ?c_nearest ?k_nearest ?a_first_in ?l_first_in ?c_first_in ?k_first_in ?a_slanted ?l_slanted ?c_slanted ?k_slanted ?a_count_in ?l_count_in ?c_count_in ?k_count_in ?a_law_cell_at ?l_law_cell_at ?c_law_cell_at ?k_law_cell_at ?a_law_whole ?l_law_whole ?c_law_whole ?k_law_whole ?a_law_divisor ?l_law_divisor ?c_law_divisor ?k_law_divisor ?a_law_wheel ?l_law_wheel ?c_law_wheel ?k_law_wheel ?a_law_most ?l_law_most ?c_law_most ?k_law_most ?a_law_far ?l_law_far ?c_law_far ?k_law_far ?a_law_near ?l_law_near ?c_law_near ?k_law_near ?a_law_first ?l_law_first ?c_law_first ?k_law_first ?a_law ?l_law ?c_law ?k_law ?z_ValueError ?z_sorted ?z_range ?z_isinstance ?z_int ?z_min ?z_divmod ?z_len ?z_set ?z_bool ?z_abs
    (case a_HandError => k_is)
    (case a_NoWheel => k_is)
    (case x_NoWheel => k_exc)
    (case k_NoWheel => k_is)
    (case eb_NoWheel => k_is)
    (case et_NoWheel => k_is)
    (case a_NoBeats => k_is)
    (case x_NoBeats => k_exc)
    (case k_NoBeats => k_is)
    (case eb_NoBeats => k_is)
    (case et_NoBeats => k_is)
    (case a_NoPlace => k_is)
    (case x_NoPlace => k_exc)
    (case k_NoPlace => k_is)
    (case eb_NoPlace => k_is)
    (case et_NoPlace => k_is)
    (case a_Wheel => k_is)
    (case w_pg => k_is)
    (case w_hd => k_is)
    (case w_po => k_is)
    (case w_sa => k_is)
    (case w_mk => k_is)
    (case w_kc => k_is)
    (case n_size => k_is)
    (case n_step => k_is)
    (case n_start => k_is)
    (case n_lap => k_is)
    (case a_is_whole => k_is)
    (case l_is_whole => k_is)
    (case c_is_whole => k_is)
    (case k_is_whole => k_is)
    (case a_common => k_is)
    (case l_common => k_is)
    (case c_common => k_is)
    (case k_common => k_is)
    (case a_need_beats => k_is)
    (case l_need_beats => k_is)
    (case c_need_beats => k_is)
    (case k_need_beats => k_is)
    (case a_need_place => k_is)
    (case l_need_place => k_is)
    (case c_need_place => k_is)
    (case k_need_place => k_is)
    (case a_Wheel_init => k_is)
    (case l_Wheel_init => k_is)
    (case c_Wheel_init => k_is)
    (case k_Wheel_init => k_is)
    (case i_Wheel_init => k_is)
    (case t_Wheel_init => k_is)
    (case a_Wheel_reached => k_is)
    (case l_Wheel_reached => k_is)
    (case c_Wheel_reached => k_is)
    (case k_Wheel_reached => k_is)
    (case i_Wheel_reached => k_is)
    (case a_Wheel_place => k_is)
    (case l_Wheel_place => k_is)
    (case c_Wheel_place => k_is)
    (case k_Wheel_place => k_is)
    (case i_Wheel_place => k_is)
    (case a_Wheel_turns => k_is)
    (case l_Wheel_turns => k_is)
    (case c_Wheel_turns => k_is)
    (case k_Wheel_turns => k_is)
    (case i_Wheel_turns => k_is)
    (case a_grown => k_is)
    (case l_grown => k_is)
    (case c_grown => k_is)
    (case k_grown => k_is)
    (case a_nearing => k_is)
    (case l_nearing => k_is)
    (case c_nearing => k_is)
    (case k_nearing => k_is)
    (case a_nearest => k_is)
    (case l_nearest => k_is)
    (case c_nearest => k_is)
    (case k_nearest => k_is)
    (case a_first_in => k_is)
    (case l_first_in => k_is)
    (case c_first_in => k_is)
    (case k_first_in => k_is)
    (case a_slanted => k_is)
    (case l_slanted => k_is)
    (case c_slanted => k_is)
    (case k_slanted => k_is)
    (case a_count_in => k_is)
    (case l_count_in => k_is)
    (case c_count_in => k_is)
    (case k_count_in => k_is)
    (case a_law_cell_at => k_is)
    (case l_law_cell_at => k_is)
    (case c_law_cell_at => k_is)
    (case k_law_cell_at => k_is)
    (case a_law_whole => k_is)
    (case l_law_whole => k_is)
    (case c_law_whole => k_is)
    (case k_law_whole => k_is)
    (case a_law_divisor => k_is)
    (case l_law_divisor => k_is)
    (case c_law_divisor => k_is)
    (case k_law_divisor => k_is)
    (case a_law_wheel => k_is)
    (case l_law_wheel => k_is)
    (case c_law_wheel => k_is)
    (case k_law_wheel => k_is)
    (case a_law_most => k_is)
    (case l_law_most => k_is)
    (case c_law_most => k_is)
    (case k_law_most => k_is)
    (case a_law_far => k_is)
    (case l_law_far => k_is)
    (case c_law_far => k_is)
    (case k_law_far => k_is)
    (case a_law_near => k_is)
    (case l_law_near => k_is)
    (case c_law_near => k_is)
    (case k_law_near => k_is)
    (case a_law_first => k_is)
    (case l_law_first => k_is)
    (case c_law_first => k_is)
    (case k_law_first => k_is)
    (case a_law => k_is)
    (case l_law => k_is)
    (case c_law => k_is)
    (case k_law => k_is)
    (case z_ValueError => k_is)
    (case z_sorted => k_is)
    (case z_range => k_is)
    (case z_isinstance => k_is)
    (case z_int => k_is)
    (case z_min => k_is)
    (case z_divmod => k_is)
    (case z_len => k_is)
    (case z_set => k_is)
    (case z_bool => k_is)
    (case z_abs => k_is)
