import PyProof.Rows.All
import Wide.All
import OpenK.AllK
import Wide.FinOn
import HandS.ForMost
import HandS.ForExc
import HandS.Wide
import HandS.WideBits
import HandS.IsInst
import HandS.Steps
import HandS.Defaults
import HandS.MakeKw
import HandS.EndBits
import HandS.ExcIs
import HandS.Evl
import Flt.Len
import PySem.Challenge.RW_gaphand_k08_slanted
set_option Elab.async false
set_option linter.all false
set_option maxRecDepth 100000
set_option maxHeartbeats 4000000
namespace Gh
/-! ## gcd by Euclid's loop -/
theorem gcd_step {a b : Int} (ha : 0 ≤ a) (hb : 0 < b) : Int.gcd b (a % b) = Int.gcd a b := by
  have e : (a % b).natAbs = a.natAbs % b.natAbs := by
    have h1 : a = (a.natAbs : Int) := by omega
    have h2 : b = (b.natAbs : Int) := by omega
    rw [h1, h2, ← Int.natCast_emod]
    rfl
  show Nat.gcd b.natAbs (a % b).natAbs = Nat.gcd a.natAbs b.natAbs
  rw [e, Nat.gcd_comm a.natAbs, Nat.gcd_rec b.natAbs a.natAbs, Nat.gcd_comm]

/-! ## the slanted sum -/
def S : Nat → Int → Int → Int → Int
  | 0, _, _, _ => 0
  | n + 1, step, start, size => S n step start size + (start + (n : Int) * step) / size
theorem S_add (n : Nat) (a b m : Int) : ∀ k : Nat, S (n + k) a b m = S n a b m + S k a (b + (n : Int) * a) m
  | 0 => by simp [S]
  | k + 1 => by
    have ih := S_add n a b m k
    show S (n + k) a b m + (b + ((n + k : Nat) : Int) * a) / m = S n a b m + (S k a (b + (n : Int) * a) m + (b + (n : Int) * a + (k : Int) * a) / m)
    rw [ih, show b + ((n + k : Nat) : Int) * a = b + (n : Int) * a + (k : Int) * a by rw [Int.natCast_add]; grind]
    omega
theorem S_front (k : Nat) (a b m : Int) : S (k + 1) a b m = b / m + S k a (b + a) m := by
  have h := S_add 1 a b m k
  rw [Nat.add_comm 1 k] at h
  rw [h]
  simp [S]
theorem S_start (a b m : Int) (hm : 0 < m) : ∀ n : Nat, S n a b m = S n a (b % m) m + b / m * (n : Int)
  | 0 => by simp [S]
  | n + 1 => by
    have ih := S_start a b m hm n
    show S n a b m + (b + (n : Int) * a) / m = S n a (b % m) m + (b % m + (n : Int) * a) / m + b / m * ((n + 1 : Nat) : Int)
    have e : b + (n : Int) * a = b % m + (n : Int) * a + b / m * m := by
      have := Int.emod_add_mul_ediv b m
      grind
    rw [ih, e, Int.add_mul_ediv_right _ _ (by omega)]
    rw [show ((n + 1 : Nat) : Int) = (n : Int) + 1 from rfl]
    grind
theorem S_shift (c b a : Int) (ha : 0 < a) : ∀ k : Nat, S k c (b + a) a = S k c b a + (k : Int)
  | 0 => by simp [S]
  | k + 1 => by
    have ih := S_shift c b a ha k
    show S k c (b + a) a + (b + a + (k : Int) * c) / a = S k c b a + (b + (k : Int) * c) / a + ((k + 1 : Nat) : Int)
    rw [ih, show b + a + (k : Int) * c = b + (k : Int) * c + 1 * a by grind, Int.add_mul_ediv_right _ _ (by omega)]
    omega
/-- 0 + 1 + .. + (n - 1), as the program has it -/
theorem tri_succ (n : Int) : (n + 1) * ((n + 1) - 1) / 2 = n * (n - 1) / 2 + n := by
  have e : (n + 1) * ((n + 1) - 1) = n * (n - 1) + n * 2 := by grind
  rw [e, Int.add_mul_ediv_right _ _ (by omega)]
theorem S_step (a b m : Int) (hm : 0 < m) : ∀ n : Nat, S n a b m = S n (a % m) b m + a / m * ((n : Int) * ((n : Int) - 1) / 2)
  | 0 => by simp [S]
  | n + 1 => by
    have ih := S_step a b m hm n
    show S n a b m + (b + (n : Int) * a) / m = S n (a % m) b m + (b + (n : Int) * (a % m)) / m + a / m * (((n : Int) + 1) * (((n : Int) + 1) - 1) / 2)
    have e : b + (n : Int) * a = b + (n : Int) * (a % m) + (n : Int) * (a / m) * m := by
      have := Int.emod_add_mul_ediv a m
      grind
    rw [ih, e, Int.add_mul_ediv_right _ _ (by omega), tri_succ]
    grind
theorem S_zero (b m : Int) (h0 : 0 ≤ b) (h1 : b < m) : ∀ n : Nat, S n 0 b m = 0
  | 0 => rfl
  | n + 1 => by
    show S n 0 b m + (b + (n : Int) * 0) / m = 0
    rw [S_zero b m h0 h1 n, Int.mul_zero, Int.add_zero, Int.ediv_eq_zero_of_lt h0 h1]
    rfl
/-- the heart: counted the other way round -/
theorem S_flip (a b m : Int) (ha : 0 < a) (ham : a < m) (hb : 0 ≤ b) (hbm : b < m) : ∀ n : Nat, S n a b m = S ((b + (n : Int) * a) / m).toNat m ((b + (n : Int) * a) % m) a
  | 0 => by
    have e : (b + ((0 : Nat) : Int) * a) / m = 0 := by
      rw [show b + ((0 : Nat) : Int) * a = b by simp]
      exact Int.ediv_eq_zero_of_lt hb hbm
    rw [e]
    rfl
  | n + 1 => by
    have ih := S_flip a b m ha ham hb hbm n
    show S n a b m + (b + (n : Int) * a) / m = _
    rw [show b + ((n + 1 : Nat) : Int) * a = b + (n : Int) * a + a by rw [show ((n + 1 : Nat) : Int) = (n : Int) + 1 from rfl]; grind]
    have hy : 0 ≤ b + (n : Int) * a := Int.add_nonneg hb (Int.mul_nonneg (Int.natCast_nonneg n) (by omega))
    rw [ih]
    generalize b + (n : Int) * a = y at hy
    have hm : 0 < m := by omega
    have q0 : 0 ≤ y / m := Int.ediv_nonneg hy (by omega)
    have r0 : 0 ≤ y % m := Int.emod_nonneg y (by omega)
    have r1 : y % m < m := Int.emod_lt_of_pos y hm
    have ey := Int.emod_add_mul_ediv y m
    by_cases hc : y % m + a < m
    · have e1 : (y + a) / m = y / m := by
        rw [show y + a = (y % m + a) + (y / m) * m by grind, Int.add_mul_ediv_right _ _ (by omega), Int.ediv_eq_zero_of_lt (by omega) hc]
        omega
      have e2 : (y + a) % m = y % m + a := by
        rw [show y + a = (y % m + a) + m * (y / m) by omega, Int.add_mul_emod_self_left, Int.emod_eq_of_lt (by omega) hc]
      rw [e1, e2, S_shift _ _ _ ha]
      omega
    · have e1 : (y + a) / m = y / m + 1 := by
        rw [show y + a = (y % m + a - m) + (y / m + 1) * m by grind, Int.add_mul_ediv_right _ _ (by omega), Int.ediv_eq_zero_of_lt (by omega) (by omega)]
        omega
      have e2 : (y + a) % m = y % m + a - m := by
        rw [show y + a = (y % m + a - m) + m * (y / m + 1) by grind, Int.add_mul_emod_self_left, Int.emod_eq_of_lt (by omega) (by omega)]
      have e3 : (y % m + a - m) / a = 0 := Int.ediv_eq_zero_of_lt (by omega) (by omega)
      rw [e1, e2, show (y / m + 1).toNat = (y / m).toNat + 1 by omega, S_front, e3,
        show y % m + a - m + m = y % m + a by omega, S_shift _ _ _ ha]
      omega
/-- one turn of the program's loop -/
theorem S_turn {n a b m : Int} (hn : 0 < n) (hm : 0 < m) :
    S n.toNat a b m = a / m * (n * (n - 1) / 2) + b / m * n + S ((b % m + n * (a % m)) / m).toNat m ((b % m + n * (a % m)) % m) (a % m) := by
  have en : ((n.toNat : Nat) : Int) = n := by omega
  rw [S_step a b m hm, S_start (a % m) b m hm, en]
  have r0 : 0 ≤ b % m := Int.emod_nonneg b (by omega)
  have r1 : b % m < m := Int.emod_lt_of_pos b hm
  have s0 : 0 ≤ a % m := Int.emod_nonneg a (by omega)
  have s1 : a % m < m := Int.emod_lt_of_pos a hm
  by_cases ha : a % m = 0
  · rw [ha, S_zero _ _ r0 r1, Int.mul_zero, Int.add_zero, Int.ediv_eq_zero_of_lt r0 r1]
    simp [S]
    omega
  · rw [S_flip (a % m) (b % m) m (by omega) s1 r0 r1, en]
    omega
theorem S_succ (n : Nat) (a b m : Int) : S (n + 1) a b m = S n a b m + (b + (n : Int) * a) / m := rfl
/-- the new many is no greater, the new size smaller -/
theorem turn_many {n a b m : Int} (hn : 0 < n) (hm : 0 < m) : 0 ≤ (b % m + n * (a % m)) / m ∧ (b % m + n * (a % m)) / m ≤ n ∧ (a % m = 0 → (b % m + n * (a % m)) / m = 0) := by
  have r0 : 0 ≤ b % m := Int.emod_nonneg b (by omega)
  have r1 : b % m < m := Int.emod_lt_of_pos b hm
  have s0 : 0 ≤ a % m := Int.emod_nonneg a (by omega)
  have s1 : a % m < m := Int.emod_lt_of_pos a hm
  refine ⟨Int.ediv_nonneg (Int.add_nonneg r0 (Int.mul_nonneg (by omega) s0)) (by omega), ?_, fun h => ?_⟩
  · have h1 : n * (a % m) ≤ n * (m - 1) := Int.mul_le_mul_of_nonneg_left (by omega) (by omega)
    have h2 : b % m + n * (a % m) < (n + 1) * m := by grind
    have := Int.ediv_lt_of_lt_mul hm h2
    omega
  · rw [h, Int.mul_zero, Int.add_zero, Int.ediv_eq_zero_of_lt r0 r1]
end Gh

namespace Gh
open PySem PySem.Spec PyProof.Rows L2
/-! ## great numbers -/
theorem lg_of {i : Int} (h : i.natAbs ≤ 10000000000000000000000000000000000000000000000000000000000000000000000000000000000000000000000000000000000000000000000000000000000000000000000000000000000000000000000000000000000000000000000000000000000000000000000000000000000000000000000000000000000000000000000000000000000000000000000000000000000000000000000000000000000000000000000000000000000000000000000000000000000000000000000000000000000000000) : i.natAbs.log2 < 4000000 :=
  Nat.lt_of_lt_of_le (PySem.Flt.log2_lt_of (k := 1400) (by decide) (Nat.lt_of_le_of_lt h (by decide +kernel))) (by decide)
def CMulB (i j : Int) : Prop := i.natAbs.log2 < 4000000 ∧ j.natAbs.log2 < 4000000
theorem CMulB.ok {i j : Int} (h : CMulB i j) : IntMulOk i j := by
  have b : ∀ x : Int, Builtin.Int.intBits x ≤ x.natAbs.log2 + 1 := fun x => by
    unfold Builtin.Int.intBits
    split <;> omega
  have h1 := b i
  have h2 := b j
  have h3 := h.1
  have h4 := h.2
  have e : bitsLine = 134217728 := by decide
  unfold IntMulOk
  intro z
  rw [Bool.and_eq_true] at z
  have z2 := z.2
  unfold Builtin.Int.intTooBig at z2
  have z3 := of_decide_eq_true z2
  rw [e] at z3
  omega
theorem op_mulB {X : Cx} : OpR X (binaryOp .Mult) (rI CMulB fun i j => .int (i * j)) := opI fun _ _ _ _ _ _ _ hc q => mul_int q hc.ok
theorem mulB {i j : Int} (h1 : i.natAbs ≤ 10000000000000000000000000000000000000000000000000000000000000000000000000000000000000000000000000000000000000000000000000000000000000000000000000000000000000000000000000000000000000000000000000000000000000000000000000000000000000000000000000000000000000000000000000000000000000000000000000000000000000000000000000000000000000000000000000000000000000000000000000000000000000000000000000000000000000000) (h2 : j.natAbs ≤ 10000000000000000000000000000000000000000000000000000000000000000000000000000000000000000000000000000000000000000000000000000000000000000000000000000000000000000000000000000000000000000000000000000000000000000000000000000000000000000000000000000000000000000000000000000000000000000000000000000000000000000000000000000000000000000000000000000000000000000000000000000000000000000000000000000000000000000) : CMulB i j := ⟨lg_of h1, lg_of h2⟩
theorem divW {i j : Int} (h0 : 0 < j) (h1 : j ≤ 10000000000000000000000000000000000000000000000000000000000000000000000000000000000000000000000000000000000000000000000000000000000000000000000000000000000000000000000000000000000000000000000000000000000000000000000000000000000000000000000000000000000000000000000000000000000000000000000000000000000000000000000000000000000000000000000000000000000000000000000000000000000000000000000000000000000000000) : CDivW i j :=
  ⟨h0, Nat.lt_of_lt_of_le (PySem.Flt.log2_lt_of (k := 1400) (by decide) (Nat.lt_of_le_of_lt (show j.natAbs ≤ 10000000000000000000000000000000000000000000000000000000000000000000000000000000000000000000000000000000000000000000000000000000000000000000000000000000000000000000000000000000000000000000000000000000000000000000000000000000000000000000000000000000000000000000000000000000000000000000000000000000000000000000000000000000000000000000000000000000000000000000000000000000000000000000000000000000000000000 by omega) (by decide +kernel))) (by decide)⟩
/-! ## constants reckoned -/
section
variable {X : Cx} {a b : Expr} {pos : Pos}
theorem pe_as {e : Expr} {t t' : TE} (h : PE X e t) (w : ∀ σ H Q, t' σ H Q → t σ H Q) : PE X e t' := ⟨fun pins s σ H Q I q => h.run pins s σ H Q I (w σ H Q q)⟩
theorem pe_lneg {i : Int} (ha : PE X a (tC (.int i))) : PE X (.UnaryOp .USub a pos) (tC (.int (-i))) := pe_as (pe_un un_neg ha) fun _ _ _ q => ⟨_, rfl, q⟩
theorem pe_lpow {i j v : Int} (ha : PE X a (tC (.int i))) (hb : PE X b (tC (.int j))) (c : 0 ≤ j ∧ j ≤ 1000000 ∧ i.natAbs < 2 ^ 64) (e : i ^ j.toNat = v) : PE X (.BinOp a .Pow b pos) (tC (.int v)) :=
  pe_as (pe_op op_pow ha hb) fun _ _ _ q => ⟨_, _, rfl, rfl, c, by subst e; exact q⟩
theorem pe_ladd {i j v : Int} (ha : PE X a (tC (.int i))) (hb : PE X b (tC (.int j))) (e : i + j = v) : PE X (.BinOp a .Add b pos) (tC (.int v)) :=
  pe_as (pe_op op_add ha hb) fun _ _ _ q => ⟨_, _, rfl, rfl, by subst e; exact q⟩
theorem pe_lsub {i j v : Int} (ha : PE X a (tC (.int i))) (hb : PE X b (tC (.int j))) (e : i - j = v) : PE X (.BinOp a .Sub b pos) (tC (.int v)) :=
  pe_as (pe_op op_sub ha hb) fun _ _ _ q => ⟨_, _, rfl, rfl, by subst e; exact q⟩
theorem pe_lmul {i j v : Int} (ha : PE X a (tC (.int i))) (hb : PE X b (tC (.int j))) (c : i.natAbs ≤ 1000 ∧ j.natAbs ≤ 10000000000000000000000000000000000000000000000000000000000000000000000000000000000000000000000000000000000000000000000000000000000000000000000000000000000000000000000000000000000000000000000000000000000000000000000000000000000000000000000000000000000000000000000000000000000000000000000000000000000000000000000000000000000000000000000000000000000000000000000000000000000000000000000000000000000000000) (e : i * j = v) : PE X (.BinOp a .Mult b pos) (tC (.int v)) :=
  pe_as (pe_op op_mulB ha hb) fun _ _ _ q => ⟨_, _, rfl, rfl, mulB (Nat.le_trans c.1 (by decide +kernel)) c.2, by subst e; exact q⟩
end
/-! ## readings, a step each -/
section
variable {K : PySem.W.Frag} {nx : L2.St → Hp → Prop} {rt : VK} {bk ct : L2.St → Hp → Prop} {σ : L2.St} {H : Hp} {Q : VK} {QB : Bool → Hp → Prop} {QA : List V → Hp → Prop} {t u : TS} {ta tb te : TE} {tt tu : TT} {tr : TA} {g : TG} {i j : Int} {n : Nat} {v x y : V} {r : R2}
theorem g_seq (h : t ⟨u ⟨nx, rt, bk, ct⟩, rt, bk, ct⟩ σ H) : tSeq t u ⟨nx, rt, bk, ct⟩ σ H := h
theorem g_next (h : nx σ H) : tNext ⟨nx, rt, bk, ct⟩ σ H := h
theorem g_asg (h : te σ H fun x H1 => g x σ H1 nx) : tAsg te g ⟨nx, rt, bk, ct⟩ σ H := h
theorem g_name {R : L2.St → Hp → Prop} (h : R (σ.set n (some v)) H) : gName n v σ H R := h
theorem g_var (e : σ[n]? = some (some v)) (h : Q v H) : tVar n σ H Q := ⟨v, e, h⟩
theorem g_c (h : Q v H) : tC v σ H Q := h
theorem g_op (h : ta σ H fun x H1 => tb σ H1 fun y H2 => r x y H2 Q) : tOp r ta tb σ H Q := h
theorem g_un {ru : V → Hp → VK → Prop} (h : ta σ H fun x H1 => ru x H1 Q) : tUn ru ta σ H Q := h
theorem g_rU {f : Int → V} (h : Q (f i) H) : rU f (.int i) H Q := ⟨_, rfl, h⟩
theorem g_rI0 {f : Int → Int → V} (h : Q (f i j) H) : rI0 f (.int i) (.int j) H Q := ⟨_, _, rfl, rfl, h⟩
theorem g_mul (c : CMulB i j) (h : Q (.int (i * j)) H) : rI CMulB (fun i j => .int (i * j)) (.int i) (.int j) H Q := ⟨_, _, rfl, rfl, c, h⟩
theorem g_div (c : CDivW i j) (h : Q (.int (i / j)) H) : rI CDivW (fun i j => .int (i / j)) (.int i) (.int j) H Q := ⟨_, _, rfl, rfl, c, h⟩
theorem g_mod (c : 0 < j) (h : Q (.int (i % j)) H) : rI (fun _ j => 0 < j) (fun i j => .int (i % j)) (.int i) (.int j) H Q := ⟨_, _, rfl, rfl, c, h⟩
theorem dec_int' : decide (V.int i = V.int j) = decide (i = j) := by
  by_cases h : i = j
  · subst h; simp
  · have h2 : ¬ V.int i = V.int j := fun z => h (V.int.inj z)
    rw [decide_eq_false h, decide_eq_false h2]
theorem g_eqI (h : Q (.bl (decide (i = j))) H) : rEq (.int i) (.int j) H Q := ⟨rfl, by rw [dec_int']; exact h⟩
theorem g_neI (h : Q (.bl (!decide (i = j))) H) : rNe (.int i) (.int j) H Q := ⟨rfl, by rw [dec_int']; exact h⟩
theorem g_ret (h : te σ H rt) : tRet te ⟨nx, rt, bk, ct⟩ σ H := h
theorem g_retN (h : rt .non H) : tRetN ⟨nx, rt, bk, ct⟩ σ H := h
theorem g_drop (h : te σ H fun _ H1 => nx σ H1) : tDrop te ⟨nx, rt, bk, ct⟩ σ H := h
theorem g_ifS (h : tt σ H fun b H1 => if b = true then t ⟨nx, rt, bk, ct⟩ σ H1 else u ⟨nx, rt, bk, ct⟩ σ H1) : tIfS tt t u ⟨nx, rt, bk, ct⟩ σ H := h
theorem g_B (h : te σ H fun x H1 => ∃ c, x = .bl c ∧ QB c H1) : tB te σ H QB := h
theorem g_test (h : te σ H fun x H1 => ∃ c, x = .bl c ∧ QB c H1) : tTest te σ H QB := h
theorem g_bl {b : Bool} {P : Bool → Prop} (h : P b) : ∃ c, V.bl b = V.bl c ∧ P c := ⟨_, rfl, h⟩
theorem g_and (h : tt σ H fun c H1 => if c = true then tu σ H1 QB else QB false H1) : tAnd tt tu σ H QB := h
theorem g_or (h : tt σ H fun c H1 => if c = true then QB true H1 else tu σ H1 QB) : tOr tt tu σ H QB := h
theorem g_not (h : tt σ H fun c H1 => QB (!c) H1) : tNot tt σ H QB := h
theorem g_andV (h : ta σ H fun x H1 => ∃ c, x = .bl c ∧ if c = true then tb σ H1 Q else Q (.bl false) H1) : tAndV ta tb σ H Q := h
theorem g_orV (h : ta σ H fun x H1 => ∃ c, x = .bl c ∧ if c = true then Q (.bl true) H1 else tb σ H1 Q) : tOrV ta tb σ H Q := h
theorem g_notV (h : ta σ H fun x H1 => ∃ c, x = .bl c ∧ Q (.bl (!c)) H1) : tNotV ta σ H Q := h
theorem g_cb {rc : List V → Hp → VK → Prop} (h : tr σ H fun vs H1 => rc vs H1 Q) : tCB rc tr σ H Q := h
theorem g_cons (h : te σ H fun x H1 => tr σ H1 fun xs H2 => QA (x :: xs) H2) : tCons te tr σ H QA := h
theorem g_nil (h : QA [] H) : tNil σ H QA := h
theorem g_call {sp : Sp} {dvs : List V} {E : XK} (h : tr σ H fun vs H1 => sp (vs ++ dvs) H1 Q E) : tCall sp dvs E tr σ H Q := h
theorem g_dec {p A B : Prop} [Decidable p] (h1 : p → A) (h2 : ¬ p → B) : if decide p = true then A else B := ite2 (fun e => h1 (of_decide_eq_true e)) (fun e => h2 fun z => e (decide_eq_true z))
theorem g_ndec {p A B : Prop} [Decidable p] (h1 : ¬ p → A) (h2 : p → B) : if (!decide p) = true then A else B := ite2 (fun e => h1 (of_decide_eq_false (by simpa using e))) (fun e => h2 (by simpa using e))
theorem g_decT {p A B : Prop} [Decidable p] (hp : p) (h : A) : if decide p = true then A else B := by rw [decide_eq_true hp]; exact h
theorem g_decF {p A B : Prop} [Decidable p] (hp : ¬ p) (h : B) : if decide p = true then A else B := by rw [decide_eq_false hp]; exact h
theorem g_nT {A B : Prop} (h : B) : if (!true) = true then A else B := h
theorem g_nF {A B : Prop} (h : A) : if (!false) = true then A else B := h
theorem g_intN {A B : Prop} (h : B) : if decide (V.int i = V.non) = true then A else B := by
  rw [decide_eq_false (fun z => V.noConfusion z)]
  exact h
theorem g_nonN {A B : Prop} (h : A) : if decide (V.non = V.non) = true then A else B := h
theorem g_par {a b : Nat} (h : tr σ H fun vs H1 => ∃ v w, vs = [v, w] ∧ nx ((σ.set a (some v)).set b (some w)) H1) : tPar a b tr ⟨nx, rt, bk, ct⟩ σ H := h
theorem g_two {v w : V} {P : V → V → Prop} (h : P v w) : ∃ v' w', [v, w] = [v', w'] ∧ P v' w' := ⟨_, _, rfl, h⟩
/-- a while by what holds between two turns, with a number that falls -/
theorem g_while (W : Nat → L2.St → Hp → Prop) (m0 : Nat) (h0 : W m0 σ H)
    (hs : ∀ m σ' H', W m σ' H' → tt σ' H' fun b H1 => if b = true then (∃ N : L2.St → Hp → Prop, (∀ σ2 H2, N σ2 H2 → ∃ m', m' < m ∧ W m' σ2 H2) ∧ t ⟨N, rt, nx, N⟩ σ' H1) else nx σ' H1) : tWhile tt t ⟨nx, rt, bk, ct⟩ σ H := ⟨W, ⟨m0, h0⟩, hs⟩
theorem g_body {W : Nat → L2.St → Hp → Prop} {m : Nat} (h : t ⟨fun σ2 H2 => ∃ m', m' < m ∧ W m' σ2 H2, rt, bk, fun σ2 H2 => ∃ m', m' < m ∧ W m' σ2 H2⟩ σ H) :
    ∃ N : L2.St → Hp → Prop, (∀ σ2 H2, N σ2 H2 → ∃ m', m' < m ∧ W m' σ2 H2) ∧ t ⟨N, rt, bk, N⟩ σ H := ⟨_, fun _ _ z => z, h⟩
theorem g_for {wi : TI} (h : wi σ H fun J H1 => ∃ W : Nat → Nat → L2.St → Hp → Prop, (∃ m, W 0 m σ H1) ∧ ∀ i m σ H, W i m σ H →
  (J.stop i H ∧ nx σ H) ∨ (J.go i H ∧ ∃ N : L2.St → Hp → Prop, (∀ σ' H', N σ' H' → ∃ m', m' < m ∧ W (i + 1) m' σ' H') ∧ ∀ x H', J.yld i H x H' → g x σ H' fun σ2 H2 => t ⟨N, rt, nx, N⟩ σ2 H2)) : tFor wi g t ⟨nx, rt, bk, ct⟩ σ H := h
theorem g_iL {R : It → Hp → Prop} (h : te σ H fun x H1 => ∃ a, x = .ref a ∧ (∃ xs, SqL K H1 a xs) ∧ R (Itl K a) H1) : iList K te σ H R := h
theorem g_iT {R : It → Hp → Prop} (h : te σ H fun x H1 => ∃ a, x = .ref a ∧ (∃ xs, SqT K H1 a xs) ∧ R (Itt K a) H1) : iTup K te σ H R := h
theorem g_isi {ty : Value} {n : String} {b : Bool} (h1 : TyX K H v ty) (h2 : PySem.W.kitOne K ty (.type n) = some b) (h : Q (.bl b) H) : rIsi K [v, .ty n] H Q := ⟨v, .ty n, ty, _, b, rfl, .ty n, h1, h2, h⟩
theorem g_sfld {f : Str} (h : te σ H fun y H1 => ta σ H1 fun x H2 => ∃ a C dx fs, x = .ref a ∧ H2 a = some (.ins C dx fs) ∧ Cls K C ∧ NoAttr K C f ∧ fs.length < 1000 ∧ nx σ (upd H2 a (.ins C dx (putF f y fs)))) : sFld K ta te f ⟨nx, rt, bk, ct⟩ σ H := h
theorem g_meth {C : Addr} {m : Str} {sp : Sp} {dvs : List V} {E : XK} (h : ta σ H fun x H1 => ∃ a dx fs, x = .ref a ∧ H1 a = some (.ins C dx fs) ∧ fs.lookup m = none ∧ tr σ H1 fun vs H2 => sp (x :: (vs ++ dvs)) H2 Q E) : tMeth C m sp dvs E ta tr σ H Q := h
theorem g_make {C : Addr} {sp : Sp} {dvs : List V} {E : XK} (h : tr σ H fun vs H1 => ∀ x dx, H1 x = none → H1 dx = none → dx ≠ x → sp (.ref x :: (vs ++ dvs)) (upd (upd H1 dx (.own x)) x (.ins C dx [])) (fun v H2 => v = .non ∧ Q (.ref x) H2) E) : tMake C sp dvs E tr σ H Q := h
theorem g_sl {rs : V → Option Int → Option Int → Hp → VK → Prop} {tl th : TO} (h : te σ H fun x H1 => tl σ H1 fun l H2 => th σ H2 fun u H3 => rs x l u H3 Q) : tSl rs te tl th σ H Q := h
theorem g_part {QO : Option Int → Hp → Prop} (h : te σ H fun x H1 => ∃ i, x = .int i ∧ QO (some i) H1) : tPart te σ H QO := h
theorem g_nopart {QO : Option Int → Hp → Prop} (h : QO none H) : tNoPart σ H QO := h
theorem g_int {i : Int} {P : Int → Prop} (h : P i) : ∃ i', V.int i = V.int i' ∧ P i' := ⟨_, rfl, h⟩
theorem g_int1 {P : Int → Prop} (h : P i) : ∃ i', [V.int i] = [V.int i'] ∧ P i' := ⟨_, rfl, h⟩
theorem g_int2 {P : Int → Int → Prop} (h : P i j) : ∃ i' j', [V.int i, V.int j] = [V.int i', V.int j'] ∧ P i' j' := ⟨_, _, rfl, h⟩
theorem g_slL {a : Addr} {xs : List V} {lo hi : Option Int} (hx : SqL K H a xs) (h : ∀ p, H p = none → Q (.ref p) (upd H p (.lst (cutV xs lo hi)))) : rSlL K (.ref a) lo hi H Q := ⟨a, xs, rfl, hx, h⟩
theorem g_ixL {a : Addr} {xs : List V} (hx : SqL K H a xs) (e : atI xs i = some v) (h : Q v H) : rIxL K (.ref a) (.int i) H Q := ⟨a, xs, i, v, rfl, rfl, hx, e, h⟩
theorem g_ixT {a : Addr} {xs : List V} (hx : SqT K H a xs) (e : atI xs i = some v) (h : Q v H) : rIxT K (.ref a) (.int i) H Q := ⟨a, xs, i, v, rfl, rfl, hx, e, h⟩
theorem g_overL {a : Addr} {xs : List V} (hx : SqL K H a xs) (Pv : Nat → L2.St → Hp → Prop) (h0 : Pv 0 σ H) (hl : ∀ i σ' H', i ≤ xs.length → Pv i σ' H' → SqL K H' a xs)
    (hs : ∀ i x σ' H', xs[i]? = some x → Pv i σ' H' → g x σ' H' fun σ2 H2 => t ⟨Pv (i + 1), rt, nx, Pv (i + 1)⟩ σ2 H2) (hd : ∀ σ' H', Pv xs.length σ' H' → nx σ' H') :
    ∃ a', V.ref a = .ref a' ∧ (∃ xs, SqL K H a' xs) ∧ ∃ W : Nat → Nat → L2.St → Hp → Prop, (∃ m, W 0 m σ H) ∧ ∀ i m σ H, W i m σ H →
      ((Itl K a').stop i H ∧ nx σ H) ∨ ((Itl K a').go i H ∧ ∃ N : L2.St → Hp → Prop, (∀ σ' H', N σ' H' → ∃ m', m' < m ∧ W (i + 1) m' σ' H') ∧ ∀ x H', (Itl K a').yld i H x H' → g x σ H' fun σ2 H2 => t ⟨N, rt, nx, N⟩ σ2 H2) :=
  ⟨a, rfl, ⟨xs, hx⟩, for_list (D := ⟨nx, rt, fun _ _ => False, fun _ _ => False⟩) Pv h0 hl hs hd⟩
theorem g_overT {a : Addr} {xs : List V} (hx : SqT K H a xs) (Pv : Nat → L2.St → Hp → Prop) (h0 : Pv 0 σ H) (hl : ∀ i σ' H', i ≤ xs.length → Pv i σ' H' → SqT K H' a xs)
    (hs : ∀ i x σ' H', xs[i]? = some x → Pv i σ' H' → g x σ' H' fun σ2 H2 => t ⟨Pv (i + 1), rt, nx, Pv (i + 1)⟩ σ2 H2) (hd : ∀ σ' H', Pv xs.length σ' H' → nx σ' H') :
    ∃ a', V.ref a = .ref a' ∧ (∃ xs, SqT K H a' xs) ∧ ∃ W : Nat → Nat → L2.St → Hp → Prop, (∃ m, W 0 m σ H) ∧ ∀ i m σ H, W i m σ H →
      ((Itt K a').stop i H ∧ nx σ H) ∨ ((Itt K a').go i H ∧ ∃ N : L2.St → Hp → Prop, (∀ σ' H', N σ' H' → ∃ m', m' < m ∧ W (i + 1) m' σ' H') ∧ ∀ x H', (Itt K a').yld i H x H' → g x σ H' fun σ2 H2 => t ⟨N, rt, nx, N⟩ σ2 H2) :=
  ⟨a, rfl, ⟨xs, hx⟩, for_tup (D := ⟨nx, rt, fun _ _ => False, fun _ _ => False⟩) Pv h0 hl hs hd⟩
theorem g_cut {Mid : L2.St → Hp → Prop} (h : t ⟨Mid, rt, bk, ct⟩ σ H) (k : ∀ σ' H', Mid σ' H' → u ⟨nx, rt, bk, ct⟩ σ' H') : Evl.tCut t u ⟨nx, rt, bk, ct⟩ σ H := ⟨Mid, h, k⟩
theorem g_gtup {a : Addr} {xs : List V} {tgs : TGs} {R : L2.St → Hp → Prop} (h : SqT K H a xs) (hl : xs.length = n) (k : tgs xs σ H R) : gTup K n tgs (.ref a) σ H R := ⟨a, xs, rfl, h, hl, k⟩
theorem g_glst {a : Addr} {xs : List V} {tgs : TGs} {R : L2.St → Hp → Prop} (h : SqL K H a xs) (hl : xs.length = n) (k : tgs xs σ H R) : gLst K n tgs (.ref a) σ H R := ⟨a, xs, rfl, h, hl, k⟩
theorem g_gcons {tgs : TGs} {xs : List V} {R : L2.St → Hp → Prop} (h : g v σ H fun σ' H' => tgs xs σ' H' R) : gCons g tgs (v :: xs) σ H R := ⟨v, xs, rfl, h⟩
theorem g_gnil {R : L2.St → Hp → Prop} (h : R σ H) : gNil [] σ H R := ⟨rfl, h⟩
theorem g_iR1 {tr : TA} {R : It → Hp → Prop} (h : tr σ H fun vs H1 => ∃ j : Int, vs = [.int j] ∧ -(2 ^ 62) ≤ j ∧ j < 2 ^ 62 ∧ R (Itr 0 j.toNat) H1) : iRng1 tr σ H R := h
theorem g_overR {m : Nat} (Pv : Nat → L2.St → Hp → Prop) (h0 : Pv 0 σ H) (hs : ∀ i σ' H', i < m → Pv i σ' H' → g (.int (0 + (i : Int))) σ' H' fun σ2 H2 => t ⟨Pv (i + 1), rt, nx, Pv (i + 1)⟩ σ2 H2) (hd : ∀ σ' H', Pv m σ' H' → nx σ' H') :
    ∃ W : Nat → Nat → L2.St → Hp → Prop, (∃ m, W 0 m σ H) ∧ ∀ i m' σ H, W i m' σ H →
      ((Itr 0 m).stop i H ∧ nx σ H) ∨ ((Itr 0 m).go i H ∧ ∃ N : L2.St → Hp → Prop, (∀ σ' H', N σ' H' → ∃ m2, m2 < m' ∧ W (i + 1) m2 σ' H') ∧ ∀ x H', (Itr 0 m).yld i H x H' → g x σ H' fun σ2 H2 => t ⟨N, rt, nx, N⟩ σ2 H2) :=
  for_range (D := ⟨nx, rt, fun _ _ => False, fun _ _ => False⟩) Pv h0 hs hd
theorem g_sum {a : Addr} {ns : List Int} (hx : SqL K H a (ns.map V.int)) (h : Q (.int ns.sum) H) : rSum K [.ref a] H Q := ⟨a, ns, rfl, hx, h⟩
theorem g_isN {B : Prop} (h : B) : V.non = V.non ∧ B := ⟨rfl, h⟩
theorem g_tup {tr : TA} (h : tr σ H fun xs H1 => xs.length ≤ sizeLine ∧ ∀ p, H1 p = none → Q (.ref p) (upd H1 p (.tup xs))) : tTup tr σ H Q := h
theorem g_lst {tr : TA} (h : tr σ H fun xs H1 => xs.length ≤ sizeLine ∧ ∀ p, H1 p = none → Q (.ref p) (upd H1 p (.lst xs))) : tLst tr σ H Q := h
theorem g_len {xs : List V} {P : Prop} (hl : xs.length ≤ 1000) (h : P) : xs.length ≤ sizeLine ∧ P := ⟨Nat.le_of_lt (small1000 hl), h⟩
theorem g_fldV {a C dx : Addr} {fs : List (Str × V)} {f : Str} (hv : σ[n]? = some (some (.ref a))) (h1 : H a = some (.ins C dx fs)) (h2 : Cls K C) (h3 : NoAttr K C f) (h4 : fs.lookup f = some v) (h : Q v H) : tFld K (tVar n) f σ H Q := ⟨.ref a, hv, a, C, dx, fs, v, rfl, h1, h2, h3, h4, h⟩
end
/-! ## what is a whole number -/
/-- b: whether v is an int and no bool -/
def Kind (K : PySem.W.Frag) (H : Hp) (v : V) (b : Bool) : Prop := ∃ t b1 b2, TyX K H v t ∧ PySem.W.kitOne K t (.type "int") = some b1 ∧ PySem.W.kitOne K t (.type "bool") = some b2 ∧ b = (b1 && !b2)
section
variable {K : PySem.W.Frag} {H : Hp}
theorem kind_int {i : Int} : Kind K H (.int i) true := ⟨_, true, false, .base (.int i), kit_ty (by decide +kernel), kit_ty (by decide +kernel), rfl⟩
theorem kind_bl {b : Bool} : Kind K H (.bl b) false := ⟨_, true, true, .base (.bl b), kit_ty (by decide +kernel), kit_ty (by decide +kernel), rfl⟩
theorem kind_non : Kind K H .non false := ⟨_, false, false, .base .non, kit_ty (by decide +kernel), kit_ty (by decide +kernel), rfl⟩
theorem kind_str {x : Str} : Kind K H (.str x) false := ⟨_, false, false, .base (.str x), kit_ty (by decide +kernel), kit_ty (by decide +kernel), rfl⟩
theorem kind_lst {p : Addr} {xs : List V} (h : H p = some (.lst xs)) : Kind K H (.ref p) false := ⟨_, false, false, .base (.lst h), kit_ty (by decide +kernel), kit_ty (by decide +kernel), rfl⟩
theorem kind_tup {p : Addr} {xs : List V} (h : H p = some (.tup xs)) : Kind K H (.ref p) false := ⟨_, false, false, .base (.tup h), kit_ty (by decide +kernel), kit_ty (by decide +kernel), rfl⟩
theorem kind_dK {p : Addr} {kvs : List (Key × V)} (h : H p = some (.dK kvs)) : Kind K H (.ref p) false := ⟨_, false, false, .base (.dK h), kit_ty (by decide +kernel), kit_ty (by decide +kernel), rfl⟩
end
/-! ## heaps, kinds -/
theorem same_upd {H : Hp} {p : Addr} {o : HO} (h : H p = none) : Same H (upd H p o) := fun b x e => by
  rw [upd_ne (ne_of_none e h)]
  exact e
theorem Rd.same {H H' : Hp} {a : Addr} {u : HO} (e : Same H H') (h : Rd H a u) : Rd H' a u := h.elim (fun z => .inl (e _ _ z)) fun ⟨o, z⟩ => .inr ⟨o, e _ _ z⟩
theorem Same.tup {K : PySem.W.Frag} {H H' : Hp} {a : Addr} {xs : List V} (e : Same H H') (h : SqT K H a xs) : SqT K H' a xs := h.elim (fun z => .inl (Rd.same e z)) .inr
theorem TyOf.same {K : PySem.W.Frag} {H H' : Hp} (e : Same H H') {v : V} {t : Value} (h : TyOf K H v t) : TyOf K H' v t := by
  cases h with
  | non => exact .non
  | bl x => exact .bl x
  | int i => exact .int i
  | str x => exact .str x
  | flt x => exact .flt x
  | lst z => exact .lst (e _ _ z)
  | frz z => exact .frz (e _ _ z)
  | tup z => exact .tup (e _ _ z)
  | dK z => exact .dK (e _ _ z)
  | dT z => exact .dT (e _ _ z)
  | ins z a b c d f => exact .ins (e _ _ z) a b c d f
theorem TyX.same {K : PySem.W.Frag} {H H' : Hp} (e : Same H H') {v : V} {t : Value} (h : TyX K H v t) : TyX K H' v t := by
  cases h with
  | base z => exact .base (TyOf.same e z)
  | byt b => exact .byt b
  | set z => exact .set (e _ _ z)
  | kList a b => exact .kList a b
  | kTuple a b => exact .kTuple a b
  | kDict a b => exact .kDict a b
  | fTuple z => exact .fTuple (e _ _ z)
  | fDict z => exact .fDict (e _ _ z)
theorem Kind.same {K : PySem.W.Frag} {H H' : Hp} (e : Same H H') {v : V} {b : Bool} (h : Kind K H v b) : Kind K H' v b := by
  obtain ⟨t, b1, b2, ty, r⟩ := h
  exact ⟨t, b1, b2, TyX.same e ty, r⟩
/-- what is no whole number from lo to hi -/
def Bad (K : PySem.W.Frag) (H : Hp) (v : V) (lo hi : Int) : Prop := Kind K H v false ∨ ∃ i, v = .int i ∧ ¬ (lo ≤ i ∧ i ≤ hi)
theorem Bad.same {K : PySem.W.Frag} {H H' : Hp} (e : Same H H') {v : V} {lo hi : Int} (h : Bad K H v lo hi) : Bad K H' v lo hi := h.elim (fun z => .inl (Kind.same e z)) .inr
/-! ## cells -/
def cellAt (ns : List Int) (k : Int) : Int := (ns[k.toNat]?).getD 0
def BitsOk (ns : List Int) : Prop := ∀ z ∈ ns, Builtin.Int.intBits z ≤ 1048576
theorem cell_log {ns : List Int} (h : BitsOk ns) (k : Int) : (cellAt ns k).natAbs.log2 ≤ 1048576 := by
  unfold cellAt
  cases e : ns[k.toNat]? with
  | none => exact Nat.zero_le _
  | some z =>
    have hz := h z (List.mem_of_getElem? e)
    show z.natAbs.log2 ≤ 1048576
    unfold Builtin.Int.intBits at hz
    by_cases c : z = 0
    · subst c
      exact Nat.zero_le _
    · rw [if_neg (by simpa using c)] at hz
      omega
theorem cell_mul {ns : List Int} (h : BitsOk ns) {k j : Int} (hj : j.natAbs ≤ 10000000000000000000000000000000000000000000000000000000000000000000000000000000000000000000000000000000000000000000000000000000000000000000000000000000000000000000000000000000000000000000000000000000000000000000000000000000000000000000000000000000000000000000000000000000000000000000000000000000000000000000000000000000000000000000000000000000000000000000000000000000000000000000000000000000000000000) : CMulB (cellAt ns k) j := ⟨Nat.lt_of_le_of_lt (cell_log h k) (by decide), lg_of hj⟩
theorem pick {xs : List Int} {i : Int} (h0 : 0 ≤ i) (h1 : i < xs.length) : ∃ m ∈ xs, atI (xs.map V.int) i = some (.int m) := by
  obtain ⟨k, rfl⟩ : ∃ k : Nat, i = (k : Int) := ⟨i.toNat, by omega⟩
  have hl : k < xs.length := by omega
  exact ⟨xs[k], List.getElem_mem hl, atI_nat (by rw [List.getElem?_map, List.getElem?_eq_getElem hl]; rfl)⟩
def cutN (ns : List Int) (lo hi : Option Int) : List Int := (ns.drop (HT.sIx ns.length 0 lo)).take (HT.sIx ns.length ns.length hi - HT.sIx ns.length 0 lo)
theorem cut_map (ns : List Int) (lo hi : Option Int) : cutV (ns.map V.int) lo hi = (cutN ns lo hi).map V.int := by
  unfold cutV cutN
  rw [List.length_map, List.map_take, List.map_drop]
theorem cut_len (ns : List Int) (lo hi : Option Int) : (cutN ns lo hi).length ≤ ns.length := by
  unfold cutN
  rw [List.length_take, List.length_drop]
  omega
theorem cut_sub {ns : List Int} {lo hi : Option Int} {z : Int} (h : z ∈ cutN ns lo hi) : z ∈ ns := List.mem_of_mem_drop (List.mem_of_mem_take h)
theorem map_at {α : Type} {f : α → V} {xs : List α} {i : Nat} {x : V} (h : (xs.map f)[i]? = some x) : ∃ z, xs[i]? = some z ∧ x = f z := by
  rw [List.getElem?_map] at h
  cases e : xs[i]? with
  | none =>
    rw [e] at h
    cases h
  | some z =>
    rw [e] at h
    exact ⟨z, rfl, (Option.some.inj h).symm⟩
/-! ## list comprehensions over ints -/
/-- what a comprehension asks of what it walks -/
def LcP (J : It) (g : TG) (tt : TT) (te : TE) (vs : List Nat) (σ : L2.St) (H1 : Hp) (Q : VK) : Prop := ∀ D, H1 D = none → ∃ W : Nat → Nat → Hp → Prop, (∃ m, W 0 m (upd H1 D (.lst []))) ∧ ∀ i m H, W i m H →
  (J.stop i H ∧ Q (.ref D) H) ∨ (J.go i H ∧ ∃ Nx : Hp → Prop, (∀ H', Nx H' → ∃ m', m' < m ∧ W (i + 1) m' H') ∧ ∀ x H', J.yld i H x H' → g x (wipe σ vs) H' fun σ2 H2 => wipe σ2 vs = wipe σ vs ∧ tt σ2 H2 fun b H3 =>
    if b = true then te σ2 H3 fun y H4 => ∃ acc, H4 D = some (.lst acc) ∧ acc.length < sizeLine ∧ Nx (upd H4 D (.lst (acc ++ [y]))) else Nx H3)
theorem g_lc {wi : TI} {g : TG} {tt : TT} {te : TE} {vs : List Nat} {σ : L2.St} {H : Hp} {Q : VK} (h : wi σ H fun J H1 => LcP J g tt te vs σ H1 Q) : tLc wi g tt te vs σ H Q := h
theorem take_succ' {α : Type} {l : List α} {i : Nat} {x : α} (h : l[i]? = some x) : l.take (i + 1) = l.take i ++ [x] := by
  rw [List.take_add_one, h]
  rfl
/-- [f(x) for x in a list of ints] -/
theorem g_compMap {K : PySem.W.Frag} {te : TE} {vs : List Nat} {σ : L2.St} {H : Hp} {Q : VK} {a : Addr} {j : Nat} {ns : List Int} (f : Int → Int) (hx : SqL K H a (ns.map V.int)) (hl : ns.length ≤ 1000) (hw : ∀ x, wipe ((wipe σ vs).set j (some x)) vs = wipe σ vs)
    (he : ∀ z ∈ ns, ∀ (H' : Hp) (Q' : VK), Same H H' → (∀ H4, Same H' H4 → Q' (.int (f z)) H4) → te ((wipe σ vs).set j (some (.int z))) H' Q')
    (h : ∀ D, H D = none → ∀ H', Same H H' → H' D = some (.lst ((ns.map f).map V.int)) → Q (.ref D) H') :
    ∃ a', V.ref a = .ref a' ∧ (∃ xs, SqL K H a' xs) ∧ LcP (Itl K a') (gName j) tYes te vs σ H Q := by
  refine ⟨a, rfl, ⟨_, hx⟩, fun D hD => ?_⟩
  have s0 : Same H (upd H D (.lst [])) := same_upd hD
  refine lc_list (K := K) (xs := ns.map V.int) (Qd := Q (.ref D)) (fun i H' => Same H H' ∧ H' D = some (.lst (((ns.take i).map f).map V.int))) ⟨s0, upd_same⟩ (fun i H' _ p => p.1.seq hx) (fun i x H' hi p => ?_) (fun H' p => ?_)
  · rw [List.getElem?_map] at hi
    cases e : ns[i]? with
    | none =>
      rw [e] at hi
      cases hi
    | some z =>
      rw [e] at hi
      cases hi
      refine ⟨hw _, ?_⟩
      unfold tYes
      dsimp only
      rw [if_pos rfl]
      refine he z (List.mem_of_getElem? e) H' _ p.1 (fun H4 s4 => ?_)
      refine ⟨_, s4 _ _ p.2, ?_, fun b o eb => ?_, ?_⟩
      · rw [List.length_map, List.length_map, List.length_take]
        exact small1000 (Nat.le_trans (Nat.min_le_right _ _) hl)
      · rw [upd_ne (ne_of_none eb hD)]
        exact s4 _ _ (p.1 _ _ eb)
      · rw [upd_same, take_succ' e, List.map_append, List.map_append]
        rfl
  · rw [List.length_map] at p
    rw [List.take_length] at p
    exact h D hD H' p.1 p.2
theorem g_compRange {te : TE} {vs : List Nat} {σ : L2.St} {H : Hp} {Q : VK} {j m : Nat} (f : Int → Int) (hl : m ≤ 1000) (hw : ∀ x, wipe ((wipe σ vs).set j (some x)) vs = wipe σ vs)
    (he : ∀ (i : Nat), i < m → ∀ (H' : Hp) (Q' : VK), Same H H' → (∀ H4, Same H' H4 → Q' (.int (f i)) H4) → te ((wipe σ vs).set j (some (.int (0 + (i : Int))))) H' Q')
    (h : ∀ D, H D = none → ∀ H', Same H H' → H' D = some (.lst (((List.range m).map fun (i : Nat) => f (i : Int)).map V.int)) → Q (.ref D) H') :
    LcP (Itr 0 m) (gName j) tYes te vs σ H Q := by
  intro D hD
  have s0 : Same H (upd H D (.lst [])) := same_upd hD
  refine lc_range (lo := 0) (n := m) (Qd := Q (.ref D)) (fun i H' => Same H H' ∧ H' D = some (.lst (((List.range i).map fun (i : Nat) => f (i : Int)).map V.int))) ⟨s0, upd_same⟩ (fun i H' hi p => ?_) (fun H' p => h D hD H' p.1 p.2)
  refine ⟨hw _, ?_⟩
  unfold tYes
  dsimp only
  rw [if_pos rfl]
  refine he i hi H' _ p.1 (fun H4 s4 => ?_)
  refine ⟨_, s4 _ _ p.2, ?_, fun b o eb => ?_, ?_⟩
  · rw [List.length_map, List.length_map, List.length_range]
    exact small1000 (by omega)
  · rw [upd_ne (ne_of_none eb hD)]
    exact s4 _ _ (p.1 _ _ eb)
  · rw [upd_same, List.range_succ, List.map_append, List.map_append]
    rfl
theorem divP {i j : Int} (h0 : 0 < j) (h1 : j ≤ 10000000000000000000000000000000000000000000000000000000000000000000000000000000000000000000000000000000000000000000000000000000000000000000000000000000000000000000000000000000000000000000000000000000000000000000000000000000000000000000000000000000000000000000000000000000000000000000000000000000000000000000000000000000000000000000000000000000000000000000000000000000000000000000000000000000000000000) : CDivP i j :=
  ⟨h0, PyProof.noPylong_of_log2 (divW (i := i) h0 h1).2⟩
theorem mul_bd {a b A B : Int} (a0 : 0 ≤ a) (a1 : a ≤ A) (b0 : 0 ≤ b) (b1 : b ≤ B) : 0 ≤ a * b ∧ a * b ≤ A * B := ⟨Int.mul_nonneg a0 b0, Int.mul_le_mul a1 b1 b0 (by omega)⟩
theorem ediv_bd {a s B : Int} (hs : 1 ≤ s) (h0 : -B ≤ a) (h1 : a ≤ B) (hB : 0 ≤ B) : -B ≤ a / s ∧ a / s ≤ B := by
  constructor
  · refine (Int.le_ediv_iff_mul_le (by omega)).mpr ?_
    have := Int.mul_le_mul_of_nonneg_left hs hB
    have e : -B * s = -(B * s) := Int.neg_mul ..
    omega
  · have h2 : a < (B + 1) * s := by
      have := Int.mul_le_mul_of_nonneg_left hs (show 0 ≤ B + 1 by omega)
      omega
    have := Int.ediv_lt_of_lt_mul (show 0 < s by omega) h2
    omega
theorem abs_bd {i B : Int} (h0 : -B ≤ i) (h1 : i ≤ B) (hB : B ≤ 10000000000000000000000000000000000000000000000000000000000000000000000000000000000000000000000000000000000000000000000000000000000000000000000000000000000000000000000000000000000000000000000000000000000000000000000000000000000000000000000000000000000000000000000000000000000000000000000000000000000000000000000000000000000000000000000000000000000000000000000000000000000000000000000000000000000000000) : i.natAbs ≤ 10000000000000000000000000000000000000000000000000000000000000000000000000000000000000000000000000000000000000000000000000000000000000000000000000000000000000000000000000000000000000000000000000000000000000000000000000000000000000000000000000000000000000000000000000000000000000000000000000000000000000000000000000000000000000000000000000000000000000000000000000000000000000000000000000000000000000000 := by omega
theorem small6 {n : Nat} (h : n ≤ 100) : n < 1000 := by omega
end Gh
namespace Gh
open PySem PySem.Spec PyProof.Rows L2
def topS (i : Nat) : Stmt := PySem.Challenge.pw_gaphand_k08_slanted.main.body.getD i (.Pass ⟨0, 0, 0, 0⟩)
abbrev s_slanted : Stmt := topS 1
abbrev N_slanted : List Str := ["many", "step", "start", "size", "total", "whole"]
theorem sc_slanted : FnScope N_slanted ["many", "step", "start", "size"] (defScope s_slanted) := ⟨rfl, rfl, rfl, by decide +kernel, rfl, by decide +kernel, by decide +kernel⟩
abbrev s_law_cell_at : Stmt := topS 3
abbrev N_law_cell_at : List Str := ["_law_script", "_law_k"]
theorem sc_law_cell_at : FnScope N_law_cell_at ["_law_script", "_law_k"] (defScope s_law_cell_at) := ⟨rfl, rfl, rfl, by decide +kernel, rfl, by decide +kernel, by decide +kernel⟩
abbrev s_law_whole : Stmt := topS 4
abbrev N_law_whole : List Str := ["_law_found"]
theorem sc_law_whole : FnScope N_law_whole ["_law_found"] (defScope s_law_whole) := ⟨rfl, rfl, rfl, by decide +kernel, rfl, by decide +kernel, by decide +kernel⟩
abbrev s_law_signed : Stmt := topS 5
abbrev N_law_signed : List Str := ["_law_cell", "_law_most"]
theorem sc_law_signed : FnScope N_law_signed ["_law_cell"] (defScope s_law_signed) := ⟨rfl, rfl, rfl, by decide +kernel, rfl, by decide +kernel, by decide +kernel⟩
abbrev s_law_piece : Stmt := topS 6
abbrev N_law_piece : List Str := ["_law_many", "_law_step", "_law_begin", "_law_size", "_law_found", "_law_more", "_law_k"]
theorem sc_law_piece : FnScope N_law_piece ["_law_many", "_law_step", "_law_begin", "_law_size"] (defScope s_law_piece) := ⟨rfl, rfl, rfl, by decide +kernel, rfl, by decide +kernel, by decide +kernel⟩
abbrev s_law : Stmt := topS 7
abbrev N_law : List Str := ["_law_script", "_law_cell", "_law_size", "_law_step", "_law_start", "_law_most", "_law_cells", "_law_total", "_law_done", "_law_k", "_law_many", "_law_found", "_law_whole_here", "_law_none"]
theorem sc_law : FnScope N_law ["_law_script"] (defScope s_law) := ⟨rfl, rfl, rfl, by decide +kernel, rfl, by decide +kernel, by decide +kernel⟩
structure Txt (K : PySem.W.Frag) (mg : Str → Option Value) where
  a_slanted : Addr
  fd_slanted : FuncData
  F_slanted : Fun K "slanted" "slanted" s_slanted a_slanted fd_slanted
  b_slanted : Binds K fd_slanted ["many", "step", "start", "size"] []
  g_slanted : mg "slanted" = some (.ref a_slanted)
  a_law_cell_at : Addr
  fd_law_cell_at : FuncData
  F_law_cell_at : Fun K "_law_cell_at" "_law_cell_at" s_law_cell_at a_law_cell_at fd_law_cell_at
  b_law_cell_at : Binds K fd_law_cell_at ["_law_script", "_law_k"] []
  g_law_cell_at : mg "_law_cell_at" = some (.ref a_law_cell_at)
  a_law_whole : Addr
  fd_law_whole : FuncData
  F_law_whole : Fun K "_law_whole" "_law_whole" s_law_whole a_law_whole fd_law_whole
  b_law_whole : Binds K fd_law_whole ["_law_found"] []
  g_law_whole : mg "_law_whole" = some (.ref a_law_whole)
  a_law_signed : Addr
  fd_law_signed : FuncData
  F_law_signed : Fun K "_law_signed" "_law_signed" s_law_signed a_law_signed fd_law_signed
  b_law_signed : Binds K fd_law_signed ["_law_cell"] []
  g_law_signed : mg "_law_signed" = some (.ref a_law_signed)
  a_law_piece : Addr
  fd_law_piece : FuncData
  F_law_piece : Fun K "_law_piece" "_law_piece" s_law_piece a_law_piece fd_law_piece
  b_law_piece : Binds K fd_law_piece ["_law_many", "_law_step", "_law_begin", "_law_size"] []
  g_law_piece : mg "_law_piece" = some (.ref a_law_piece)
  a_law : Addr
  fd_law : FuncData
  F_law : Fun K "law" "law" s_law a_law fd_law
  b_law : Binds K fd_law ["_law_script"] []
  g_law : mg "law" = some (.ref a_law)
  z_range : mg "range" = none
  z_divmod : mg "divmod" = none
  z_len : mg "len" = none
  z_isinstance : mg "isinstance" = none
  z_int : mg "int" = none
  z_bool : mg "bool" = none
  z_sum : mg "sum" = none
def sp_law (K : PySem.W.Frag) : Sp := fun vs H Q _ => ∃ (a : Addr) (ns : List Int), vs = [.ref a] ∧ SqL K H a (ns.map V.int) ∧ ns.length ≤ 63 ∧ (∀ z ∈ ns, Builtin.Int.intBits z ≤ 1048576) ∧ ∀ H', Q (.bl true) H'
section
variable {P : Program} {w : World} {K : PySem.W.Frag} {mg : Str → Option Value} {base : Heap}
local macro_rules | `(tactic| walk_at "go") => `(tactic| repeat (first
  | (with_reducible first
    | refine g_seq ?_ | refine g_next ?_ | refine g_asg ?_ | refine g_name ?_ | refine g_c ?_ | refine g_op ?_ | refine g_un ?_ | refine g_rU ?_ | refine g_rI0 ?_ | refine g_eqI ?_ | refine g_neI ?_
    | refine g_ret ?_ | refine g_retN ?_ | refine g_drop ?_ | refine g_ifS ?_ | refine g_B ?_ | refine g_test ?_ | refine g_bl ?_ | refine g_and ?_ | refine g_or ?_ | refine g_not ?_ | refine g_andV ?_ | refine g_orV ?_ | refine g_notV ?_
    | refine g_cb ?_ | refine g_cons ?_ | refine g_nil ?_ | refine g_call ?_ | refine g_par ?_ | refine g_two ?_ | refine g_for ?_ | refine g_iL ?_ | refine g_iT ?_ | refine g_tup ?_ | refine g_lst ?_ | refine g_sfld ?_ | refine g_meth ?_ | refine g_make ?_ | refine g_sl ?_ | refine g_part ?_ | refine g_nopart ?_ | refine g_int ?_ | refine g_int1 ?_ | refine g_int2 ?_ | refine g_lc ?_ | refine g_gcons ?_ | refine g_gnil ?_ | refine g_iR1 ?_ | refine g_isN ?_)
  | ((with_reducible refine' g_var ?e1 ?_); (case e1 => exact rfl))
  | ((with_reducible refine g_mod ?e2 ?_); (case e2 => first | decide | omega))
  | ((with_reducible refine g_intN ?_))
  | ((with_reducible refine g_nT ?_))
  | ((with_reducible refine g_nF ?_))
  | ((with_reducible refine iteT ?_))
  | ((with_reducible refine iteF ?_))))
theorem slant_bd {n a b s B : Int} (hn : 0 < n) (n1 : n ≤ B) (hs : 1 ≤ s) (s1 : s ≤ B) : 0 ≤ b % s ∧ b % s < s ∧ 0 ≤ a % s ∧ a % s < s ∧ 0 ≤ n * (a % s) ∧ n * (a % s) ≤ B * B := by
  have r0 := Int.emod_nonneg b (show s ≠ 0 by omega)
  have r1 := Int.emod_lt_of_pos b (show 0 < s by omega)
  have q0 := Int.emod_nonneg a (show s ≠ 0 by omega)
  have q1 := Int.emod_lt_of_pos a (show 0 < s by omega)
  have h := mul_bd (show 0 ≤ n by omega) n1 q0 (show a % s ≤ B by omega)
  exact ⟨r0, r1, q0, q1, h.1, h.2⟩
def sp_slanted (_ : Txt K mg) : Sp := fun vs H Q _ => ∃ many step start size : Int, vs = [.int many, .int step, .int start, .int size] ∧ (0 ≤ many ∧ many ≤ 10000000000000000000000000000000000000000000000000000000000000000000000000000000000000000000000000000000000000000000000000000000000) ∧ (-10000000000000000000000000000000000000000000000000000000000000000000000000000000000000000000000000000000000000000000000000000000000 ≤ step ∧ step ≤ 10000000000000000000000000000000000000000000000000000000000000000000000000000000000000000000000000000000000000000000000000000000000) ∧ (-10000000000000000000000000000000000000000000000000000000000000000000000000000000000000000000000000000000000000000000000000000000000 ≤ start ∧ start ≤ 10000000000000000000000000000000000000000000000000000000000000000000000000000000000000000000000000000000000000000000000000000000000) ∧ (1 ≤ size ∧ size ≤ 10000000000000000000000000000000000000000000000000000000000000000000000000000000000000000000000000000000000000000000000000000000000) ∧
  ∀ H', Same H H' → Q (.int (S many.toNat step start size)) H'
theorem ok_slanted (T : Txt K mg) : FnOk P w K mg base CX0 1 T.a_slanted T.fd_slanted ["many", "step", "start", "size"] (sp_slanted T) := by
  refine T.F_slanted.ok sc_slanted (fun vs H Q E h => ?_) (fun cdv A outer s H vs Q E hr h => ?_)
  · obtain ⟨many, step, start, size, rfl, _⟩ := h
    rfl
  · obtain ⟨many, step, start, size, rfl, h⟩ := h
    refine ⟨_, pss_cons (ps_set (i := 4) sc_slanted.nd rfl (.inl rfl) pe_int)
 (pss_cons (ps_while PassesOwn.never (pt_cmpR op_gt (pv 0) pe_int (nomark _)) (pss_cons (ps_asg (pe_callB call_divmodW (by rfl) T.z_divmod (by decide +kernel) (pa_cons (pv 1) (pa_cons (pv 3) pa_nil))) (pg_tup (by rfl) (pgs_cons (pg_name (i := 5) sc_slanted.nd rfl (.inl rfl)) (pgs_cons (pg_name (i := 1) sc_slanted.nd rfl (.inl rfl)) (pgs_nil)))))
 (pss_cons (ps_set (i := 4) sc_slanted.nd rfl (.inl rfl) (pe_op op_add (pv 4) (pe_op op_mulB (pv 5) (pe_op op_fdivW (pe_op op_mulB (pv 0) (pe_op op_sub (pv 0) pe_int)) pe_int))))
 (pss_cons (ps_asg (pe_callB call_divmodW (by rfl) T.z_divmod (by decide +kernel) (pa_cons (pv 2) (pa_cons (pv 3) pa_nil))) (pg_tup (by rfl) (pgs_cons (pg_name (i := 5) sc_slanted.nd rfl (.inl rfl)) (pgs_cons (pg_name (i := 2) sc_slanted.nd rfl (.inl rfl)) (pgs_nil)))))
 (pss_cons (ps_set (i := 4) sc_slanted.nd rfl (.inl rfl) (pe_op op_add (pv 4) (pe_op op_mulB (pv 5) (pv 0))))
 (pss_cons (ps_asg (pe_callB call_divmodW (by rfl) T.z_divmod (by decide +kernel) (pa_cons (pe_op op_add (pv 2) (pe_op op_mulB (pv 0) (pv 1))) (pa_cons (pv 3) pa_nil))) (pg_tup (by rfl) (pgs_cons (pg_name (i := 0) sc_slanted.nd rfl (.inl rfl)) (pgs_cons (pg_name (i := 2) sc_slanted.nd rfl (.inl rfl)) (pgs_nil)))))
 (pss_one (ps_par (i := 1) (j := 3) (by rfl) sc_slanted.nd rfl rfl (by decide) rfl rfl (pa_cons (pv 3) (pa_cons (pv 1) pa_nil)) (by rfl)))))))))
 (pss_one (ps_ret (pv 4)))), ?_⟩
    obtain ⟨hm, ht, ha, hs, q⟩ := h
    walk_at "go"
    refine g_while (fun m σ H' => ∃ (n a b s t : Int) (w : Option V), σ = [some (.int n), some (.int a), some (.int b), some (.int s), some (.int t), w] ∧ Same H H' ∧ t + S n.toNat a b s = S many.toNat step start size ∧ (0 ≤ n ∧ n ≤ 10000000000000000000000000000000000000000000000000000000000000000000000000000000000000000000000000000000000000000000000000000000000) ∧ (-10000000000000000000000000000000000000000000000000000000000000000000000000000000000000000000000000000000000000000000000000000000000 ≤ a ∧ a ≤ 10000000000000000000000000000000000000000000000000000000000000000000000000000000000000000000000000000000000000000000000000000000000) ∧ (-10000000000000000000000000000000000000000000000000000000000000000000000000000000000000000000000000000000000000000000000000000000000 ≤ b ∧ b ≤ 10000000000000000000000000000000000000000000000000000000000000000000000000000000000000000000000000000000000000000000000000000000000) ∧ (0 ≤ s ∧ s ≤ 10000000000000000000000000000000000000000000000000000000000000000000000000000000000000000000000000000000000000000000000000000000000) ∧ (0 < n → 1 ≤ s) ∧ m = s.toNat) _
      ⟨many, step, start, size, 0, none, rfl, Same.refl H, by omega, hm, ht, ha, ⟨by omega, hs.2⟩, fun _ => hs.1, rfl⟩ ?_
    rintro m σ H1 ⟨n, a, b, s, t, w, rfl, s1, hS, hn, hta, htb, hts, hp, rfl⟩
    walk_at "go"
    refine g_dec (fun h => ?_) (fun h => ?_)
    · refine g_body ?_
      have hs1 := hp h
      obtain ⟨r0, r1, q0, q1, x0, x1⟩ := slant_bd (a := a) (b := b) h hn.2 hs1 hts.2
      have d1 := ediv_bd hs1 hta.1 hta.2 (by decide)
      have d2 := ediv_bd hs1 htb.1 htb.2 (by decide)
      have y := mul_bd (show 0 ≤ n by omega) hn.2 (show 0 ≤ n - 1 by omega) (show n - 1 ≤ 10000000000000000000000000000000000000000000000000000000000000000000000000000000000000000000000000000000000000000000000000000000000 by omega)
      have y2 := ediv_bd (a := n * (n - 1)) (s := 2) (B := 10000000000000000000000000000000000000000000000000000000000000000000000000000000000000000000000000000000000000000000000000000000000 * 10000000000000000000000000000000000000000000000000000000000000000000000000000000000000000000000000000000000000000000000000000000000) (by decide) (by omega) y.2 (by decide)
      have tm := turn_many (a := a) (b := b) h (show 0 < s by omega)
      have ts := S_turn (a := a) (b := b) h (show 0 < s by omega)
      walk_at "go"
      refine ⟨divP (by omega) (by omega), fun p1 np1 => ?_⟩
      have s2 := s1.trans (same_upd (o := .tup [.int (a / s), .int (a % s)]) np1)
      refine g_gtup (SqT.of upd_same) rfl ?_
      walk_at "go"
      refine g_mul (mulB (by omega) (by omega)) ?_
      walk_at "go"
      refine g_div (divW (by decide) (by decide)) ?_
      walk_at "go"
      refine g_mul (mulB (by omega) (by omega)) ?_
      walk_at "go"
      refine ⟨divP (by omega) (by omega), fun p2 np2 => ?_⟩
      have s3 := s2.trans (same_upd (o := .tup [.int (b / s), .int (b % s)]) np2)
      refine g_gtup (SqT.of upd_same) rfl ?_
      walk_at "go"
      refine g_mul (mulB (by omega) (by omega)) ?_
      walk_at "go"
      refine g_mul (mulB (by omega) (by omega)) ?_
      walk_at "go"
      refine ⟨divP (by omega) (by omega), fun p3 np3 => ?_⟩
      have s4 := s3.trans (same_upd (o := .tup [.int ((b % s + n * (a % s)) / s), .int ((b % s + n * (a % s)) % s)]) np3)
      refine g_gtup (SqT.of upd_same) rfl ?_
      walk_at "go"
      have z0 := Int.emod_nonneg (b % s + n * (a % s)) (show s ≠ 0 by omega)
      have z1 := Int.emod_lt_of_pos (b % s + n * (a % s)) (show 0 < s by omega)
      refine ⟨_, by omega, (b % s + n * (a % s)) / s, s, (b % s + n * (a % s)) % s, a % s, t + a / s * (n * (n - 1) / 2) + b / s * n, _, rfl, s4, ?_, ⟨tm.1, by omega⟩, ⟨by omega, by omega⟩, ⟨by omega, by omega⟩, ⟨q0, by omega⟩, fun z => ?_, rfl⟩
      · rw [← hS, ts]
        omega
      · apply Decidable.byContradiction
        intro c
        have := tm.2.2 (by omega)
        omega
    · walk_at "go"
      have e : n.toNat = 0 := by omega
      rw [e] at hS
      have e2 : t = S many.toNat step start size := by
        have : S 0 a b s = 0 := rfl
        omega
      rw [e2]
      exact q _ s1
def sp_law_cell_at (_ : Txt K mg) : Sp := fun vs H Q _ => ∃ (a : Addr) (ns : List Int) (k : Int), vs = [.ref a, .int k] ∧ SqL K H a (ns.map V.int) ∧ 0 ≤ k ∧ Q (.int (cellAt ns k)) H
theorem ok_law_cell_at (T : Txt K mg) : FnOk P w K mg base CX0 1 T.a_law_cell_at T.fd_law_cell_at ["_law_script", "_law_k"] (sp_law_cell_at T) := by
  refine T.F_law_cell_at.ok sc_law_cell_at (fun vs H Q E h => ?_) (fun cdv A outer s H vs Q E hr h => ?_)
  · obtain ⟨a, ns, k, rfl, _⟩ := h
    rfl
  · obtain ⟨a, ns, k, rfl, h⟩ := h
    refine ⟨_, pss_cons (ps_if (pt_cmpR op_lt (pv 1) (pe_callB call_len_seq (by rfl) T.z_len (by decide +kernel) (pa_cons (pv 0) pa_nil)) (nomark _))
  (pss_one (ps_ret (pe_ix ix_list (pv 0) (pv 1) (fun _ _ => rfl))))
  (pss_nil))
 (pss_one (ps_ret pe_int)), ?_⟩
    obtain ⟨hS, h0, q⟩ := h
    walk_at "go"
    refine ⟨a, _, rfl, .inl hS, ?_⟩
    walk_at "go"
    rw [List.length_map]
    refine g_dec (fun hk => ?_) (fun hk => ?_)
    · walk_at "go"
      have hl : k.toNat < ns.length := by omega
      have e : k = ((k.toNat : Nat) : Int) := by omega
      have e2 : atI (ns.map V.int) k = some (.int (cellAt ns k)) := by
        rw [e]
        refine atI_nat ?_
        unfold cellAt
        rw [List.getElem?_map, show ((k.toNat : Nat) : Int).toNat = k.toNat from by omega, List.getElem?_eq_getElem hl]
        rfl
      refine g_ixL hS e2 ?_
      exact q
    · walk_at "go"
      have e2 : cellAt ns k = 0 := by
        unfold cellAt
        rw [List.getElem?_eq_none (by omega)]
        rfl
      rw [e2] at q
      exact q
def sp_law_whole (_ : Txt K mg) : Sp := fun vs H Q _ => ∃ (v : V) (b : Bool), vs = [v] ∧ Kind K H v b ∧ Q (.bl b) H
theorem ok_law_whole (T : Txt K mg) : FnOk P w K mg base CX0 1 T.a_law_whole T.fd_law_whole ["_law_found"] (sp_law_whole T) := by
  refine T.F_law_whole.ok sc_law_whole (fun vs H Q E h => ?_) (fun cdv A outer s H vs Q E hr h => ?_)
  · obtain ⟨v, b, rfl, _⟩ := h
    rfl
  · obtain ⟨v, b, rfl, h⟩ := h
    refine ⟨_, pss_one (ps_ret (pe_and (pe_callB call_isi (by rfl) T.z_isinstance (by decide +kernel) (pa_cons (pv 0) (pa_cons (pe_bltn (v := .ty "int") (by rfl) T.z_int (by decide +kernel) rfl) pa_nil))) (pe_one (pe_not (pe_callB call_isi (by rfl) T.z_isinstance (by decide +kernel) (pa_cons (pv 0) (pa_cons (pe_bltn (v := .ty "bool") (by rfl) T.z_bool (by decide +kernel) rfl) pa_nil))))))), ?_⟩
    obtain ⟨⟨t, b1, b2, ty, k1, k2, rfl⟩, q⟩ := h
    walk_at "go"
    refine g_isi ty k1 ?_
    walk_at "go"
    cases b1 with
    | false => exact iteF q
    | true =>
      walk_at "go"
      refine g_isi ty k2 ?_
      walk_at "go"
      exact q
def sp_law_signed (_ : Txt K mg) : Sp := fun vs H Q _ => ∃ c : Int, vs = [.int c] ∧ ∀ r H', Same H H' → -1000000000000000000000000000000000000000000000000000000000000 ≤ r → r ≤ 1000000000000000000000000000000000000000000000000000000000000 → Q (.int r) H'
theorem ok_law_signed (T : Txt K mg) : FnOk P w K mg base CX0 1 T.a_law_signed T.fd_law_signed ["_law_cell"] (sp_law_signed T) := by
  refine T.F_law_signed.ok sc_law_signed (fun vs H Q E h => ?_) (fun cdv A outer s H vs Q E hr h => ?_)
  · obtain ⟨c, rfl, _⟩ := h
    rfl
  · obtain ⟨c, rfl, h⟩ := h
    refine ⟨_, pss_cons (ps_set (i := 1) sc_law_signed.nd rfl (.inl rfl) (pe_ix ix_list (pe_lst (pa_cons pe_int (pa_cons (pe_lpow (v := 10000000) (pe_int) (pe_int) (by decide) (by decide +kernel)) (pa_cons (pe_lpow (v := 10000000000000000000) (pe_int) (pe_int) (by decide) (by decide +kernel)) (pa_cons (pe_lpow (v := 1000000000000000000000000000000000000000000000000000000000000) (pe_int) (pe_int) (by decide) (by decide +kernel)) pa_nil))))) (pe_op op_mod (pv 0) pe_int) (fun _ _ => rfl)))
 (pss_one (ps_ret (pe_op op_sub (pe_op op_mod (pe_op op_fdivW (pv 0) pe_int) (pe_op op_add (pe_op op_mulB pe_int (pv 1)) pe_int)) (pv 1)))), ?_⟩
    walk_at "go"
    refine g_len (by simp) fun p np => ?_
    walk_at "go"
    obtain ⟨m, hm, em⟩ := pick (xs := [25, 10000000, 10000000000000000000, 1000000000000000000000000000000000000000000000000000000000000]) (i := c % 4) (Int.emod_nonneg _ (by decide)) (Int.emod_lt_of_pos _ (by decide))
    have m1 : 1 ≤ m ∧ m ≤ 1000000000000000000000000000000000000000000000000000000000000 := by
      simp at hm
      omega
    refine g_ixL (SqL.of upd_same) em ?_
    walk_at "go"
    refine g_div (divW (by decide) (by decide)) ?_
    walk_at "go"
    refine g_mul (mulB (by decide) (by omega)) ?_
    walk_at "go"
    have h0 := Int.emod_nonneg (c / 4) (show 2 * m + 1 ≠ 0 by omega)
    have h1 := Int.emod_lt_of_pos (c / 4) (show 0 < 2 * m + 1 by omega)
    exact h _ _ (same_upd np) (by omega) (by omega)
theorem S_sum (a b m : Int) : ∀ n : Nat, ((List.range n).map fun (i : Nat) => (b + (i : Int) * a) / m).sum = S n a b m
  | 0 => rfl
  | n + 1 => by
    rw [List.range_succ, List.map_append, List.sum_append, S_sum a b m n]
    show S n a b m + ((b + (n : Int) * a) / m + 0) = S n a b m + (b + (n : Int) * a) / m
    omega
def sp_law_piece (_ : Txt K mg) : Sp := fun vs H Q _ => ∃ many step begin size : Int, vs = [.int many, .int step, .int begin, .int size] ∧ (0 ≤ many ∧ many ≤ 1000000000000000000000000000000000000000000000000000000000000) ∧ (-1000000000000000000000000000000000000000000000000000000000000 ≤ step ∧ step ≤ 1000000000000000000000000000000000000000000000000000000000000) ∧ (-100000000000000000000000000000000000000000000000000000000000000000000000000000000000000000000000000000000000000000000000000000 ≤ begin ∧ begin ≤ 100000000000000000000000000000000000000000000000000000000000000000000000000000000000000000000000000000000000000000000000000000) ∧ (1 ≤ size ∧ size ≤ 1000000000000000000000000000000000000000000000000000000000000) ∧
  ∀ H', Same H H' → Q (.int (S many.toNat step begin size)) H'
theorem ok_law_piece (T : Txt K mg) : FnOk P w K mg base CX0 2 T.a_law_piece T.fd_law_piece ["_law_many", "_law_step", "_law_begin", "_law_size"] (sp_law_piece T) := by
  refine T.F_law_piece.ok sc_law_piece (fun vs H Q E h => ?_) (fun cdv A outer s H vs Q E hr h => ?_)
  · obtain ⟨many, step, begin, size, rfl, _⟩ := h
    rfl
  · obtain ⟨many, step, begin, size, rfl, h⟩ := h
    refine ⟨_, pss_cons (ps_set (i := 4) sc_law_piece.nd rfl (.inl rfl) (pe_call (ok_slanted T) (hr.mono (by decide)) (by rfl) T.g_slanted T.F_slanted.kp T.b_slanted .nil pass0 (pa_cons (pv 0) (pa_cons (pv 1) (pa_cons (pv 2) (pa_cons (pv 3) pa_nil))))))
 (pss_cons (ps_set (i := 5) sc_law_piece.nd rfl (.inl rfl) (pe_call (ok_slanted T) (hr.mono (by decide)) (by rfl) T.g_slanted T.F_slanted.kp T.b_slanted .nil pass0 (pa_cons (pe_op op_add (pv 0) pe_int) (pa_cons (pv 1) (pa_cons (pv 2) (pa_cons (pv 3) pa_nil))))))
 (pss_cons (ps_if (PW.pt (pw_or (pt_not (pt_val (pe_call (ok_law_whole T) (hr.mono (by decide)) (by rfl) T.g_law_whole T.F_law_whole.kp T.b_law_whole .nil pass0 (pa_cons (pv 4) pa_nil)))) (pw_or1 (pt_not (pt_val (pe_call (ok_law_whole T) (hr.mono (by decide)) (by rfl) T.g_law_whole T.F_law_whole.kp T.b_law_whole .nil pass0 (pa_cons (pv 5) pa_nil)))))))
  (pss_one (ps_ret pe_non))
  (pss_nil))
 (pss_cons (ps_if (pt_cmpR op_ne (pe_op op_sub (pv 5) (pv 4)) (pe_op op_fdivW (pe_op op_add (pv 2) (pe_op op_mulB (pv 0) (pv 1))) (pv 3)) (nomark _))
  (pss_one (ps_ret pe_non))
  (pss_nil))
 (pss_cons (ps_if (PW.pt (pw_and (pt_cmpR op_le (pv 0) pe_int (nomark _)) (pw_and1 (pt_cmpR op_ne (pv 4) (pe_callB (cr_sum (by rfl)) (by rfl) T.z_sum (by decide +kernel) (pa_cons (pe_lc (own := [("_law_k", 6)]) rfl sc_law_piece.nd (pi_range1 (by rfl) T.z_range (pa_cons (pv 0) pa_nil)) (blkOk_by (N := N_law_piece) (sc := defScope s_law_piece) (by decide +kernel)) (fun _ _ _ _ _ => pg_name (i := 6) sc_law_piece.nd rfl (.inl rfl)) (fun _ _ _ _ _ => pts_nil) (fun _ _ _ _ _ => (pe_op op_fdivW (pe_op op_add (pv 2) (pe_op op_mulB (pv 6) (pv 1))) (pv 3)))) pa_nil)) (nomark _)))))
  (pss_one (ps_ret pe_non))
  (pss_nil))
 (pss_one (ps_ret (pv 4))))))), ?_⟩
    obtain ⟨hm, ht, hb, hs, q⟩ := h
    walk_at "go"
    refine ⟨many, step, begin, size, rfl, ⟨hm.1, by omega⟩, ⟨by omega, by omega⟩, ⟨by omega, by omega⟩, ⟨hs.1, by omega⟩, fun H1 s1 => ?_⟩
    walk_at "go"
    refine ⟨many + 1, step, begin, size, rfl, ⟨by omega, by omega⟩, ⟨by omega, by omega⟩, ⟨by omega, by omega⟩, ⟨hs.1, by omega⟩, fun H2 s2 => ?_⟩
    have s02 := s1.trans s2
    walk_at "go"
    refine ⟨_, true, rfl, kind_int, ?_⟩
    walk_at "go"
    refine ⟨_, true, rfl, kind_int, ?_⟩
    walk_at "go"
    refine g_mul (mulB (by omega) (by omega)) ?_
    walk_at "go"
    refine g_div (divW (by omega) (by omega)) ?_
    walk_at "go"
    have e : S (many + 1).toNat step begin size - S many.toNat step begin size = (begin + many * step) / size := by
      rw [show (many + 1).toNat = many.toNat + 1 by omega, S_succ, show ((many.toNat : Nat) : Int) = many by omega]
      omega
    refine g_ndec (fun z => absurd e z) (fun _ => ?_)
    walk_at "go"
    refine g_dec (fun h12 => ?_) (fun _ => ?_)
    · walk_at "go"
      refine ⟨by omega, by omega, ?_⟩
      refine g_compRange (fun i => (begin + i * step) / size) (by omega) ?_ (fun i hi H3 Q' s3 k => ?_) (fun D nD H4 s4 hD => ?_)
      · intro x
        rfl
      · walk_at "go"
        refine g_mul (mulB (by omega) (by omega)) ?_
        walk_at "go"
        refine g_div (divW (by omega) (by omega)) ?_
        have e0 : 0 + (i : Int) = (i : Int) := by omega
        rw [e0]
        exact k H3 (Same.refl H3)
      · walk_at "go"
        refine g_sum (SqL.of hD) ?_
        rw [S_sum]
        walk_at "go"
        refine g_ndec (fun z => absurd rfl z) (fun _ => ?_)
        walk_at "go"
        exact q _ (s02.trans s4)
    · walk_at "go"
      exact q _ s02
theorem ok_law (T : Txt K mg) : FnOk P w K mg base CX0 3 T.a_law T.fd_law ["_law_script"] (sp_law K) := by
  refine T.F_law.ok sc_law (fun vs H Q E h => ?_) (fun cdv A outer s H vs Q E hr h => ?_)
  · obtain ⟨a, ns, rfl, _⟩ := h
    rfl
  · obtain ⟨a, ns, rfl, h⟩ := h
    refine ⟨_, pss_cons (ps_set (i := 1) sc_law.nd rfl (.inl rfl) (pe_call (ok_law_cell_at T) (hr.mono (by decide)) (by rfl) T.g_law_cell_at T.F_law_cell_at.kp T.b_law_cell_at .nil pass0 (pa_cons (pv 0) (pa_cons pe_int pa_nil))))
 (pss_cons (ps_set (i := 2) sc_law.nd rfl (.inl rfl) (pe_op op_add pe_int (pe_op op_mod (pe_op op_fdivW (pv 1) pe_int) (pe_ix ix_list (pe_lst (pa_cons pe_int (pa_cons (pe_lpow (v := 1000000) (pe_int) (pe_int) (by decide) (by decide +kernel)) (pa_cons (pe_lpow (v := 1000000000000000000) (pe_int) (pe_int) (by decide) (by decide +kernel)) (pa_cons (pe_lpow (v := 1000000000000000000000000000000000000000000000000000000000000) (pe_int) (pe_int) (by decide) (by decide +kernel)) pa_nil))))) (pe_op op_mod (pv 1) pe_int) (fun _ _ => rfl)))))
 (pss_cons (ps_set (i := 3) sc_law.nd rfl (.inl rfl) (pe_call (ok_law_signed T) (hr.mono (by decide)) (by rfl) T.g_law_signed T.F_law_signed.kp T.b_law_signed .nil pass0 (pa_cons (pe_call (ok_law_cell_at T) (hr.mono (by decide)) (by rfl) T.g_law_cell_at T.F_law_cell_at.kp T.b_law_cell_at .nil pass0 (pa_cons (pv 0) (pa_cons pe_int pa_nil))) pa_nil)))
 (pss_cons (ps_set (i := 4) sc_law.nd rfl (.inl rfl) (pe_call (ok_law_signed T) (hr.mono (by decide)) (by rfl) T.g_law_signed T.F_law_signed.kp T.b_law_signed .nil pass0 (pa_cons (pe_call (ok_law_cell_at T) (hr.mono (by decide)) (by rfl) T.g_law_cell_at T.F_law_cell_at.kp T.b_law_cell_at .nil pass0 (pa_cons (pv 0) (pa_cons pe_int pa_nil))) pa_nil)))
 (pss_cons (ps_set (i := 5) sc_law.nd rfl (.inl rfl) pe_int)
 (Evl.pss_cut (ps_if (pt_cmpR op_gt (pv 2) (pe_lpow (v := 1000000000000000000) (pe_int) (pe_int) (by decide) (by decide +kernel)) (nomark _))
  (pss_one (ps_set (i := 5) sc_law.nd rfl (.inl rfl) pe_int))
  (pss_nil))
 (pss_cons (ps_set (i := 6) sc_law.nd rfl (.inl rfl) (pe_slice sl_list (pv 0) (po_some pe_int) (po_some (pe_op op_add pe_int (pv 5)))))
 (pss_cons (ps_set (i := 7) sc_law.nd rfl (.inl rfl) pe_int)
 (pss_cons (ps_set (i := 8) sc_law.nd rfl (.inl rfl) pe_int)
 (pss_cons (ps_for PassesOwn.never rfl (pi_range1 (by rfl) T.z_range (pa_cons (pe_callB call_len_seq (by rfl) T.z_len (by decide +kernel) (pa_cons (pv 6) pa_nil)) pa_nil)) (pg_name (i := 9) sc_law.nd rfl (.inl rfl)) (pss_cons (ps_set (i := 10) sc_law.nd rfl (.inl rfl) (pe_op op_mod (pe_ix ix_list (pv 6) (pv 9) (fun _ _ => rfl)) (pe_ix ix_list (pe_lst (pa_cons pe_int (pa_cons (pe_lpow (v := 1000000000000000000) (pe_int) (pe_int) (by decide) (by decide +kernel)) (pa_cons (pe_lpow (v := 10000000000000000000000000000000000000000) (pe_int) (pe_int) (by decide) (by decide +kernel)) pa_nil)))) (pe_op op_mod (pv 9) pe_int) (fun _ _ => rfl))))
 (pss_cons (ps_set (i := 11) sc_law.nd rfl (.inl rfl) (pe_call (ok_law_piece T) (hr.mono (by decide)) (by rfl) T.g_law_piece T.F_law_piece.kp T.b_law_piece .nil pass0 (pa_cons (pv 10) (pa_cons (pv 3) (pa_cons (pe_op op_add (pv 4) (pe_op op_mulB (pv 8) (pv 3))) (pa_cons (pv 2) pa_nil))))))
 (pss_cons (ps_if (pt_cmpR op_isN (pv 11) pe_non (nomark _))
  (pss_one (ps_ret pe_bl))
  (pss_nil))
 (pss_cons (ps_set (i := 7) sc_law.nd rfl (.inl rfl) (pe_op op_add (pv 7) (pv 11)))
 (pss_one (ps_set (i := 8) sc_law.nd rfl (.inl rfl) (pe_op op_add (pv 8) (pv 10)))))))))
 (pss_cons (ps_set (i := 12) sc_law.nd rfl (.inl rfl) (pe_call (ok_slanted T) (hr.mono (by decide)) (by rfl) T.g_slanted T.F_slanted.kp T.b_slanted .nil pass0 (pa_cons (pv 8) (pa_cons (pv 3) (pa_cons (pv 4) (pa_cons (pv 2) pa_nil))))))
 (pss_cons (ps_set (i := 13) sc_law.nd rfl (.inl rfl) (pe_call (ok_slanted T) (hr.mono (by decide)) (by rfl) T.g_slanted T.F_slanted.kp T.b_slanted .nil pass0 (pa_cons pe_int (pa_cons (pv 3) (pa_cons (pv 4) (pa_cons (pv 2) pa_nil))))))
 (pss_one (ps_ret (pe_and (pe_call (ok_law_whole T) (hr.mono (by decide)) (by rfl) T.g_law_whole T.F_law_whole.kp T.b_law_whole .nil pass0 (pa_cons (pv 12) pa_nil)) (pe_and (pe_cmpR op_eq (pv 12) (pv 7) (nomark _)) (pe_and (pe_call (ok_law_whole T) (hr.mono (by decide)) (by rfl) T.g_law_whole T.F_law_whole.kp T.b_law_whole .nil pass0 (pa_cons (pv 13) pa_nil)) (pe_one (pe_cmpR op_eq (pv 13) pe_int (nomark _))))))))))))))))))), ?_⟩
    obtain ⟨hS, hl, hb, q⟩ := h
    walk_at "go"
    refine ⟨a, ns, 0, rfl, hS, by decide, ?_⟩
    walk_at "go"
    refine g_div (divW (by decide) (by decide)) ?_
    walk_at "go"
    refine g_len (by simp) fun pl nl => ?_
    have s1 : Same H (upd H pl (.lst [.int 12, .int 1000000, .int 1000000000000000000, .int 1000000000000000000000000000000000000000000000000000000000000])) := same_upd nl
    walk_at "go"
    obtain ⟨m, hm, em⟩ := pick (xs := [12, 1000000, 1000000000000000000, 1000000000000000000000000000000000000000000000000000000000000]) (i := cellAt ns 0 % 4) (Int.emod_nonneg _ (by decide)) (Int.emod_lt_of_pos _ (by decide))
    have m1 : 1 ≤ m ∧ m ≤ 1000000000000000000000000000000000000000000000000000000000000 := by
      simp at hm
      omega
    refine g_ixL (SqL.of upd_same) em ?_
    refine g_mod (by omega) ?_
    have z0 := Int.emod_nonneg (cellAt ns 0 / 4) (show m ≠ 0 by omega)
    have z1 := Int.emod_lt_of_pos (cellAt ns 0 / 4) (show 0 < m by omega)
    generalize cellAt ns 0 / 4 % m = z at z0 z1
    walk_at "go"
    refine ⟨a, ns, 1, rfl, s1.seq hS, by decide, ?_⟩
    walk_at "go"
    refine ⟨_, rfl, fun st H1 s2 t0 t1 => ?_⟩
    walk_at "go"
    refine ⟨a, ns, 2, rfl, (s1.trans s2).seq hS, by decide, ?_⟩
    walk_at "go"
    refine ⟨_, rfl, fun sa H2 s3 a0 a1 => ?_⟩
    have s4 := (s1.trans s2).trans s3
    walk_at "go"
    refine g_cut (Mid := fun σ' H' => ∃ most : Int, σ' = [some (.ref a), some (.int (cellAt ns 0)), some (.int (1 + z)), some (.int st), some (.int sa), some (.int most), none, none, none, none, none, none, none, none] ∧ H' = H2 ∧ 0 ≤ most ∧ most ≤ 24) ?_ ?_
    · walk_at "go"
      refine g_dec (fun _ => ?_) (fun _ => ?_)
      · walk_at "go"
        exact ⟨6, rfl, rfl, by decide, by decide⟩
      · walk_at "go"
        exact ⟨24, rfl, rfl, by decide, by decide⟩
    · rintro σ' H' ⟨most, rfl, rfl, hm0, hm1⟩
      walk_at "go"
      refine g_slL (s4.seq hS) fun pc nc => ?_
      rw [cut_map]
      have hcl : (cutN ns (some 3) (some (3 + most))).length ≤ 24 := by
        obtain ⟨k, rfl⟩ : ∃ k : Nat, most = (k : Int) := ⟨most.toNat, by omega⟩
        unfold cutN
        rw [show (3 : Int) + (k : Int) = ((3 + k : Nat) : Int) by omega, HT.sIx_nat, show (3 : Int) = ((3 : Nat) : Int) from rfl, HT.sIx_nat, List.length_take, List.length_drop]
        omega
      generalize cutN ns (some 3) (some (3 + most)) = cs at hcl
      have s5 := s4.trans (same_upd (o := .lst (cs.map V.int)) nc)
      have hc5 : SqL K (upd H' pc (.lst (cs.map V.int))) pc (cs.map V.int) := SqL.of upd_same
      generalize upd H' pc (.lst (cs.map V.int)) = H5 at s5 hc5
      walk_at "go"
      refine ⟨pc, _, rfl, .inl hc5, ?_⟩
      walk_at "go"
      rw [List.length_map]
      refine ⟨by omega, by omega, ?_⟩
      refine g_overR (fun i σ' H' => ∃ (t d : Int) (w9 w10 w11 : Option V), σ' = [some (.ref a), some (.int (cellAt ns 0)), some (.int (1 + z)), some (.int st), some (.int sa), some (.int most), some (.ref pc), some (.int t), some (.int d), w9, w10, w11, none, none] ∧ Same H5 H' ∧ 0 ≤ d ∧ d ≤ i * 10000000000000000000000000000000000000000 ∧ t = S d.toNat st sa (1 + z)) ⟨0, 0, none, none, none, rfl, Same.refl _, by omega, by omega, rfl⟩ ?_ ?_
      · rintro i σ' H6 hi ⟨t, d, w9, w10, w11, rfl, s6, d0, d1, rfl⟩
        have hi2 : i < cs.length := by omega
        have ei : 0 + (i : Int) = (i : Int) := by omega
        rw [ei]
        walk_at "go"
        refine g_ixL (s6.seq hc5) (atI_nat (v := .int cs[i]) (by rw [List.getElem?_map, List.getElem?_eq_getElem hi2]; rfl)) ?_
        walk_at "go"
        refine g_len (by simp) fun pl2 nl2 => ?_
        walk_at "go"
        obtain ⟨mm, hmm, emm⟩ := pick (xs := [13, 1000000000000000000, 10000000000000000000000000000000000000000]) (i := (i : Int) % 3) (Int.emod_nonneg _ (by decide)) (Int.emod_lt_of_pos _ (by decide))
        have mm1 : 1 ≤ mm ∧ mm ≤ 10000000000000000000000000000000000000000 := by
          simp at hmm
          omega
        refine g_ixL (SqL.of upd_same) emm ?_
        refine g_mod (by omega) ?_
        have y0 := Int.emod_nonneg cs[i] (show mm ≠ 0 by omega)
        have y1 := Int.emod_lt_of_pos cs[i] (show 0 < mm by omega)
        generalize cs[i] % mm = y at y0 y1
        have s7 := s6.trans (same_upd (o := .lst [.int 13, .int 1000000000000000000, .int 10000000000000000000000000000000000000000]) nl2)
        walk_at "go"
        have hd : d ≤ 1000000000000000000000000000000000000000000 := by omega
        have bb := mul_bd d0 hd (show 0 ≤ st + 1000000000000000000000000000000000000000000000000000000000000 by omega) (show st + 1000000000000000000000000000000000000000000000000000000000000 ≤ 2 * 1000000000000000000000000000000000000000000000000000000000000 by omega)
        have e1 : d * (st + 1000000000000000000000000000000000000000000000000000000000000) = d * st + d * 1000000000000000000000000000000000000000000000000000000000000 := by grind
        have b2 : -10000000000000000000000000000000000000000000000000000000000000000000000000000000000000000000000000000000 ≤ d * st ∧ d * st ≤ 10000000000000000000000000000000000000000000000000000000000000000000000000000000000000000000000000000000 := by omega
        refine g_mul (mulB (by omega) (by omega)) ?_
        walk_at "go"
        refine ⟨y, st, sa + d * st, 1 + z, rfl, ⟨y0, by omega⟩, ⟨t0, t1⟩, ⟨by omega, by omega⟩, ⟨by omega, by omega⟩, fun H8 s8 => ?_⟩
        walk_at "go"
        refine ⟨_, _, _, _, _, rfl, s7.trans s8, by omega, by omega, ?_⟩
        have e2 := S_add d.toNat st sa (1 + z) y.toNat
        rw [show ((d.toNat : Nat) : Int) = d by omega] at e2
        rw [← e2, show (d + y).toNat = d.toNat + y.toNat by omega]
      · rintro σ' H6 ⟨t, d, w9, w10, w11, rfl, s6, d0, d1, rfl⟩
        walk_at "go"
        refine ⟨d, st, sa, 1 + z, rfl, ⟨d0, by omega⟩, ⟨by omega, by omega⟩, ⟨by omega, by omega⟩, ⟨by omega, by omega⟩, fun H7 s7 => ?_⟩
        walk_at "go"
        refine ⟨0, st, sa, 1 + z, rfl, ⟨by decide, by decide⟩, ⟨by omega, by omega⟩, ⟨by omega, by omega⟩, ⟨by omega, by omega⟩, fun H8 s8 => ?_⟩
        walk_at "go"
        refine ⟨_, true, rfl, kind_int, ?_⟩
        walk_at "go"
        refine g_decT rfl ?_
        walk_at "go"
        refine ⟨_, true, rfl, kind_int, ?_⟩
        walk_at "go"
        exact q _
end
theorem all_mk {l : PySem.W.OpenLaw} {w : World} {K : PySem.W.Frag} {h : Heap} {mg : Str → Option Value} {fa : Addr} (X : K.In h) (G : h.Ns mainGlobals mg) (hfa : mg "law" = some (.ref fa))
    {p_slanted : Addr} {od_slanted an_slanted : Option Addr} {sl_slanted : Array (Option Value)} {oc_slanted kV_slanted dc_slanted pm_slanted cd_slanted ct_slanted : Value}
    {p_law_cell_at : Addr} {od_law_cell_at an_law_cell_at : Option Addr} {sl_law_cell_at : Array (Option Value)} {oc_law_cell_at kV_law_cell_at dc_law_cell_at pm_law_cell_at cd_law_cell_at ct_law_cell_at : Value}
    {p_law_whole : Addr} {od_law_whole an_law_whole : Option Addr} {sl_law_whole : Array (Option Value)} {oc_law_whole kV_law_whole dc_law_whole pm_law_whole cd_law_whole ct_law_whole : Value}
    {p_law_signed : Addr} {od_law_signed an_law_signed : Option Addr} {sl_law_signed : Array (Option Value)} {oc_law_signed kV_law_signed dc_law_signed pm_law_signed cd_law_signed ct_law_signed : Value}
    {p_law_piece : Addr} {od_law_piece an_law_piece : Option Addr} {sl_law_piece : Array (Option Value)} {oc_law_piece kV_law_piece dc_law_piece pm_law_piece cd_law_piece ct_law_piece : Value}
    {p_law : Addr} {od_law an_law : Option Addr} {sl_law : Array (Option Value)} {oc_law kV_law dc_law pm_law cd_law ct_law : Value}
    (a_slanted : PySem.W.nsIn K mainGlobals "slanted" = some (some (.ref p_slanted)))
    (l_slanted : K.lookup p_slanted = some ⟨oc_slanted, od_slanted, .func (PySem.W.fnOf "slanted" "slanted" (defArgs s_slanted) (defBody s_slanted) (defScope s_slanted) .none kV_slanted dc_slanted pm_slanted an_slanted cd_slanted ct_slanted), sl_slanted⟩)
    (c_slanted : PySem.W.codeIn K cd_slanted "slanted" = true)
    (k_slanted : PySem.W.keepIn K (.ref p_slanted) = true)
    (a_law_cell_at : PySem.W.nsIn K mainGlobals "_law_cell_at" = some (some (.ref p_law_cell_at)))
    (l_law_cell_at : K.lookup p_law_cell_at = some ⟨oc_law_cell_at, od_law_cell_at, .func (PySem.W.fnOf "_law_cell_at" "_law_cell_at" (defArgs s_law_cell_at) (defBody s_law_cell_at) (defScope s_law_cell_at) .none kV_law_cell_at dc_law_cell_at pm_law_cell_at an_law_cell_at cd_law_cell_at ct_law_cell_at), sl_law_cell_at⟩)
    (c_law_cell_at : PySem.W.codeIn K cd_law_cell_at "_law_cell_at" = true)
    (k_law_cell_at : PySem.W.keepIn K (.ref p_law_cell_at) = true)
    (a_law_whole : PySem.W.nsIn K mainGlobals "_law_whole" = some (some (.ref p_law_whole)))
    (l_law_whole : K.lookup p_law_whole = some ⟨oc_law_whole, od_law_whole, .func (PySem.W.fnOf "_law_whole" "_law_whole" (defArgs s_law_whole) (defBody s_law_whole) (defScope s_law_whole) .none kV_law_whole dc_law_whole pm_law_whole an_law_whole cd_law_whole ct_law_whole), sl_law_whole⟩)
    (c_law_whole : PySem.W.codeIn K cd_law_whole "_law_whole" = true)
    (k_law_whole : PySem.W.keepIn K (.ref p_law_whole) = true)
    (a_law_signed : PySem.W.nsIn K mainGlobals "_law_signed" = some (some (.ref p_law_signed)))
    (l_law_signed : K.lookup p_law_signed = some ⟨oc_law_signed, od_law_signed, .func (PySem.W.fnOf "_law_signed" "_law_signed" (defArgs s_law_signed) (defBody s_law_signed) (defScope s_law_signed) .none kV_law_signed dc_law_signed pm_law_signed an_law_signed cd_law_signed ct_law_signed), sl_law_signed⟩)
    (c_law_signed : PySem.W.codeIn K cd_law_signed "_law_signed" = true)
    (k_law_signed : PySem.W.keepIn K (.ref p_law_signed) = true)
    (a_law_piece : PySem.W.nsIn K mainGlobals "_law_piece" = some (some (.ref p_law_piece)))
    (l_law_piece : K.lookup p_law_piece = some ⟨oc_law_piece, od_law_piece, .func (PySem.W.fnOf "_law_piece" "_law_piece" (defArgs s_law_piece) (defBody s_law_piece) (defScope s_law_piece) .none kV_law_piece dc_law_piece pm_law_piece an_law_piece cd_law_piece ct_law_piece), sl_law_piece⟩)
    (c_law_piece : PySem.W.codeIn K cd_law_piece "_law_piece" = true)
    (k_law_piece : PySem.W.keepIn K (.ref p_law_piece) = true)
    (a_law : PySem.W.nsIn K mainGlobals "law" = some (some (.ref p_law)))
    (l_law : K.lookup p_law = some ⟨oc_law, od_law, .func (PySem.W.fnOf "law" "law" (defArgs s_law) (defBody s_law) (defScope s_law) .none kV_law dc_law pm_law an_law cd_law ct_law), sl_law⟩)
    (c_law : PySem.W.codeIn K cd_law "law" = true)
    (k_law : PySem.W.keepIn K (.ref p_law) = true)
    (z_range : PySem.W.nsIn K mainGlobals "range" = some none)
    (z_divmod : PySem.W.nsIn K mainGlobals "divmod" = some none)
    (z_len : PySem.W.nsIn K mainGlobals "len" = some none)
    (z_isinstance : PySem.W.nsIn K mainGlobals "isinstance" = some none)
    (z_int : PySem.W.nsIn K mainGlobals "int" = some none)
    (z_bool : PySem.W.nsIn K mainGlobals "bool" = some none)
    (z_sum : PySem.W.nsIn K mainGlobals "sum" = some none)
    : ∃ fd : FuncData, (∀ (s : Shared) (v : Value), BindsTo s fd ⟨[v], []⟩ [("_law_script", v)]) ∧ ∀ base : Heap, K.In base → base.Ns mainGlobals mg → FnOk l.prog w K mg base CX0 3 fa fd ["_law_script"] (sp_law K) := by
  have e := hfa.symm.trans (PySem.W.mg_of X G a_law)
  cases e
  have F_slanted := fun_mk (st := s_slanted) l_slanted c_slanted k_slanted
  have b_slanted := F_slanted.binds (ps := ["many", "step", "start", "size"]) fun _ _ _ _ _ _ us hl => match us, hl with | [_, _, _, _], _ => rfl
  have F_law_cell_at := fun_mk (st := s_law_cell_at) l_law_cell_at c_law_cell_at k_law_cell_at
  have b_law_cell_at := F_law_cell_at.binds (ps := ["_law_script", "_law_k"]) fun _ _ _ _ _ _ us hl => match us, hl with | [_, _], _ => rfl
  have F_law_whole := fun_mk (st := s_law_whole) l_law_whole c_law_whole k_law_whole
  have b_law_whole := F_law_whole.binds (ps := ["_law_found"]) fun _ _ _ _ _ _ us hl => match us, hl with | [_], _ => rfl
  have F_law_signed := fun_mk (st := s_law_signed) l_law_signed c_law_signed k_law_signed
  have b_law_signed := F_law_signed.binds (ps := ["_law_cell"]) fun _ _ _ _ _ _ us hl => match us, hl with | [_], _ => rfl
  have F_law_piece := fun_mk (st := s_law_piece) l_law_piece c_law_piece k_law_piece
  have b_law_piece := F_law_piece.binds (ps := ["_law_many", "_law_step", "_law_begin", "_law_size"]) fun _ _ _ _ _ _ us hl => match us, hl with | [_, _, _, _], _ => rfl
  have F_law := fun_mk (st := s_law) l_law c_law k_law
  have b_law := F_law.binds (ps := ["_law_script"]) fun _ _ _ _ _ _ us hl => match us, hl with | [_], _ => rfl
  let T : Txt K mg := {
    a_slanted := p_slanted,
    fd_slanted := PySem.W.fnOf "slanted" "slanted" (defArgs s_slanted) (defBody s_slanted) (defScope s_slanted) .none kV_slanted dc_slanted pm_slanted an_slanted cd_slanted ct_slanted,
    F_slanted := F_slanted,
    b_slanted := b_slanted,
    g_slanted := PySem.W.mg_of X G a_slanted,
    a_law_cell_at := p_law_cell_at,
    fd_law_cell_at := PySem.W.fnOf "_law_cell_at" "_law_cell_at" (defArgs s_law_cell_at) (defBody s_law_cell_at) (defScope s_law_cell_at) .none kV_law_cell_at dc_law_cell_at pm_law_cell_at an_law_cell_at cd_law_cell_at ct_law_cell_at,
    F_law_cell_at := F_law_cell_at,
    b_law_cell_at := b_law_cell_at,
    g_law_cell_at := PySem.W.mg_of X G a_law_cell_at,
    a_law_whole := p_law_whole,
    fd_law_whole := PySem.W.fnOf "_law_whole" "_law_whole" (defArgs s_law_whole) (defBody s_law_whole) (defScope s_law_whole) .none kV_law_whole dc_law_whole pm_law_whole an_law_whole cd_law_whole ct_law_whole,
    F_law_whole := F_law_whole,
    b_law_whole := b_law_whole,
    g_law_whole := PySem.W.mg_of X G a_law_whole,
    a_law_signed := p_law_signed,
    fd_law_signed := PySem.W.fnOf "_law_signed" "_law_signed" (defArgs s_law_signed) (defBody s_law_signed) (defScope s_law_signed) .none kV_law_signed dc_law_signed pm_law_signed an_law_signed cd_law_signed ct_law_signed,
    F_law_signed := F_law_signed,
    b_law_signed := b_law_signed,
    g_law_signed := PySem.W.mg_of X G a_law_signed,
    a_law_piece := p_law_piece,
    fd_law_piece := PySem.W.fnOf "_law_piece" "_law_piece" (defArgs s_law_piece) (defBody s_law_piece) (defScope s_law_piece) .none kV_law_piece dc_law_piece pm_law_piece an_law_piece cd_law_piece ct_law_piece,
    F_law_piece := F_law_piece,
    b_law_piece := b_law_piece,
    g_law_piece := PySem.W.mg_of X G a_law_piece,
    a_law := fa,
    fd_law := PySem.W.fnOf "law" "law" (defArgs s_law) (defBody s_law) (defScope s_law) .none kV_law dc_law pm_law an_law cd_law ct_law,
    F_law := F_law,
    b_law := b_law,
    g_law := PySem.W.mg_of X G a_law,
    z_range := PySem.W.mg_none_of X G z_range,
    z_divmod := PySem.W.mg_none_of X G z_divmod,
    z_len := PySem.W.mg_none_of X G z_len,
    z_isinstance := PySem.W.mg_none_of X G z_isinstance,
    z_int := PySem.W.mg_none_of X G z_int,
    z_bool := PySem.W.mg_none_of X G z_bool,
    z_sum := PySem.W.mg_none_of X G z_sum }
  exact ⟨T.fd_law, fun s v => .of_eq rfl, fun base _ _ => ok_law T⟩
end Gh
open PySem PySem.W PyProof.Rows
set_option maxRecDepth 100000 in
set_option maxHeartbeats 0 in
theorem PySem.Challenge.cw_gaphand_k08_slanted_holds : PySem.Challenge.rw_gaphand_k08_slanted.Holds := by
  w_on; o_law; k_head; (case hw => w_witness2)
  k_fill
  refine L2.walk_ofB (l := PySem.Challenge.rw_gaphand_k08_slanted) (n := 63) (k := 3) (x := "_law_script") (CX := fun _ => L2.CX0) (sp := fun w => Gh.sp_law _) rfl (by decide) rfl ⟨rfl, by decide, by decide⟩ (fun w h Y => PySem.W.kIn_of Y) ?F (fun _ _ a ns hl hb _ hS => ⟨a, ns, rfl, hS, hl, hb, fun _ => rfl⟩) (fun _ _ _ _ _ h => h)
  case F =>
    intro w mg fa h KX G hmg
    refine' Gh.all_mk KX G hmg ?a_slanted ?l_slanted ?c_slanted ?k_slanted ?a_law_cell_at ?l_law_cell_at ?c_law_cell_at ?k_law_cell_at ?a_law_whole ?l_law_whole ?c_law_whole ?k_law_whole ?a_law_signed ?l_law_signed ?c_law_signed ?k_law_signed ?a_law_piece ?l_law_piece ?c_law_piece ?k_law_piece ?a_law ?l_law ?c_law ?k_law ?z_range ?z_divmod ?z_len ?z_isinstance ?z_int ?z_bool ?z_sum
    (case a_slanted => k_is)
    (case l_slanted => k_is)
    (case c_slanted => k_is)
    (case k_slanted => k_is)
    (case a_law_cell_at => k_is)
    (case l_law_cell_at => k_is)
    (case c_law_cell_at => k_is)
    (case k_law_cell_at => k_is)
    (case a_law_whole => k_is)
    (case l_law_whole => k_is)
    (case c_law_whole => k_is)
    (case k_law_whole => k_is)
    (case a_law_signed => k_is)
    (case l_law_signed => k_is)
    (case c_law_signed => k_is)
    (case k_law_signed => k_is)
    (case a_law_piece => k_is)
    (case l_law_piece => k_is)
    (case c_law_piece => k_is)
    (case k_law_piece => k_is)
    (case a_law => k_is)
    (case l_law => k_is)
    (case c_law => k_is)
    (case k_law => k_is)
    (case z_range => k_is)
    (case z_divmod => k_is)
    (case z_len => k_is)
    (case z_isinstance => k_is)
    (case z_int => k_is)
    (case z_bool => k_is)
    (case z_sum => k_is)
